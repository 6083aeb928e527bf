import PyProof.Rows.All
import Wide.All
import OpenK.AllK
import Wide.FinOn
import HandS.ForMost
import HandS.Codes
import HandS.Wide
import HandS.SortInts
import HandS.Conv
import HandS.IsInst
import HandS.Defaults
import HandS.Head0
import HandS.Head1
import HandS.Head2
import HandS.HeadEnd
import HandS.HeadHook1
import HandS.HeadHook2
import HandS.Zip
import HandS.Exc
import HandS.TryOnly
import HandS.ExcOwn
import HandS.WordsExc
import HandS.ExcInit
import HandS.ExcIs
import HandS.ExcField
import HandS.Style
import HandS.TupAny
import HandS.More
import HandS.Replace
import HandS.Dict
import HandS.Iter
import HandS.WordsDict
import HandS.Rev
import KE.KDictList
import HandS.Comp
import HandS.TupLen
import PyProof.StrLawsChain
import PyProof.StrLawsTight
import PyProof.Rows.StrSplitJoin
import PyProof.Rows.StrSplitAre
import PyProof.Rows.StrItems
import HandS.Strs
import PySem.Challenge.RW_deskpairs_k13_times_told
set_option Elab.async false
set_option linter.all false
set_option maxRecDepth 100000
namespace Dy
open PySem PySem.Spec PyProof.Rows L2

structure S where
  F : Hp
  H : Hp
  sub : ∀ a o, F a = some o → H a = some o
abbrev Fle (F F' : Hp) : Prop := ∀ a o, F a = some o → F' a = some o
theorem Fle.refl (F : Hp) : Fle F F := fun _ _ h => h
theorem Fle.trans {F G I : Hp} (a : Fle F G) (b : Fle G I) : Fle F I := fun x o h => b x o (a x o h)
structure Ex (s t : S) : Prop where
  f : Fle s.F t.F
  h : ∀ a o, s.H a = some o → t.H a = some o
  n : ∀ a o, s.H a = some o → s.F a = none → t.F a = none
theorem Ex.refl (s : S) : Ex s s := ⟨fun _ _ h => h, fun _ _ h => h, fun _ _ _ h => h⟩
theorem Ex.trans {s t u : S} (a : Ex s t) (b : Ex t u) : Ex s u :=
  ⟨fun x o h => b.f x o (a.f x o h), fun x o h => b.h x o (a.h x o h), fun x o h n => b.n x o (a.h x o h) (a.n x o h n)⟩
theorem fr_back {s t : S} (e : Ex s t) {p : Addr} (h : t.H p = none) : s.H p = none := by
  cases q : s.H p with
  | none => rfl
  | some o => rw [e.h p o q] at h; cases h
theorem fF {s : S} {p : Addr} (h : s.H p = none) : s.F p = none := by
  cases q : s.F p with
  | none => rfl
  | some o => rw [s.sub p o q] at h; cases h
def S.newF (s : S) (p : Addr) (o : HO) (h : s.H p = none) : S := ⟨upd s.F p o, upd s.H p o, fun a u q => by
  unfold upd at q ⊢
  split
  · rename_i e; rw [if_pos e] at q; exact q
  · rename_i e; rw [if_neg e] at q; exact s.sub a u q⟩
def S.newO (s : S) (p : Addr) (o : HO) (h : s.H p = none) : S := ⟨s.F, upd s.H p o, fun a u q => by
  rw [upd_ne (ne_of_none (s.sub a u q) h)]; exact s.sub a u q⟩
def S.put (s : S) (p : Addr) (o : HO) (h : s.F p = none) : S := ⟨s.F, upd s.H p o, fun a u q => by
  rw [upd_ne (ne_of_none q h)]; exact s.sub a u q⟩
theorem Ex.newF {s : S} {p : Addr} {o : HO} (h : s.H p = none) : Ex s (s.newF p o h) :=
  ⟨fun a u q => by show upd s.F p o a = some u; rw [upd_ne (ne_of_none (s.sub a u q) h)]; exact q,
   fun a u q => by show upd s.H p o a = some u; rw [upd_ne (ne_of_none q h)]; exact q,
   fun a u q n => by show upd s.F p o a = none; rw [upd_ne (ne_of_none q h)]; exact n⟩
theorem Ex.newO {s : S} {p : Addr} {o : HO} (h : s.H p = none) : Ex s (s.newO p o h) :=
  ⟨fun a u q => q, fun a u q => by show upd s.H p o a = some u; rw [upd_ne (ne_of_none q h)]; exact q, fun a u q n => n⟩
structure Mx (P : Addr → Prop) (s t : S) : Prop where
  f : Fle s.F t.F
  h : ∀ a o, s.H a = some o → ¬ P a → t.H a = some o
  n : ∀ a o, s.H a = some o → s.F a = none → t.F a = none
  d : ∀ a o, s.H a = some o → ∃ u, t.H a = some u
theorem Ex.mx {P : Addr → Prop} {s t : S} (e : Ex s t) : Mx P s t := ⟨e.f, fun a o h _ => e.h a o h, e.n, fun a o h => ⟨o, e.h a o h⟩⟩
theorem Mx.trans {P : Addr → Prop} {s t u : S} (a : Mx P s t) (b : Mx P t u) : Mx P s u :=
  ⟨fun x o h => b.f x o (a.f x o h), fun x o h n => b.h x o (a.h x o h n) n,
   fun x o h n => by obtain ⟨v, hv⟩ := a.d x o h; exact b.n x v hv (a.n x o h n),
   fun x o h => by obtain ⟨v, hv⟩ := a.d x o h; exact b.d x v hv⟩
theorem Mx.put {s : S} {p : Addr} {o : HO} (h : s.F p = none) : Mx (· = p) s (s.put p o h) :=
  ⟨fun a u q => q, fun a u q n => by show upd s.H p o a = some u; rw [upd_ne n]; exact q, fun a u q n => n,
   fun a u q => by
    by_cases e : a = p
    · exact ⟨o, by rw [e]; exact upd_same⟩
    · exact ⟨u, by show upd s.H p o a = some u; rw [upd_ne e]; exact q⟩⟩
theorem Mx.fr_back {P : Addr → Prop} {s t : S} (e : Mx P s t) {p : Addr} (h : t.H p = none) : s.H p = none := by
  cases q : s.H p with
  | none => rfl
  | some o => obtain ⟨u, z⟩ := e.d p o q; rw [z] at h; cases h
theorem Ex.mu {s t u : S} {P : Addr → Prop} (a : Ex s t) (b : Mx P t u) (h : ∀ p, P p → s.H p = none) : Ex s u :=
  ⟨fun x o q => b.f x o (a.f x o q), fun x o q => b.h x o (a.h x o q) fun z => (by rw [h x z] at q; cases q), fun x o q n => b.n x o (a.h x o q) (a.n x o q n)⟩
theorem Ex.mu1 {s t u : S} {p : Addr} (a : Ex s t) (b : Mx (· = p) t u) (h : s.H p = none) : Ex s u := a.mu b fun _ e => e ▸ h

class Enc (α : Type) where
  rep : PySem.W.Frag → Hp → V → α → Prop
  mono : ∀ {K : PySem.W.Frag} {F F' : Hp} {v : V} {x : α}, Fle F F' → rep K F v x → rep K F' v x
open Enc (rep)
def Reps {α : Type} [Enc α] (K : PySem.W.Frag) (F : Hp) : List V → List α → Prop
  | [], [] => True
  | v :: vs, x :: xs => rep K F v x ∧ Reps K F vs xs
  | _, _ => False
section
variable {α β : Type} [Enc α] [Enc β] {K : PySem.W.Frag} {F F' : Hp}
theorem Reps.mono (e : Fle F F') : ∀ {vs : List V} {xs : List α}, Reps K F vs xs → Reps K F' vs xs
  | [], [], _ => trivial
  | _ :: _, _ :: _, ⟨h, t⟩ => ⟨Enc.mono e h, Reps.mono e t⟩
  | [], _ :: _, h => h.elim
  | _ :: _, [], h => h.elim
theorem Reps.len : ∀ {vs : List V} {xs : List α}, Reps K F vs xs → vs.length = xs.length
  | [], [], _ => rfl
  | _ :: _, _ :: _, ⟨_, t⟩ => congrArg (· + 1) (Reps.len t)
  | [], _ :: _, h => h.elim
  | _ :: _, [], h => h.elim
theorem Reps.get : ∀ {vs : List V} {xs : List α} {i : Nat} {x : α}, Reps K F vs xs → xs[i]? = some x → ∃ v, vs[i]? = some v ∧ rep K F v x
  | [], [], _, _, _, e => by simp at e
  | v :: _, y :: _, 0, x, ⟨h, _⟩, e => by
    have : y = x := Option.some.inj e
    subst this
    exact ⟨v, rfl, h⟩
  | _ :: vs, _ :: xs, i + 1, x, ⟨_, t⟩, e => by
    obtain ⟨v, h1, h2⟩ := Reps.get (i := i) t (by simpa using e)
    exact ⟨v, by simpa using h1, h2⟩
  | [], _ :: _, _, _, h, _ => h.elim
  | _ :: _, [], _, _, h, _ => h.elim
theorem Reps.get' : ∀ {vs : List V} {xs : List α} {i : Nat} {v : V}, Reps K F vs xs → vs[i]? = some v → ∃ x, xs[i]? = some x ∧ rep K F v x
  | [], [], _, _, _, e => by simp at e
  | v :: _, y :: _, 0, w, ⟨h, _⟩, e => by
    have : v = w := Option.some.inj e
    subst this
    exact ⟨y, rfl, h⟩
  | _ :: vs, _ :: xs, i + 1, w, ⟨_, t⟩, e => by
    obtain ⟨x, h1, h2⟩ := Reps.get' (i := i) t (by simpa using e)
    exact ⟨x, by simpa using h1, h2⟩
  | [], _ :: _, _, _, h, _ => h.elim
  | _ :: _, [], _, _, h, _ => h.elim
theorem Reps.app : ∀ {vs ws : List V} {xs ys : List α}, Reps K F vs xs → Reps K F ws ys → Reps K F (vs ++ ws) (xs ++ ys)
  | [], _, [], _, _, t => t
  | _ :: _, _, _ :: _, _, ⟨h, t⟩, u => ⟨h, Reps.app t u⟩
  | [], _, _ :: _, _, h, _ => h.elim
  | _ :: _, _, [], _, h, _ => h.elim
theorem Reps.snoc {vs : List V} {xs : List α} {v : V} {x : α} (h : Reps K F vs xs) (r : rep K F v x) : Reps K F (vs ++ [v]) (xs ++ [x]) := h.app ⟨r, trivial⟩
theorem Reps.take : ∀ {vs : List V} {xs : List α} (n : Nat), Reps K F vs xs → Reps K F (vs.take n) (xs.take n)
  | _, _, 0, _ => by rw [List.take_zero, List.take_zero]; trivial
  | [], [], _ + 1, _ => trivial
  | _ :: _, _ :: _, n + 1, ⟨h, t⟩ => ⟨h, Reps.take n t⟩
  | [], _ :: _, _ + 1, h => h.elim
  | _ :: _, [], _ + 1, h => h.elim
theorem Reps.drop : ∀ {vs : List V} {xs : List α} (n : Nat), Reps K F vs xs → Reps K F (vs.drop n) (xs.drop n)
  | _, _, 0, h => h
  | [], [], _ + 1, _ => trivial
  | _ :: _, _ :: _, n + 1, ⟨_, t⟩ => Reps.drop n t
  | [], _ :: _, _ + 1, h => h.elim
  | _ :: _, [], _ + 1, h => h.elim
theorem Reps.set : ∀ {vs : List V} {xs : List α} {v : V} {x : α} (i : Nat), Reps K F vs xs → rep K F v x → Reps K F (vs.set i v) (xs.set i x)
  | [], [], _, _, _, _, _ => trivial
  | _ :: _, _ :: _, _, _, 0, ⟨_, t⟩, r => ⟨r, t⟩
  | _ :: _, _ :: _, _, _, i + 1, ⟨h, t⟩, r => ⟨h, Reps.set i t r⟩
  | [], _ :: _, _, _, _, h, _ => h.elim
  | _ :: _, [], _, _, _, h, _ => h.elim
theorem Reps.erase : ∀ {vs : List V} {xs : List α} (i : Nat), Reps K F vs xs → Reps K F (vs.eraseIdx i) (xs.eraseIdx i)
  | [], [], _, _ => trivial
  | _ :: _, _ :: _, 0, ⟨_, t⟩ => t
  | _ :: _, _ :: _, i + 1, ⟨h, t⟩ => ⟨h, Reps.erase i t⟩
  | [], _ :: _, _, h => h.elim
  | _ :: _, [], _, h => h.elim
theorem Reps.rev : ∀ {vs : List V} {xs : List α}, Reps K F vs xs → Reps K F vs.reverse xs.reverse
  | [], [], _ => trivial
  | _ :: _, _ :: _, ⟨h, t⟩ => by rw [List.reverse_cons, List.reverse_cons]; exact (Reps.rev t).snoc h
  | [], _ :: _, h => h.elim
  | _ :: _, [], h => h.elim
theorem Reps.mem : ∀ {vs : List V} {xs : List α} {x : α}, Reps K F vs xs → x ∈ xs → ∃ v, v ∈ vs ∧ rep K F v x
  | v :: _, y :: _, x, ⟨h, t⟩, e => by
    rcases List.mem_cons.mp e with rfl | e
    · exact ⟨v, List.mem_cons_self, h⟩
    · obtain ⟨w, a, b⟩ := Reps.mem t e
      exact ⟨w, List.mem_cons_of_mem _ a, b⟩
  | [], _ :: _, _, h, _ => h.elim
theorem Reps.repl {v : V} {x : α} (r : rep K F v x) : ∀ n : Nat, Reps K F (List.replicate n v) (List.replicate n x)
  | 0 => trivial
  | n + 1 => ⟨r, Reps.repl r n⟩
end
instance : Enc Int := ⟨fun _ _ v x => v = .int x, fun _ h => h⟩
instance : Enc Bool := ⟨fun _ _ v x => v = .bl x, fun _ h => h⟩
instance : Enc Str := ⟨fun _ _ v x => v = .str x, fun _ h => h⟩
instance : Enc Unit := ⟨fun _ _ v _ => v = .non, fun _ h => h⟩
class Opn (α : Type) extends Enc α where
  notNon : ∀ {K : PySem.W.Frag} {F : Hp} {x : α}, ¬ rep K F .non x
instance : Opn Int := ⟨fun {K F x} h => nomatch (show V.non = V.int x from h)⟩
instance : Opn Str := ⟨fun {K F x} h => nomatch (show V.non = V.str x from h)⟩
instance : Opn Bool := ⟨fun {K F x} h => nomatch (show V.non = V.bl x from h)⟩
instance {α : Type} [Enc α] : Enc (Option α) := ⟨fun K F v x => match x with | none => v = .non | some y => rep K F v y, fun {K F F' v x} e h => by
  cases x with
  | none => exact h
  | some y => exact Enc.mono (α := α) e h⟩
theorem sql_mono {K : PySem.W.Frag} {F F' : Hp} {a : Addr} {vs : List V} (e : Fle F F') (h : SqL K F a vs) : SqL K F' a vs := by
  rcases h with (h | ⟨o, h⟩) | h
  · exact .inl (.inl (e _ _ h))
  · exact .inl (.inr ⟨o, e _ _ h⟩)
  · exact .inr h
theorem sqt_mono {K : PySem.W.Frag} {F F' : Hp} {a : Addr} {vs : List V} (e : Fle F F') (h : SqT K F a vs) : SqT K F' a vs := by
  rcases h with (h | ⟨o, h⟩) | h
  · exact .inl (.inl (e _ _ h))
  · exact .inl (.inr ⟨o, e _ _ h⟩)
  · exact .inr h
def RepL {α : Type} [Enc α] (K : PySem.W.Frag) (F : Hp) (v : V) (xs : List α) : Prop := ∃ a vs, v = .ref a ∧ SqL K F a vs ∧ Reps K F vs xs
instance {α : Type} [Enc α] : Enc (List α) := ⟨RepL, fun e h => by
  obtain ⟨a, vs, rfl, h1, h2⟩ := h
  exact ⟨a, vs, rfl, sql_mono e h1, h2.mono e⟩⟩
structure T1 (α : Type) where
  a : α
deriving DecidableEq
structure T3 (α β γ : Type) where
  a : α
  b : β
  c : γ
deriving DecidableEq
structure T4 (α β γ δ : Type) where
  a : α
  b : β
  c : γ
  d : δ
deriving DecidableEq
structure T5 (α β γ δ ε : Type) where
  a : α
  b : β
  c : γ
  d : δ
  e : ε
deriving DecidableEq
structure Tu (α : Type) where
  l : List α
deriving DecidableEq
instance {α β : Type} [Enc α] [Enc β] : Enc (α × β) := ⟨fun K F v x => ∃ p v1 v2, v = .ref p ∧ SqT K F p [v1, v2] ∧ rep K F v1 x.1 ∧ rep K F v2 x.2, fun e h => by
  obtain ⟨p, v1, v2, rfl, h0, h1, h2⟩ := h
  exact ⟨p, v1, v2, rfl, sqt_mono e h0, Enc.mono e h1, Enc.mono e h2⟩⟩
instance {α : Type} [Enc α] : Enc (T1 α) := ⟨fun K F v x => ∃ p v1, v = .ref p ∧ SqT K F p [v1] ∧ rep K F v1 x.a, fun e h => by
  obtain ⟨p, v1, rfl, h0, h1⟩ := h
  exact ⟨p, v1, rfl, sqt_mono e h0, Enc.mono e h1⟩⟩
instance {α β γ : Type} [Enc α] [Enc β] [Enc γ] : Enc (T3 α β γ) := ⟨fun K F v x => ∃ p v1 v2 v3, v = .ref p ∧ SqT K F p [v1, v2, v3] ∧ rep K F v1 x.a ∧ rep K F v2 x.b ∧ rep K F v3 x.c, fun e h => by
  obtain ⟨p, v1, v2, v3, rfl, h0, h1, h2, h3⟩ := h
  exact ⟨p, v1, v2, v3, rfl, sqt_mono e h0, Enc.mono e h1, Enc.mono e h2, Enc.mono e h3⟩⟩
instance {α β γ δ : Type} [Enc α] [Enc β] [Enc γ] [Enc δ] : Enc (T4 α β γ δ) := ⟨fun K F v x => ∃ p v1 v2 v3 v4, v = .ref p ∧ SqT K F p [v1, v2, v3, v4] ∧ rep K F v1 x.a ∧ rep K F v2 x.b ∧ rep K F v3 x.c ∧ rep K F v4 x.d, fun e h => by
  obtain ⟨p, v1, v2, v3, v4, rfl, h0, h1, h2, h3, h4⟩ := h
  exact ⟨p, v1, v2, v3, v4, rfl, sqt_mono e h0, Enc.mono e h1, Enc.mono e h2, Enc.mono e h3, Enc.mono e h4⟩⟩
instance {α β γ δ ε : Type} [Enc α] [Enc β] [Enc γ] [Enc δ] [Enc ε] : Enc (T5 α β γ δ ε) := ⟨fun K F v x => ∃ p v1 v2 v3 v4 v5, v = .ref p ∧ SqT K F p [v1, v2, v3, v4, v5] ∧ rep K F v1 x.a ∧ rep K F v2 x.b ∧ rep K F v3 x.c ∧ rep K F v4 x.d ∧ rep K F v5 x.e, fun e h => by
  obtain ⟨p, v1, v2, v3, v4, v5, rfl, h0, h1, h2, h3, h4, h5⟩ := h
  exact ⟨p, v1, v2, v3, v4, v5, rfl, sqt_mono e h0, Enc.mono e h1, Enc.mono e h2, Enc.mono e h3, Enc.mono e h4, Enc.mono e h5⟩⟩
def RepT {α : Type} [Enc α] (K : PySem.W.Frag) (F : Hp) (v : V) (xs : List α) : Prop := ∃ a vs, v = .ref a ∧ SqT K F a vs ∧ Reps K F vs xs
instance {α : Type} [Enc α] : Enc (Tu α) := ⟨fun K F v x => RepT K F v x.l, fun e h => by
  obtain ⟨a, vs, rfl, h1, h2⟩ := h
  exact ⟨a, vs, rfl, sqt_mono e h1, h2.mono e⟩⟩
instance {α : Type} [Enc α] : Opn (List α) := ⟨fun h => by obtain ⟨_, _, e, _⟩ := h; cases e⟩
instance {α : Type} [Enc α] : Opn (Tu α) := ⟨fun h => by obtain ⟨_, _, e, _⟩ := h; cases e⟩
class Flat (α : Type) extends Enc α where
  toV : α → V
  iff : ∀ {K : PySem.W.Frag} {F : Hp} {v : V} {x : α}, rep K F v x ↔ v = toV x
  flat : ∀ x, flatV (toV x) = true
  inj : ∀ x y, eqV (toV x) (toV y) = true ↔ x = y
open Flat (toV)
instance : Flat Int := ⟨V.int, Iff.rfl, fun _ => rfl, fun x y => by show (x == y) = true ↔ _; simp⟩
instance : Flat Bool := ⟨V.bl, Iff.rfl, fun _ => rfl, fun x y => by show (x == y) = true ↔ _; simp⟩
instance : Flat Str := ⟨V.str, Iff.rfl, fun _ => rfl, fun x y => by show (x == y) = true ↔ _; simp⟩
instance : Flat (Option Int) := ⟨fun x => match x with | none => .non | some i => .int i, fun {K F v x} => by cases x <;> exact Iff.rfl, fun x => by cases x <;> rfl, fun x y => by
  cases x <;> cases y <;> simp [eqV]⟩
instance : Flat (Option Str) := ⟨fun x => match x with | none => .non | some i => .str i, fun {K F v x} => by cases x <;> exact Iff.rfl, fun x => by cases x <;> rfl, fun x y => by
  cases x <;> cases y <;> simp [eqV]⟩
section
variable {α : Type} [Flat α] {K : PySem.W.Frag} {F : Hp}
theorem Reps.flat : ∀ {vs : List V} {xs : List α}, Reps K F vs xs → vs = xs.map toV
  | [], [], _ => rfl
  | _ :: _, _ :: _, ⟨h, t⟩ => by rw [List.map_cons, ← Flat.iff.mp h, ← Reps.flat t]
  | [], _ :: _, h => h.elim
  | _ :: _, [], h => h.elim
theorem Reps.of_flat : ∀ (xs : List α), Reps K F (xs.map toV) xs
  | [] => trivial
  | _ :: xs => ⟨Flat.iff.mpr rfl, Reps.of_flat xs⟩
theorem flat_all (xs : List α) : (xs.map toV).all flatV = true := by
  rw [List.all_eq_true]
  intro v hv
  obtain ⟨x, _, rfl⟩ := List.mem_map.mp hv
  exact Flat.flat x
theorem inV_flat [DecidableEq α] (x : α) (xs : List α) : inV (toV x) (xs.map toV) = decide (x ∈ xs) := by
  rw [Bool.eq_iff_iff, decide_eq_true_eq]
  unfold inV
  rw [List.any_eq_true]
  constructor
  · rintro ⟨v, hv, e⟩
    obtain ⟨y, hy, rfl⟩ := List.mem_map.mp hv
    rw [Flat.inj] at e
    rw [← e]; exact hy
  · intro h
    exact ⟨_, List.mem_map.mpr ⟨x, h, rfl⟩, (Flat.inj x x).mpr rfl⟩
end
def nst : Expr → Bool
  | .Starred _ _ => false
  | _ => true
theorem star_cons {e : Expr} {es : List Expr} {env : Env} (h : nst e = true) : starEach (e :: es) env = (false, eval e env) :: starEach es env := by
  cases e <;> first | rfl | cases h
end Dy

namespace Dy
open PySem PySem.Spec L2
open PyProof.Rows hiding St
open Enc (rep)
open Flat (toV)

@[irreducible] def Hold (p : Prop) : Prop := p
theorem Hold.run {p : Prop} (h : Hold p) : p := by unfold Hold at h; exact h
theorem Hold.mk {p : Prop} (h : p) : Hold p := by unfold Hold; exact h
def WE (X : Cx) (e : Expr) : TE := fun σ H Q => Hold (∀ (pins : List (Addr × Obj)) (s : Shared), Inv X pins σ H s → wpAny (model X.prog X.w) X.A (eval e X.env) (EP X pins σ Q) X.xe s)
def WT (X : Cx) (e : Expr) : TT := fun σ H Q => Hold (∀ (pins : List (Addr × Obj)) (s : Shared), Inv X pins σ H s → wpAny (model X.prog X.w) X.A (isTrue e X.env (eval e X.env)) (TP X pins σ Q) X.xe s)
def WW (X : Cx) (e : Expr) : TT := fun σ H Q => Hold (∀ (whole : Sem Value) (pins : List (Addr × Obj)) (s : Shared), Inv X pins σ H s → wpAny (model X.prog X.w) X.A (isTrue e X.env whole) (TP X pins σ Q) X.xe s)
def WA (X : Cx) (es : List Expr) : TA := fun σ H Q => Hold (∀ (pos : Pos) (pins : List (Addr × Obj)) (s : Shared), Inv X pins σ H s → wpAny (model X.prog X.w) X.A (spliced (backTo pos (starEach es X.env))) (AP X pins σ Q) X.xe s)
def WSs (X : Cx) (ss : List Stmt) : TS := fun D σ H => Hold (∀ (pins : List (Addr × Obj)) (s : Shared), Inv X pins σ H s → wpAny (model X.prog X.w) X.A (execs ss X.env) (SP X pins D) X.xe s)
theorem pe_we {X : Cx} {e : Expr} : PE X e (WE X e) := ⟨fun pins s _ _ _ I h => Hold.run h pins s I⟩
theorem pt_wt {X : Cx} {e : Expr} : PT X e (WT X e) := ⟨fun pins s _ _ _ I h => Hold.run h pins s I⟩
theorem pw_ww {X : Cx} {e : Expr} : PW X e (WW X e) := ⟨fun whole pins s _ _ _ I h => Hold.run h whole pins s I⟩
theorem pa_wa {X : Cx} {es : List Expr} : PA X es (WA X es) := ⟨fun pos pins s _ _ _ I h => Hold.run h pos pins s I⟩
theorem pss_ws {X : Cx} {ss : List Stmt} : PSs X ss (WSs X ss) := ⟨fun pins s _ _ _ I h => Hold.run h pins s I⟩
theorem pe_im {X : Cx} {e : Expr} {t : TE} (h : ∀ σ H Q, t σ H Q → WE X e σ H Q) : PE X e t := ⟨fun pins s σ H Q I q => Hold.run (h σ H Q q) pins s I⟩
theorem pt_im {X : Cx} {e : Expr} {t : TT} (h : ∀ σ H Q, t σ H Q → WT X e σ H Q) : PT X e t := ⟨fun pins s σ H Q I q => Hold.run (h σ H Q q) pins s I⟩
theorem pss_im {X : Cx} {ss : List Stmt} {t : TS} (h : ∀ D σ H, t D σ H → WSs X ss D σ H) : PSs X ss t := ⟨fun pins s σ H D I q => Hold.run (h D σ H q) pins s I⟩
theorem we_of {X : Cx} {e : Expr} {t : TE} {σ : St} {H : Hp} {Q : VK} (h : PE X e t) (q : t σ H Q) : WE X e σ H Q := Hold.mk fun pins s I => h.run pins s σ H Q I q
theorem wt_of {X : Cx} {e : Expr} {t : TT} {σ : St} {H : Hp} {Q : Bool → Hp → Prop} (h : PT X e t) (q : t σ H Q) : WT X e σ H Q := Hold.mk fun pins s I => h.run pins s σ H Q I q
theorem ww_of {X : Cx} {e : Expr} {t : TT} {σ : St} {H : Hp} {Q : Bool → Hp → Prop} (h : PW X e t) (q : t σ H Q) : WW X e σ H Q := Hold.mk fun w pins s I => h.run w pins s σ H Q I q
theorem wa_of {X : Cx} {es : List Expr} {t : TA} {σ : St} {H : Hp} {Q : List V → Hp → Prop} (h : PA X es t) (q : t σ H Q) : WA X es σ H Q := Hold.mk fun pos pins s I => h.run pos pins s σ H Q I q
theorem ws_of {X : Cx} {ss : List Stmt} {t : TS} {D : Ends} {σ : St} {H : Hp} (h : PSs X ss t) (q : t D σ H) : WSs X ss D σ H := Hold.mk fun pins s I => h.run pins s σ H D I q
theorem WSs.imp {X : Cx} {ss : List Stmt} {D D' : Ends} {σ : St} {H : Hp} (h : WSs X ss D σ H) (h1 : ∀ σ H, D.nx σ H → D'.nx σ H) (h2 : ∀ v H, D.rt v H → D'.rt v H) (h3 : ∀ σ H, D.bk σ H → D'.bk σ H) (h4 : ∀ σ H, D.ct σ H → D'.ct σ H) : WSs X ss D' σ H := Hold.mk fun pins s I => thn (Hold.run h pins s I) fun f s1 q => by
  cases f with
  | next => obtain ⟨a, b, c, d⟩ := q; exact ⟨a, b, c, h1 _ _ d⟩
  | brk => obtain ⟨a, b, c, d⟩ := q; exact ⟨a, b, c, h3 _ _ d⟩
  | cont => obtain ⟨a, b, c, d⟩ := q; exact ⟨a, b, c, h4 _ _ d⟩
  | ret u => obtain ⟨a, b, c, d, e, f⟩ := q; exact ⟨a, b, c, d, e, h2 _ _ f⟩

section
variable {α β γ δ : Type} [Enc α] [Enc β] [Enc γ] [Enc δ]
def Ev (X : Cx) (e : Expr) (σ : St) (s : S) (x : α) : Prop := ∀ s1, Ex s s1 → ∀ Q : VK, (∀ v s2, Ex s1 s2 → rep X.K s2.F v x → Q v s2.H) → WE X e σ s1.H Q
def RepR (K : PySem.W.Frag) (s : S) (v : V) (xs : List α) : Prop := ∃ a vs, v = .ref a ∧ SqL K s.H a vs ∧ Reps K s.F vs xs
def EvR (X : Cx) (e : Expr) (σ : St) (s : S) (xs : List α) : Prop := ∀ s1, Ex s s1 → ∀ Q : VK, (∀ v s2, Ex s1 s2 → RepR X.K s2 v xs → Q v s2.H) → WE X e σ s1.H Q
def Own (K : PySem.W.Frag) (s : S) (p : Addr) (xs : List α) : Prop := s.F p = none ∧ ∃ vs, s.H p = some (.lst vs) ∧ Reps K s.F vs xs
def EvN (X : Cx) (e : Expr) (σ : St) (s : S) (xs : List α) : Prop := ∀ s1, Ex s s1 → ∀ Q : VK, (∀ p s2, Ex s1 s2 → s1.H p = none → Own X.K s2 p xs → Q (.ref p) s2.H) → WE X e σ s1.H Q
def EvT (X : Cx) (e : Expr) (σ : St) (s : S) (b : Bool) : Prop := ∀ s1, Ex s s1 → ∀ Q : Bool → Hp → Prop, (∀ s2, Ex s1 s2 → Q b s2.H) → WT X e σ s1.H Q
def EvW (X : Cx) (e : Expr) (σ : St) (s : S) (b : Bool) : Prop := ∀ s1, Ex s s1 → ∀ Q : Bool → Hp → Prop, (∀ s2, Ex s1 s2 → Q b s2.H) → WW X e σ s1.H Q
structure EvB (X : Cx) (e : Expr) (σ : St) (s : S) (b : Bool) : Prop where
  v : Ev X e σ s b
  t : EvT X e σ s b
structure EvC (X : Cx) (e : Expr) (σ : St) (s : S) (b : Bool) : Prop where
  v : Ev X e σ s b
  w : EvW X e σ s b
end
class EncA (A : Type) where
  repA : PySem.W.Frag → Hp → List V → A → Prop
  monoA : ∀ {K : PySem.W.Frag} {F F' : Hp} {vs : List V} {x : A}, Fle F F' → repA K F vs x → repA K F' vs x
open EncA (repA)
instance : EncA Unit := ⟨fun _ _ vs _ => vs = [], fun _ h => h⟩
instance {α A : Type} [Enc α] [EncA A] : EncA (α × A) := ⟨fun K F vs x => ∃ v r, vs = v :: r ∧ rep K F v x.1 ∧ repA K F r x.2, fun e h => by
  obtain ⟨v, r, rfl, h1, h2⟩ := h
  exact ⟨v, r, rfl, Enc.mono e h1, EncA.monoA e h2⟩⟩
def EvA {A : Type} [EncA A] (X : Cx) (es : List Expr) (σ : St) (s : S) (a : A) : Prop := ∀ s1, Ex s s1 → ∀ Q : List V → Hp → Prop, (∀ vs s2, Ex s1 s2 → repA X.K s2.F vs a → Q vs s2.H) → WA X es σ s1.H Q

section
variable {α β γ δ : Type} [Enc α] [Enc β] [Enc γ] [Enc δ] {X : Cx} {σ : St} {s t : S} {e a b c : Expr} {es : List Expr} {pos p0 p1 p2 p3 : Pos}
theorem Own.frz {K : PySem.W.Frag} {p : Addr} {xs : List α} (h : Own K s p xs) : ∃ s' : S, s'.H = s.H ∧ Fle s.F s'.F ∧ (∀ q, q ≠ p → s'.F q = s.F q) ∧ rep K s'.F (.ref p) xs := by
  obtain ⟨hn, vs, hp, r⟩ := h
  have f : Fle s.F (upd s.F p (.lst vs)) := fun a o q => by rw [upd_ne (ne_of_none q hn)]; exact q
  refine ⟨⟨upd s.F p (.lst vs), s.H, fun a o q => ?_⟩, rfl, f, fun q hq => upd_ne hq, p, vs, rfl, .inl (.inl upd_same), r.mono f⟩
  unfold upd at q
  split at q
  · rename_i e; cases q; rw [e]; exact hp
  · exact s.sub a o q
theorem Own.ex {K : PySem.W.Frag} {p : Addr} {xs : List α} (h : Own K s p xs) (e : Ex s t) : Own K t p xs := by
  obtain ⟨hn, vs, hp, r⟩ := h
  exact ⟨e.n _ _ hp hn, vs, e.h _ _ hp, r.mono e.f⟩
theorem Own.mx {K : PySem.W.Frag} {p : Addr} {P : Addr → Prop} {xs : List α} (h : Own K s p xs) (e : Mx P s t) (n : ¬ P p) : Own K t p xs := by
  obtain ⟨hn, vs, hp, r⟩ := h
  exact ⟨e.n _ _ hp hn, vs, e.h _ _ hp n, r.mono e.f⟩
theorem Own.ne {K : PySem.W.Frag} {p q : Addr} {xs : List α} (h : Own K s p xs) (n : s.H q = none) : p ≠ q := by
  obtain ⟨_, vs, hp, _⟩ := h
  exact ne_of_none hp n
theorem Own.r {K : PySem.W.Frag} {p : Addr} {xs : List α} (h : Own K s p xs) : RepR K s (.ref p) xs := by
  obtain ⟨hn, vs, hp, r⟩ := h
  exact ⟨p, vs, rfl, .inl (.inl hp), r⟩
theorem RepR.ex {K : PySem.W.Frag} {v : V} {xs : List α} (h : RepR K s v xs) (e : Ex s t) : RepR K t v xs := by
  obtain ⟨p, vs, rfl, h1, h2⟩ := h
  exact ⟨p, vs, rfl, sql_mono e.h h1, h2.mono e.f⟩
theorem rep_r {K : PySem.W.Frag} {v : V} {xs : List α} (h : rep K s.F v xs) : RepR K s v xs := by
  obtain ⟨p, vs, rfl, h1, h2⟩ := h
  exact ⟨p, vs, rfl, sql_mono s.sub h1, h2⟩
theorem Ev.mono {x : α} (h : Ev X e σ s x) (k : Ex s t) : Ev X e σ t x := fun s1 k1 Q q => h s1 (k.trans k1) Q q
theorem EvT.mono {x : Bool} (h : EvT X e σ s x) (k : Ex s t) : EvT X e σ t x := fun s1 k1 Q q => h s1 (k.trans k1) Q q
theorem Ev.r {xs : List α} (h : Ev X e σ s xs) : EvR X e σ s xs := fun s1 k Q q => h s1 k Q fun v s2 k2 r => q v s2 k2 (rep_r r)
theorem EvN.r {xs : List α} (h : EvN X e σ s xs) : EvR X e σ s xs := fun s1 k Q q => h s1 k Q fun p s2 k2 _ o => q (.ref p) s2 k2 o.r
theorem frz_ex {K : PySem.W.Frag} {p : Addr} {xs : List α} (k : Ex s t) (n : s.H p = none) (o : Own K t p xs) : ∃ t' : S, t'.H = t.H ∧ Ex s t' ∧ rep K t'.F (.ref p) xs := by
  obtain ⟨t', h1, h2, h3, h4⟩ := o.frz
  refine ⟨t', h1, ⟨k.f.trans h2, fun a u q => by rw [h1]; exact k.h a u q, fun a u q m => ?_⟩, h4⟩
  have : a ≠ p := ne_of_none q n
  rw [h3 a this]
  exact k.n a u q m
theorem EvN.ev {xs : List α} (h : EvN X e σ s xs) : Ev X e σ s xs := fun s1 k Q q => h s1 k Q fun p s2 k2 n o => by
  obtain ⟨t', h1, h2, h3⟩ := frz_ex k2 n o
  rw [← h1]
  exact q _ t' h2 h3
theorem Ev.cast {x y : α} (h : Ev X e σ s x) (k : x = y) : Ev X e σ s y := k ▸ h

theorem ev_var (i : Nat) {v : V} {x : α} {n : Str} (h : σ[i]? = some (some v)) (r : rep X.K s.F v x) (hN : X.N[i]? = some n := by rfl) (hv : Vis X.env.scope n := by first | exact Or.inl rfl | exact Or.inr (Or.inl rfl) | exact Or.inr (Or.inr rfl)) (hd : (n == ("__debug__" : Str)) = false := by decide)
    (hcd : (n == ("__classdict__" : Str)) = false := by decide) : Ev X (.Name n pos) σ s x := fun s1 k Q q => we_of (pe_var hN hv hd hcd) ⟨v, h, q v s1 (Ex.refl _) (Enc.mono k.f r)⟩
theorem ev_varR (i : Nat) {p : Addr} {xs : List α} {n : Str} (h : σ[i]? = some (some (.ref p))) (r : Own X.K s p xs) (hN : X.N[i]? = some n := by rfl) (hv : Vis X.env.scope n := by first | exact Or.inl rfl | exact Or.inr (Or.inl rfl) | exact Or.inr (Or.inr rfl)) (hd : (n == ("__debug__" : Str)) = false := by decide)
    (hcd : (n == ("__classdict__" : Str)) = false := by decide) : EvR X (.Name n pos) σ s xs := fun s1 k Q q => we_of (pe_var hN hv hd hcd) ⟨_, h, q _ s1 (Ex.refl _) (r.ex k).r⟩
theorem ev_int {i : Int} {j} : Ev X (.Constant (.int i) j pos) σ s i := fun s1 k Q q => we_of pe_int (q _ s1 (Ex.refl _) rfl)
theorem ev_bl {i : Bool} {j} : Ev X (.Constant (.bool i) j pos) σ s i := fun s1 k Q q => we_of pe_bl (q _ s1 (Ex.refl _) rfl)
theorem ev_str {i : Str} {j} : Ev X (.Constant (.str i) j pos) σ s i := fun s1 k Q q => we_of pe_str (q _ s1 (Ex.refl _) rfl)
theorem ev_non {j} : Ev X (.Constant .none j pos) σ s () := fun s1 k Q q => we_of pe_non (q _ s1 (Ex.refl _) rfl)
theorem ev_nonO {j} : Ev X (.Constant .none j pos) σ s (none : Option α) := fun s1 k Q q => we_of pe_non (q _ s1 (Ex.refl _) rfl)
theorem ev_some {x : α} (h : Ev X e σ s x) : Ev X e σ s (some x) := h
theorem ev_glob {n : Str} {x : α} (h : ∃ v u, X.mg n = some u ∧ RelV v u ∧ ∀ F, rep X.K F v x) (hg : Gl X n := by rfl) (hd : (n == ("__debug__" : Str)) = false := by decide) : Ev X (.Name n pos) σ s x := fun s1 k Q q => by
  obtain ⟨v, u, h1, h2, h3⟩ := h
  exact we_of (pe_glob hg h1 h2 hd) (q v s1 (Ex.refl _) (h3 _))

theorem ev_op {op : Operator} {r : R2} {x : α} {y : β} {z : γ} (ho : OpR X (binaryOp op) r) (ha : Ev X a σ s x) (hb : Ev X b σ s y)
    (hr : ∀ v u s2, rep X.K s2.F v x → rep X.K s2.F u y → ∀ Q : VK, (∀ v' s3, Ex s2 s3 → rep X.K s3.F v' z → Q v' s3.H) → r v u s2.H Q) : Ev X (.BinOp a op b pos) σ s z := fun s1 k Q q =>
  we_of (pe_op ho pe_we pe_we) (ha s1 k _ fun v s2 k2 r2 => hb s2 (k.trans k2) _ fun u s3 k3 r3 => hr v u s3 (Enc.mono k3.f r2) r3 Q fun w s4 k4 r4 => q w s4 ((k2.trans k3).trans k4) r4)
theorem ev_I0 {op : Operator} {g : Int → Int → V} {x y : Int} {z : γ} (ho : OpR X (binaryOp op) (rI0 g)) (ha : Ev X a σ s x) (hb : Ev X b σ s y) (hz : ∀ K F, rep K F (g x y) z) : Ev X (.BinOp a op b pos) σ s z :=
  ev_op ho ha hb fun v u s2 hv hu Q q => ⟨x, y, hv, hu, q _ s2 (Ex.refl _) (hz _ _)⟩
theorem ev_I {op : Operator} {C : Int → Int → Prop} {g : Int → Int → V} {x y : Int} {z : γ} (ho : OpR X (binaryOp op) (rI C g)) (ha : Ev X a σ s x) (hb : Ev X b σ s y) (hc : C x y) (hz : ∀ K F, rep K F (g x y) z) : Ev X (.BinOp a op b pos) σ s z :=
  ev_op ho ha hb fun v u s2 hv hu Q q => ⟨x, y, hv, hu, hc, q _ s2 (Ex.refl _) (hz _ _)⟩
theorem ev_add {x y : Int} (ha : Ev X a σ s x) (hb : Ev X b σ s y) : Ev X (.BinOp a .Add b pos) σ s (x + y) := ev_I0 op_add ha hb fun _ _ => rfl
theorem ev_sub {x y : Int} (ha : Ev X a σ s x) (hb : Ev X b σ s y) : Ev X (.BinOp a .Sub b pos) σ s (x - y) := ev_I0 op_sub ha hb fun _ _ => rfl
def MulOk (x y : Int) : Prop := CMul x y ∨ CMulW x y
theorem ev_mul {x y : Int} (ha : Ev X a σ s x) (hb : Ev X b σ s y) (hc : MulOk x y) : Ev X (.BinOp a .Mult b pos) σ s (x * y) := by
  rcases hc with hc | hc
  · exact ev_I op_mul ha hb hc fun _ _ => rfl
  · exact ev_I op_mulW ha hb hc fun _ _ => rfl
theorem ev_mod {x y : Int} (ha : Ev X a σ s x) (hb : Ev X b σ s y) (hc : 0 < y) : Ev X (.BinOp a .Mod b pos) σ s (x % y) := ev_I op_mod ha hb hc fun _ _ => rfl
def DivOk (y : Int) : Prop := 0 < y ∧ y.natAbs.log2 < 9000
theorem ev_div {x y : Int} (ha : Ev X a σ s x) (hb : Ev X b σ s y) (hc : DivOk y) : Ev X (.BinOp a .FloorDiv b pos) σ s (x / y) := ev_I op_fdivW ha hb hc fun _ _ => rfl
theorem ev_pow {x y : Int} (ha : Ev X a σ s x) (hb : Ev X b σ s y) (hc : CPow x y) : Ev X (.BinOp a .Pow b pos) σ s (x ^ y.toNat) := ev_I op_pow ha hb hc fun _ _ => rfl
theorem ev_adds {x y : Str} (ha : Ev X a σ s x) (hb : Ev X b σ s y) (hc : x.length + y.length ≤ sizeLine) : Ev X (.BinOp a .Add b pos) σ s (x ++ y) :=
  ev_op op_add_str ha hb fun v u s2 hv hu Q q => ⟨x, y, hv, hu, hc, q _ s2 (Ex.refl _) rfl⟩
theorem ev_neg {x : Int} (ha : Ev X a σ s x) : Ev X (.UnaryOp .USub a pos) σ s (-x) := fun s1 k Q q =>
  we_of (pe_un un_neg pe_we) (ha s1 k _ fun v s2 k2 r2 => ⟨x, r2, q _ s2 k2 rfl⟩)

theorem atI_rep {K : PySem.W.Frag} {F : Hp} {vs : List V} {xs : List α} {i : Int} {x : α} (r : Reps K F vs xs) (h : atI xs i = some x) : ∃ v, atI vs i = some v ∧ rep K F v x := by
  unfold atI at h ⊢
  rw [r.len]
  cases hj : ixN xs.length i with
  | none => rw [hj] at h; cases h
  | some j =>
    rw [hj] at h
    obtain ⟨v, h1, h2⟩ := r.get (i := j) h
    exact ⟨v, h1, h2⟩
theorem ev_ix {xs : List α} {i : Int} {x : α} (ha : EvR X a σ s xs) (hb : Ev X b σ s i) (h : atI xs i = some x) (hp : PlainIx b := by intro _ _; rfl) : Ev X (.Subscript a b pos) σ s x := fun s1 k Q q =>
  we_of (pe_ix ix_list pe_we pe_we hp) (ha s1 k _ fun v s2 k2 r2 => hb s2 (k.trans k2) _ fun u s3 k3 r3 => by
    obtain ⟨p, vs, rfl, h1, h2⟩ := r2.ex k3
    obtain ⟨w, h3, h4⟩ := atI_rep h2 h
    exact ⟨p, vs, i, w, rfl, r3, h1, h3, q w s3 (k2.trans k3) h4⟩)
theorem ev_ixT {xs : Tu α} {i : Int} {x : α} (ha : Ev X a σ s xs) (hb : Ev X b σ s i) (h : atI xs.l i = some x) (hp : PlainIx b := by intro _ _; rfl) : Ev X (.Subscript a b pos) σ s x := fun s1 k Q q =>
  we_of (pe_ix ix_tup pe_we pe_we hp) (ha s1 k _ fun v s2 k2 r2 => hb s2 (k.trans k2) _ fun u s3 k3 r3 => by
    obtain ⟨p, vs, rfl, h1, h2⟩ := Enc.mono (α := Tu α) k3.f r2
    obtain ⟨w, h3, h4⟩ := atI_rep h2 h
    exact ⟨p, vs, i, w, rfl, r3, sqt_mono s3.sub h1, h3, q w s3 (k2.trans k3) h4⟩)
theorem ev_ixP {x : β} {i : Int} {y : α} (ha : Ev X a σ s x) (hb : Ev X b σ s i) (h : ∀ {F : Hp} {v : V}, rep X.K F v x → ∃ p vs w, v = .ref p ∧ SqT X.K F p vs ∧ atI vs i = some w ∧ rep X.K F w y) (hp : PlainIx b := by intro _ _; rfl) : Ev X (.Subscript a b pos) σ s y := fun s1 k Q q =>
  we_of (pe_ix ix_tup pe_we pe_we hp) (ha s1 k _ fun v s2 k2 r2 => hb s2 (k.trans k2) _ fun u s3 k3 r3 => by
    obtain ⟨p, vs, w, rfl, h1, h2, h3⟩ := h (Enc.mono k3.f r2)
    exact ⟨p, vs, i, w, rfl, r3, sqt_mono s3.sub h1, h2, q w s3 (k2.trans k3) h3⟩)
theorem p2_0 {K : PySem.W.Frag} {x : α × β} {F : Hp} {v : V} (h : rep K F v x) : ∃ p vs w, v = .ref p ∧ SqT K F p vs ∧ atI vs 0 = some w ∧ rep K F w x.1 := by
  obtain ⟨p, v1, v2, rfl, h0, h1, h2⟩ := h
  exact ⟨p, _, v1, rfl, h0, rfl, h1⟩
theorem p2_1 {K : PySem.W.Frag} {x : α × β} {F : Hp} {v : V} (h : rep K F v x) : ∃ p vs w, v = .ref p ∧ SqT K F p vs ∧ atI vs 1 = some w ∧ rep K F w x.2 := by
  obtain ⟨p, v1, v2, rfl, h0, h1, h2⟩ := h
  exact ⟨p, _, v2, rfl, h0, rfl, h2⟩
theorem p3_0 {K : PySem.W.Frag} {x : T3 α β γ} {F : Hp} {v : V} (h : rep K F v x) : ∃ p vs w, v = .ref p ∧ SqT K F p vs ∧ atI vs 0 = some w ∧ rep K F w x.a := by
  obtain ⟨p, v1, v2, v3, rfl, h0, h1, h2, h3⟩ := h
  exact ⟨p, _, v1, rfl, h0, rfl, h1⟩
theorem p3_1 {K : PySem.W.Frag} {x : T3 α β γ} {F : Hp} {v : V} (h : rep K F v x) : ∃ p vs w, v = .ref p ∧ SqT K F p vs ∧ atI vs 1 = some w ∧ rep K F w x.b := by
  obtain ⟨p, v1, v2, v3, rfl, h0, h1, h2, h3⟩ := h
  exact ⟨p, _, v2, rfl, h0, rfl, h2⟩
theorem p3_2 {K : PySem.W.Frag} {x : T3 α β γ} {F : Hp} {v : V} (h : rep K F v x) : ∃ p vs w, v = .ref p ∧ SqT K F p vs ∧ atI vs 2 = some w ∧ rep K F w x.c := by
  obtain ⟨p, v1, v2, v3, rfl, h0, h1, h2, h3⟩ := h
  exact ⟨p, _, v3, rfl, h0, rfl, h3⟩
def sgn (x : Str) (i : Int) : Option Str := if x.length ≤ sizeLine then (atI x.cps.toList i).map fun c => ⟨#[c]⟩ else none
theorem ev_ixS {x : Str} {i : Int} {y : Str} (ha : Ev X a σ s x) (hb : Ev X b σ s i) (h : sgn x i = some y) (hp : PlainIx b := by intro _ _; rfl) : Ev X (.Subscript a b pos) σ s y := fun s1 k Q q =>
  we_of (pe_ix ix_str pe_we pe_we hp) (ha s1 k _ fun v s2 k2 r2 => hb s2 (k.trans k2) _ fun u s3 k3 r3 => by
    unfold sgn at h
    split at h
    · rename_i hz
      obtain ⟨c, h1, h2⟩ := Option.map_eq_some_iff.mp h
      exact ⟨x, i, c, r2, r3, hz, h1, q _ s3 (k2.trans k3) (by rw [h2]; rfl)⟩
    · cases h)
end
end Dy

namespace Dy
open PySem PySem.Spec L2
open PyProof.Rows hiding St
open Enc (rep)
open Flat (toV)
open EncA (repA)

section
variable {α β γ δ : Type} [Enc α] [Enc β] [Enc γ] [Enc δ] {X : Cx} {σ : St} {s t : S} {e a b c : Expr} {es : List Expr} {pos p0 p1 p2 p3 : Pos}

theorem et_v {x : Bool} (h : Ev X e σ s x) (he : ∀ whole, isTrue e X.env whole = (do let v ← whole; standAt e.pos; holding [v] (truthy v)) := by intro _; rfl) : EvT X e σ s x := fun s1 k Q q =>
  wt_of (pt_val pe_we he) (h s1 k _ fun v s2 k2 r => ⟨x, r, q s2 k2⟩)
theorem eb_v {x : Bool} (h : Ev X e σ s x) (he : ∀ whole, isTrue e X.env whole = (do let v ← whole; standAt e.pos; holding [v] (truthy v)) := by intro _; rfl) : EvB X e σ s x := ⟨h, et_v h he⟩
theorem EvW.tt {x : Bool} (h : EvW X e σ s x) : EvT X e σ s x := fun s1 k Q q => wt_of pw_ww.pt (h s1 k Q q)
theorem EvC.bb {x : Bool} (h : EvC X e σ s x) : EvB X e σ s x := ⟨h.v, h.w.tt⟩
theorem EvB.cast {x y : Bool} (h : EvB X e σ s x) (k : x = y) : EvB X e σ s y := k ▸ h
theorem ec_and1 {x : Bool} (h : EvB X a σ s x) : EvC X (.BoolOp .And [a] pos) σ s x :=
  ⟨fun s1 k Q q => we_of (pe_one pe_we) (h.v s1 k Q q), fun s1 k Q q => ww_of (pw_and1 pt_wt) (h.t s1 k Q q)⟩
theorem ec_or1 {x : Bool} (h : EvB X a σ s x) : EvC X (.BoolOp .Or [a] pos) σ s x :=
  ⟨fun s1 k Q q => we_of (pe_one pe_we) (h.v s1 k Q q), fun s1 k Q q => ww_of (pw_or1 pt_wt) (h.t s1 k Q q)⟩
theorem ec_and {x y : Bool} (h : EvB X a σ s x) (h2 : x = true → EvC X (.BoolOp .And (b :: es) pos) σ s y) : EvC X (.BoolOp .And (a :: b :: es) pos) σ s (x && y) :=
  ⟨fun s1 k Q q => we_of (pe_and pe_we pe_we) (h.v s1 k _ fun v s2 k2 r => ⟨x, r, by
    cases x with
    | true => exact iteT ((h2 rfl).v s2 (k.trans k2) Q fun v s3 k3 r3 => q v s3 (k2.trans k3) r3)
    | false => exact iteF (q _ s2 k2 rfl)⟩),
   fun s1 k Q q => ww_of (pw_and pt_wt pw_ww) (h.t s1 k _ fun s2 k2 => by
    cases x with
    | true => exact iteT ((h2 rfl).w s2 (k.trans k2) Q fun s3 k3 => q s3 (k2.trans k3))
    | false => exact iteF (q s2 k2))⟩
theorem ec_or {x y : Bool} (h : EvB X a σ s x) (h2 : x = false → EvC X (.BoolOp .Or (b :: es) pos) σ s y) : EvC X (.BoolOp .Or (a :: b :: es) pos) σ s (x || y) :=
  ⟨fun s1 k Q q => we_of (pe_or pe_we pe_we) (h.v s1 k _ fun v s2 k2 r => ⟨x, r, by
    cases x with
    | true => exact iteT (q _ s2 k2 rfl)
    | false => exact iteF ((h2 rfl).v s2 (k.trans k2) Q fun v s3 k3 r3 => q v s3 (k2.trans k3) r3)⟩),
   fun s1 k Q q => ww_of (pw_or pt_wt pw_ww) (h.t s1 k _ fun s2 k2 => by
    cases x with
    | true => exact iteT (q s2 k2)
    | false => exact iteF ((h2 rfl).w s2 (k.trans k2) Q fun s3 k3 => q s3 (k2.trans k3)))⟩
theorem eb_not {x : Bool} (h : EvB X a σ s x) : EvB X (.UnaryOp .Not a pos) σ s (!x) :=
  ⟨fun s1 k Q q => we_of (pe_not pe_we) (h.v s1 k _ fun v s2 k2 r => ⟨x, r, q _ s2 k2 rfl⟩), fun s1 k Q q => wt_of (pt_not pt_wt) (h.t s1 k _ fun s2 k2 => q s2 k2)⟩
theorem ev_ifE {x : Bool} {y z : α} (h : EvT X c σ s x) (h1 : x = true → Ev X a σ s y) (h2 : x = false → Ev X b σ s z) : Ev X (.IfExp c a b pos) σ s (if x = true then y else z) := fun s1 k Q q =>
  we_of (pe_ifExp pt_wt pe_we pe_we) (h s1 k _ fun s2 k2 => by
    cases x with
    | true => exact iteT (h1 rfl s2 (k.trans k2) Q fun v s3 k3 r => q v s3 (k2.trans k3) r)
    | false => exact iteF (h2 rfl s2 (k.trans k2) Q fun v s3 k3 r => q v s3 (k2.trans k3) r))

theorem eb_cmp {op : CmpOp} {r : R2} {x : α} {y : β} {z : Bool} (ho : OpR X (compareOp op) r) (ha : Ev X a σ s x) (hb : Ev X b σ s y)
    (hr : ∀ (v u : V) (s2 : S), rep X.K s2.F v x → rep X.K s2.F u y → ∀ Q : VK, Q (.bl z) s2.H → r v u s2.H Q) (hm : behindInMarks op b = false) : EvB X (.Compare a [op] [b] pos) σ s z :=
  ⟨fun s1 k Q q => we_of (pe_cmpR ho pe_we pe_we hm) (ha s1 k _ fun v s2 k2 r2 => hb s2 (k.trans k2) _ fun u s3 k3 r3 => hr v u s3 (Enc.mono k3.f r2) r3 Q (q _ s3 (k2.trans k3) rfl)),
   fun s1 k Q q => wt_of (pt_cmpR ho pe_we pe_we hm) (ha s1 k _ fun v s2 k2 r2 => hb s2 (k.trans k2) _ fun u s3 k3 r3 => hr v u s3 (Enc.mono k3.f r2) r3 _ ⟨z, rfl, q s3 (k2.trans k3)⟩)⟩
theorem eb_cmpR {op : CmpOp} {r : R2} {x : α} {ys : List β} {z : Bool} (ho : OpR X (compareOp op) r) (ha : Ev X a σ s x) (hb : EvR X b σ s ys)
    (hr : ∀ (v u : V) (s2 : S), rep X.K s2.F v x → RepR X.K s2 u ys → ∀ Q : VK, Q (.bl z) s2.H → r v u s2.H Q) (hm : behindInMarks op b = false) : EvB X (.Compare a [op] [b] pos) σ s z :=
  ⟨fun s1 k Q q => we_of (pe_cmpR ho pe_we pe_we hm) (ha s1 k _ fun v s2 k2 r2 => hb s2 (k.trans k2) _ fun u s3 k3 r3 => hr v u s3 (Enc.mono k3.f r2) r3 Q (q _ s3 (k2.trans k3) rfl)),
   fun s1 k Q q => wt_of (pt_cmpR ho pe_we pe_we hm) (ha s1 k _ fun v s2 k2 r2 => hb s2 (k.trans k2) _ fun u s3 k3 r3 => hr v u s3 (Enc.mono k3.f r2) r3 _ ⟨z, rfl, q s3 (k2.trans k3)⟩)⟩
theorem eb_cmpRR {op : CmpOp} {r : R2} {xs : List α} {ys : List β} {z : Bool} (ho : OpR X (compareOp op) r) (ha : EvR X a σ s xs) (hb : EvR X b σ s ys)
    (hr : ∀ (v u : V) (s2 : S), RepR X.K s2 v xs → RepR X.K s2 u ys → ∀ Q : VK, Q (.bl z) s2.H → r v u s2.H Q) (hm : behindInMarks op b = false) : EvB X (.Compare a [op] [b] pos) σ s z :=
  ⟨fun s1 k Q q => we_of (pe_cmpR ho pe_we pe_we hm) (ha s1 k _ fun v s2 k2 r2 => hb s2 (k.trans k2) _ fun u s3 k3 r3 => hr v u s3 (r2.ex k3) r3 Q (q _ s3 (k2.trans k3) rfl)),
   fun s1 k Q q => wt_of (pt_cmpR ho pe_we pe_we hm) (ha s1 k _ fun v s2 k2 r2 => hb s2 (k.trans k2) _ fun u s3 k3 r3 => hr v u s3 (r2.ex k3) r3 _ ⟨z, rfl, q s3 (k2.trans k3)⟩)⟩
theorem eb_I0 {op : CmpOp} {g : Int → Int → V} {x y : Int} {z : Bool} (ho : OpR X (compareOp op) (rI0 g)) (hg : g x y = .bl z) (hm : behindInMarks op b = false) (ha : Ev X a σ s x) (hb : Ev X b σ s y) : EvB X (.Compare a [op] [b] pos) σ s z :=
  eb_cmp ho ha hb (fun v u s2 hv hu Q q => ⟨x, y, hv, hu, by rw [hg]; exact q⟩) hm
theorem eb_lt {x y : Int} (ha : Ev X a σ s x) (hb : Ev X b σ s y) : EvB X (.Compare a [.Lt] [b] pos) σ s (decide (x < y)) := eb_I0 op_lt rfl (nomark _) ha hb
theorem eb_le {x y : Int} (ha : Ev X a σ s x) (hb : Ev X b σ s y) : EvB X (.Compare a [.LtE] [b] pos) σ s (decide (x ≤ y)) := eb_I0 op_le rfl (nomark _) ha hb
theorem eb_gt {x y : Int} (ha : Ev X a σ s x) (hb : Ev X b σ s y) : EvB X (.Compare a [.Gt] [b] pos) σ s (decide (y < x)) := eb_I0 op_gt rfl (nomark _) ha hb
theorem eb_ge {x y : Int} (ha : Ev X a σ s x) (hb : Ev X b σ s y) : EvB X (.Compare a [.GtE] [b] pos) σ s (decide (y ≤ x)) := eb_I0 op_ge rfl (nomark _) ha hb
class Eqs (α : Type) extends Flat α where
  sc : ∀ x y : α, scal (toV x) (toV y) = true
  ij : ∀ x y : α, toV x = toV y ↔ x = y
instance : Eqs Int := { sc := fun _ _ => rfl, ij := fun x y => by show V.int x = V.int y ↔ _; simp }
instance : Eqs Bool := { sc := fun _ _ => rfl, ij := fun x y => by show V.bl x = V.bl y ↔ _; simp }
instance : Eqs Str := { sc := fun _ _ => rfl, ij := fun x y => by show V.str x = V.str y ↔ _; simp }
theorem eb_eq {ε : Type} [Eqs ε] [DecidableEq ε] {x y : ε} (ha : Ev X a σ s x) (hb : Ev X b σ s y) : EvB X (.Compare a [.Eq] [b] pos) σ s (decide (x = y)) :=
  eb_cmp op_eq ha hb (fun v u s2 hv hu Q q => by
    rw [Flat.iff.mp hv, Flat.iff.mp hu]
    refine ⟨Eqs.sc x y, ?_⟩
    rw [show decide (toV x = toV y) = decide (x = y) from decide_eq_decide.mpr (Eqs.ij x y)]
    exact q) (nomark _)
theorem eb_ne {ε : Type} [Eqs ε] [DecidableEq ε] {x y : ε} (ha : Ev X a σ s x) (hb : Ev X b σ s y) : EvB X (.Compare a [.NotEq] [b] pos) σ s (!decide (x = y)) :=
  eb_cmp op_ne ha hb (fun v u s2 hv hu Q q => by
    rw [Flat.iff.mp hv, Flat.iff.mp hu]
    refine ⟨Eqs.sc x y, ?_⟩
    rw [show decide (toV x = toV y) = decide (x = y) from decide_eq_decide.mpr (Eqs.ij x y)]
    exact q) (nomark _)
theorem eb_isN {o : Type} [Opn o] {x : Option o} {j} (ha : Ev X a σ s x) : EvB X (.Compare a [.Is] [.Constant .none j p1] pos) σ s x.isNone :=
  eb_cmp op_isN ha ev_non (fun v u s2 hv hu Q q => by
    refine ⟨hu, ?_⟩
    have : decide (v = V.non) = x.isNone := by
      cases x with
      | none => cases (show v = V.non from hv); rfl
      | some y => exact decide_eq_false fun z => Opn.notNon (z ▸ (show rep X.K s2.F v y from hv))
    rw [this]; exact q) (nomark _)
theorem eb_notN {o : Type} [Opn o] {x : Option o} {j} (ha : Ev X a σ s x) : EvB X (.Compare a [.IsNot] [.Constant .none j p1] pos) σ s x.isSome :=
  eb_cmp op_notN ha ev_non (fun v u s2 hv hu Q q => by
    refine ⟨hu, ?_⟩
    have : (!decide (v = V.non)) = x.isSome := by
      cases x with
      | none => cases (show v = V.non from hv); rfl
      | some y => rw [decide_eq_false fun z => Opn.notNon (z ▸ (show rep X.K s2.F v y from hv))]; rfl
    rw [this]; exact q) (nomark _)
theorem eb_in {ε : Type} [Eqs ε] [DecidableEq ε] {x : ε} {xs : List ε} (ha : Ev X a σ s x) (hb : EvR X b σ s xs) (hm : behindInMarks .In b = false := by rfl) : EvB X (.Compare a [.In] [b] pos) σ s (decide (x ∈ xs)) :=
  eb_cmpR op_in_seq ha hb (fun v u s2 hv hu Q q => by
    obtain ⟨p, vs, rfl, h1, h2⟩ := hu
    rw [Flat.iff.mp hv]
    obtain rfl := h2.flat
    refine ⟨p, _, rfl, .inl h1, Flat.flat x, flat_all xs, ?_⟩
    rw [inV_flat]; exact q) hm
theorem eb_notIn {ε : Type} [Eqs ε] [DecidableEq ε] {x : ε} {xs : List ε} (ha : Ev X a σ s x) (hb : EvR X b σ s xs) (hm : behindInMarks .NotIn b = false := by rfl) : EvB X (.Compare a [.NotIn] [b] pos) σ s (!decide (x ∈ xs)) :=
  eb_cmpR op_notIn_seq ha hb (fun v u s2 hv hu Q q => by
    obtain ⟨p, vs, rfl, h1, h2⟩ := hu
    rw [Flat.iff.mp hv]
    obtain rfl := h2.flat
    refine ⟨p, _, rfl, .inl h1, Flat.flat x, flat_all xs, ?_⟩
    rw [inV_flat]; exact q) hm
theorem eb_inT {ε : Type} [Eqs ε] [DecidableEq ε] {x : ε} {xs : Tu ε} (ha : Ev X a σ s x) (hb : Ev X b σ s xs) (hm : behindInMarks .In b = false := by rfl) : EvB X (.Compare a [.In] [b] pos) σ s (decide (x ∈ xs.l)) :=
  eb_cmp op_in_seq ha hb (fun v u s2 hv hu Q q => by
    obtain ⟨p, vs, rfl, h1, h2⟩ := hu
    rw [Flat.iff.mp hv]
    obtain rfl := h2.flat
    refine ⟨p, _, rfl, .inr (sqt_mono s2.sub h1), Flat.flat x, flat_all xs.l, ?_⟩
    rw [inV_flat]; exact q) hm
theorem eb_notInT {ε : Type} [Eqs ε] [DecidableEq ε] {x : ε} {xs : Tu ε} (ha : Ev X a σ s x) (hb : Ev X b σ s xs) (hm : behindInMarks .NotIn b = false := by rfl) : EvB X (.Compare a [.NotIn] [b] pos) σ s (!decide (x ∈ xs.l)) :=
  eb_cmp op_notIn_seq ha hb (fun v u s2 hv hu Q q => by
    obtain ⟨p, vs, rfl, h1, h2⟩ := hu
    rw [Flat.iff.mp hv]
    obtain rfl := h2.flat
    refine ⟨p, _, rfl, .inr (sqt_mono s2.sub h1), Flat.flat x, flat_all xs.l, ?_⟩
    rw [inV_flat]; exact q) hm
def inS (x y : Str) : Bool := !(Builtin.Str.occurrences y x 0 y.length 1).isEmpty
theorem eb_inS {x y : Str} (ha : Ev X a σ s x) (hb : Ev X b σ s y) (hm : behindInMarks .In b = false := by rfl) : EvB X (.Compare a [.In] [b] pos) σ s (inS x y) :=
  eb_cmp op_in_str ha hb (fun v u s2 hv hu Q q => ⟨x, y, hv, hu, q⟩) hm
theorem eb_notInS {x y : Str} (ha : Ev X a σ s x) (hb : Ev X b σ s y) (hm : behindInMarks .NotIn b = false := by rfl) : EvB X (.Compare a [.NotIn] [b] pos) σ s (!inS x y) :=
  eb_cmp op_notIn_str ha hb (fun v u s2 hv hu Q q => ⟨x, y, hv, hu, q⟩) hm
theorem eb_chain {op op' : CmpOp} {g g' : Int → Int → V} {x y z : Int} {k1 k2 : Bool} (ho : OpR X (compareOp op) (rI0 g)) (hg : g x y = .bl k1) (ho' : OpR X (compareOp op') (rI0 g')) (hg' : g' y z = .bl k2) (ha : Ev X a σ s x) (hb : Ev X b σ s y) (hc : Ev X c σ s z)
    (hm : lastMarks [op, op'] [b, c] = false := by with_unfolding_all rfl) : EvB X (.Compare a [op, op'] [b, c] pos) σ s (k1 && k2) :=
  ⟨fun s1 k Q q => we_of (pe_chain ho ho' pe_we pe_we pe_we hm) (ha s1 k _ fun v s2 j2 r2 => hb s2 (k.trans j2) _ fun u s3 j3 r3 => ⟨x, y, r2, r3, k1, hg, by
    cases k1 with
    | true => exact iteT (hc s3 ((k.trans j2).trans j3) _ fun w s4 j4 r4 => ⟨y, z, r3, r4, by rw [hg']; exact q _ s4 ((j2.trans j3).trans j4) rfl⟩)
    | false => exact iteF (q _ s3 (j2.trans j3) rfl)⟩),
   fun s1 k Q q => wt_of (pt_chain ho ho' pe_we pe_we pe_we hm) (ha s1 k _ fun v s2 j2 r2 => hb s2 (k.trans j2) _ fun u s3 j3 r3 => ⟨x, y, r2, r3, k1, hg, by
    cases k1 with
    | true => exact iteT (hc s3 ((k.trans j2).trans j3) _ fun w s4 j4 r4 => ⟨y, z, r3, r4, by rw [hg']; exact ⟨_, rfl, q s4 ((j2.trans j3).trans j4)⟩⟩)
    | false => exact iteF ⟨_, rfl, q s3 (j2.trans j3)⟩⟩)⟩

theorem ea_nil : EvA X [] σ s () := fun s1 k Q q => wa_of pa_nil (q [] s1 (Ex.refl _) rfl)
theorem ea_cons {A : Type} [EncA A] {x : α} {r : A} (h : Ev X e σ s x) (hr : EvA X es σ s r) (hs : starEach (e :: es) X.env = (false, eval e X.env) :: starEach es X.env := by exact star_cons rfl) : EvA X (e :: es) σ s (x, r) := fun s1 k Q q =>
  wa_of (pa_cons pe_we pa_wa hs) (h s1 k _ fun v s2 k2 r2 => hr s2 (k.trans k2) _ fun vs s3 k3 r3 => q _ s3 (k2.trans k3) ⟨v, vs, rfl, Enc.mono k3.f r2, r3⟩)
theorem ev_B1 {id : String} {n : Str} {r : List V → Hp → VK → Prop} {x : β} {y : α} (hc : CallR X (.builtin id) r) (hg : Gl X n) (hm : X.mg n = none) (hv : bootBuiltins n = some (.builtin id)) (ha : Ev X e σ s x)
    (hr : ∀ (v : V) (s2 : S), rep X.K s2.F v x → ∀ Q : VK, (∀ w s3, Ex s2 s3 → rep X.K s3.F w y → Q w s3.H) → r [v] s2.H Q) (hn : n ≠ "__name__" := by decide) (hdb : (n == ("__debug__" : Str)) = false := by decide)
    (he : starEach [e] X.env = (false, eval e X.env) :: starEach [] X.env := by rfl) (hpl : (backTo pos (starEach [] X.env)).any (·.1) = false := by rfl) : Ev X (.Call (.Name n p0) [e] [] pos) σ s y := fun s1 k Q q =>
  we_of (pe_callB hc hg hm hv (pa_cons pe_we pa_nil he) hn hdb he hpl) (ha s1 k _ fun v s2 k2 r2 => hr v s2 r2 Q fun w s3 k3 r3 => q w s3 (k2.trans k3) r3)
theorem ev_BR {id : String} {n : Str} {r : List V → Hp → VK → Prop} {xs : List β} {y : α} (hc : CallR X (.builtin id) r) (hg : Gl X n) (hm : X.mg n = none) (hv : bootBuiltins n = some (.builtin id)) (ha : EvR X e σ s xs)
    (hr : ∀ (v : V) (s2 : S), RepR X.K s2 v xs → ∀ Q : VK, (∀ w s3, Ex s2 s3 → rep X.K s3.F w y → Q w s3.H) → r [v] s2.H Q) (hn : n ≠ "__name__" := by decide) (hdb : (n == ("__debug__" : Str)) = false := by decide)
    (he : starEach [e] X.env = (false, eval e X.env) :: starEach [] X.env := by rfl) (hpl : (backTo pos (starEach [] X.env)).any (·.1) = false := by rfl) : Ev X (.Call (.Name n p0) [e] [] pos) σ s y := fun s1 k Q q =>
  we_of (pe_callB hc hg hm hv (pa_cons pe_we pa_nil he) hn hdb he hpl) (ha s1 k _ fun v s2 k2 r2 => hr v s2 r2 Q fun w s3 k3 r3 => q w s3 (k2.trans k3) r3)
theorem ev_len {xs : List β} (hm : X.mg "len" = none) (ha : EvR X e σ s xs) (hg : Gl X "len" := by rfl) (he : starEach [e] X.env = (false, eval e X.env) :: starEach [] X.env := by rfl) (hpl : (backTo pos (starEach [] X.env)).any (·.1) = false := by rfl) : Ev X (.Call (.Name "len" p0) [e] [] pos) σ s (xs.length : Int) :=
  ev_BR call_len_seq hg hm boot_len ha (fun v s2 r2 Q q => by
    obtain ⟨p, vs, rfl, h1, h2⟩ := r2
    exact ⟨p, vs, rfl, .inl h1, q _ s2 (Ex.refl _) (by rw [h2.len]; rfl)⟩) (he := he) (hpl := hpl)
theorem ev_lenT {xs : Tu β} (hm : X.mg "len" = none) (ha : Ev X e σ s xs) (hg : Gl X "len" := by rfl) (he : starEach [e] X.env = (false, eval e X.env) :: starEach [] X.env := by rfl) (hpl : (backTo pos (starEach [] X.env)).any (·.1) = false := by rfl) : Ev X (.Call (.Name "len" p0) [e] [] pos) σ s (xs.l.length : Int) :=
  ev_B1 call_len_seq hg hm boot_len ha (fun v s2 r2 Q q => by
    obtain ⟨p, vs, rfl, h1, h2⟩ := r2
    exact ⟨p, vs, rfl, .inr (sqt_mono s2.sub h1), q _ s2 (Ex.refl _) (by rw [h2.len]; rfl)⟩) (he := he) (hpl := hpl)
theorem ev_lenS {x : Str} (hm : X.mg "len" = none) (hz : x.length ≤ sizeLine) (ha : Ev X e σ s x) (hg : Gl X "len" := by rfl) (he : starEach [e] X.env = (false, eval e X.env) :: starEach [] X.env := by rfl) (hpl : (backTo pos (starEach [] X.env)).any (·.1) = false := by rfl) : Ev X (.Call (.Name "len" p0) [e] [] pos) σ s (x.length : Int) :=
  ev_B1 call_len_str hg hm boot_len ha (fun v s2 r2 Q q => ⟨x, by rw [show v = V.str x from r2], hz, q _ s2 (Ex.refl _) rfl⟩) (he := he) (hpl := hpl)
theorem ev_sum {xs : List Int} (hm : X.mg "sum" = none) (ha : EvR X e σ s xs) (hc : X.calm = true := by rfl) (hg : Gl X "sum" := by rfl) (he : starEach [e] X.env = (false, eval e X.env) :: starEach [] X.env := by rfl) (hpl : (backTo pos (starEach [] X.env)).any (·.1) = false := by rfl) : Ev X (.Call (.Name "sum" p0) [e] [] pos) σ s xs.sum :=
  ev_BR (cr_sum hc) hg hm (by decide +kernel) ha (fun v s2 r2 Q q => by
    obtain ⟨p, vs, rfl, h1, h2⟩ := r2
    rw [h2.flat] at h1
    exact ⟨p, xs, rfl, h1, q _ s2 (Ex.refl _) rfl⟩) (he := he) (hpl := hpl)
theorem ev_all {xs : List Bool} (hm : X.mg "all" = none) (ha : EvR X e σ s xs) (hc : X.calm = true := by rfl) (hg : Gl X "all" := by rfl) (he : starEach [e] X.env = (false, eval e X.env) :: starEach [] X.env := by rfl) (hpl : (backTo pos (starEach [] X.env)).any (·.1) = false := by rfl) : Ev X (.Call (.Name "all" p0) [e] [] pos) σ s (xs.all id) :=
  ev_BR (cr_all hc) hg hm (by decide +kernel) ha (fun v s2 r2 Q q => by
    obtain ⟨p, vs, rfl, h1, h2⟩ := r2
    rw [h2.flat] at h1
    exact ⟨p, xs, rfl, h1, q _ s2 (Ex.refl _) rfl⟩) (he := he) (hpl := hpl)
theorem ev_any {xs : List Bool} (hm : X.mg "any" = none) (ha : EvR X e σ s xs) (hc : X.calm = true := by rfl) (hg : Gl X "any" := by rfl) (he : starEach [e] X.env = (false, eval e X.env) :: starEach [] X.env := by rfl) (hpl : (backTo pos (starEach [] X.env)).any (·.1) = false := by rfl) : Ev X (.Call (.Name "any" p0) [e] [] pos) σ s (xs.any id) :=
  ev_BR (cr_any hc) hg hm (by decide +kernel) ha (fun v s2 r2 Q q => by
    obtain ⟨p, vs, rfl, h1, h2⟩ := r2
    rw [h2.flat] at h1
    exact ⟨p, xs, rfl, h1, q _ s2 (Ex.refl _) rfl⟩) (he := he) (hpl := hpl)
def minL : List Int → Option Int
  | [] => none
  | x :: xs => some (xs.foldl min x)
def maxL : List Int → Option Int
  | [] => none
  | x :: xs => some (xs.foldl max x)
theorem foldl_min (xs : List Int) : ∀ x : Int, (xs.foldl min x ∈ x :: xs) ∧ ∀ y ∈ x :: xs, xs.foldl min x ≤ y := by
  induction xs with
  | nil => intro x; exact ⟨by simp, fun y hy => by simp at hy; simp [hy]⟩
  | cons a r ih =>
    intro x
    obtain ⟨h1, h2⟩ := ih (min x a)
    refine ⟨?_, fun y hy => ?_⟩
    · rw [List.foldl_cons]
      rcases List.mem_cons.mp h1 with h | h
      · rw [h]
        by_cases hx : x ≤ a
        · rw [Int.min_eq_left hx]; exact List.mem_cons_self
        · rw [Int.min_eq_right (by omega)]; exact List.mem_cons_of_mem _ List.mem_cons_self
      · exact List.mem_cons_of_mem _ (List.mem_cons_of_mem _ h)
    · rw [List.foldl_cons]
      have h3 := h2 (min x a) List.mem_cons_self
      rcases List.mem_cons.mp hy with rfl | hy
      · exact Int.le_trans h3 (Int.min_le_left _ _)
      · rcases List.mem_cons.mp hy with rfl | hy
        · exact Int.le_trans h3 (Int.min_le_right _ _)
        · exact h2 y (List.mem_cons_of_mem _ hy)
theorem foldl_max (xs : List Int) : ∀ x : Int, (xs.foldl max x ∈ x :: xs) ∧ ∀ y ∈ x :: xs, y ≤ xs.foldl max x := by
  induction xs with
  | nil => intro x; exact ⟨by simp, fun y hy => by simp at hy; simp [hy]⟩
  | cons a r ih =>
    intro x
    obtain ⟨h1, h2⟩ := ih (max x a)
    refine ⟨?_, fun y hy => ?_⟩
    · rw [List.foldl_cons]
      rcases List.mem_cons.mp h1 with h | h
      · rw [h]
        by_cases hx : a ≤ x
        · rw [Int.max_eq_left hx]; exact List.mem_cons_self
        · rw [Int.max_eq_right (by omega)]; exact List.mem_cons_of_mem _ List.mem_cons_self
      · exact List.mem_cons_of_mem _ (List.mem_cons_of_mem _ h)
    · rw [List.foldl_cons]
      have h3 := h2 (max x a) List.mem_cons_self
      rcases List.mem_cons.mp hy with rfl | hy
      · exact Int.le_trans (Int.le_max_left _ _) h3
      · rcases List.mem_cons.mp hy with rfl | hy
        · exact Int.le_trans (Int.le_max_right _ _) h3
        · exact h2 y (List.mem_cons_of_mem _ hy)
theorem minL_of {xs : List Int} {m : Int} (h1 : m ∈ xs) (h2 : ∀ y ∈ xs, m ≤ y) : minL xs = some m := by
  cases xs with
  | nil => simp at h1
  | cons x r =>
    obtain ⟨h3, h4⟩ := foldl_min r x
    exact congrArg some (Int.le_antisymm (h4 m h1) (h2 _ h3))
theorem maxL_of {xs : List Int} {m : Int} (h1 : m ∈ xs) (h2 : ∀ y ∈ xs, y ≤ m) : maxL xs = some m := by
  cases xs with
  | nil => simp at h1
  | cons x r =>
    obtain ⟨h3, h4⟩ := foldl_max r x
    exact congrArg some (Int.le_antisymm (h2 _ h3) (h4 m h1))
theorem ev_min {xs : List Int} {m : Int} (hm : X.mg "min" = none) (ha : EvR X e σ s xs) (h : minL xs = some m) (hc : X.calm = true := by rfl) (hg : Gl X "min" := by rfl) (he : starEach [e] X.env = (false, eval e X.env) :: starEach [] X.env := by rfl) (hpl : (backTo pos (starEach [] X.env)).any (·.1) = false := by rfl) : Ev X (.Call (.Name "min" p0) [e] [] pos) σ s m :=
  ev_BR (cr_min hc) hg hm (by decide +kernel) ha (fun v s2 r2 Q q => by
    obtain ⟨p, vs, rfl, h1, h2⟩ := r2
    rw [h2.flat] at h1
    refine ⟨p, xs, rfl, h1, ?_, fun z hz1 hz2 => ?_⟩
    · cases xs with
      | nil => cases h
      | cons _ _ => exact Nat.succ_pos _
    · rw [minL_of hz1 hz2] at h
      cases h
      exact q _ s2 (Ex.refl _) rfl) (he := he) (hpl := hpl)
theorem ev_max {xs : List Int} {m : Int} (hm : X.mg "max" = none) (ha : EvR X e σ s xs) (h : maxL xs = some m) (hc : X.calm = true := by rfl) (hg : Gl X "max" := by rfl) (he : starEach [e] X.env = (false, eval e X.env) :: starEach [] X.env := by rfl) (hpl : (backTo pos (starEach [] X.env)).any (·.1) = false := by rfl) : Ev X (.Call (.Name "max" p0) [e] [] pos) σ s m :=
  ev_BR (cr_max hc) hg hm (by decide +kernel) ha (fun v s2 r2 Q q => by
    obtain ⟨p, vs, rfl, h1, h2⟩ := r2
    rw [h2.flat] at h1
    refine ⟨p, xs, rfl, h1, ?_, fun z hz1 hz2 => ?_⟩
    · cases xs with
      | nil => cases h
      | cons _ _ => exact Nat.succ_pos _
    · rw [maxL_of hz1 hz2] at h
      cases h
      exact q _ s2 (Ex.refl _) rfl) (he := he) (hpl := hpl)
theorem ev_min2 {x y : Int} (hm : X.mg "min" = none) (ha : Ev X a σ s x) (hb : Ev X b σ s y) (hc : X.calm = true := by rfl) (hg : Gl X "min" := by rfl) (he : starEach [a, b] X.env = (false, eval a X.env) :: starEach [b] X.env := by rfl) (he2 : starEach [b] X.env = (false, eval b X.env) :: starEach [] X.env := by rfl) (hpl : (backTo pos (starEach [b] X.env)).any (·.1) = false := by rfl) : Ev X (.Call (.Name "min" p0) [a, b] [] pos) σ s (min x y) := fun s1 k Q q =>
  we_of (pe_callB (call_min2 hc) hg hm (by decide +kernel) (pa_cons pe_we (pa_cons pe_we pa_nil he2) he) (he := he) (hpl := hpl)) (ha s1 k _ fun v s2 k2 r2 => hb s2 (k.trans k2) _ fun u s3 k3 r3 =>
    ⟨x, y, by rw [show v = V.int x from r2, show u = V.int y from r3], q _ s3 (k2.trans k3) (by
      show V.int _ = V.int _
      by_cases h : y < x
      · rw [if_pos h, Int.min_eq_right (by omega)]
      · rw [if_neg h, Int.min_eq_left (by omega)])⟩)
theorem ev_max2 {x y : Int} (hm : X.mg "max" = none) (ha : Ev X a σ s x) (hb : Ev X b σ s y) (hc : X.calm = true := by rfl) (hg : Gl X "max" := by rfl) (he : starEach [a, b] X.env = (false, eval a X.env) :: starEach [b] X.env := by rfl) (he2 : starEach [b] X.env = (false, eval b X.env) :: starEach [] X.env := by rfl) (hpl : (backTo pos (starEach [b] X.env)).any (·.1) = false := by rfl) : Ev X (.Call (.Name "max" p0) [a, b] [] pos) σ s (max x y) := fun s1 k Q q =>
  we_of (pe_callB (call_max2 hc) hg hm (by decide +kernel) (pa_cons pe_we (pa_cons pe_we pa_nil he2) he) (he := he) (hpl := hpl)) (ha s1 k _ fun v s2 k2 r2 => hb s2 (k.trans k2) _ fun u s3 k3 r3 =>
    ⟨x, y, by rw [show v = V.int x from r2, show u = V.int y from r3], q _ s3 (k2.trans k3) (by
      show V.int _ = V.int _
      by_cases h : y > x
      · rw [if_pos h, Int.max_eq_right (by omega)]
      · rw [if_neg h, Int.max_eq_left (by omega)])⟩)
theorem ev_T1 {T : String} {n : Str} {r : List V → Hp → VK → Prop} {x : β} {y : α} (hc : CallR X (.type T) r) (hg : Gl X n) (hm : X.mg n = none) (hv : bootBuiltins n = some (.type T)) (ha : Ev X e σ s x)
    (hr : ∀ (v : V) (s2 : S), rep X.K s2.F v x → ∀ Q : VK, (∀ w s3, Ex s2 s3 → rep X.K s3.F w y → Q w s3.H) → r [v] s2.H Q) (hn : n ≠ "__name__" := by decide) (hdb : (n == ("__debug__" : Str)) = false := by decide)
    (he : starEach [e] X.env = (false, eval e X.env) :: starEach [] X.env := by rfl) (hpl : (backTo pos (starEach [] X.env)).any (·.1) = false := by rfl) : Ev X (.Call (.Name n p0) [e] [] pos) σ s y := fun s1 k Q q =>
  we_of (pe_callTy hc hg hm hv (pa_cons pe_we pa_nil he) hn hdb he hpl) (ha s1 k _ fun v s2 k2 r2 => hr v s2 r2 Q fun w s3 k3 r3 => q w s3 (k2.trans k3) r3)
theorem ev_intB {x : Bool} (hm : X.mg "int" = none) (ha : Ev X e σ s x) (hg : Gl X "int" := by rfl) (he : starEach [e] X.env = (false, eval e X.env) :: starEach [] X.env := by rfl) (hpl : (backTo pos (starEach [] X.env)).any (·.1) = false := by rfl) : Ev X (.Call (.Name "int" p0) [e] [] pos) σ s (if x = true then (1 : Int) else 0) :=
  ev_T1 call_int1 hg hm (by decide +kernel) ha (fun v s2 r2 Q q => .inr ⟨x, by rw [show v = V.bl x from r2], q _ s2 (Ex.refl _) rfl⟩) (he := he) (hpl := hpl)
theorem ev_intS {x : Str} {n : Int} (hm : X.mg "int" = none) (ha : Ev X e σ s x) (h : PySem.intText? x = some n) (hl : x.length ≤ 640) (hg : Gl X "int" := by rfl) (he : starEach [e] X.env = (false, eval e X.env) :: starEach [] X.env := by rfl) (hpl : (backTo pos (starEach [] X.env)).any (·.1) = false := by rfl) : Ev X (.Call (.Name "int" p0) [e] [] pos) σ s n :=
  ev_T1 call_int_str hg hm (by decide +kernel) ha (fun v s2 r2 Q q => ⟨x, n, by rw [show v = V.str x from r2], h, hl, q _ s2 (Ex.refl _) rfl⟩) (he := he) (hpl := hpl)
theorem ev_strI {x : Int} (hm : X.mg "str" = none) (h : x.natAbs.log2 < 1920) (ha : Ev X e σ s x) (hg : Gl X "str" := by rfl) (he : starEach [e] X.env = (false, eval e X.env) :: starEach [] X.env := by rfl) (hpl : (backTo pos (starEach [] X.env)).any (·.1) = false := by rfl) : Ev X (.Call (.Name "str" p0) [e] [] pos) σ s (toString x : Str) :=
  ev_T1 call_str_int hg hm (by decide +kernel) ha (fun v s2 r2 Q q => ⟨x, by rw [show v = V.int x from r2], h, q _ s2 (Ex.refl _) rfl⟩) (he := he) (hpl := hpl)
end
end Dy

namespace Dy
open PySem PySem.Spec L2
open PyProof.Rows hiding St
open Enc (rep)
open Flat (toV)
open EncA (repA)

section
variable {α β γ δ ζ : Type} [Enc α] [Enc β] [Enc γ] [Enc δ] [Enc ζ] {X : Cx} {σ : St} {s t : S} {e a b c : Expr} {es : List Expr} {pos p0 p1 p2 p3 : Pos}

def EvE (X : Cx) (es : List Expr) (σ : St) (s : S) (xs : List α) : Prop := ∀ s1, Ex s s1 → ∀ Q : List V → Hp → Prop, (∀ vs s2, Ex s1 s2 → Reps X.K s2.F vs xs → Q vs s2.H) → WA X es σ s1.H Q
theorem ee_nil : EvE X [] σ s ([] : List α) := fun s1 k Q q => wa_of pa_nil (q [] s1 (Ex.refl _) trivial)
theorem ee_cons {x : α} {xs : List α} (h : Ev X e σ s x) (hr : EvE X es σ s xs) (hs : starEach (e :: es) X.env = (false, eval e X.env) :: starEach es X.env := by exact star_cons rfl) : EvE X (e :: es) σ s (x :: xs) := fun s1 k Q q =>
  wa_of (pa_cons pe_we pa_wa hs) (h s1 k _ fun v s2 k2 r2 => hr s2 (k.trans k2) _ fun vs s3 k3 r3 => q _ s3 (k2.trans k3) ⟨Enc.mono k3.f r2, r3⟩)
theorem own_new {K : PySem.W.Frag} {p : Addr} {vs : List V} {xs : List α} (h : s.H p = none) (r : Reps K s.F vs xs) : Own K (s.newO p (.lst vs) h) p xs := ⟨(fF h : s.F p = none), vs, upd_same, r⟩
theorem en_list {xs : List α} (h : EvE X es σ s xs) (hz : xs.length ≤ sizeLine := by decide) : EvN X (.List es pos) σ s xs := fun s1 k Q q =>
  we_of (pe_lst pa_wa) (h s1 k _ fun vs s2 k2 r2 => ⟨by rw [r2.len]; exact hz, fun p hp => q p (s2.newO p (.lst vs) hp) (k2.trans (Ex.newO hp)) (fr_back k2 hp) (own_new hp r2)⟩)
theorem tup_new {K : PySem.W.Frag} {p : Addr} {vs : List V} (h : s.H p = none) : SqT K (s.newF p (.tup vs) h).F p vs := .inl (.inl upd_same)
theorem ev_tu {xs : List α} (h : EvE X es σ s xs) (hz : xs.length ≤ sizeLine := by decide) {n} : Ev X (.Tuple es n pos) σ s (⟨xs⟩ : Tu α) := fun s1 k Q q =>
  we_of (pe_tup pa_wa) (h s1 k _ fun vs s2 k2 r2 => ⟨by rw [r2.len]; exact hz, fun p hp => q _ (s2.newF p (.tup vs) hp) (k2.trans (Ex.newF hp)) ⟨p, vs, rfl, tup_new hp, r2.mono (Ex.newF hp).f⟩⟩)
theorem ev_t1 {x : α} {n} (h : EvA X es σ s (x, ())) : Ev X (.Tuple es n pos) σ s (⟨x⟩ : T1 α) := fun s1 k Q q =>
  we_of (pe_tup pa_wa) (h s1 k _ fun vs s2 k2 r2 => by
    obtain ⟨v1, _, rfl, r1, rfl⟩ := r2
    refine ⟨show _ ≤ 2 ^ 24 by simp, fun p hp => q _ (s2.newF p _ hp) (k2.trans (Ex.newF hp)) ⟨p, v1, rfl, tup_new hp, Enc.mono (Ex.newF hp).f r1⟩⟩)
theorem ev_t2 {x : α} {y : β} {n} (h : EvA X es σ s (x, y, ())) : Ev X (.Tuple es n pos) σ s (x, y) := fun s1 k Q q =>
  we_of (pe_tup pa_wa) (h s1 k _ fun vs s2 k2 r2 => by
    obtain ⟨v1, _, rfl, r1, v2, _, rfl, r2, rfl⟩ := r2
    refine ⟨show _ ≤ 2 ^ 24 by simp, fun p hp => q _ (s2.newF p _ hp) (k2.trans (Ex.newF hp)) ⟨p, v1, v2, rfl, tup_new hp, Enc.mono (Ex.newF hp).f r1, Enc.mono (Ex.newF hp).f r2⟩⟩)
theorem ev_t3 {x : α} {y : β} {z : γ} {n} (h : EvA X es σ s (x, y, z, ())) : Ev X (.Tuple es n pos) σ s (⟨x, y, z⟩ : T3 α β γ) := fun s1 k Q q =>
  we_of (pe_tup pa_wa) (h s1 k _ fun vs s2 k2 r2 => by
    obtain ⟨v1, _, rfl, r1, v2, _, rfl, r2, v3, _, rfl, r3, rfl⟩ := r2
    refine ⟨show _ ≤ 2 ^ 24 by simp, fun p hp => q _ (s2.newF p _ hp) (k2.trans (Ex.newF hp)) ⟨p, v1, v2, v3, rfl, tup_new hp, Enc.mono (Ex.newF hp).f r1, Enc.mono (Ex.newF hp).f r2, Enc.mono (Ex.newF hp).f r3⟩⟩)
theorem ev_t4 {x : α} {y : β} {z : γ} {u : δ} {n} (h : EvA X es σ s (x, y, z, u, ())) : Ev X (.Tuple es n pos) σ s (⟨x, y, z, u⟩ : T4 α β γ δ) := fun s1 k Q q =>
  we_of (pe_tup pa_wa) (h s1 k _ fun vs s2 k2 r2 => by
    obtain ⟨v1, _, rfl, r1, v2, _, rfl, r2, v3, _, rfl, r3, v4, _, rfl, r4, rfl⟩ := r2
    refine ⟨show _ ≤ 2 ^ 24 by simp, fun p hp => q _ (s2.newF p _ hp) (k2.trans (Ex.newF hp)) ⟨p, v1, v2, v3, v4, rfl, tup_new hp, Enc.mono (Ex.newF hp).f r1, Enc.mono (Ex.newF hp).f r2, Enc.mono (Ex.newF hp).f r3, Enc.mono (Ex.newF hp).f r4⟩⟩)
theorem ev_t5 {x : α} {y : β} {z : γ} {u : δ} {w : ζ} {n} (h : EvA X es σ s (x, y, z, u, w, ())) : Ev X (.Tuple es n pos) σ s (⟨x, y, z, u, w⟩ : T5 α β γ δ ζ) := fun s1 k Q q =>
  we_of (pe_tup pa_wa) (h s1 k _ fun vs s2 k2 r2 => by
    obtain ⟨v1, _, rfl, r1, v2, _, rfl, r2, v3, _, rfl, r3, v4, _, rfl, r4, v5, _, rfl, r5, rfl⟩ := r2
    refine ⟨show _ ≤ 2 ^ 24 by simp, fun p hp => q _ (s2.newF p _ hp) (k2.trans (Ex.newF hp)) ⟨p, v1, v2, v3, v4, v5, rfl, tup_new hp, Enc.mono (Ex.newF hp).f r1, Enc.mono (Ex.newF hp).f r2, Enc.mono (Ex.newF hp).f r3, Enc.mono (Ex.newF hp).f r4, Enc.mono (Ex.newF hp).f r5⟩⟩)

theorem en_T1 {n : Str} {T : String} {r : List V → Hp → VK → Prop} {xs : List β} {ys : List α} (hc : CallR X (.type T) r) (hg : Gl X n) (hm : X.mg n = none) (hv : bootBuiltins n = some (.type T)) (ha : EvR X e σ s xs)
    (hr : ∀ (v : V) (s2 : S), RepR X.K s2 v xs → ∀ Q : VK, (∀ p s3, Ex s2 s3 → s2.H p = none → Own X.K s3 p ys → Q (.ref p) s3.H) → r [v] s2.H Q) (hn : n ≠ "__name__" := by decide) (hdb : (n == ("__debug__" : Str)) = false := by decide)
    (he : starEach [e] X.env = (false, eval e X.env) :: starEach [] X.env := by rfl) (hpl : (backTo pos (starEach [] X.env)).any (·.1) = false := by rfl) : EvN X (.Call (.Name n p0) [e] [] pos) σ s ys := fun s1 k Q q =>
  we_of (pe_callTy hc hg hm hv (pa_cons pe_we pa_nil he) hn hdb he hpl) (ha s1 k _ fun v s2 k2 r2 => hr v s2 r2 Q fun w s3 k3 n3 r3 => q w s3 (k2.trans k3) (fr_back k2 n3) r3)
theorem en_copy {xs : List α} (hm : X.mg "list" = none) (ha : EvR X e σ s xs) (hg : Gl X "list" := by rfl) (he : starEach [e] X.env = (false, eval e X.env) :: starEach [] X.env := by rfl) (hpl : (backTo pos (starEach [] X.env)).any (·.1) = false := by rfl) : EvN X (.Call (.Name "list" p0) [e] [] pos) σ s xs :=
  en_T1 call_list_of hg hm (by decide +kernel) ha (fun v s2 r2 Q q => by
    obtain ⟨p, vs, rfl, h1, h2⟩ := r2
    exact ⟨p, vs, rfl, .inl h1, fun l hl => q l (s2.newO l _ hl) (Ex.newO hl) hl (own_new hl h2)⟩) (he := he) (hpl := hpl)
theorem en_copyT {xs : Tu α} (hm : X.mg "list" = none) (ha : Ev X e σ s xs) (hg : Gl X "list" := by rfl) (he : starEach [e] X.env = (false, eval e X.env) :: starEach [] X.env := by rfl) (hpl : (backTo pos (starEach [] X.env)).any (·.1) = false := by rfl) : EvN X (.Call (.Name "list" p0) [e] [] pos) σ s xs.l := fun s1 k Q q =>
  we_of (pe_callTy call_list_of hg hm (by decide +kernel) (pa_cons pe_we pa_nil he) (he := he) (hpl := hpl)) (ha s1 k _ fun v s2 k2 r2 => by
    obtain ⟨p, vs, rfl, h1, h2⟩ := r2
    exact ⟨p, vs, rfl, .inr (sqt_mono s2.sub h1), fun l hl => q l (s2.newO l _ hl) (k2.trans (Ex.newO hl)) (fr_back k2 hl) (own_new hl h2)⟩)
theorem ev_tuple {xs : List α} (hm : X.mg "tuple" = none) (ha : EvR X e σ s xs) (hg : Gl X "tuple" := by rfl) (he : starEach [e] X.env = (false, eval e X.env) :: starEach [] X.env := by rfl) (hpl : (backTo pos (starEach [] X.env)).any (·.1) = false := by rfl) : Ev X (.Call (.Name "tuple" p0) [e] [] pos) σ s (⟨xs⟩ : Tu α) := fun s1 k Q q =>
  we_of (pe_callTy call_tuple_of hg hm (by decide +kernel) (pa_cons pe_we pa_nil he) (he := he) (hpl := hpl)) (ha s1 k _ fun v s2 k2 r2 => by
    obtain ⟨p, vs, rfl, h1, h2⟩ := r2
    exact ⟨p, vs, rfl, .inl ⟨h1, fun l hl => q _ (s2.newF l _ hl) (k2.trans (Ex.newF hl)) ⟨l, vs, rfl, tup_new hl, h2.mono (Ex.newF hl).f⟩⟩⟩)
theorem ev_tupleT {xs : Tu α} (hm : X.mg "tuple" = none) (ha : Ev X e σ s xs) (hg : Gl X "tuple" := by rfl) (he : starEach [e] X.env = (false, eval e X.env) :: starEach [] X.env := by rfl) (hpl : (backTo pos (starEach [] X.env)).any (·.1) = false := by rfl) : Ev X (.Call (.Name "tuple" p0) [e] [] pos) σ s xs := fun s1 k Q q =>
  we_of (pe_callTy call_tuple_of hg hm (by decide +kernel) (pa_cons pe_we pa_nil he) (he := he) (hpl := hpl)) (ha s1 k _ fun v s2 k2 r2 => by
    obtain ⟨p, vs, rfl, h1, h2⟩ := r2
    exact ⟨p, vs, rfl, .inr ⟨sqt_mono s2.sub h1, q _ s2 k2 ⟨p, vs, rfl, h1, h2⟩⟩⟩)
def rng (a b : Int) : List Int := (List.range (b - a).toNat).map fun i : Nat => a + (i : Int)
theorem rgV_rng (a b : Int) : rgV a b = (rng a b).map V.int := by
  unfold rgV rng
  rw [List.map_map]; rfl
theorem en_listRg1 {n : Int} (hm : X.mg "list" = none) (hr : X.mg "range" = none) (ha : Ev X e σ s n) (hz : RgOk 0 n) (hc : X.calm = true := by rfl) (hg : Gl X "list" := by rfl) (hgr : Gl X "range" := by rfl)
    (he : starEach [e] X.env = (false, eval e X.env) :: starEach [] X.env := by rfl) (he2 : starEach [.Call (.Name "range" p1) [e] [] p2] X.env = (false, eval (.Call (.Name "range" p1) [e] [] p2) X.env) :: starEach [] X.env := by rfl) :
    EvN X (.Call (.Name "list" p0) [.Call (.Name "range" p1) [e] [] p2] [] pos) σ s (rng 0 n) := fun s1 k Q q =>
  we_of (pe_listRg hc hg hm (prg_1 hgr hr pe_we he) he2) (ha s1 k _ fun v s2 k2 r2 => ⟨n, r2, hz, fun l hl => q l (s2.newO l _ hl) (k2.trans (Ex.newO hl)) (fr_back k2 hl) (own_new hl (by rw [rgV_rng]; exact Reps.of_flat _))⟩)
theorem en_listRg2 {m n : Int} (hm : X.mg "list" = none) (hr : X.mg "range" = none) (ha : Ev X a σ s m) (hb : Ev X b σ s n) (hz : RgOk m n) (hc : X.calm = true := by rfl) (hg : Gl X "list" := by rfl) (hgr : Gl X "range" := by rfl)
    (he : starEach [a, b] X.env = (false, eval a X.env) :: starEach [b] X.env := by rfl) (heb : starEach [b] X.env = (false, eval b X.env) :: starEach [] X.env := by rfl) (hpl : (backTo p2 (starEach [b] X.env)).any (·.1) = false := by rfl)
    (he2 : starEach [.Call (.Name "range" p1) [a, b] [] p2] X.env = (false, eval (.Call (.Name "range" p1) [a, b] [] p2) X.env) :: starEach [] X.env := by rfl) :
    EvN X (.Call (.Name "list" p0) [.Call (.Name "range" p1) [a, b] [] p2] [] pos) σ s (rng m n) := fun s1 k Q q =>
  we_of (pe_listRg hc hg hm (prg_2 hgr hr pe_we pe_we he heb hpl) he2) (ha s1 k _ fun v s2 k2 r2 => hb s2 (k.trans k2) _ fun u s3 k3 r3 => ⟨m, n, r2, r3, hz, fun l hl => q l (s3.newO l _ hl) ((k2.trans k3).trans (Ex.newO hl)) (fr_back (k2.trans k3) hl) (own_new hl (by rw [rgV_rng]; exact Reps.of_flat _))⟩)
def cut {τ : Type} (xs : List τ) (lo hi : Option Int) : List τ := (xs.drop (HT.sIx xs.length 0 lo)).take (HT.sIx xs.length xs.length hi - HT.sIx xs.length 0 lo)
theorem Reps.cut {K : PySem.W.Frag} {F : Hp} {vs : List V} {xs : List α} (r : Reps K F vs xs) (lo hi : Option Int) : Reps K F (cutV vs lo hi) (Dy.cut xs lo hi) := by
  unfold cutV Dy.cut
  rw [r.len]
  exact (r.drop _).take _
def EvO (X : Cx) (o : Option Expr) (σ : St) (s : S) (x : Option Int) : Prop := match o, x with
  | none, none => True
  | some e, some i => Ev X e σ s i
  | _, _ => False
theorem po_evo {o : Option Expr} {x : Option Int} (h : EvO X o σ s x) : ∃ t, PO X o t ∧ ∀ s1, Ex s s1 → ∀ Q : Option Int → Hp → Prop, (∀ s2, Ex s1 s2 → Q x s2.H) → t σ s1.H Q := by
  cases o with
  | none =>
    cases x with
    | none => exact ⟨_, po_none, fun s1 k Q q => q s1 (Ex.refl _)⟩
    | some i => exact h.elim
  | some e =>
    cases x with
    | none => exact h.elim
    | some i => exact ⟨_, po_some pe_we, fun s1 k Q q => (show Ev X e σ s i from h) s1 k _ fun v s2 k2 r2 => ⟨i, r2, q s2 k2⟩⟩
theorem eo_none : EvO X none σ s none := trivial
theorem eo_some {i : Int} (h : Ev X e σ s i) : EvO X (some e) σ s (some i) := h
theorem en_slice {xs : List α} {lo hi : Option Expr} {l h : Option Int} (ha : EvR X a σ s xs) (hl : EvO X lo σ s l) (hh : EvO X hi σ s h) : EvN X (.Subscript a (.Slice lo hi none p2) pos) σ s (cut xs l h) := fun s1 k Q q => by
  obtain ⟨tl, pl, ql⟩ := po_evo hl
  obtain ⟨th, ph, qh⟩ := po_evo hh
  refine we_of (pe_slice sl_list pe_we pl ph) (ha s1 k _ fun v s2 k2 r2 => ql s2 (k.trans k2) _ fun s3 k3 => qh s3 ((k.trans k2).trans k3) _ fun s4 k4 => ?_)
  obtain ⟨p, vs, rfl, h1, h2⟩ := (r2.ex k3).ex k4
  exact ⟨p, vs, rfl, h1, fun l hl => q l (s4.newO l _ hl) (((k2.trans k3).trans k4).trans (Ex.newO hl)) (fr_back ((k2.trans k3).trans k4) hl) (own_new hl (h2.cut _ _))⟩
theorem ev_sliceS {x : Str} {lo hi : Option Expr} {l h : Option Int} (hz : x.length ≤ sizeLine) (ha : Ev X a σ s x) (hl : EvO X lo σ s l) (hh : EvO X hi σ s h) : Ev X (.Subscript a (.Slice lo hi none p2) pos) σ s (cutS x l h) := fun s1 k Q q => by
  obtain ⟨tl, pl, ql⟩ := po_evo hl
  obtain ⟨th, ph, qh⟩ := po_evo hh
  exact we_of (pe_slice sl_str pe_we pl ph) (ha s1 k _ fun v s2 k2 r2 => ql s2 (k.trans k2) _ fun s3 k3 => qh s3 ((k.trans k2).trans k3) _ fun s4 k4 => ⟨x, r2, hz, q _ s4 ((k2.trans k3).trans k4) rfl⟩)
theorem op_catS : OpR X (binaryOp .Add) (fun x y H Q => ∃ l b xs zs, x = .ref l ∧ y = .ref b ∧ SqL X.K H l xs ∧ SqL X.K H b zs ∧ xs.length + zs.length ≤ sizeLine ∧ ∀ p, H p = none → Q (.ref p) (upd H p (.lst (xs ++ zs)))) := by
  intro pins s σ H x y v u Q I rx ry h
  obtain ⟨l, b, xs, zs, rfl, rfl, hH, hB, hz, q⟩ := h
  cases rx
  cases ry
  obtain ⟨its, r, ⟨⟨cls, dd, data, sl⟩, n, ho, hc, hd0, hd⟩, z1⟩ := I.list hH
  obtain ⟨its2, r2, ⟨⟨cls2, dd2, data2, sl2⟩, n2, ho2, hc2, hd02, hd2⟩, z2⟩ := I.list hB
  simp only at hc hd hc2 hd2 hd0 hd02
  subst hc hd hc2 hd2 hd0 hd02
  have e : its.toArray ++ its2.toArray = (its ++ its2).toArray := by simp
  have h1 := r.length
  have h2 := r2.length
  refine concat_meets ⟨_, ho, rfl⟩ ⟨_, ho2, rfl⟩ noFill_list_add seq_list_add PySem.F.slot_list_add PySem.F.entry_list_add (PySem.F.args_list_add_2 _ _) (list_addW l b its.toArray its2.toArray n n2 none none sl sl2 (by rw [List.size_toArray, List.size_toArray]; omega)) ⟨ho, ho2, ?_⟩
  rw [e]
  exact ⟨.ref _, _, I.lnew (t' := s.toks) (r.append r2) (by rw [List.length_append]; omega), rfl, q _ I.fresh⟩
theorem en_cat {xs ys : List α} (ha : EvR X a σ s xs) (hb : EvR X b σ s ys) (hz : xs.length + ys.length ≤ sizeLine) : EvN X (.BinOp a .Add b pos) σ s (xs ++ ys) := fun s1 k Q q =>
  we_of (pe_op op_catS pe_we pe_we) (ha s1 k _ fun v s2 k2 r2 => hb s2 (k.trans k2) _ fun u s3 k3 r3 => by
    obtain ⟨p, vs, rfl, h1, h2⟩ := r2.ex k3
    obtain ⟨p', ws, rfl, h3, h4⟩ := r3
    exact ⟨p, p', vs, ws, rfl, rfl, h1, h3, by rw [h2.len, h4.len]; exact hz, fun l hl => q l (s3.newO l _ hl) ((k2.trans k3).trans (Ex.newO hl)) (fr_back (k2.trans k3) hl) (own_new hl (h2.app h4))⟩)
def repl {τ : Type} (n : Int) (xs : List τ) : List τ := (List.replicate n.toNat xs).flatten
theorem Reps.repF {K : PySem.W.Frag} {F : Hp} {vs : List V} {xs : List α} (r : Reps K F vs xs) (n : Nat) : Reps K F (List.replicate n vs).flatten (List.replicate n xs).flatten := by
  induction n with
  | zero => exact trivial
  | succ n ih => rw [List.replicate_succ, List.replicate_succ, List.flatten_cons, List.flatten_cons]; exact r.app ih
def RepOk (n : Int) (l : Nat) : Prop := -(2 ^ 63) ≤ n ∧ n < 2 ^ 63 ∧ l * n.toNat ≤ sizeLine
theorem en_rep {xs : List α} {n : Int} (ha : EvN X a σ s xs) (hb : ∀ t, Ex s t → Ev X b σ t n) (hz : RepOk n xs.length) : EvN X (.BinOp a .Mult b pos) σ s (repl n xs) := fun s1 k Q q =>
  we_of (pe_op op_rep pe_we pe_we) (ha s1 k _ fun p s2 k2 n2 o2 => hb s2 (k.trans k2) s2 (Ex.refl _) _ fun u s3 k3 r3 => by
    obtain ⟨_, vs, h1, h2⟩ := o2.ex k3
    exact ⟨p, n, vs, rfl, r3, h1, hz.1, hz.2.1, by rw [h2.len]; exact hz.2.2, fun l hl => q l (s3.newO l _ hl) ((k2.trans k3).trans (Ex.newO hl)) (fr_back (k2.trans k3) hl) (own_new hl (h2.repF _))⟩)
theorem en_sorted {xs : List Int} (hm : X.mg "sorted" = none) (ha : EvR X e σ s xs) (hg : Gl X "sorted" := by rfl) (he : starEach [e] X.env = (false, eval e X.env) :: starEach [] X.env := by rfl) (hpl : (backTo pos (starEach [] X.env)).any (·.1) = false := by rfl) :
    EvN X (.Call (.Name "sorted" p0) [e] [] pos) σ s (xs.mergeSort (fun x y => decide (x ≤ y))) := fun s1 k Q q =>
  we_of (pe_callB cr_sortedI hg hm (by decide +kernel) (pa_cons pe_we pa_nil he) (he := he) (hpl := hpl)) (ha s1 k _ fun v s2 k2 r2 => by
    obtain ⟨p, vs, rfl, h1, h2⟩ := r2
    rw [h2.flat] at h1
    refine ⟨p, xs, rfl, h1, fun ys l hp hs hl => ?_⟩
    have e1 : ys = xs.mergeSort (fun x y => decide (x ≤ y)) := by
      refine List.Perm.eq_of_pairwise (le := fun x y : Int => x ≤ y) (fun a b _ _ h h' => Int.le_antisymm h h') hs ?_ (hp.trans (List.mergeSort_perm _ _).symm)
      have := List.pairwise_mergeSort (le := fun x y : Int => decide (x ≤ y)) (fun a b c h1 h2 => by simp at *; omega) (fun a b => by simp; omega) xs
      exact this.imp (by simp)
    subst e1
    exact q l (s2.newO l _ hl) (k2.trans (Ex.newO hl)) (fr_back k2 hl) (own_new hl (Reps.of_flat _)))
theorem en_split {x y : Str} (ha : Ev X a σ s x) (hb : Ev X b σ s y) (h1 : (y.length == 0) = false) (h2 : x.length + 2 ≤ sizeLine) (hs : starEach [b] X.env = [(false, eval b X.env)] := by rfl) (hbase : attributeBase a "split" X.env (eval a X.env) = eval a X.env := by rfl) (hline : (p1.endLine == pos.line) = true := by rfl) :
    EvN X (.Call (.Attribute a "split" p1) [b] [] pos) σ s (Txt.split x y) := fun s1 k Q q =>
  we_of (pe_split pe_we pe_we hs hbase hline) (ha s1 k _ fun v s2 k2 r2 => ⟨⟨x, r2⟩, hb s2 (k.trans k2) _ fun u s3 k3 r3 => ⟨x, y, r2, by rw [show u = V.str y from r3], h1, h2, fun l hl =>
    q l (s3.newO l _ hl) ((k2.trans k3).trans (Ex.newO hl)) (fr_back (k2.trans k3) hl) (own_new hl (Reps.of_flat _))⟩⟩)
def JnOk (x : Str) (ys : List Str) : Prop := (ys.map (·.length)).sum + ys.length * x.length ≤ 16777216
theorem ev_join {x : Str} {ys : List Str} (ha : Ev X a σ s x) (hb : EvR X b σ s ys) (h : JnOk x ys) (hs : starEach [b] X.env = [(false, eval b X.env)] := by rfl) (hbase : attributeBase a "join" X.env (eval a X.env) = eval a X.env := by rfl) (hline : (p1.endLine == pos.line) = true := by rfl) :
    Ev X (.Call (.Attribute a "join" p1) [b] [] pos) σ s (Txt.join x ys) := fun s1 k Q q =>
  we_of (pe_join pe_we pe_we hs hbase hline) (ha s1 k _ fun v s2 k2 r2 => ⟨⟨x, r2⟩, hb s2 (k.trans k2) _ fun u s3 k3 r3 => by
    obtain ⟨p, vs, rfl, h1, h2⟩ := r3
    obtain rfl := h2.flat
    exact ⟨x, p, ys, r2, rfl, .inl h1, h, q _ s3 (k2.trans k3) rfl⟩⟩)
def ixOf {τ : Type} [DecidableEq τ] (x : τ) : List τ → Option Nat
  | [] => none
  | y :: ys => if y = x then some 0 else (ixOf x ys).map (· + 1)
theorem ixOf_some {τ : Type} [DecidableEq τ] {x : τ} : ∀ {ys : List τ} {j : Nat}, ixOf x ys = some j → ys[j]? = some x ∧ ∀ m z, m < j → ys[m]? = some z → z ≠ x
  | [], _, h => by cases h
  | y :: ys, j, h => by
    unfold ixOf at h
    split at h
    · rename_i e; cases h; exact ⟨by simp [e], fun m z hm => absurd hm (Nat.not_lt_zero _)⟩
    · rename_i e
      obtain ⟨i, h1, rfl⟩ := Option.map_eq_some_iff.mp h
      obtain ⟨h2, h3⟩ := ixOf_some h1
      refine ⟨by simpa using h2, fun m z hm hz => ?_⟩
      cases m with
      | zero => simp at hz; subst hz; exact e
      | succ m => exact h3 m z (by omega) (by simpa using hz)
theorem ev_index {ε : Type} [Eqs ε] [DecidableEq ε] {x : ε} {xs : List ε} {j : Nat} (ha : EvR X a σ s xs) (hb : Ev X b σ s x) (h : ixOf x xs = some j)
    (hbase : attributeBase a "index" X.env (eval a X.env) = eval a X.env := by rfl)
    (hfew : ((backTo pos (starEach [b] X.env)).all (fun x => !x.1) && (backToKw pos (keywordEach [] X.env)).all (fun x => x.1.isSome) && decide (([b] : List Expr).length + ([] : List Keyword).length + (if ([] : List Keyword).isEmpty then 0 else 1) < 30)) = true := by rfl)
    (hline : (p1.endLine == pos.line) = true := by rfl) (hs : starEach [b] X.env = (false, eval b X.env) :: starEach [] X.env := by rfl) (hplain : (backTo pos (starEach [] X.env)).any (·.1) = false := by rfl) :
    Ev X (.Call (.Attribute a "index" p1) [b] [] pos) σ s (j : Int) := fun s1 k Q q =>
  we_of (pe_bm PySem.F.plainAttrs_list PySem.F.slot_list_index PySem.F.type_list_index mt_index pe_we (pa_cons pe_we pa_nil hs) hbase hfew hline hs hplain) (ha s1 k _ fun v s2 k2 r2 => by
    obtain ⟨p, vs, rfl, h1, h2⟩ := r2
    obtain rfl := h2.flat
    refine ⟨.inl ⟨rfl, _, h1⟩, hb s2 (k.trans k2) _ fun u s3 k3 r3 => ?_⟩
    rw [Flat.iff.mp r3]
    obtain ⟨h3, h4⟩ := ixOf_some h
    refine ⟨p, _, toV x, j, toV x, rfl, rfl, sql_mono k3.h h1, Flat.flat x, flat_all xs, by rw [List.getElem?_map, h3]; rfl, (Flat.inj x x).mpr rfl, fun m z hm hz => ?_, q _ s3 (k2.trans k3) rfl⟩
    rw [List.getElem?_map] at hz
    obtain ⟨y, h5, rfl⟩ := Option.map_eq_some_iff.mp hz
    exact Bool.eq_false_iff.mpr fun z => h4 m y hm h5 ((Flat.inj y x).mp z))

structure Cal (P : Program) (w : World) (K : PySem.W.Frag) (mg : Str → Option Value) (base : Heap) (CX : CXT) (k : Nat) (x : Str) (q : Sp) : Prop where
  ex : ∃ (f : Addr) (fd : FuncData) (ps : List Str), FnOk P w K mg base CX k f fd ps q ∧ mg x = some (.ref f) ∧ PySem.W.keepIn K (.ref f) = true ∧ Binds K fd ps []
theorem pe_c0 {n : Str} {k j : Nat} {q : Sp} {ta : TA} (C : Cal X.prog X.w X.K X.mg X.base CX0 k n q) (hr : Room j X.A) (hk : k ≤ j) (hg : Gl X n) (ha : PA X (e :: es) ta) (hdb : (n == ("__debug__" : Str)) = false := by decide)
    (he : starEach (e :: es) X.env = (false, eval e X.env) :: starEach es X.env := by rfl) (hpl : (backTo pos (starEach es X.env)).any (·.1) = false := by rfl) : PE X (.Call (.Name n p0) (e :: es) [] pos) (tCall q [] E0 ta) := by
  obtain ⟨f, fd, ps, F, hm, kp, b⟩ := C.ex
  exact pe_call F (hr.mono hk) hg hm kp b .nil pass0 ha hdb he hpl
def sp {A : Type} [EncA A] {ρ : Type} [Enc ρ] (K : PySem.W.Frag) (m : A → Option ρ) : Sp := fun vs H Q _ => ∃ (s : S) (x : A) (r : ρ), s.H = H ∧ repA K s.F vs x ∧ m x = some r ∧ ∀ v s', Ex s s' → rep K s'.F v r → Q v s'.H
def spN {A : Type} [EncA A] {ρ : Type} [Enc ρ] (K : PySem.W.Frag) (m : A → Option (List ρ)) : Sp := fun vs H Q _ => ∃ (s : S) (x : A) (r : List ρ), s.H = H ∧ repA K s.F vs x ∧ m x = some r ∧ ∀ p s', Ex s s' → s.H p = none → Own K s' p r → Q (.ref p) s'.H
theorem ev_call {A : Type} [EncA A] {m : A → Option α} {n : Str} {k j : Nat} {x : A} {r : α} (C : Cal X.prog X.w X.K X.mg X.base CX0 k n (sp X.K m)) (hr : Room j X.A) (hk : k ≤ j) (ha : EvA X (e :: es) σ s x) (h : m x = some r) (hg : Gl X n := by rfl)
    (hdb : (n == ("__debug__" : Str)) = false := by decide) (he : starEach (e :: es) X.env = (false, eval e X.env) :: starEach es X.env := by rfl) (hpl : (backTo pos (starEach es X.env)).any (·.1) = false := by rfl) : Ev X (.Call (.Name n p0) (e :: es) [] pos) σ s r := fun s1 k1 Q q =>
  we_of (pe_c0 C hr hk hg pa_wa hdb he hpl) (ha s1 k1 _ fun vs s2 k2 r2 => ⟨s2, x, r, rfl, by rw [List.append_nil]; exact r2, h, fun v s3 k3 r3 => q v s3 (k2.trans k3) r3⟩)
theorem en_call {A : Type} [EncA A] {m : A → Option (List α)} {n : Str} {k j : Nat} {x : A} {r : List α} (C : Cal X.prog X.w X.K X.mg X.base CX0 k n (spN X.K m)) (hr : Room j X.A) (hk : k ≤ j) (ha : EvA X (e :: es) σ s x) (h : m x = some r) (hg : Gl X n := by rfl)
    (hdb : (n == ("__debug__" : Str)) = false := by decide) (he : starEach (e :: es) X.env = (false, eval e X.env) :: starEach es X.env := by rfl) (hpl : (backTo pos (starEach es X.env)).any (·.1) = false := by rfl) : EvN X (.Call (.Name n p0) (e :: es) [] pos) σ s r := fun s1 k1 Q q =>
  we_of (pe_c0 C hr hk hg pa_wa hdb he hpl) (ha s1 k1 _ fun vs s2 k2 r2 => ⟨s2, x, r, rfl, by rw [List.append_nil]; exact r2, h, fun v s3 k3 n3 r3 => q v s3 (k2.trans k3) (fr_back k2 n3) r3⟩)
end
end Dy

namespace Dy
open PySem PySem.Spec L2
open PyProof.Rows hiding St
open Enc (rep)
open Flat (toV)
open EncA (repA)

noncomputable def chk {α : Type} (c : Prop) (m : Option α) : Option α := open Classical in if c then m else none
theorem chk_pos {α : Type} {c : Prop} {m : Option α} (h : c) : chk c m = m := by unfold chk; exact if_pos h
theorem chkE {α : Type} {c : Prop} {m : Option α} {r : α} (h : chk c m = some r) : c ∧ m = some r := by
  unfold chk at h
  split at h
  · rename_i hc; exact ⟨hc, h⟩
  · cases h
def lt {α β : Type} (x : α) (f : α → Option β) : Option β := f x
theorem ltE {α β : Type} {x : α} {f : α → Option β} {r : β} (h : lt x f = some r) : ∃ y, y = x ∧ f y = some r := ⟨x, rfl, h⟩
abbrev bnd {α β : Type} (m : Option α) (f : α → Option β) : Option β := m.bind f
theorem bndE {α β : Type} {m : Option α} {f : α → Option β} {r : β} (h : bnd m f = some r) : ∃ y, m = some y ∧ f y = some r := by
  cases m with
  | none => cases h
  | some y => exact ⟨y, rfl, h⟩
theorem iteE1 {α : Type} {b : Bool} {m k : Option α} {r : α} (h : (if b = true then m else k) = some r) (e : b = true) : m = some r := by rw [if_pos e] at h; exact h
theorem iteE2 {α : Type} {b : Bool} {m k : Option α} {r : α} (h : (if b = true then m else k) = some r) (e : b = false) : k = some r := by rw [if_neg (by rw [e]; exact Bool.false_ne_true)] at h; exact h
def andO (a : Bool) (m : Option Bool) : Option Bool := if a = true then m else some false
def orO (a : Bool) (m : Option Bool) : Option Bool := if a = true then some true else m
theorem andE {a r : Bool} {m : Option Bool} (h : andO a m = some r) : (a = true → m = some r) ∧ (a = false → r = false) := by
  unfold andO at h
  cases a with
  | true => exact ⟨fun _ => h, fun z => Bool.noConfusion z⟩
  | false => exact ⟨fun z => Bool.noConfusion z, fun _ => (Option.some.inj h).symm⟩
theorem orE {a r : Bool} {m : Option Bool} (h : orO a m = some r) : (a = false → m = some r) ∧ (a = true → r = true) := by
  unfold orO at h
  cases a with
  | false => exact ⟨fun _ => h, fun z => Bool.noConfusion z⟩
  | true => exact ⟨fun z => Bool.noConfusion z, fun _ => (Option.some.inj h).symm⟩
inductive Fl (β ρ : Type) where
  | nx (b : β)
  | rt (r : ρ)
def foldO {α β : Type} (f : β → α → Option β) : β → List α → Option β
  | b, [] => some b
  | b, x :: r => (f b x).bind fun b' => foldO f b' r
def foldF {α β ρ : Type} (f : β → α → Option (Fl β ρ)) : β → List α → Option (Fl β ρ)
  | b, [] => some (.nx b)
  | b, x :: r => (f b x).bind fun o => match o with
    | .nx b' => foldF f b' r
    | .rt v => some (.rt v)
def whileO {β : Type} (c : β → Option Bool) (f : β → Option β) : Nat → β → Option β
  | 0, _ => none
  | n + 1, b => (c b).bind fun t => if t = true then (f b).bind fun b' => whileO c f n b' else some b
def whileF {β ρ : Type} (c : β → Option Bool) (f : β → Option (Fl β ρ)) : Nat → β → Option (Fl β ρ)
  | 0, _ => none
  | n + 1, b => (c b).bind fun t => if t = true then (f b).bind fun o => (match o with
    | .nx b' => whileF c f n b'
    | .rt v => some (.rt v)) else some (.nx b)
def compO {α β : Type} (t : α → Option Bool) (f : α → Option β) : List α → Option (List β)
  | [] => some []
  | x :: r => (t x).bind fun b => if b = true then (f x).bind fun y => (compO t f r).bind fun ys => some (y :: ys) else compO t f r
theorem compO_pure {α β : Type} (t : α → Bool) (f : α → β) : ∀ xs : List α, compO (fun x => some (t x)) (fun x => some (f x)) xs = some ((xs.filter t).map f)
  | [] => rfl
  | x :: r => by
    unfold compO
    rw [Option.bind_some, compO_pure t f r, List.filter_cons]
    split
    · rfl
    · rfl
theorem compO_map {α β : Type} (f : α → β) : ∀ xs : List α, compO (fun _ => some true) (fun x => some (f x)) xs = some (xs.map f)
  | [] => rfl
  | x :: r => by
    unfold compO
    rw [Option.bind_some, compO_map f r]
    rfl
def mapO {α β : Type} (f : α → Option β) (xs : List α) : Option (List β) := compO (fun _ => some true) f xs

def WI (X : Cx) (tg iter : Expr) : TI := fun σ H R => Hold (∀ (pins : List (Addr × Obj)) (s : Shared), Inv X pins σ H s →
  wpAny (model X.prog X.w) X.A (eval iter X.env) (fun v s1 => wpAny (model X.prog X.w) X.A (pyIter v) (PIE X pins σ tg R) X.xe s1) X.xe s)
theorem pi_wi {X : Cx} {tg iter : Expr} : PI X tg iter (WI X tg iter) := ⟨fun pins s _ _ _ I h => Hold.run h pins s I⟩
theorem wi_of {X : Cx} {tg iter : Expr} {t : TI} {σ : St} {H : Hp} {R : It → Hp → Prop} (h : PI X tg iter t) (q : t σ H R) : WI X tg iter σ H R := Hold.mk fun pins s I => h.run pins s σ H R I q
section
variable {α β γ δ : Type} [Enc α] [Enc β] [Enc γ] [Enc δ] {X : Cx} {σ : St} {s t : S} {e a b c tg : Expr} {es : List Expr} {pos p0 p1 p2 p3 : Pos}
structure Walk (K : PySem.W.Frag) (F : Hp) (J : It) (xs : List α) : Prop where
  go : ∀ (i : Nat) (t : S) (x : α), Fle F t.F → xs[i]? = some x → J.go i t.H ∧ ∀ v H', J.yld i t.H v H' → ∃ t' : S, t'.H = H' ∧ Ex t t' ∧ rep K t'.F v x
  stop : ∀ (i : Nat) (t : S), Fle F t.F → xs.length ≤ i → J.stop i t.H
def EvI (X : Cx) (tg e : Expr) (σ : St) (s : S) (xs : List α) : Prop := ∀ s1, Ex s s1 → ∀ R : It → Hp → Prop, (∀ J s2, Ex s1 s2 → Walk X.K s2.F J xs → R J s2.H) → WI X tg e σ s1.H R
theorem ei_list {xs : List α} (h : Ev X e σ s xs) : EvI X tg e σ s xs := fun s1 k R q =>
  wi_of (pi_list pe_we) (h s1 k _ fun v s2 k2 r2 => by
    obtain ⟨p, vs, rfl, h1, h2⟩ := r2
    refine ⟨p, rfl, ⟨vs, sql_mono s2.sub h1⟩, q _ s2 k2 ⟨fun i t x f hx => ?_, fun i t f hi => ⟨vs, sql_mono t.sub (sql_mono f h1), by rw [h2.len]; exact hi⟩⟩⟩
    obtain ⟨v, h3, h4⟩ := h2.get hx
    refine ⟨⟨vs, v, sql_mono t.sub (sql_mono f h1), h3⟩, fun w H' ⟨e1, hy⟩ => ⟨t, e1.symm, Ex.refl _, ?_⟩⟩
    have := hy vs (sql_mono t.sub (sql_mono f h1))
    rw [h3] at this
    cases this
    exact Enc.mono f h4)
theorem ei_tup {xs : Tu α} (h : Ev X e σ s xs) : EvI X tg e σ s xs.l := fun s1 k R q =>
  wi_of (pi_tup pe_we) (h s1 k _ fun v s2 k2 r2 => by
    obtain ⟨p, vs, rfl, h1, h2⟩ := r2
    refine ⟨p, rfl, ⟨vs, sqt_mono s2.sub h1⟩, q _ s2 k2 ⟨fun i t x f hx => ?_, fun i t f hi => ⟨vs, sqt_mono t.sub (sqt_mono f h1), by rw [h2.len]; exact hi⟩⟩⟩
    obtain ⟨v, h3, h4⟩ := h2.get hx
    refine ⟨⟨vs, v, sqt_mono t.sub (sqt_mono f h1), h3⟩, fun w H' ⟨e1, hy⟩ => ⟨t, e1.symm, Ex.refl _, ?_⟩⟩
    have := hy vs (sqt_mono t.sub (sqt_mono f h1))
    rw [h3] at this
    cases this
    exact Enc.mono f h4)
theorem rng_get {a b : Int} {i : Nat} {x : Int} (h : (rng a b)[i]? = some x) : i < (b - a).toNat ∧ x = a + (i : Int) := by
  unfold rng at h
  rw [List.getElem?_map] at h
  obtain ⟨j, h1, rfl⟩ := Option.map_eq_some_iff.mp h
  obtain ⟨h2, h3⟩ := List.getElem?_eq_some_iff.mp h1
  rw [List.length_range] at h2
  rw [List.getElem_range] at h3
  subst h3
  exact ⟨h2, rfl⟩
theorem rng_len (a b : Int) : (rng a b).length = (b - a).toNat := by unfold rng; rw [List.length_map, List.length_range]
theorem walk_rng {K : PySem.W.Frag} {F : Hp} {a b : Int} : Walk K F (Itr a (b - a).toNat) (rng a b) :=
  ⟨fun i t x f hx => ⟨(rng_get hx).1, fun v H' ⟨e1, e2⟩ => ⟨t, e1.symm, Ex.refl _, by rw [e2, (rng_get hx).2]; rfl⟩⟩, fun i t f hi => by rw [rng_len] at hi; exact hi⟩
def RgB (x : Int) : Prop := -(2 ^ 62) ≤ x ∧ x < 2 ^ 62
theorem ei_range1 {n : Int} (hm : X.mg "range" = none) (h : Ev X e σ s n) (hb : RgB n) (hg : Gl X "range" := by rfl) (hs : starEach [e] X.env = [(false, eval e X.env)] := by rfl) (hs2 : starEach [e] X.env = (false, eval e X.env) :: starEach [] X.env := by rfl) :
    EvI X tg (.Call (.Name "range" p0) [e] [] pos) σ s (rng 0 n) := fun s1 k R q =>
  wi_of (pi_range1 hg hm (pa_cons pe_we pa_nil hs2) hs) (h s1 k _ fun v s2 k2 r2 => ⟨n, by rw [show v = V.int n from r2], hb.1, hb.2, q _ s2 k2 (by
    have := walk_rng (K := X.K) (F := s2.F) (a := 0) (b := n)
    rw [Int.sub_zero] at this
    exact this)⟩)
theorem ei_range2 {m n : Int} (hm : X.mg "range" = none) (ha : Ev X a σ s m) (hb : Ev X b σ s n) (h1 : RgB m) (h2 : RgB n) (hg : Gl X "range" := by rfl) (hs : starEach [a, b] X.env = [(false, eval a X.env), (false, eval b X.env)] := by rfl) (hs2 : starEach [b] X.env = [(false, eval b X.env)] := by rfl)
    (hs3 : starEach [a, b] X.env = (false, eval a X.env) :: starEach [b] X.env := by rfl) (hs4 : starEach [b] X.env = (false, eval b X.env) :: starEach [] X.env := by rfl) :
    EvI X tg (.Call (.Name "range" p0) [a, b] [] pos) σ s (rng m n) := fun s1 k R q =>
  wi_of (pi_range2 hg hm (pa_cons pe_we (pa_cons pe_we pa_nil hs4) hs3) hs hs2) (ha s1 k _ fun v s2 k2 r2 => hb s2 (k.trans k2) _ fun u s3 k3 r3 => ⟨m, n, by rw [show v = V.int m from r2, show u = V.int n from r3], ⟨h1.1, h1.2, h2.1, h2.2⟩, q _ s3 (k2.trans k3) walk_rng⟩)
def chars (x : Str) : List Str := x.cps.toList.map fun c => ⟨#[c]⟩
theorem ei_str {x : Str} (h : Ev X e σ s x) : EvI X tg e σ s (chars x) := fun s1 k R q =>
  wi_of (pi_str pe_we) (h s1 k _ fun v s2 k2 r2 => ⟨x, r2, q _ s2 k2 ⟨fun i t y f hy => by
    unfold chars at hy
    rw [List.getElem?_map] at hy
    obtain ⟨c, h1, rfl⟩ := Option.map_eq_some_iff.mp hy
    have h1' : x.cps[i]? = some c := by simpa using h1
    refine ⟨?_, fun v H' ⟨e1, d, h2, h3⟩ => ⟨t, e1.symm, Ex.refl _, ?_⟩⟩
    · obtain ⟨z, _⟩ := Array.getElem?_eq_some_iff.mp h1'
      exact z
    · rw [h1'] at h2
      cases h2
      exact h3, fun i t f hi => by
    unfold chars at hi
    rw [List.length_map, Array.length_toList] at hi
    exact hi⟩⟩)
end

structure Tgt {α : Type} [Enc α] (K : PySem.W.Frag) (g : TG) (B : Hp → α → St → St → Prop) : Prop where
  run : ∀ (t : S) (v : V) (x : α) (σ : St) (Q : St → Hp → Prop), rep K t.F v x → (∀ σ2, B t.F x σ σ2 → Q σ2 t.H) → g v σ t.H Q
def BN {α : Type} [Enc α] (K : PySem.W.Frag) (j : Nat) : Hp → α → St → St → Prop := fun F x σ σ2 => ∃ v, rep K F v x ∧ σ2 = σ.set j (some v)
def B2 {α β : Type} [Enc α] [Enc β] (K : PySem.W.Frag) (i j : Nat) : Hp → α × β → St → St → Prop := fun F x σ σ2 => ∃ v w, rep K F v x.1 ∧ rep K F w x.2 ∧ σ2 = (σ.set i (some v)).set j (some w)
def B3 {α β γ : Type} [Enc α] [Enc β] [Enc γ] (K : PySem.W.Frag) (i j k : Nat) : Hp → T3 α β γ → St → St → Prop := fun F x σ σ2 => ∃ v w u, rep K F v x.a ∧ rep K F w x.b ∧ rep K F u x.c ∧ σ2 = ((σ.set i (some v)).set j (some w)).set k (some u)
theorem tg_n {α : Type} [Enc α] {K : PySem.W.Frag} {j : Nat} : Tgt (α := α) K (gName j) (BN K j) := ⟨fun t v x σ Q r h => h _ ⟨v, r, rfl⟩⟩
theorem tg_2 {α β : Type} [Enc α] [Enc β] {K : PySem.W.Frag} {i j : Nat} : Tgt (α := α × β) K (gTup K 2 (gCons (gName i) (gCons (gName j) gNil))) (B2 K i j) := ⟨fun t v x σ Q r h => by
  obtain ⟨p, v1, v2, rfl, h0, h1, h2⟩ := r
  exact ⟨p, _, rfl, sqt_mono t.sub h0, rfl, v1, _, rfl, v2, _, rfl, rfl, h _ ⟨v1, v2, h1, h2, rfl⟩⟩⟩
theorem tg_3 {α β γ : Type} [Enc α] [Enc β] [Enc γ] {K : PySem.W.Frag} {i j k : Nat} : Tgt (α := T3 α β γ) K (gTup K 3 (gCons (gName i) (gCons (gName j) (gCons (gName k) gNil)))) (B3 K i j k) := ⟨fun t v x σ Q r h => by
  obtain ⟨p, v1, v2, v3, rfl, h0, h1, h2, h3⟩ := r
  exact ⟨p, _, rfl, sqt_mono t.sub h0, rfl, v1, _, rfl, v2, _, rfl, v3, _, rfl, rfl, h _ ⟨v1, v2, v3, h1, h2, h3, rfl⟩⟩⟩

section
variable {α β : Type} [Enc α] [Enc β] {X : Cx} {σ : St} {s : S} {elt tg iter c : Expr} {ifs : List Expr} {scope : Scope} {own : List (Str × Nat)} {pos : Pos}
abbrev Blk (X : Cx) (scope : Scope) (s0 : Shared) (H0 : Hp) (C : Addr) (cl : List (Str × Addr)) (fp : List Addr) : Cx := X.blk s0 H0 scope (compEnvC scope cl C X.env) fp
theorem comp_read {xs : List α} {ys : List β} {t : α → Option Bool} {f : α → Option β} {g : TG} {B : Hp → α → St → St → Prop} {tt : TT} (hc : X.calm = true) (hN : X.N.Nodup) (hi : EvI X tg iter σ s xs) (ok : BlkOk X.N X.env.scope scope own)
    (hg : ∀ s0 H0 C cl fp, PG (Blk X scope s0 H0 C cl fp) tg g) (T : Tgt (α := α) X.K g B) (htt : ∀ s0 H0 C cl fp, PTs (Blk X scope s0 H0 C cl fp) ifs tt) (hf : compO t f xs = some ys) (hz : ys.length ≤ sizeLine)
    (hw : ∀ (F : Hp) (x : α) σ2, B F x (wipe σ (own.map (·.2))) σ2 → wipe σ2 (own.map (·.2)) = wipe σ (own.map (·.2)))
    (ht : ∀ (x : α) (b : Bool) (s1 : S) (σ2 : St) (Q : Bool → Hp → Prop), x ∈ xs → Ex s s1 → B s1.F x (wipe σ (own.map (·.2))) σ2 → t x = some b → (∀ s2, Ex s1 s2 → Q b s2.H) → tt σ2 s1.H Q)
    (he : ∀ (x : α) (y : β) (s1 : S) (σ2 : St), x ∈ xs → Ex s s1 → B s1.F x (wipe σ (own.map (·.2))) σ2 → t x = some true → f x = some y → ∀ s0 H0 C cl fp, Ev (Blk X scope s0 H0 C cl fp) elt σ2 s1 y)
    (s1 : S) (k : Ex s s1) (Q : VK) (q : ∀ p s2, Ex s1 s2 → s1.H p = none → Own X.K s2 p ys → Q (.ref p) s2.H) : tLc (WI X tg iter) g tt (fun σ H Q => ∀ s0 H0 C cl fp, WE (Blk X scope s0 H0 C cl fp) elt σ H Q) (own.map (·.2)) σ s1.H Q := by
  refine hi s1 k _ fun J s2 k2 W => ?_
  intro D hD
  refine ⟨fun i m H => ∃ (u : S) (pre : List β) (vs : List V), u.H = H ∧ m = xs.length - i ∧ Ex s2 u ∧ u.F D = none ∧ u.H D = some (.lst vs) ∧ Reps X.K u.F vs pre ∧ (∃ suf, compO t f (xs.drop i) = some suf ∧ pre ++ suf = ys), ⟨xs.length, s2.newO D (.lst []) hD, [], [], rfl, rfl, Ex.newO hD, (fF hD : s2.F D = none), upd_same, trivial, ys, hf, rfl⟩, ?_⟩
  rintro i m H ⟨u, pre, vs, rfl, rfl, ku, n1, n2, n3, suf, h1, h2⟩
  by_cases hi' : i < xs.length
  · right
    have hx : xs[i]? = some xs[i] := List.getElem?_eq_getElem hi'
    obtain ⟨g1, g2⟩ := W.go i u xs[i] ku.f hx
    refine ⟨g1, fun H' => ∃ m', m' < xs.length - i ∧ ∃ (u : S) (pre : List β) (vs : List V), u.H = H' ∧ m' = xs.length - (i + 1) ∧ Ex s2 u ∧ u.F D = none ∧ u.H D = some (.lst vs) ∧ Reps X.K u.F vs pre ∧ (∃ suf, compO t f (xs.drop (i + 1)) = some suf ∧ pre ++ suf = ys), fun H' z => z, fun v H' hy => ?_⟩
    obtain ⟨u', rfl, ku', rv⟩ := g2 v H' hy
    refine T.run u' v xs[i] _ _ rv fun σ2 hB => ⟨hw _ _ _ hB, ?_⟩
    rw [List.drop_eq_getElem_cons hi'] at h1
    unfold compO at h1
    cases hb : t xs[i] with
    | none => rw [hb] at h1; cases h1
    | some b =>
      rw [hb, Option.bind_some] at h1
      have mem : xs[i] ∈ xs := List.getElem_mem hi'
      have base : Ex s u' := (k.trans k2).trans (ku.trans ku')
      refine ht xs[i] b u' σ2 _ mem base hB hb fun u3 k3 => ?_
      have hlt : xs.length - (i + 1) < xs.length - i := by omega
      have kk : Ex u u3 := ku'.trans k3
      cases b with
      | false =>
        rw [if_neg Bool.false_ne_true] at h1 ⊢
        exact ⟨_, hlt, u3, pre, vs, rfl, rfl, ku.trans kk, kk.n _ _ n2 n1, kk.h _ _ n2, n3.mono kk.f, suf, h1, h2⟩
      | true =>
        rw [if_pos rfl] at h1 ⊢
        cases hfx : f xs[i] with
        | none => rw [hfx] at h1; cases h1
        | some y =>
          rw [hfx, Option.bind_some] at h1
          cases hr : compO t f (xs.drop (i + 1)) with
          | none => rw [hr] at h1; cases h1
          | some suf' =>
            rw [hr] at h1
            cases h1
            intro s0 H0 C cl fp
            refine he xs[i] y u' σ2 mem base hB hb hfx s0 H0 C cl fp u3 k3 _ fun w u4 k4 r4 => ?_
            have k5 : Ex u u4 := kk.trans k4
            have hD4 : u4.H D = some (.lst vs) := k5.h _ _ n2
            have hF4 : u4.F D = none := k5.n _ _ n2 n1
            have hlen : vs.length < sizeLine := by
              have e1 := n3.len
              have e2 : ys.length = pre.length + (suf'.length + 1) := by rw [← h2, List.length_append, List.length_cons]
              omega
            refine ⟨vs, hD4, hlen, _, hlt, u4.put D (.lst (vs ++ [w])) hF4, pre ++ [y], vs ++ [w], rfl, rfl, (ku.trans k5).mu1 (Mx.put hF4) hD, hF4, upd_same, (n3.mono k5.f).snoc r4, suf', rfl, by rw [List.append_assoc]; exact h2⟩
  · left
    have hd : xs.drop i = [] := List.drop_eq_nil_of_le (by omega)
    rw [hd] at h1
    cases h1
    refine ⟨W.stop i u ku.f (by omega), q D u (k2.trans ku) (fr_back k2 hD) ⟨n1, vs, n2, ?_⟩⟩
    rw [← h2, List.append_nil]
    exact n3
structure EvL (X : Cx) (elt tg iter : Expr) (ifs : List Expr) (scope : Scope) (σ : St) (s : S) (ys : List β) : Prop where
  calm : X.calm = true
  nd : X.N.Nodup
  fs : ∀ x, foldedSetIterable iter X.env x = pure x
  ex : ∃ (own : List (Str × Nat)) (g : TG) (tt : TT), BlkOk X.N X.env.scope scope own ∧ (∀ s0 H0 C cl fp, PG (Blk X scope s0 H0 C cl fp) tg g) ∧ (∀ s0 H0 C cl fp, PTs (Blk X scope s0 H0 C cl fp) ifs tt) ∧
    ∀ s1, Ex s s1 → ∀ Q : VK, (∀ p s2, Ex s1 s2 → s1.H p = none → Own X.K s2 p ys → Q (.ref p) s2.H) → tLc (WI X tg iter) g tt (fun σ H Q => ∀ s0 H0 C cl fp, WE (Blk X scope s0 H0 C cl fp) elt σ H Q) (own.map (·.2)) σ s1.H Q
theorem EvL.n {ys : List β} (h : EvL X elt tg iter ifs scope σ s ys) : EvN X (.ListComp elt [⟨tg, iter, ifs, 0⟩] scope pos) σ s ys := fun s1 k Q q => by
  obtain ⟨own, g, tt, h1, h2, h3, h4⟩ := h.ex
  exact we_of (pe_lc h.calm h.nd pi_wi h1 h2 h3 (fun s0 H0 C cl fp => pe_im fun _ _ _ h => h s0 H0 C cl fp) h.fs) (h4 s1 k Q q)
theorem do_setL (i : Nat) {ys : List β} {n : Str} {py : Pos} {rest : List Stmt} {D : Ends} {spos : Pos} (h : EvL X elt tg iter ifs scope σ s ys) (k : ∀ p s1, Ex s s1 → s.H p = none → Own X.K s1 p ys → WSs X rest D (σ.set i (some (.ref p))) s1.H) (hk : X.env.scope.kind = .function) (hy : X.env.scope.names.lookup n = some .local)
    (hl : (py.line == pos.line) = true := by rfl) (ha : (scope.names.any fun (m, k) => m == n && (k == .local || k == .cell)) = false := by decide +kernel) (hi : X.N[i]? = some n := by rfl) :
    WSs X (.Assign [.Name n py] (.ListComp elt [⟨tg, iter, ifs, 0⟩] scope pos) spos :: rest) D σ s.H := by
  obtain ⟨own, g, tt, h1, h2, h3, h4⟩ := h.ex
  exact ws_of (pss_cons (ps_setLc (te := fun σ H Q => ∀ s0 H0 C cl fp, WE (Blk X scope s0 H0 C cl fp) elt σ H Q) h.calm h.nd hi hy (sw_true hk hy hl ha) pi_wi h1 h2 h3 (fun s0 H0 C cl fp => pe_im fun _ _ _ h => h s0 H0 C cl fp) h.fs) pss_ws) (h4 s (Ex.refl _) (fun x H1 => WSs X rest D (σ.set i (some x)) H1) fun p s2 k2 n2 o2 => k p s2 k2 n2 o2)
theorem wipe_set {τ : St} {j : Nat} {o : Option V} : ∀ {vs : List Nat}, j ∈ vs → wipe (τ.set j o) vs = wipe τ vs
  | v :: vs, h => by
    show (wipe (τ.set j o) vs).set v none = (wipe τ vs).set v none
    by_cases e : j ∈ vs
    · rw [wipe_set e]
    · have : j = v := by
        rcases List.mem_cons.mp h with z | z
        · exact z
        · exact absurd z e
      subst this
      have : ∀ {ws : List Nat} {τ : St}, j ∉ ws → wipe (τ.set j o) ws = (wipe τ ws).set j o := by
        intro ws
        induction ws with
        | nil => intro τ _; rfl
        | cons a r ih =>
          intro τ h
          show (wipe (τ.set j o) r).set a none = ((wipe τ r).set a none).set j o
          rw [ih fun z => h (List.mem_cons_of_mem _ z), List.set_comm _ _ (fun z => h (by rw [z]; exact List.mem_cons_self))]
      rw [this e, List.set_set]
theorem wipe_wipe {τ : St} : ∀ {vs ws : List Nat}, (∀ v ∈ vs, v ∈ ws) → wipe (wipe τ vs) ws = wipe τ ws
  | [], _, _ => rfl
  | v :: vs, ws, h => by
    show wipe ((wipe τ vs).set v none) ws = wipe τ ws
    rw [wipe_set (h v List.mem_cons_self)]
    exact wipe_wipe fun u hu => h u (List.mem_cons_of_mem _ hu)
theorem en_comp0 {xs : List α} {ys : List β} {f : α → Option β} {j : Nat} {n : Str} {py : Pos} (hc : X.calm = true) (hN : X.N.Nodup) (hi : EvI X (.Name n py) iter σ s xs) (ok : BlkOk X.N X.env.scope scope own) (hj : X.N[j]? = some n)
    (hjo : j ∈ own.map (·.2)) (hg : ∀ s0 H0 C cl fp, PG (Blk X scope s0 H0 C cl fp) (.Name n py) (gName j)) (hf : mapO f xs = some ys) (hz : ys.length ≤ sizeLine)
    (he : ∀ (x : α) (y : β) (v : V) (s1 : S), x ∈ xs → Ex s s1 → rep X.K s1.F v x → f x = some y → ∀ s0 H0 C cl fp, Ev (Blk X scope s0 H0 C cl fp) elt ((wipe σ (own.map (·.2))).set j (some v)) s1 y)
    (hs : ∀ x, foldedSetIterable iter X.env x = pure x := by intro _; rfl) : EvL X elt (.Name n py) iter [] scope σ s ys :=
  ⟨hc, hN, hs, own, _, _, ok, hg, fun _ _ _ _ _ => pts_nil, fun s1 k Q q => comp_read (t := fun _ => some true) hc hN hi ok hg tg_n (fun _ _ _ _ _ => pts_nil) hf hz (fun F x σ2 ⟨v, _, e⟩ => by rw [e, wipe_set hjo]; exact wipe_wipe fun _ z => z)
    (fun x b s1 σ2 Q _ _ _ hb q => by cases hb; exact q s1 (Ex.refl _)) (fun x y s1 σ2 hx k ⟨v, r, e⟩ _ hfx => by subst e; exact he x y v s1 hx k r hfx) s1 k Q q⟩
theorem en_comp1 {xs : List α} {ys : List β} {t : α → Option Bool} {f : α → Option β} {j : Nat} {n : Str} {py : Pos} (hc : X.calm = true) (hN : X.N.Nodup) (hi : EvI X (.Name n py) iter σ s xs) (ok : BlkOk X.N X.env.scope scope own) (hj : X.N[j]? = some n)
    (hjo : j ∈ own.map (·.2)) (hg : ∀ s0 H0 C cl fp, PG (Blk X scope s0 H0 C cl fp) (.Name n py) (gName j)) (hf : compO t f xs = some ys) (hz : ys.length ≤ sizeLine)
    (ht : ∀ (x : α) (b : Bool) (v : V) (s1 : S), x ∈ xs → Ex s s1 → rep X.K s1.F v x → t x = some b → ∀ s0 H0 C cl fp, EvT (Blk X scope s0 H0 C cl fp) c ((wipe σ (own.map (·.2))).set j (some v)) s1 b)
    (he : ∀ (x : α) (y : β) (v : V) (s1 : S), x ∈ xs → Ex s s1 → rep X.K s1.F v x → t x = some true → f x = some y → ∀ s0 H0 C cl fp, Ev (Blk X scope s0 H0 C cl fp) elt ((wipe σ (own.map (·.2))).set j (some v)) s1 y)
    (hs : ∀ x, foldedSetIterable iter X.env x = pure x := by intro _; rfl) : EvL X elt (.Name n py) iter [c] scope σ s ys :=
  ⟨hc, hN, hs, own, _, _, ok, hg, fun s0 H0 C cl fp => pts_one (pt_im fun _ _ _ h => h s0 H0 C cl fp), fun s1 k Q q => comp_read (tt := fun σ H Q => ∀ s0 H0 C cl fp, WT (Blk X scope s0 H0 C cl fp) c σ H Q) hc hN hi ok hg tg_n (fun s0 H0 C cl fp => pts_one (pt_im fun _ _ _ h => h s0 H0 C cl fp)) hf hz (fun F x σ2 ⟨v, _, e⟩ => by rw [e, wipe_set hjo]; exact wipe_wipe fun _ z => z)
    (fun x b s1 σ2 Q hx k ⟨v, r, e⟩ hb q => by subst e; intro s0 H0 C cl fp; exact ht x b v s1 hx k r hb s0 H0 C cl fp s1 (Ex.refl _) Q q) (fun x y s1 σ2 hx k ⟨v, r, e⟩ htx hfx => by subst e; exact he x y v s1 hx k r htx hfx) s1 k Q q⟩
end
end Dy

namespace Dy
open PySem PySem.Spec L2
open PyProof.Rows hiding St
open Enc (rep)
open Flat (toV)
open EncA (repA)

abbrev MD (D : Ends) (M : St → S → Prop) : Ends := { D with nx := fun σ H => ∃ s : S, s.H = H ∧ M σ s }
abbrev ND (D : Ends) : Ends := { D with nx := fun _ _ => False }
abbrev LD (D : Ends) (M : St → S → Prop) : Ends := { nx := fun σ H => ∃ s : S, s.H = H ∧ M σ s, rt := D.rt }
abbrev RD (Q : VK) : Ends := { nx := fun _ H' => Q .non H', rt := Q }
section
variable {α β γ δ : Type} [Enc α] [Enc β] [Enc γ] [Enc δ] {X : Cx} {σ : St} {s t : S} {e a b c tg iter : Expr} {es : List Expr} {pos p0 p1 p2 p3 : Pos} {D : Ends} {rest A B : List Stmt}
theorem do_nil (h : D.nx σ s.H) : WSs X [] D σ s.H := ws_of pss_nil h
theorem do_cons {st : Stmt} {ts : TS} (h : PS X st ts) (q : ts { D with nx := fun σ' H' => WSs X rest D σ' H' } σ s.H) : WSs X (st :: rest) D σ s.H := ws_of (pss_cons h pss_ws) q
theorem do_set (i : Nat) {x : α} {n : Str} {py : Pos} (h : Ev X e σ s x) (k : ∀ v s1, Ex s s1 → rep X.K s1.F v x → WSs X rest D (σ.set i (some v)) s1.H) (hN : X.N.Nodup) (hx : Loc X.env.scope n := by first | exact Or.inl rfl | exact Or.inr rfl) (hi : X.N[i]? = some n := by rfl)
    (hs : swapsWith e (some (.Name n py)) pos.line X.env = pure false := by rfl) (hf : X.fn n = true ∨ X.env.scope.names.lookup n = some .local := by first | exact .inl rfl | exact .inr rfl) : WSs X (.Assign [.Name n py] e pos :: rest) D σ s.H :=
  do_cons (ps_set hN hi hx pe_we hs hf) (h s (Ex.refl _) _ fun v s1 k1 r => k v s1 k1 r)
theorem do_setN (i : Nat) {xs : List α} {n : Str} {py : Pos} (h : EvN X e σ s xs) (k : ∀ p s1, Ex s s1 → s.H p = none → Own X.K s1 p xs → WSs X rest D (σ.set i (some (.ref p))) s1.H) (hN : X.N.Nodup) (hx : Loc X.env.scope n := by first | exact Or.inl rfl | exact Or.inr rfl) (hi : X.N[i]? = some n := by rfl)
    (hs : swapsWith e (some (.Name n py)) pos.line X.env = pure false := by rfl) (hf : X.fn n = true ∨ X.env.scope.names.lookup n = some .local := by first | exact .inl rfl | exact .inr rfl) : WSs X (.Assign [.Name n py] e pos :: rest) D σ s.H :=
  do_cons (ps_set hN hi hx pe_we hs hf) (h s (Ex.refl _) _ fun v s1 k1 n1 r => k v s1 k1 n1 r)
theorem do_ret {x : α} (h : Ev X e σ s x) (k : ∀ v s1, Ex s s1 → rep X.K s1.F v x → D.rt v s1.H) : WSs X (.Return (some e) pos :: rest) D σ s.H :=
  do_cons (ps_ret pe_we) (h s (Ex.refl _) _ fun v s1 k1 r => k v s1 k1 r)
theorem do_retN {xs : List α} (h : EvN X e σ s xs) (k : ∀ p s1, Ex s s1 → s.H p = none → Own X.K s1 p xs → D.rt (.ref p) s1.H) : WSs X (.Return (some e) pos :: rest) D σ s.H :=
  do_cons (ps_ret pe_we) (h s (Ex.refl _) _ fun v s1 k1 n1 r => k v s1 k1 n1 r)
theorem do_retO (i : Nat) {p : Addr} {n : Str} (h : σ[i]? = some (some (.ref p))) (k : D.rt (.ref p) s.H) (hN : X.N[i]? = some n := by rfl) (hv : Vis X.env.scope n := by first | exact Or.inl rfl | exact Or.inr (Or.inl rfl) | exact Or.inr (Or.inr rfl)) (hd : (n == ("__debug__" : Str)) = false := by decide)
    (hcd : (n == ("__classdict__" : Str)) = false := by decide) : WSs X (.Return (some (.Name n p0)) pos :: rest) D σ s.H :=
  do_cons (ps_ret (pe_var hN hv hd hcd)) ⟨_, h, k⟩
theorem do_if {x : Bool} (hc : EvT X c σ s x) (M : St → S → Prop) (h1 : x = true → ∀ s1, Ex s s1 → WSs X A (MD D M) σ s1.H) (h2 : x = false → ∀ s1, Ex s s1 → WSs X B (MD D M) σ s1.H)
    (h3 : ∀ σ' s', M σ' s' → WSs X rest D σ' s'.H) : WSs X (.If c A B pos :: rest) D σ s.H :=
  do_cons (ps_if pt_wt pss_ws pss_ws) (hc s (Ex.refl _) _ fun s1 k => by
    cases x with
    | true => exact iteT ((h1 rfl s1 k).imp (fun σ' H' ⟨s', e, m⟩ => e ▸ h3 σ' s' m) (fun _ _ q => q) (fun _ _ q => q) fun _ _ q => q)
    | false => exact iteF ((h2 rfl s1 k).imp (fun σ' H' ⟨s', e, m⟩ => e ▸ h3 σ' s' m) (fun _ _ q => q) (fun _ _ q => q) fun _ _ q => q))
theorem do_ifR {x : Bool} (hc : EvT X c σ s x) (h1 : x = true → ∀ s1, Ex s s1 → WSs X A (ND D) σ s1.H) (h2 : x = false → ∀ s1, Ex s s1 → WSs X rest D σ s1.H) : WSs X (.If c A [] pos :: rest) D σ s.H :=
  do_cons (ps_if pt_wt pss_ws pss_nil) (hc s (Ex.refl _) _ fun s1 k => by
    cases x with
    | true => exact iteT ((h1 rfl s1 k).imp (fun _ _ z => z.elim) (fun _ _ q => q) (fun _ _ q => q) fun _ _ q => q)
    | false => exact iteF (h2 rfl s1 k))
theorem do_ifRR {x : Bool} (hc : EvT X c σ s x) (h1 : x = true → ∀ s1, Ex s s1 → WSs X A (ND D) σ s1.H) (h2 : x = false → ∀ s1, Ex s s1 → WSs X B (ND D) σ s1.H) : WSs X (.If c A B pos :: rest) D σ s.H :=
  do_cons (ps_if pt_wt pss_ws pss_ws) (hc s (Ex.refl _) _ fun s1 k => by
    cases x with
    | true => exact iteT ((h1 rfl s1 k).imp (fun _ _ z => z.elim) (fun _ _ q => q) (fun _ _ q => q) fun _ _ q => q)
    | false => exact iteF ((h2 rfl s1 k).imp (fun _ _ z => z.elim) (fun _ _ q => q) (fun _ _ q => q) fun _ _ q => q))

theorem st_set {l : St} {i : Nat} {v : V} (h : l[i]? = some (some v)) : l[i]? = some (some v) := h
theorem do_append (i : Nat) {p : Addr} {n : Str} {xs : List α} {x : α} (hσ : σ[i]? = some (some (.ref p))) (o : Own X.K s p xs) (he : Ev X e σ s x) (hz : xs.length < sizeLine)
    (k : ∀ s1, Mx (· = p) s s1 → Own X.K s1 p (xs ++ [x]) → WSs X rest D σ s1.H)
    (hN : X.N[i]? = some n := by rfl) (hv : Vis X.env.scope n := by first | exact Or.inl rfl | exact Or.inr (Or.inl rfl) | exact Or.inr (Or.inr rfl)) (hd : (n == ("__debug__" : Str)) = false := by decide) (hcd : (n == ("__classdict__" : Str)) = false := by decide)
    (hbase : attributeBase (.Name n p0) "append" X.env (eval (.Name n p0) X.env) = eval (.Name n p0) X.env := by rfl)
    (hfew : ((backTo p2 (starEach [e] X.env)).all (fun x => !x.1) && (backToKw p2 (keywordEach [] X.env)).all (fun x => x.1.isSome) && decide (([e] : List Expr).length + ([] : List Keyword).length + (if ([] : List Keyword).isEmpty then 0 else 1) < 30)) = true := by rfl)
    (hline : (p1.endLine == p2.line) = true := by rfl) (hs : starEach [e] X.env = (false, eval e X.env) :: starEach [] X.env := by rfl) (hplain : (backTo p2 (starEach [] X.env)).any (·.1) = false := by rfl)
    (hsw : swapsWith (.Call (.Attribute (.Name n p0) "append" p1) [e] [] p2) none p3.line X.env = pure false := by rfl) :
    WSs X (.Expr (.Call (.Attribute (.Name n p0) "append" p1) [e] [] p2) p3 :: rest) D σ s.H :=
  do_cons (ps_expr (pe_bm PySem.F.plainAttrs_list PySem.F.slot_list_append PySem.F.type_list_append mt_append (pe_var hN hv hd hcd) (pa_cons pe_we pa_nil hs) hbase hfew hline hs hplain) hsw) (by
    obtain ⟨h1, vs, h2, h3⟩ := id o
    refine ⟨_, hσ, .inl ⟨rfl, vs, .inl (.inl h2)⟩, he s (Ex.refl _) _ fun v s1 k1 r1 => ?_⟩
    have f1 := k1.n _ _ h2 h1
    have g1 := k1.h _ _ h2
    refine ⟨p, vs, v, rfl, rfl, g1, by rw [h3.len]; exact hz, ?_⟩
    exact k (s1.put p (.lst (vs ++ [v])) f1) (k1.mx.trans (Mx.put f1)) ⟨f1, _, upd_same, (h3.mono k1.f).snoc r1⟩)
theorem do_extend (i : Nat) {p : Addr} {n : Str} {xs ys : List α} (hσ : σ[i]? = some (some (.ref p))) (o : Own X.K s p xs) (he : EvN X e σ s ys) (hz : xs.length + ys.length ≤ sizeLine)
    (k : ∀ s1, Mx (· = p) s s1 → Own X.K s1 p (xs ++ ys) → WSs X rest D σ s1.H)
    (hN : X.N[i]? = some n := by rfl) (hv : Vis X.env.scope n := by first | exact Or.inl rfl | exact Or.inr (Or.inl rfl) | exact Or.inr (Or.inr rfl)) (hd : (n == ("__debug__" : Str)) = false := by decide) (hcd : (n == ("__classdict__" : Str)) = false := by decide)
    (hbase : attributeBase (.Name n p0) "extend" X.env (eval (.Name n p0) X.env) = eval (.Name n p0) X.env := by rfl)
    (hfew : ((backTo p2 (starEach [e] X.env)).all (fun x => !x.1) && (backToKw p2 (keywordEach [] X.env)).all (fun x => x.1.isSome) && decide (([e] : List Expr).length + ([] : List Keyword).length + (if ([] : List Keyword).isEmpty then 0 else 1) < 30)) = true := by rfl)
    (hline : (p1.endLine == p2.line) = true := by rfl) (hs : starEach [e] X.env = (false, eval e X.env) :: starEach [] X.env := by rfl) (hplain : (backTo p2 (starEach [] X.env)).any (·.1) = false := by rfl)
    (hsw : swapsWith (.Call (.Attribute (.Name n p0) "extend" p1) [e] [] p2) none p3.line X.env = pure false := by rfl) :
    WSs X (.Expr (.Call (.Attribute (.Name n p0) "extend" p1) [e] [] p2) p3 :: rest) D σ s.H :=
  do_cons (ps_expr (pe_bm PySem.F.plainAttrs_list PySem.F.slot_list_extend PySem.F.type_list_extend mt_extend (pe_var hN hv hd hcd) (pa_cons pe_we pa_nil hs) hbase hfew hline hs hplain) hsw) (by
    obtain ⟨h1, vs, h2, h3⟩ := id o
    refine ⟨_, hσ, .inl ⟨rfl, vs, .inl (.inl h2)⟩, he s (Ex.refl _) _ fun q s1 k1 n1 o1 => ?_⟩
    obtain ⟨_, ws, h4, h5⟩ := o1
    have f1 := k1.n _ _ h2 h1
    have g1 := k1.h _ _ h2
    refine ⟨p, q, vs, ws, rfl, rfl, g1, h4, by rw [h3.len, h5.len]; exact hz, ?_⟩
    exact k (s1.put p (.lst (vs ++ ws)) f1) (k1.mx.trans (Mx.put f1)) ⟨f1, _, upd_same, (h3.mono k1.f).app h5⟩)
theorem do_setItem (i : Nat) {p : Addr} {n : Str} {xs : List α} {x : α} {z : Int} {j : Nat} (hσ : σ[i]? = some (some (.ref p))) (o : Own X.K s p xs) (he : Ev X e σ s x) (hi : Ev X a σ s z) (hj : ixN xs.length z = some j)
    (k : ∀ s1, Mx (· = p) s s1 → Own X.K s1 p (xs.set j x) → WSs X rest D σ s1.H)
    (hN : X.N[i]? = some n := by rfl) (hv : Vis X.env.scope n := by first | exact Or.inl rfl | exact Or.inr (Or.inl rfl) | exact Or.inr (Or.inr rfl)) (hd : (n == ("__debug__" : Str)) = false := by decide) (hcd : (n == ("__classdict__" : Str)) = false := by decide)
    (ha : ∀ v, assign (.Subscript (.Name n p0) a p1) X.env v = (do
      let ov ← holding [v] (eval (.Name n p0) X.env)
      let iv ← holding [v, ov] (eval a X.env)
      standAt p1
      holding [v, ov, iv] (setItem ov iv v)
      release [v, ov, iv] []) := by intro _; rfl)
    (hs : swapsWithSole [.Subscript (.Name n p0) a p1] e pos.line X.env = pure false := by rfl) (hw : swappedStores [.Subscript (.Name n p0) a p1] e X.env = pure none := by rfl)
    (h1 : (assignEach [.Subscript (.Name n p0) a p1] X.env).map (·.2) = [assign (.Subscript (.Name n p0) a p1) X.env] := by rfl) :
    WSs X (.Assign [.Subscript (.Name n p0) a p1] e pos :: rest) D σ s.H :=
  do_cons (ps_asg pe_we (pg_sub (pe_var hN hv hd hcd) pe_we set_list ha) hs hw h1) (by
    obtain ⟨f0, vs, h2, h3⟩ := id o
    refine he s (Ex.refl _) _ fun v s1 k1 r1 => ⟨_, hσ, hi s1 k1 _ fun u s2 k2 r2 => ?_⟩
    have k3 := k1.trans k2
    have f1 := k3.n _ _ h2 f0
    have g1 := k3.h _ _ h2
    refine ⟨p, vs, z, j, rfl, r2, g1, by rw [h3.len]; exact hj, ?_⟩
    exact k (s2.put p (.lst (vs.set j v)) f1) (k3.mx.trans (Mx.put f1)) ⟨f1, _, upd_same, (h3.mono k3.f).set j (Enc.mono k2.f r1)⟩)
theorem do_frz {p : Addr} {xs : List α} {ss : List Stmt} (o : Own X.K s p xs) (k : ∀ s' : S, s'.H = s.H → Fle s.F s'.F → (∀ q, q ≠ p → s'.F q = s.F q) → rep X.K s'.F (.ref p) xs → WSs X ss D σ s'.H) : WSs X ss D σ s.H := by
  obtain ⟨s', h1, h2, h3, h4⟩ := o.frz
  have := k s' h1 h2 h3 h4
  rw [h1] at this
  exact this

theorem foldO_drop {τ υ : Type} {f : υ → τ → Option υ} {b b1 : υ} {xs : List τ} {i : Nat} (hi : i < xs.length) (h : foldO f b (xs.drop i) = some b1) : ∃ b', f b xs[i] = some b' ∧ foldO f b' (xs.drop (i + 1)) = some b1 := by
  rw [List.drop_eq_getElem_cons hi] at h
  exact bndE h
theorem do_for_core {τ : Type} [Enc τ] {xs : List τ} {body : List Stmt} {g : TG} {B : Hp → τ → St → St → Prop} (hp : PassesOwn (model X.prog X.w) X.A X.env X.xe) (hc : X.calm = true) (hi : EvI X tg iter σ s xs) (hg : PG X tg g) (T : Tgt (α := τ) X.K g B)
    (R : Nat → St → S → Prop) (h0 : ∀ s1, Ex s s1 → R 0 σ s1)
    (hb : ∀ s1, Ex s s1 → ∀ (i : Nat) (x : τ) (σ' σ2 : St) (t t' : S), xs[i]? = some x → Fle s1.F t.F → R i σ' t → Ex t t' → B t'.F x σ' σ2 → WSs X body (LD D fun σ s => Fle t'.F s.F ∧ R (i + 1) σ s) σ2 t'.H)
    (hd : ∀ s1, Ex s s1 → ∀ σ' t, Fle s1.F t.F → R xs.length σ' t → WSs X rest D σ' t.H)
    (hs : ∀ x, foldedSetIterable iter X.env x = pure x := by intro _; rfl) : WSs X (.For tg iter body [] pos :: rest) D σ s.H :=
  do_cons (ps_for hp hc pi_wi hg pss_ws hs) (hi s (Ex.refl _) _ fun J s1 k1 W => by
    refine ⟨fun i m σ' H' => ∃ t : S, t.H = H' ∧ m = xs.length - i ∧ i ≤ xs.length ∧ Fle s1.F t.F ∧ R i σ' t, ⟨xs.length, s1, rfl, rfl, Nat.zero_le _, Fle.refl _, h0 s1 k1⟩, ?_⟩
    rintro i m σ' H' ⟨t, rfl, rfl, hle, f, r⟩
    by_cases hlt : i < xs.length
    · right
      obtain ⟨g1, g2⟩ := W.go i t xs[i] f (List.getElem?_eq_getElem hlt)
      refine ⟨g1, fun σ' H' => ∃ u : S, u.H = H' ∧ Fle s1.F u.F ∧ R (i + 1) σ' u, fun σ' H' ⟨u, e1, f1, r1⟩ => ⟨xs.length - (i + 1), by omega, u, e1, rfl, hlt, f1, r1⟩, fun v H' hy => ?_⟩
      obtain ⟨t', rfl, kt, rv⟩ := g2 v H' hy
      refine T.run t' v xs[i] _ _ rv fun σ2 hB => ?_
      have := hb s1 k1 i xs[i] σ' σ2 t t' (List.getElem?_eq_getElem hlt) f r kt hB
      exact this.imp (fun σ3 H3 ⟨u, e1, f1, r1⟩ => ⟨u, e1, (f.trans kt.f).trans f1, r1⟩) (fun _ _ q => q) (fun _ _ q => q.elim) (fun _ _ q => q.elim)
    · left
      have e : i = xs.length := by omega
      subst e
      exact ⟨W.stop _ t f (Nat.le_refl _), hd s1 k1 σ' t f r⟩)
theorem do_forO {τ υ : Type} [Enc τ] {xs : List τ} {f : υ → τ → Option υ} {b0 b1 : υ} {body : List Stmt} {g : TG} {B : Hp → τ → St → St → Prop} (hp : PassesOwn (model X.prog X.w) X.A X.env X.xe) (hc : X.calm = true) (hi : EvI X tg iter σ s xs) (hg : PG X tg g) (T : Tgt (α := τ) X.K g B)
    (hf : foldO f b0 xs = some b1) (R : υ → St → S → Prop) (h0 : ∀ s1, Ex s s1 → R b0 σ s1)
    (hb : ∀ s1, Ex s s1 → ∀ (x : τ) (b b' : υ) (σ' σ2 : St) (t t' : S), x ∈ xs → f b x = some b' → Fle s1.F t.F → R b σ' t → Ex t t' → B t'.F x σ' σ2 → WSs X body (LD D fun σ s => Fle t'.F s.F ∧ R b' σ s) σ2 t'.H)
    (hd : ∀ s1, Ex s s1 → ∀ σ' t, Fle s1.F t.F → R b1 σ' t → WSs X rest D σ' t.H)
    (hs : ∀ x, foldedSetIterable iter X.env x = pure x := by intro _; rfl) : WSs X (.For tg iter body [] pos :: rest) D σ s.H :=
  do_for_core hp hc hi hg T (fun i σ' t => ∃ b, foldO f b (xs.drop i) = some b1 ∧ R b σ' t) (fun s1 k => ⟨b0, hf, h0 s1 k⟩)
    (fun s1 k i x σ' σ2 t t' hx fl ⟨b, h1, h2⟩ kt hB => by
      obtain ⟨hlt, rfl⟩ := List.getElem?_eq_some_iff.mp hx
      obtain ⟨b', h3, h4⟩ := foldO_drop hlt h1
      exact (hb s1 k xs[i] b b' σ' σ2 t t' (List.getElem_mem hlt) h3 fl h2 kt hB).imp (fun σ3 H3 ⟨u, e1, f1, r1⟩ => ⟨u, e1, f1, b', h4, r1⟩) (fun _ _ q => q) (fun _ _ q => q.elim) (fun _ _ q => q.elim))
    (fun s1 k σ' t fl ⟨b, h1, h2⟩ => by
      rw [List.drop_length] at h1
      cases h1
      exact hd s1 k σ' t fl h2) hs
theorem foldF_drop {τ υ ρ : Type} {f : υ → τ → Option (Fl υ ρ)} {b : υ} {o : Fl υ ρ} {xs : List τ} {i : Nat} (hi : i < xs.length) (h : foldF f b (xs.drop i) = some o) : ∃ q, f b xs[i] = some q ∧ (∀ b', q = .nx b' → foldF f b' (xs.drop (i + 1)) = some o) ∧ ∀ r, q = .rt r → o = .rt r := by
  rw [List.drop_eq_getElem_cons hi] at h
  obtain ⟨q, h1, h2⟩ := bndE h
  refine ⟨q, h1, fun b' e => by subst e; exact h2, fun r e => by subst e; exact (Option.some.inj h2).symm⟩
theorem do_forF {τ υ ρ : Type} [Enc τ] {xs : List τ} {f : υ → τ → Option (Fl υ ρ)} {b0 : υ} {o : Fl υ ρ} {body : List Stmt} {g : TG} {B : Hp → τ → St → St → Prop} (hp : PassesOwn (model X.prog X.w) X.A X.env X.xe) (hc : X.calm = true) (hi : EvI X tg iter σ s xs) (hg : PG X tg g) (T : Tgt (α := τ) X.K g B)
    (hf : foldF f b0 xs = some o) (R : υ → St → S → Prop) (h0 : ∀ s1, Ex s s1 → R b0 σ s1)
    (hb : ∀ s1, Ex s s1 → ∀ (x : τ) (b : υ) (q : Fl υ ρ) (σ' σ2 : St) (t t' : S), x ∈ xs → f b x = some q → (∀ r, q = .rt r → o = .rt r) → Fle s1.F t.F → R b σ' t → Ex t t' → B t'.F x σ' σ2 → WSs X body (LD D fun σ s => ∃ b', q = .nx b' ∧ Fle t'.F s.F ∧ R b' σ s) σ2 t'.H)
    (hd : ∀ s1, Ex s s1 → ∀ b1 σ' t, o = .nx b1 → Fle s1.F t.F → R b1 σ' t → WSs X rest D σ' t.H)
    (hs : ∀ x, foldedSetIterable iter X.env x = pure x := by intro _; rfl) : WSs X (.For tg iter body [] pos :: rest) D σ s.H :=
  do_for_core hp hc hi hg T (fun i σ' t => ∃ b, foldF f b (xs.drop i) = some o ∧ R b σ' t) (fun s1 k => ⟨b0, hf, h0 s1 k⟩)
    (fun s1 k i x σ' σ2 t t' hx fl ⟨b, h1, h2⟩ kt hB => by
      obtain ⟨hlt, rfl⟩ := List.getElem?_eq_some_iff.mp hx
      obtain ⟨q, h3, h4, h5⟩ := foldF_drop hlt h1
      exact (hb s1 k xs[i] b q σ' σ2 t t' (List.getElem_mem hlt) h3 h5 fl h2 kt hB).imp (fun σ3 H3 ⟨u, e1, b', e2, f1, r1⟩ => ⟨u, e1, f1, b', h4 b' e2, r1⟩) (fun _ _ q => q) (fun _ _ q => q.elim) (fun _ _ q => q.elim))
    (fun s1 k σ' t fl ⟨b, h1, h2⟩ => by
      rw [List.drop_length] at h1
      cases h1
      exact hd s1 k b σ' t rfl fl h2) hs
theorem do_whileO {υ : Type} {cf : υ → Option Bool} {f : υ → Option υ} {n : Nat} {b0 b1 : υ} {body : List Stmt} (hp : PassesOwn (model X.prog X.w) X.A X.env X.xe) (hf : whileO cf f n b0 = some b1) (R : υ → St → S → Prop) (h0 : R b0 σ s)
    (hc : ∀ (b : υ) (x : Bool) (σ' : St) (t : S), cf b = some x → Fle s.F t.F → R b σ' t → EvT X c σ' t x)
    (hb : ∀ (b b' : υ) (σ' : St) (t t' : S), cf b = some true → f b = some b' → Fle s.F t.F → R b σ' t → Ex t t' → WSs X body (LD D fun σ s => Fle t'.F s.F ∧ R b' σ s) σ' t'.H)
    (hd : ∀ σ' t t', cf b1 = some false → Fle s.F t.F → R b1 σ' t → Ex t t' → WSs X rest D σ' t'.H) : WSs X (.While c body [] pos :: rest) D σ s.H :=
  do_cons (ps_while hp pt_wt pss_ws) (by
    refine ⟨fun m σ' H' => ∃ (t : S) (b : υ), t.H = H' ∧ Fle s.F t.F ∧ whileO cf f m b = some b1 ∧ R b σ' t, ⟨n, s, b0, rfl, Fle.refl _, hf, h0⟩, ?_⟩
    rintro m σ' H' ⟨t, b, rfl, fl, h1, h2⟩
    cases m with
    | zero => cases h1
    | succ m =>
      obtain ⟨x, h3, h4⟩ := bndE h1
      refine hc b x σ' t h3 fl h2 t (Ex.refl _) _ fun t' kt => ?_
      cases x with
      | true =>
        refine iteT ?_
        rw [if_pos rfl] at h4
        obtain ⟨b', h5, h6⟩ := bndE h4
        refine ⟨fun σ3 H3 => ∃ u : S, u.H = H3 ∧ Fle s.F u.F ∧ R b' σ3 u, fun σ3 H3 ⟨u, e1, f1, r1⟩ => ⟨m, Nat.lt_succ_self _, u, b', e1, f1, h6, r1⟩, ?_⟩
        exact (hb b b' σ' t t' h3 h5 fl h2 kt).imp (fun σ3 H3 ⟨u, e1, f1, r1⟩ => ⟨u, e1, (fl.trans kt.f).trans f1, r1⟩) (fun _ _ q => q) (fun _ _ q => q.elim) (fun _ _ q => q.elim)
      | false =>
        refine iteF ?_
        rw [if_neg Bool.false_ne_true] at h4
        cases h4
        exact hd σ' t t' h3 fl h2 kt)
end
end Dy

namespace Dy
open PySem PySem.Spec L2
open PyProof.Rows hiding St
open Enc (rep)
open Flat (toV)
open EncA (repA)

section
variable {P : Program} {w : World} {K : PySem.W.Frag} {mg : Str → Option Value} {base : Heap}
abbrev FunP (K : PySem.W.Frag) (x : Str) (st : Stmt) (f : Addr) (fd : FuncData) : Prop := FunD K x x (defArgs st) (defBody st) (defScope st) [] [] f fd
theorem mk_fn {A ρ : Type} [EncA A] [Enc ρ] {m : A → Option ρ} {x : Str} {st : Stmt} {f : Addr} {fd : FuncData} {N ps : List Str} {k : Nat} (F : FunP K x st f fd) (Sc : FnScope N ps (defScope st))
    (hl : ∀ (F : Hp) (vs : List V) (a : A), repA K F vs a → vs.length = ps.length)
    (body : ∀ (cdv : Value) (A' : Around) (outer : List Env) (s0 : Shared) (H0 : Hp) (E0 : XK), Room k (A'.deeper (envOfC x (defScope st) s0.heap.objs.size f cdv)) → ∀ (s : S) (vs : List V) (a : A) (r : ρ) (Q : VK), repA K s.F vs a → m a = some r →
      (∀ v s', Ex s s' → rep K s'.F v r → Q v s'.H) → WSs (cxOf CX0 P w K mg base N x (defScope st) f cdv A' outer s0 H0 E0).nox (defBody st) (RD Q) (start N vs) s.H) : FnOk P w K mg base CX0 (k + 1) f fd ps (sp K m) :=
  F.ok Sc (fun vs H Q E ⟨s, a, r, _, h, _⟩ => hl s.F vs a h) (fun cdv A' outer s0 H0 vs Q E hr ⟨s, a, r, e, h1, h2, h3⟩ => ⟨_, pss_ws.nox, by
    have := body cdv A' outer s0 H0 E hr s vs a r Q h1 h2 h3
    rw [e] at this
    exact this⟩)
theorem mk_cal {A ρ : Type} [EncA A] [Enc ρ] {m : A → Option ρ} {x : Str} {st : Stmt} {f : Addr} {fd : FuncData} {N ps : List Str} {k : Nat} (F : FunP K x st f fd) (hm : mg x = some (.ref f)) (b : Binds K fd ps []) (Sc : FnScope N ps (defScope st))
    (hl : ∀ (F : Hp) (vs : List V) (a : A), repA K F vs a → vs.length = ps.length)
    (body : ∀ (cdv : Value) (A' : Around) (outer : List Env) (s0 : Shared) (H0 : Hp) (E0 : XK), Room k (A'.deeper (envOfC x (defScope st) s0.heap.objs.size f cdv)) → ∀ (s : S) (vs : List V) (a : A) (r : ρ) (Q : VK), repA K s.F vs a → m a = some r →
      (∀ v s', Ex s s' → rep K s'.F v r → Q v s'.H) → WSs (cxOf CX0 P w K mg base N x (defScope st) f cdv A' outer s0 H0 E0).nox (defBody st) (RD Q) (start N vs) s.H) : Cal P w K mg base CX0 (k + 1) x (sp K m) :=
  ⟨f, fd, ps, F.ok Sc (fun vs H Q E ⟨s, a, r, _, h, _⟩ => hl s.F vs a h) (fun cdv A' outer s0 H0 vs Q E hr ⟨s, a, r, e, h1, h2, h3⟩ => ⟨_, pss_ws.nox, by
    have := body cdv A' outer s0 H0 E hr s vs a r Q h1 h2 h3
    rw [e] at this
    exact this⟩), hm, F.kp, b⟩
theorem mk_calN {A ρ : Type} [EncA A] [Enc ρ] {m : A → Option (List ρ)} {x : Str} {st : Stmt} {f : Addr} {fd : FuncData} {N ps : List Str} {k : Nat} (F : FunP K x st f fd) (hm : mg x = some (.ref f)) (b : Binds K fd ps []) (Sc : FnScope N ps (defScope st))
    (hl : ∀ (F : Hp) (vs : List V) (a : A), repA K F vs a → vs.length = ps.length)
    (body : ∀ (cdv : Value) (A' : Around) (outer : List Env) (s0 : Shared) (H0 : Hp) (E0 : XK), Room k (A'.deeper (envOfC x (defScope st) s0.heap.objs.size f cdv)) → ∀ (s : S) (vs : List V) (a : A) (r : List ρ) (Q : VK), repA K s.F vs a → m a = some r →
      (∀ p s', Ex s s' → s.H p = none → Own K s' p r → Q (.ref p) s'.H) → WSs (cxOf CX0 P w K mg base N x (defScope st) f cdv A' outer s0 H0 E0).nox (defBody st) (RD Q) (start N vs) s.H) : Cal P w K mg base CX0 (k + 1) x (spN K m) :=
  ⟨f, fd, ps, F.ok Sc (fun vs H Q E ⟨s, a, r, _, h, _⟩ => hl s.F vs a h) (fun cdv A' outer s0 H0 vs Q E hr ⟨s, a, r, e, h1, h2, h3⟩ => ⟨_, pss_ws.nox, by
    have := body cdv A' outer s0 H0 E hr s vs a r Q h1 h2 h3
    rw [e] at this
    exact this⟩), hm, F.kp, b⟩
theorem len1 {α : Type} [Enc α] (F : Hp) (vs : List V) (a : α × Unit) (h : repA K F vs a) : vs.length = 1 := by obtain ⟨_, _, rfl, _, rfl⟩ := h; rfl
theorem len2 {α β : Type} [Enc α] [Enc β] (F : Hp) (vs : List V) (a : α × β × Unit) (h : repA K F vs a) : vs.length = 2 := by obtain ⟨_, _, rfl, _, _, _, rfl, _, rfl⟩ := h; rfl
theorem len3 {α β γ : Type} [Enc α] [Enc β] [Enc γ] (F : Hp) (vs : List V) (a : α × β × γ × Unit) (h : repA K F vs a) : vs.length = 3 := by obtain ⟨_, _, rfl, _, _, _, rfl, _, _, _, rfl, _, rfl⟩ := h; rfl
theorem len4 {α β γ δ : Type} [Enc α] [Enc β] [Enc γ] [Enc δ] (F : Hp) (vs : List V) (a : α × β × γ × δ × Unit) (h : repA K F vs a) : vs.length = 4 := by obtain ⟨_, _, rfl, _, _, _, rfl, _, _, _, rfl, _, _, _, rfl, _, rfl⟩ := h; rfl
theorem len5 {α β γ δ ε : Type} [Enc α] [Enc β] [Enc γ] [Enc δ] [Enc ε] (F : Hp) (vs : List V) (a : α × β × γ × δ × ε × Unit) (h : repA K F vs a) : vs.length = 5 := by obtain ⟨_, _, rfl, _, _, _, rfl, _, _, _, rfl, _, _, _, rfl, _, _, _, rfl, _, rfl⟩ := h; rfl
theorem len6 {α β γ δ ε ζ : Type} [Enc α] [Enc β] [Enc γ] [Enc δ] [Enc ε] [Enc ζ] (F : Hp) (vs : List V) (a : α × β × γ × δ × ε × ζ × Unit) (h : repA K F vs a) : vs.length = 6 := by obtain ⟨_, _, rfl, _, _, _, rfl, _, _, _, rfl, _, _, _, rfl, _, _, _, rfl, _, _, _, rfl, _, rfl⟩ := h; rfl
end

class Ty (α : Type) extends Enc α where
  ty : α → String
  is : ∀ {K : PySem.W.Frag} {F H : Hp} {v : V} {x : α}, rep K F v x → Fle F H → TyX K H v (.type (ty x))
theorem sql_ty {K : PySem.W.Frag} {H : Hp} {p : Addr} {vs : List V} (h : SqL K H p vs) : TyX K H (.ref p) (.type "list") := by
  rcases h with (h | ⟨o, h⟩) | ⟨o, its, n, h, hc, _⟩
  · exact .base (.lst h)
  · exact .base (.frz h)
  · exact .kList h hc
theorem sqt_ty {K : PySem.W.Frag} {H : Hp} {p : Addr} {vs : List V} (h : SqT K H p vs) : TyX K H (.ref p) (.type "tuple") := by
  rcases h with (h | ⟨o, h⟩) | ⟨o, its, n, h, hc, _⟩
  · exact .base (.tup h)
  · exact .fTuple h
  · exact .kTuple h hc
instance : Ty Int := ⟨fun _ => "int", fun {K F H v x} h _ => by rw [show v = V.int x from h]; exact .base (.int _)⟩
instance : Ty Bool := ⟨fun _ => "bool", fun {K F H v x} h _ => by rw [show v = V.bl x from h]; exact .base (.bl _)⟩
instance : Ty Str := ⟨fun _ => "str", fun {K F H v x} h _ => by rw [show v = V.str x from h]; exact .base (.str _)⟩
instance {α : Type} [Ty α] : Ty (Option α) := ⟨fun x => match x with | none => "NoneType" | some y => Ty.ty y, fun {K F H v x} h f => by
  cases x with
  | none => rw [show v = V.non from h]; exact .base .non
  | some y => exact Ty.is (α := α) h f⟩
instance {α : Type} [Enc α] : Ty (List α) := ⟨fun _ => "list", fun h f => by
  obtain ⟨p, vs, rfl, h1, _⟩ := h
  exact sql_ty (sql_mono f h1)⟩
instance {α : Type} [Enc α] : Ty (Tu α) := ⟨fun _ => "tuple", fun h f => by
  obtain ⟨p, vs, rfl, h1, _⟩ := h
  exact sqt_ty (sqt_mono f h1)⟩
instance {α β : Type} [Enc α] [Enc β] : Ty (α × β) := ⟨fun _ => "tuple", fun h f => by
  obtain ⟨p, v1, v2, rfl, h1, _⟩ := h
  exact sqt_ty (sqt_mono f h1)⟩
instance {α : Type} [Enc α] : Ty (T1 α) := ⟨fun _ => "tuple", fun h f => by
  obtain ⟨p, v1, rfl, h1, _⟩ := h
  exact sqt_ty (sqt_mono f h1)⟩
instance {α β γ : Type} [Enc α] [Enc β] [Enc γ] : Ty (T3 α β γ) := ⟨fun _ => "tuple", fun h f => by
  obtain ⟨p, v1, v2, v3, rfl, h1, _⟩ := h
  exact sqt_ty (sqt_mono f h1)⟩
instance {α β γ δ : Type} [Enc α] [Enc β] [Enc γ] [Enc δ] : Ty (T4 α β γ δ) := ⟨fun _ => "tuple", fun h f => by
  obtain ⟨p, v1, v2, v3, v4, rfl, h1, _⟩ := h
  exact sqt_ty (sqt_mono f h1)⟩
instance {α β γ δ ε : Type} [Enc α] [Enc β] [Enc γ] [Enc δ] [Enc ε] : Ty (T5 α β γ δ ε) := ⟨fun _ => "tuple", fun h f => by
  obtain ⟨p, v1, v2, v3, v4, v5, rfl, h1, _⟩ := h
  exact sqt_ty (sqt_mono f h1)⟩
section
variable {α β : Type} {X : Cx} {σ : St} {s : S} {a b : Expr} {pos p0 p1 p2 p3 : Pos}
theorem ev_isi [Ty α] {x : α} {n : Str} {T : String} {r : Bool} (hm : X.mg "isinstance" = none) (hn : X.mg n = none) (hv : bootBuiltins n = some (.type T)) (ha : Ev X a σ s x) (h : kitB (Ty.ty x) T = some r)
    (hg : Gl X "isinstance" := by rfl) (hgn : Gl X n := by rfl) (he : starEach [a, .Name n p1] X.env = (false, eval a X.env) :: starEach [.Name n p1] X.env := by rfl) (he2 : starEach [.Name n p1] X.env = (false, eval (.Name n p1) X.env) :: starEach [] X.env := by rfl) (hpl : (backTo pos (starEach [.Name n p1] X.env)).any (·.1) = false := by rfl)
    (hnn : n ≠ "__name__" := by decide) (hnd : (n == ("__debug__" : Str)) = false := by decide) :
    Ev X (.Call (.Name "isinstance" p0) [a, .Name n p1] [] pos) σ s r := fun s1 k Q q =>
  we_of (pe_callB call_isi hg hm (by decide +kernel) (pa_cons pe_we (pa_cons (pe_bltn (v := .ty T) hgn hn hv rfl hnn hnd) pa_nil he2) he) (he := he) (hpl := hpl)) (ha s1 k _ fun v s2 k2 r2 =>
    ⟨v, .ty T, .type (Ty.ty x), .type T, r, rfl, .ty T, Ty.is r2 s2.sub, kit_ty h, q _ s2 k2 rfl⟩)

class EqD (α : Type) extends Enc α where
  toD : α → PyData
  dp : ∀ {K : PySem.W.Frag} {F H : Hp} {v : V} {x : α}, rep K F v x → Fle F H → Dp K H v (toD x)
  eqv : ∀ x y : α, PyData.eqv (toD x) (toD y) = true ↔ x = y
def DpR {α : Type} [EqD α] {K : PySem.W.Frag} {F H : Hp} (f : Fle F H) : ∀ {vs : List V} {xs : List α}, Reps K F vs xs → DpAll K H vs (xs.map EqD.toD)
  | [], [], _ => .nil
  | _ :: _, _ :: _, ⟨h, t⟩ => .cons (EqD.dp h f) (DpR f t)
  | [], _ :: _, h => h.elim
  | _ :: _, [], h => h.elim
theorem eqv_all {α : Type} [EqD α] : ∀ xs ys : List α, PyData.eqvAll (xs.map EqD.toD) (ys.map EqD.toD) = true ↔ xs = ys
  | [], [] => by simp [PyData.eqvAll]
  | [], _ :: _ => by simp [PyData.eqvAll]
  | _ :: _, [] => by simp [PyData.eqvAll]
  | x :: xs, y :: ys => by
    show (PyData.eqv (EqD.toD x) (EqD.toD y) && PyData.eqvAll (xs.map EqD.toD) (ys.map EqD.toD)) = true ↔ _
    rw [Bool.and_eq_true, EqD.eqv, eqv_all xs ys]
    simp
instance : EqD Int := ⟨PyData.int, fun {K F H v x} h _ => by rw [show v = V.int x from h]; exact .int _, fun x y => by show (x == y) = true ↔ _; simp⟩
instance : EqD Bool := ⟨PyData.bool, fun {K F H v x} h _ => by rw [show v = V.bl x from h]; exact .bl _, fun x y => by show (x == y) = true ↔ _; simp⟩
instance : EqD Str := ⟨PyData.str, fun {K F H v x} h _ => by rw [show v = V.str x from h]; exact .str _, fun x y => by show (x == y) = true ↔ _; simp⟩
instance : EqD (Option Int) := ⟨fun x => match x with | none => .none | some i => .int i, fun {K F H v x} h _ => by
  cases x with
  | none => rw [show v = V.non from h]; exact .non
  | some i => rw [show v = V.int i from h]; exact .int _, fun x y => by cases x <;> cases y <;> simp [PyData.eqv]⟩
instance : EqD (Option Str) := ⟨fun x => match x with | none => .none | some i => .str i, fun {K F H v x} h _ => by
  cases x with
  | none => rw [show v = V.non from h]; exact .non
  | some i => rw [show v = V.str i from h]; exact .str _, fun x y => by cases x <;> cases y <;> simp [PyData.eqv]⟩
instance {α : Type} [EqD α] : EqD (List α) := ⟨fun xs => .list (xs.map EqD.toD), fun h f => by
  obtain ⟨p, vs, rfl, h1, h2⟩ := h
  exact .lst (sql_mono f h1) (DpR f h2), fun x y => eqv_all x y⟩
instance {α : Type} [EqD α] : EqD (Tu α) := ⟨fun xs => .tuple (xs.l.map EqD.toD), fun h f => by
  obtain ⟨p, vs, rfl, h1, h2⟩ := h
  exact .tup (sqt_mono f h1) (DpR f h2), fun x y => by
    obtain ⟨x⟩ := x
    obtain ⟨y⟩ := y
    show PyData.eqvAll _ _ = true ↔ _
    rw [eqv_all]; simp⟩
instance {α β : Type} [EqD α] [EqD β] : EqD (α × β) := ⟨fun x => .tuple [EqD.toD x.1, EqD.toD x.2], fun h f => by
  obtain ⟨p, v1, v2, rfl, h0, h1, h2⟩ := h
  exact .tup (sqt_mono f h0) (.cons (EqD.dp h1 f) (.cons (EqD.dp h2 f) .nil)), fun x y => by
    obtain ⟨x1, x2⟩ := x
    obtain ⟨y1, y2⟩ := y
    show (PyData.eqv _ _ && (PyData.eqv _ _ && true)) = true ↔ _
    rw [Bool.and_eq_true, Bool.and_eq_true, EqD.eqv, EqD.eqv]; simp⟩
instance {α β γ : Type} [EqD α] [EqD β] [EqD γ] : EqD (T3 α β γ) := ⟨fun x => .tuple [EqD.toD x.a, EqD.toD x.b, EqD.toD x.c], fun h f => by
  obtain ⟨p, v1, v2, v3, rfl, h0, h1, h2, h3⟩ := h
  exact .tup (sqt_mono f h0) (.cons (EqD.dp h1 f) (.cons (EqD.dp h2 f) (.cons (EqD.dp h3 f) .nil))), fun x y => by
    obtain ⟨x1, x2, x3⟩ := x
    obtain ⟨y1, y2, y3⟩ := y
    show (PyData.eqv _ _ && (PyData.eqv _ _ && (PyData.eqv _ _ && true))) = true ↔ _
    rw [Bool.and_eq_true, Bool.and_eq_true, Bool.and_eq_true, EqD.eqv, EqD.eqv, EqD.eqv]; simp⟩
instance {α : Type} [EqD α] : EqD (T1 α) := ⟨fun x => .tuple [EqD.toD x.a], fun h f => by
  obtain ⟨p, v1, rfl, h0, h1⟩ := h
  exact .tup (sqt_mono f h0) (.cons (EqD.dp h1 f) .nil), fun x y => by
    obtain ⟨x1⟩ := x
    obtain ⟨y1⟩ := y
    show (PyData.eqv _ _ && true) = true ↔ _
    rw [Bool.and_eq_true, EqD.eqv]; simp⟩
def shp {α : Type} [EqD α] (x : α) : Prop := SeqAt.shaped (EqD.toD x) = true
theorem eqv_dec {α : Type} [EqD α] [DecidableEq α] (x y : α) : PyData.eqv (EqD.toD x) (EqD.toD y) = decide (x = y) := by
  rw [Bool.eq_iff_iff, EqD.eqv, decide_eq_true_eq]
theorem repR_d {α : Type} [EqD α] {K : PySem.W.Frag} {v : V} {xs : List α} (h : RepR K s v xs) : Dp K s.H v (EqD.toD xs) := by
  obtain ⟨p, vs, rfl, h1, h2⟩ := h
  exact .lst h1 (DpR s.sub h2)
theorem hu64 {j : Nat} (hr : Room j X.A) : X.A.units + 64 < cLine := by
  have := hr.un
  omega
theorem eb_eqD [EqD α] [DecidableEq α] {x y : α} {j : Nat} (hr : Room j X.A) (ha : Ev X a σ s x) (hb : Ev X b σ s y) (h1 : shp x) (h2 : shp y) : EvB X (.Compare a [.Eq] [b] pos) σ s (decide (x = y)) :=
  eb_cmp (op_eqD (hu64 hr)) ha hb (fun v u s2 hv hu Q q => ⟨_, _, EqD.dp hv s2.sub, EqD.dp hu s2.sub, h1, h2, by rw [eqv_dec]; exact q⟩) (nomark _)
theorem eb_neD [EqD α] [DecidableEq α] {x y : α} {j : Nat} (hr : Room j X.A) (ha : Ev X a σ s x) (hb : Ev X b σ s y) (h1 : shp x) (h2 : shp y) : EvB X (.Compare a [.NotEq] [b] pos) σ s (!decide (x = y)) :=
  eb_cmp (op_neD (hu64 hr)) ha hb (fun v u s2 hv hu Q q => ⟨_, _, EqD.dp hv s2.sub, EqD.dp hu s2.sub, h1, h2, by rw [eqv_dec]; exact q⟩) (nomark _)
theorem eb_eqL [EqD α] [DecidableEq α] {x y : List α} {j : Nat} (hr : Room j X.A) (ha : EvR X a σ s x) (hb : EvR X b σ s y) (h1 : shp x) (h2 : shp y) : EvB X (.Compare a [.Eq] [b] pos) σ s (decide (x = y)) :=
  eb_cmpRR (op_eqD (hu64 hr)) ha hb (fun v u s2 hv hu Q q => ⟨_, _, repR_d hv, repR_d hu, h1, h2, by rw [eqv_dec]; exact q⟩) (nomark _)
theorem eb_neL [EqD α] [DecidableEq α] {x y : List α} {j : Nat} (hr : Room j X.A) (ha : EvR X a σ s x) (hb : EvR X b σ s y) (h1 : shp x) (h2 : shp y) : EvB X (.Compare a [.NotEq] [b] pos) σ s (!decide (x = y)) :=
  eb_cmpRR (op_neD (hu64 hr)) ha hb (fun v u s2 hv hu Q q => ⟨_, _, repR_d hv, repR_d hu, h1, h2, by rw [eqv_dec]; exact q⟩) (nomark _)
end

class Shp (α : Type) (n : outParam Nat) extends EqD α where
  ok : ∀ x : α, PyData.canLay0 (EqD.toD x) = true ∧ PyData.depth (EqD.toD x) ≤ n
theorem shp_all {α : Type} {n : Nat} [Shp α n] : ∀ xs : List α, PyData.canLayAll0 (xs.map EqD.toD) = true ∧ PyData.depthAll (xs.map EqD.toD) ≤ n
  | [] => ⟨by simp [PyData.canLayAll0], by simp [PyData.depthAll]⟩
  | x :: xs => by
    obtain ⟨h1, h2⟩ := shp_all xs
    obtain ⟨h3, h4⟩ := Shp.ok x
    refine ⟨?_, ?_⟩
    · show PyData.canLayAll0 (EqD.toD x :: xs.map EqD.toD) = true
      unfold PyData.canLayAll0
      rw [h3, h1]; rfl
    · show PyData.depthAll (EqD.toD x :: xs.map EqD.toD) ≤ n
      unfold PyData.depthAll
      omega
instance : Shp Int 0 := ⟨fun x => ⟨by show PyData.canLay0 (.int x) = true; unfold PyData.canLay0; rfl, by show PyData.depth (.int x) ≤ 0; unfold PyData.depth; omega⟩⟩
instance : Shp Bool 0 := ⟨fun x => ⟨by show PyData.canLay0 (.bool x) = true; unfold PyData.canLay0; rfl, by show PyData.depth (.bool x) ≤ 0; unfold PyData.depth; omega⟩⟩
instance : Shp (Option Int) 0 := ⟨fun x => by
  cases x with
  | none => exact ⟨by show PyData.canLay0 .none = true; unfold PyData.canLay0; rfl, by show PyData.depth .none ≤ 0; unfold PyData.depth; omega⟩
  | some i => exact ⟨by show PyData.canLay0 (.int i) = true; unfold PyData.canLay0; rfl, by show PyData.depth (.int i) ≤ 0; unfold PyData.depth; omega⟩⟩
instance {α : Type} {n : Nat} [Shp α n] : Shp (List α) (n + 1) := ⟨fun x => by
  obtain ⟨h1, h2⟩ := shp_all x
  refine ⟨?_, ?_⟩
  · show PyData.canLay0 (.list (x.map EqD.toD)) = true
    unfold PyData.canLay0; exact h1
  · show PyData.depth (.list (x.map EqD.toD)) ≤ n + 1
    unfold PyData.depth; omega⟩
instance {α : Type} {n : Nat} [Shp α n] : Shp (Tu α) (n + 1) := ⟨fun x => by
  obtain ⟨h1, h2⟩ := shp_all x.l
  refine ⟨?_, ?_⟩
  · show PyData.canLay0 (.tuple (x.l.map EqD.toD)) = true
    unfold PyData.canLay0; exact h1
  · show PyData.depth (.tuple (x.l.map EqD.toD)) ≤ n + 1
    unfold PyData.depth; omega⟩
instance {α β : Type} {n m : Nat} [Shp α n] [Shp β m] : Shp (α × β) (n + m + 1) := ⟨fun x => by
  obtain ⟨h1, h2⟩ := Shp.ok x.1
  obtain ⟨h3, h4⟩ := Shp.ok x.2
  refine ⟨?_, ?_⟩
  · show PyData.canLay0 (.tuple [EqD.toD x.1, EqD.toD x.2]) = true
    simp [PyData.canLay0, PyData.canLayAll0, h1, h3]
  · show PyData.depth (.tuple [EqD.toD x.1, EqD.toD x.2]) ≤ n + m + 1
    simp [PyData.depth, PyData.depthAll]
    omega⟩
instance {α : Type} {n : Nat} [Shp α n] : Shp (T1 α) (n + 1) := ⟨fun x => by
  obtain ⟨h1, h2⟩ := Shp.ok x.a
  refine ⟨?_, ?_⟩
  · show PyData.canLay0 (.tuple [EqD.toD x.a]) = true
    simp [PyData.canLay0, PyData.canLayAll0, h1]
  · show PyData.depth (.tuple [EqD.toD x.a]) ≤ n + 1
    simp [PyData.depth, PyData.depthAll]
    omega⟩
theorem shp_of {α : Type} {n : Nat} [Shp α n] (x : α) (h : n ≤ 64 := by decide) : shp x := by
  obtain ⟨h1, h2⟩ := Shp.ok x
  unfold shp SeqAt.shaped
  rw [h1, decide_eq_true (Nat.le_trans h2 h)]; rfl

def spLaw (K : PySem.W.Frag) : Sp := fun vs H Q _ => ∃ (a : Addr) (ns : List Int), vs = [.ref a] ∧ SqL K H a (ns.map V.int) ∧ ns.length ≤ 63 ∧ ∀ H', Q (.bl true) H'
theorem law_of {P : Program} {w : World} {K : PySem.W.Frag} {mg : Str → Option Value} {base : Heap} {CX : CXT} {k : Nat} {f : Addr} {fd : FuncData} {ps : List Str} {m : List Int × Unit → Option Bool} (F : FnOk P w K mg base CX k f fd ps (sp K m)) (h : ∀ ns : List Int, ns.length ≤ 63 → m (ns, ()) = some true) : FnOk P w K mg base CX k f fd ps (spLaw K) :=
  F.imp fun vs H Q E ⟨a, ns, e, hs, hl, q⟩ => by
    subst e
    exact ⟨⟨H, H, fun _ _ h => h⟩, (ns, ()), true, rfl, ⟨.ref a, [], rfl, ⟨a, ns.map V.int, rfl, hs, Reps.of_flat ns⟩, rfl⟩, h ns hl, fun v s' _ r => by rw [show v = V.bl true from r]; exact q _⟩
end Dy

namespace Dy
open PySem PySem.Spec L2
open PyProof.Rows hiding St
open Enc (rep)
open Flat (toV)
open EncA (repA)

def strI (x : Int) : Str := toString x
noncomputable def sortI (xs : List Int) : List Int := xs.mergeSort (fun x y => decide (x ≤ y))
def Fl.go {β ρ γ : Type} (o : Fl β ρ) (k : β → γ) (e : ρ → γ) : γ := match o with
  | .nx b => k b
  | .rt r => e r
@[irreducible] def fuel : Nat := 1000000
theorem rng_mem {a b x : Int} (h : x ∈ rng a b) : a ≤ x ∧ x < b := by
  obtain ⟨i, hi⟩ := List.mem_iff_getElem?.mp h
  obtain ⟨h1, h2⟩ := rng_get hi
  omega
theorem frzE {s0 s s' : S} {p : Addr} (E : Ex s0 s) (n : s0.H p = none) (h1 : s'.H = s.H) (h2 : Fle s.F s'.F) (h3 : ∀ q, q ≠ p → s'.F q = s.F q) : Ex s0 s' :=
  ⟨E.f.trans h2, fun a o h => by rw [h1]; exact E.h a o h, fun a o h m => by rw [h3 a (ne_of_none h n)]; exact E.n a o h m⟩
theorem ownFrz {α : Type} [Enc α] {K : PySem.W.Frag} {s s' : S} {p q : Addr} {xs : List α} (o : Own K s q xs) (hne : q ≠ p) (h1 : s'.H = s.H) (h2 : Fle s.F s'.F) (h3 : ∀ q, q ≠ p → s'.F q = s.F q) : Own K s' q xs := by
  obtain ⟨hn, vs, hp, r⟩ := o
  exact ⟨by rw [h3 q hne]; exact hn, vs, by rw [h1]; exact hp, r.mono h2⟩
section
variable {α β γ δ ε : Type} [Enc α] [Enc β] [Enc γ] [Enc δ] [Enc ε] {X : Cx} {σ : St} {s t : S} {e a b c tg iter : Expr} {es : List Expr} {pos p0 p1 p2 p3 : Pos} {D : Ends} {rest A B body : List Stmt}
theorem ec_andO {x r : Bool} (h : EvB X a σ s x) (h2 : x = true → EvC X (.BoolOp .And (b :: es) pos) σ s r) (h3 : x = false → r = false) : EvC X (.BoolOp .And (a :: b :: es) pos) σ s r := by
  cases x with
  | true => exact (ec_and h h2 : EvC X _ σ s (true && r))
  | false =>
    have := ec_and (y := false) (es := es) (b := b) (pos := pos) h (fun z => Bool.noConfusion z)
    rw [h3 rfl]
    exact this
theorem ec_orO {x r : Bool} (h : EvB X a σ s x) (h2 : x = false → EvC X (.BoolOp .Or (b :: es) pos) σ s r) (h3 : x = true → r = true) : EvC X (.BoolOp .Or (a :: b :: es) pos) σ s r := by
  cases x with
  | false => exact (ec_or h h2 : EvC X _ σ s (false || r))
  | true =>
    have := ec_or (y := true) (es := es) (b := b) (pos := pos) h (fun z => Bool.noConfusion z)
    rw [h3 rfl]
    exact this
theorem et_tru {xs : List α} (h : EvR X e σ s xs) (he : ∀ whole, isTrue e X.env whole = (do let v ← whole; standAt e.pos; holding [v] (truthy v)) := by intro _; rfl) : EvT X e σ s (!xs.isEmpty) := fun s1 k Q q =>
  wt_of (pt_truth pe_we he) (h s1 k _ fun v s2 k2 r => by
    obtain ⟨p, vs, rfl, h1, h2⟩ := r
    refine ⟨_, .inl ⟨vs, h1, ?_⟩, q s2 k2⟩
    have := h2.len
    cases vs <;> cases xs <;> simp at this ⊢)
theorem isi_optT {τ : Type} [Ty τ] (x : Option τ) {T : String} (h1 : ∀ y : τ, kitB (Ty.ty y) T = some true) (h2 : kitB "NoneType" T = some false) : kitB (Ty.ty x) T = some x.isSome := by
  cases x with
  | none => exact h2
  | some y => exact h1 y
theorem isi_optF {τ : Type} [Ty τ] (x : Option τ) {T : String} (h1 : ∀ y : τ, kitB (Ty.ty y) T = some false) (h2 : kitB "NoneType" T = some false) : kitB (Ty.ty x) T = some false := by
  cases x with
  | none => exact h2
  | some y => exact h1 y
theorem en_rev {xs : List α} {k q1 q2 q3} (ha : EvR X e σ s xs) : EvN X (.Subscript e (.Slice none none (some (.UnaryOp .USub (.Constant (.int 1) k q1) q2)) q3) pos) σ s xs.reverse := fun s1 k1 Q q =>
  we_of (pe_revL pe_we) (ha s1 k1 _ fun v s2 k2 r2 => by
    obtain ⟨p, vs, rfl, h1, h2⟩ := r2
    exact ⟨p, vs, rfl, h1, fun l hl => q l (s2.newO l _ hl) (k2.trans (Ex.newO hl)) (fr_back k2 hl) (own_new hl h2.rev)⟩)
theorem do_drop {x : α} (h : Ev X e σ s x) (k : ∀ s1, Ex s s1 → WSs X rest D σ s1.H) (hs : swapsWith e none pos.line X.env = pure false := by rfl) : WSs X (.Expr e pos :: rest) D σ s.H :=
  do_cons (ps_expr pe_we hs) (h s (Ex.refl _) _ fun v s1 k1 r => k s1 k1)
theorem do_unp2 (i j : Nat) {x : α × β} (h : Ev X e σ s x) (k : ∀ v w s1, Ex s s1 → rep X.K s1.F v x.1 → rep X.K s1.F w x.2 → WSs X rest D ((σ.set i (some v)).set j (some w)) s1.H)
    (hg : PG X tg (gTup X.K 2 (gCons (gName i) (gCons (gName j) gNil)))) (hs : swapsWithSole [tg] e pos.line X.env = pure false := by rfl) (hw : swappedStores [tg] e X.env = pure none := by rfl)
    (h1 : (assignEach [tg] X.env).map (·.2) = [assign tg X.env] := by rfl) : WSs X (.Assign [tg] e pos :: rest) D σ s.H :=
  do_cons (ps_asg pe_we hg hs hw h1) (h s (Ex.refl _) _ fun v s1 k1 r => by
    obtain ⟨p, v1, v2, rfl, h0, h1, h2⟩ := r
    exact ⟨p, _, rfl, sqt_mono s1.sub h0, rfl, v1, _, rfl, v2, _, rfl, rfl, k v1 v2 s1 k1 h1 h2⟩)
theorem do_unp3 (i j l : Nat) {x : T3 α β γ} (h : Ev X e σ s x) (k : ∀ v w u s1, Ex s s1 → rep X.K s1.F v x.a → rep X.K s1.F w x.b → rep X.K s1.F u x.c → WSs X rest D (((σ.set i (some v)).set j (some w)).set l (some u)) s1.H)
    (hg : PG X tg (gTup X.K 3 (gCons (gName i) (gCons (gName j) (gCons (gName l) gNil))))) (hs : swapsWithSole [tg] e pos.line X.env = pure false := by rfl) (hw : swappedStores [tg] e X.env = pure none := by rfl)
    (h1 : (assignEach [tg] X.env).map (·.2) = [assign tg X.env] := by rfl) : WSs X (.Assign [tg] e pos :: rest) D σ s.H :=
  do_cons (ps_asg pe_we hg hs hw h1) (h s (Ex.refl _) _ fun v s1 k1 r => by
    obtain ⟨p, v1, v2, v3, rfl, h0, h1, h2, h3⟩ := r
    exact ⟨p, _, rfl, sqt_mono s1.sub h0, rfl, v1, _, rfl, v2, _, rfl, v3, _, rfl, rfl, k v1 v2 v3 s1 k1 h1 h2 h3⟩)
theorem do_whileF {υ ρ : Type} {cf : υ → Option Bool} {f : υ → Option (Fl υ ρ)} {n : Nat} {b0 : υ} {o : Fl υ ρ} (hp : PassesOwn (model X.prog X.w) X.A X.env X.xe) (hf : whileF cf f n b0 = some o) (R : υ → St → S → Prop) (h0 : R b0 σ s)
    (hc : ∀ (b : υ) (x : Bool) (σ' : St) (t : S), cf b = some x → Fle s.F t.F → R b σ' t → EvT X c σ' t x)
    (hb : ∀ (b : υ) (q : Fl υ ρ) (σ' : St) (t t' : S), cf b = some true → f b = some q → (∀ r, q = .rt r → o = .rt r) → Fle s.F t.F → R b σ' t → Ex t t' → WSs X body (LD D fun σ s => ∃ b', q = .nx b' ∧ Fle t'.F s.F ∧ R b' σ s) σ' t'.H)
    (hd : ∀ b1 σ' t t', o = .nx b1 → cf b1 = some false → Fle s.F t.F → R b1 σ' t → Ex t t' → WSs X rest D σ' t'.H) : WSs X (.While c body [] pos :: rest) D σ s.H :=
  do_cons (ps_while hp pt_wt pss_ws) (by
    refine ⟨fun m σ' H' => ∃ (t : S) (b : υ), t.H = H' ∧ Fle s.F t.F ∧ whileF cf f m b = some o ∧ R b σ' t, ⟨n, s, b0, rfl, Fle.refl _, hf, h0⟩, ?_⟩
    rintro m σ' H' ⟨t, b, rfl, fl, h1, h2⟩
    cases m with
    | zero => cases h1
    | succ m =>
      obtain ⟨x, h3, h4⟩ := bndE h1
      refine hc b x σ' t h3 fl h2 t (Ex.refl _) _ fun t' kt => ?_
      cases x with
      | true =>
        refine iteT ?_
        rw [if_pos rfl] at h4
        obtain ⟨q, h5, h6⟩ := bndE h4
        refine ⟨fun σ3 H3 => ∃ b', q = .nx b' ∧ ∃ u : S, u.H = H3 ∧ Fle s.F u.F ∧ R b' σ3 u, fun σ3 H3 ⟨b', e0, u, e1, f1, r1⟩ => ⟨m, Nat.lt_succ_self _, u, b', e1, f1, by subst e0; exact h6, r1⟩, ?_⟩
        exact (hb b q σ' t t' h3 h5 (fun r e0 => by subst e0; exact (Option.some.inj h6).symm) fl h2 kt).imp (fun σ3 H3 ⟨u, e1, b', e2, f1, r1⟩ => ⟨b', e2, u, e1, (fl.trans kt.f).trans f1, r1⟩) (fun _ _ q => q) (fun _ _ q => q.elim) (fun _ _ q => q.elim)
      | false =>
        refine iteF ?_
        rw [if_neg Bool.false_ne_true] at h4
        cases h4
        exact hd b σ' t t' rfl h3 fl h2 kt)
end
end Dy

namespace Dy
open PySem PySem.Spec L2
open PyProof.Rows hiding St

def Ok {α : Type} (m : Option α) (P : α → Prop) : Prop := ∃ r, m = some r ∧ P r
section
variable {α β γ ρ : Type}
theorem Ok.imp {m : Option α} {P Q : α → Prop} (h : Ok m P) (k : ∀ r, P r → Q r) : Ok m Q := let ⟨r, e, p⟩ := h; ⟨r, e, k r p⟩
theorem Ok.eq {m : Option α} {x : α} (h : Ok m (· = x)) : m = some x := by obtain ⟨r, e, rfl⟩ := h; exact e
theorem ok_eq {m : Option α} {x : α} {P : α → Prop} (h : m = some x) (p : P x) : Ok m P := ⟨x, h, p⟩
theorem ok_some {x : α} {P : α → Prop} (p : P x) : Ok (some x) P := ⟨x, rfl, p⟩
theorem ok_bnd {m : Option α} {f : α → Option β} {P : α → Prop} {Q : β → Prop} (h : Ok m P) (k : ∀ r, P r → Ok (f r) Q) : Ok (bnd m f) Q := by
  obtain ⟨r, e, p⟩ := h
  subst e
  exact k r p
theorem ok_chk {c : Prop} {m : Option α} {Q : α → Prop} (h : c) (k : Ok m Q) : Ok (chk c m) Q := by rw [chk_pos h]; exact k
theorem ok_lt {x : α} {f : α → Option β} {Q : β → Prop} (k : ∀ y, y = x → Ok (f y) Q) : Ok (lt x f) Q := k x rfl
theorem ok_ite {b : Bool} {m k : Option α} {Q : α → Prop} (h1 : b = true → Ok m Q) (h2 : b = false → Ok k Q) : Ok (if b = true then m else k) Q := by
  cases b with
  | true => exact h1 rfl
  | false => exact h2 rfl
theorem ok_andO {a : Bool} {m : Option Bool} {Q : Bool → Prop} (h1 : a = true → Ok m Q) (h2 : a = false → Q false) : Ok (andO a m) Q := by
  cases a with
  | true => exact h1 rfl
  | false => exact ⟨false, rfl, h2 rfl⟩
theorem ok_orO {a : Bool} {m : Option Bool} {Q : Bool → Prop} (h1 : a = false → Ok m Q) (h2 : a = true → Q true) : Ok (orO a m) Q := by
  cases a with
  | false => exact h1 rfl
  | true => exact ⟨true, rfl, h2 rfl⟩
theorem ok_foldO {f : β → α → Option β} (I : Nat → β → Prop) : ∀ {xs : List α} {b : β} {Q : β → Prop}, I 0 b → (∀ i b x, xs[i]? = some x → I i b → Ok (f b x) (I (i + 1))) → (∀ b, I xs.length b → Q b) → Ok (foldO f b xs) Q := by
  have key : ∀ (xs : List α) (b : β) (k : Nat), I k b → (∀ i b x, xs[i]? = some x → I (k + i) b → Ok (f b x) (I (k + i + 1))) → Ok (foldO f b xs) (I (k + xs.length)) := by
    intro xs
    induction xs with
    | nil => intro b k h _; exact ⟨b, rfl, h⟩
    | cons x r ih =>
      intro b k h hs
      refine ok_bnd (hs 0 b x rfl h) fun b' h' => ?_
      have := ih b' (k + 1) h' (fun i b y hy hI => by
        have := hs (i + 1) b y (by simpa using hy) (by rw [show k + (i + 1) = k + 1 + i by omega]; exact hI)
        rw [show k + (i + 1) + 1 = k + 1 + i + 1 by omega] at this
        exact this)
      rw [List.length_cons, show k + (r.length + 1) = k + 1 + r.length by omega]
      exact this
  intro xs b Q h0 hs hd
  have := key xs b 0 h0 (fun i b x hx hI => by
    have := hs i b x hx (by rw [Nat.zero_add] at hI; exact hI)
    rw [Nat.zero_add]; exact this)
  rw [Nat.zero_add] at this
  exact this.imp hd
theorem ok_foldF {f : β → α → Option (Fl β ρ)} (I : Nat → β → Prop) (Rr : ρ → Prop) : ∀ {xs : List α} {b : β} {Q : Fl β ρ → Prop}, I 0 b → (∀ i b x, xs[i]? = some x → I i b → Ok (f b x) (fun o => match o with | .nx b' => I (i + 1) b' | .rt r => Rr r)) →
    (∀ b, I xs.length b → Q (.nx b)) → (∀ r, Rr r → Q (.rt r)) → Ok (foldF f b xs) Q := by
  have key : ∀ (xs : List α) (b : β) (k : Nat), I k b → (∀ i b x, xs[i]? = some x → I (k + i) b → Ok (f b x) (fun o => match o with | .nx b' => I (k + i + 1) b' | .rt r => Rr r)) → Ok (foldF f b xs) (fun o => match o with | .nx b' => I (k + xs.length) b' | .rt r => Rr r) := by
    intro xs
    induction xs with
    | nil => intro b k h _; exact ⟨.nx b, rfl, h⟩
    | cons x r ih =>
      intro b k h hs
      refine ok_bnd (hs 0 b x rfl h) fun o h' => ?_
      cases o with
      | rt r => exact ⟨.rt r, rfl, h'⟩
      | nx b' =>
        have := ih b' (k + 1) h' (fun i b y hy hI => by
          have := hs (i + 1) b y (by simpa using hy) (by rw [show k + (i + 1) = k + 1 + i by omega]; exact hI)
          rw [show k + (i + 1) + 1 = k + 1 + i + 1 by omega] at this
          exact this)
        rw [List.length_cons, show k + (r.length + 1) = k + 1 + r.length by omega]
        exact this
  intro xs b Q h0 hs hd hr
  have := key xs b 0 h0 (fun i b x hx hI => by
    have := hs i b x hx (by rw [Nat.zero_add] at hI; exact hI)
    rw [Nat.zero_add]; exact this)
  rw [Nat.zero_add] at this
  refine this.imp fun o h => ?_
  cases o with
  | nx b => exact hd b h
  | rt r => exact hr r h
theorem ok_go {o : Fl β ρ} {k : β → Option γ} {e : ρ → Option γ} {Q : γ → Prop} (h1 : ∀ b, o = .nx b → Ok (k b) Q) (h2 : ∀ r, o = .rt r → Ok (e r) Q) : Ok (o.go k e) Q := by
  cases o with
  | nx b => exact h1 b rfl
  | rt r => exact h2 r rfl
theorem ok_compO {t : α → Option Bool} {f : α → Option β} {P : α → β → Prop} {T : α → Bool} : ∀ {xs : List α}, (∀ x ∈ xs, Ok (t x) (· = T x)) → (∀ x ∈ xs, T x = true → Ok (f x) (P x)) → Ok (compO t f xs) (fun ys => ys.length = (xs.filter T).length ∧ ∀ (i : Nat) (y : β), ys[i]? = some y → ∃ x, (xs.filter T)[i]? = some x ∧ P x y)
  | [], _, _ => ⟨[], rfl, rfl, fun i y h => by simp at h⟩
  | x :: r, h1, h2 => by
    unfold compO
    refine ok_bnd (h1 x List.mem_cons_self) fun b hb => ?_
    subst hb
    have ih := ok_compO (xs := r) (fun z hz => h1 z (List.mem_cons_of_mem _ hz)) (fun z hz => h2 z (List.mem_cons_of_mem _ hz))
    refine ok_ite (fun hb => ?_) (fun hb => ?_)
    · refine ok_bnd (h2 x List.mem_cons_self hb) fun y hy => ?_
      refine ok_bnd ih fun ys ⟨e1, e2⟩ => ok_some ?_
      rw [List.filter_cons, if_pos hb]
      refine ⟨by simp [e1], fun i z hz => ?_⟩
      cases i with
      | zero => simp at hz; subst hz; exact ⟨x, rfl, hy⟩
      | succ i => exact e2 i z (by simpa using hz)
    · rw [List.filter_cons, if_neg (by rw [hb]; exact Bool.false_ne_true)]
      exact ih
theorem ok_mapO {f : α → Option β} {P : α → β → Prop} {xs : List α} (h : ∀ x ∈ xs, Ok (f x) (P x)) : Ok (mapO f xs) (fun ys => ys.length = xs.length ∧ ∀ (i : Nat) (y : β), ys[i]? = some y → ∃ x, xs[i]? = some x ∧ P x y) := by
  have := ok_compO (t := fun _ => some true) (T := fun _ => true) (xs := xs) (fun x _ => ok_some rfl) (fun x hx _ => h x hx)
  rw [show xs.filter (fun _ => true) = xs from List.filter_eq_self.mpr (fun _ _ => rfl)] at this
  exact this
theorem mapO_eq {f : α → Option β} {g : α → β} : ∀ {xs : List α}, (∀ x ∈ xs, f x = some (g x)) → mapO f xs = some (xs.map g)
  | [], _ => rfl
  | x :: r, h => by
    have ih := mapO_eq (xs := r) (fun z hz => h z (List.mem_cons_of_mem _ hz))
    unfold mapO at ih ⊢
    unfold compO
    rw [Option.bind_some, if_pos rfl, h x List.mem_cons_self, Option.bind_some, ih]
    rfl
theorem compO_eq {t : α → Option Bool} {T : α → Bool} {f : α → Option β} {g : α → β} : ∀ {xs : List α}, (∀ x ∈ xs, t x = some (T x)) → (∀ x ∈ xs, T x = true → f x = some (g x)) → compO t f xs = some ((xs.filter T).map g)
  | [], _, _ => rfl
  | x :: r, h1, h2 => by
    have ih := compO_eq (xs := r) (fun z hz => h1 z (List.mem_cons_of_mem _ hz)) (fun z hz => h2 z (List.mem_cons_of_mem _ hz))
    unfold compO
    rw [h1 x List.mem_cons_self, Option.bind_some, List.filter_cons]
    cases hT : T x with
    | true => rw [if_pos rfl, if_pos rfl, h2 x List.mem_cons_self hT, Option.bind_some, ih]; rfl
    | false => rw [if_neg Bool.false_ne_true, if_neg Bool.false_ne_true, ih]
theorem foldO_eq {f : β → α → Option β} {g : β → α → β} : ∀ {xs : List α} {b : β}, (∀ b, ∀ x ∈ xs, f b x = some (g b x)) → foldO f b xs = some (xs.foldl g b)
  | [], _, _ => rfl
  | x :: r, b, h => by
    unfold foldO
    rw [h b x List.mem_cons_self, Option.bind_some, foldO_eq (xs := r) (fun b z hz => h b z (List.mem_cons_of_mem _ hz))]
    rfl
theorem ok_whileO {c : β → Option Bool} {f : β → Option β} (I : β → Prop) (μ : β → Nat) {Q : β → Prop} (hc : ∀ b, I b → Ok (c b) (fun t => if t = true then Ok (f b) (fun b' => I b' ∧ μ b' < μ b) else Q b)) : ∀ (n : Nat) (b : β), I b → μ b < n → Ok (whileO c f n b) Q
  | 0, b, _, h => absurd h (Nat.not_lt_zero _)
  | n + 1, b, hI, h => by
    unfold whileO
    refine ok_bnd (hc b hI) fun t ht => ?_
    cases t with
    | true =>
      rw [if_pos rfl] at ht ⊢
      exact ok_bnd ht fun b' ⟨h1, h2⟩ => ok_whileO I μ hc n b' h1 (by omega)
    | false =>
      rw [if_neg Bool.false_ne_true] at ht ⊢
      exact ok_some ht
theorem ok_whileF {c : β → Option Bool} {f : β → Option (Fl β ρ)} (I : β → Prop) (μ : β → Nat) {Q : Fl β ρ → Prop} (hc : ∀ b, I b → Ok (c b) (fun t => if t = true then Ok (f b) (fun o => match o with | .nx b' => I b' ∧ μ b' < μ b | .rt r => Q (.rt r)) else Q (.nx b))) : ∀ (n : Nat) (b : β), I b → μ b < n → Ok (whileF c f n b) Q
  | 0, b, _, h => absurd h (Nat.not_lt_zero _)
  | n + 1, b, hI, h => by
    unfold whileF
    refine ok_bnd (hc b hI) fun t ht => ?_
    cases t with
    | true =>
      rw [if_pos rfl] at ht ⊢
      refine ok_bnd ht fun o ho => ?_
      cases o with
      | nx b' => exact ok_whileF I μ hc n b' ho.1 (by have := ho.2; omega)
      | rt r => exact ok_some ho
    | false =>
      rw [if_neg Bool.false_ne_true] at ht ⊢
      exact ok_some ht
theorem fuel_eq : fuel = 1000000 := by unfold fuel; rfl
theorem mul_l {x y : Int} (h1 : -1000000000000000000 < x) (h2 : x < 1000000000000000000) : MulOk x y := .inl (.inl ⟨by omega, by omega⟩)
theorem mul_r {x y : Int} (h1 : -1000000000000000000 < y) (h2 : y < 1000000000000000000) : MulOk x y := .inl (.inr ⟨by omega, by omega⟩)
set_option exponentiation.threshold 10000 in
theorem div_small {y : Int} (h1 : 0 < y) (h2 : y < 1000000000000000000) : DivOk y := ⟨h1, PySem.Flt.log2_lt_of (by decide) (show y.natAbs < 2 ^ 9000 from Nat.lt_of_lt_of_le (show y.natAbs < 2 ^ 64 by omega) (Nat.pow_le_pow_right (by decide) (by decide)))⟩
theorem szl : sizeLine = 16777216 := rfl
theorem atI_get {xs : List α} {i : Int} (h0 : 0 ≤ i) (h1 : i < xs.length) : atI xs i = xs[i.toNat]? := by
  unfold atI ixN
  rw [if_pos h0, if_pos h1]; rfl
theorem ok_atI {xs : List α} {i : Int} {Q : α → Prop} (h0 : 0 ≤ i) (h1 : i < xs.length) (h : ∀ x, xs[i.toNat]? = some x → Q x) : Ok (atI xs i) Q := by
  rw [atI_get h0 h1]
  have hl : i.toNat < xs.length := by omega
  exact ⟨xs[i.toNat], List.getElem?_eq_getElem hl, h _ (List.getElem?_eq_getElem hl)⟩
theorem cut_len_le (xs : List α) (lo hi : Option Int) : (cut xs lo hi).length ≤ xs.length := by
  unfold cut
  rw [List.length_take, List.length_drop]
  omega
theorem cut_hi (xs : List α) (n : Nat) : cut xs none (some (n : Int)) = xs.take n := by
  unfold cut
  rw [HT.sIx_none, show HT.sIx xs.length xs.length (some (n : Int)) = min n xs.length from HT.sIx_nat xs.length xs.length n]
  simp only [List.drop_zero, Nat.sub_zero]
  by_cases h : n ≤ xs.length
  · rw [Nat.min_eq_left h]
  · rw [Nat.min_eq_right (by omega), List.take_of_length_le (Nat.le_refl _), List.take_of_length_le (by omega)]
theorem rng_len_nn {n : Int} (h : 0 ≤ n) : (rng 0 n).length = n.toNat := by rw [rng_len]; congr 1; omega
theorem rng_at {a b : Int} {i : Nat} {x : Int} (h : (rng a b)[i]? = some x) : x = a + (i : Int) ∧ a + (i : Int) < b := by
  obtain ⟨h1, h2⟩ := rng_get h
  omega
end
theorem chars_len (x : Str) : (chars x).length = x.length := by
  unfold chars
  rw [List.length_map, Array.length_toList]; rfl
theorem join_len0 (ys : List Str) : (Txt.join ("" : Str) ys).length = (ys.map (·.length)).sum := by
  have h : ∀ z : Str, z.length = (TL.tl z).length := fun z => by show z.cps.size = z.cps.toList.length; rw [Array.length_toList]
  have key : ∀ ps : List (List Nat), (TL.joinL [] ps).length = (ps.map List.length).sum := by
    intro ps
    induction ps with
    | nil => rfl
    | cons p r ih =>
      cases r with
      | nil => simp [TL.joinL]
      | cons q r =>
        have e : TL.joinL [] (p :: q :: r) = p ++ ([] ++ TL.joinL [] (q :: r)) := by simp [TL.joinL]
        rw [e, List.nil_append, List.length_append, ih]; rfl
  rw [h, TL.join_eq, TL.tl_join, show TL.tl ("" : Str) = [] from rfl, key, List.map_map]
  exact congrArg List.sum (List.map_congr_left fun z _ => (h z).symm)
theorem sum_ones {ys : List Str} (h : ∀ y ∈ ys, y.length = 1) : (ys.map (·.length)).sum = ys.length := by
  induction ys with
  | nil => rfl
  | cons y r ih =>
    rw [List.map_cons, List.sum_cons, ih fun z hz => h z (List.mem_cons_of_mem _ hz), h y List.mem_cons_self, List.length_cons]
    omega
theorem foldF_any {α ρ : Type} {p : α → Bool} {f : Unit → α → Option (Fl Unit ρ)} {r : ρ} (h : ∀ x, f () x = if p x = true then some (.rt r) else some (.nx ())) : ∀ xs : List α, foldF f () xs = some (if xs.any p = true then .rt r else .nx ())
  | [] => rfl
  | x :: xs => by
    unfold foldF
    rw [h x, List.any_cons]
    cases hp : p x with
    | true => rfl
    | false =>
      rw [if_neg Bool.false_ne_true]
      show foldF f () xs = _
      rw [foldF_any h xs, Bool.false_or]
end Dy

namespace Dy
open PySem PySem.Spec L2
open PyProof.Rows hiding St
open Enc (rep)
open Flat (toV)
open EncA (repA)

section
variable {α β γ δ : Type} [Enc α] [Enc β] [Enc γ] [Enc δ] {X : Cx} {σ : St} {s t : S} {e a b c tg iter : Expr} {es : List Expr} {pos p0 p1 p2 p3 : Pos} {D : Ends} {rest A B body : List Stmt}
def RepS (x : Str) (n : Int) : Prop := PySem.MulOk x n
@[irreducible] def replS (x : Str) (n : Int) : Str := Txt.mul x n
theorem op_repStr : OpR X (binaryOp .Mult) (fun x y H Q => ∃ z n, x = .str z ∧ y = .int n ∧ RepS z n ∧ Q (.str (replS z n)) H) := by
  intro pins s σ H x y v u Q I rx ry h
  obtain ⟨z, n, rfl, rfl, hok, q⟩ := h
  obtain ⟨t, rfl⟩ := rx
  obtain ⟨t', rfl⟩ := ry
  unfold replS at q
  exact PySem.SB.mul hok fun t' k => ⟨.str _, H, I.tok _, ⟨_, rfl⟩, q⟩
theorem ev_repS {x : Str} {n : Int} (ha : Ev X a σ s x) (hb : Ev X b σ s n) (h : RepS x n) : Ev X (.BinOp a .Mult b pos) σ s (replS x n) :=
  ev_op op_repStr ha hb fun v u s2 hv hu Q q => ⟨x, n, hv, hu, h, q _ s2 (Ex.refl _) rfl⟩
theorem repS_small {x : Str} {n : Int} (h0 : x.length ≤ 1000) (h1 : n ≤ 1000) (h2 : -1000 ≤ n) : RepS x n := by
  refine ⟨by rw [Bool.or_eq_false_iff]; exact ⟨decide_eq_false (by omega), decide_eq_false (by omega)⟩, fun h3 _ => ?_, fun h3 _ => ?_⟩
  · intro h
    have : (2 ^ 63 - 1) / n ≥ 1000 := by
      refine (Int.le_ediv_iff_mul_le (by omega)).mpr ?_
      omega
    omega
  · unfold Builtin.Str.tooLong
    have : x.length * n.toNat ≤ 1000 * 1000 := Nat.mul_le_mul h0 (by omega)
    refine decide_eq_false ?_
    have := szl
    omega
def stepN (a b c : Int) : Nat := if a < b then ((b - a - 1) / c + 1).toNat else 0
def rngS (a b c : Int) : List Int := (List.range (stepN a b c)).map fun i : Nat => a + (i : Int) * c
def RgS (a b c : Int) : Prop := (-(2 ^ 61) ≤ a ∧ a < 2 ^ 61) ∧ (-(2 ^ 61) ≤ b ∧ b < 2 ^ 61) ∧ 0 < c ∧ c < 1000000
theorem rgC_of {a b c : Int} (h : RgS a b c) : RgC a b c (stepN a b c) := by
  obtain ⟨⟨h1, h2⟩, ⟨h3, h4⟩, h5, h6⟩ := h
  have hs : Builtin.Range.rangeSize a b c = (stepN a b c : Nat) := by
    unfold Builtin.Range.rangeSize stepN
    rw [if_pos h5]
    split
    · have : 0 ≤ (b - a - 1) / c := Int.ediv_nonneg (by omega) (by omega)
      omega
    · rfl
  refine ⟨by omega, by omega, ?_, hs⟩
  have e1 : a < b → c * ((b - a - 1) / c) ≤ b - a - 1 := fun _ => Int.mul_ediv_self_le (by omega)
  have e2 : a < b → 0 ≤ (b - a - 1) / c := fun _ => Int.ediv_nonneg (by omega) (by omega)
  have e3 : a < b → (b - a - 1) / c ≤ b - a - 1 := fun _ => by
    refine Int.ediv_le_self _ (by omega)
  unfold Builtin.Range.small
  unfold Builtin.Range.rangeSize
  simp only [Builtin.Range.rangeFitsLong, Bool.and_eq_true, Bool.or_eq_true, decide_eq_true_eq, beq_iff_eq, if_pos h5]
  split
  · rename_i hlt
    have e1 := e1 hlt
    have e2 := e2 hlt
    have e3 := e3 hlt
    generalize hq : (b - a - 1) / c = q at *
    have e4 : c * q = q * c := Int.mul_comm _ _
    have e5 : (q + 1) * c = q * c + c := by rw [Int.add_mul]; omega
    have e6 : 0 ≤ c * q := Int.mul_nonneg (by omega) e2
    refine ⟨?_, ?_⟩ <;> omega
  · omega
theorem rngS_get {a b c : Int} {i : Nat} {x : Int} (h : (rngS a b c)[i]? = some x) : i < stepN a b c ∧ x = a + (i : Int) * c := by
  unfold rngS at h
  rw [List.getElem?_map] at h
  obtain ⟨j, h1, rfl⟩ := Option.map_eq_some_iff.mp h
  obtain ⟨h2, h3⟩ := List.getElem?_eq_some_iff.mp h1
  rw [List.length_range] at h2
  rw [List.getElem_range] at h3
  subst h3
  exact ⟨h2, rfl⟩
theorem rngS_len (a b c : Int) : (rngS a b c).length = stepN a b c := by unfold rngS; rw [List.length_map, List.length_range]
theorem ei_range3 {x y z : Int} (hm : X.mg "range" = none) (ha : Ev X a σ s x) (hb : Ev X b σ s y) (hc : Ev X c σ s z) (h : RgS x y z) (hg : Gl X "range" := by rfl)
    (hs : starEach [a, b, c] X.env = (false, eval a X.env) :: starEach [b, c] X.env := by rfl) (hs2 : starEach [b, c] X.env = (false, eval b X.env) :: starEach [c] X.env := by rfl) (hs3 : starEach [c] X.env = (false, eval c X.env) :: starEach [] X.env := by rfl) (hpl : (backTo pos (starEach [b, c] X.env)).any (·.1) = false := by rfl) :
    EvI X tg (.Call (.Name "range" p0) [a, b, c] [] pos) σ s (rngS x y z) := fun s1 k R q =>
  wi_of (pi_range3 hg hm (pa_cons pe_we (pa_cons pe_we (pa_cons pe_we pa_nil hs3) hs2) hs) hs hpl) (ha s1 k _ fun v s2 k2 r2 => hb s2 (k.trans k2) _ fun u s3 k3 r3 => hc s3 ((k.trans k2).trans k3) _ fun w s4 k4 r4 =>
    ⟨x, y, z, stepN x y z, by rw [show v = V.int x from r2, show u = V.int y from r3, show w = V.int z from r4], rgC_of h, q _ s4 ((k2.trans k3).trans k4) ⟨fun i t w f hw => ⟨(rngS_get hw).1, fun v' H' ⟨e1, e2⟩ => ⟨t, e1.symm, Ex.refl _, by rw [e2, (rngS_get hw).2]; rfl⟩⟩, fun i t f hi => by rw [rngS_len] at hi; exact hi⟩⟩)
theorem ev_isiR {xs : List α} {n : Str} {T : String} {r : Bool} (hm : X.mg "isinstance" = none) (hn : X.mg n = none) (hv : bootBuiltins n = some (.type T)) (ha : EvR X a σ s xs) (h : kitB "list" T = some r)
    (hg : Gl X "isinstance" := by rfl) (hgn : Gl X n := by rfl) (he : starEach [a, .Name n p1] X.env = (false, eval a X.env) :: starEach [.Name n p1] X.env := by rfl) (he2 : starEach [.Name n p1] X.env = (false, eval (.Name n p1) X.env) :: starEach [] X.env := by rfl) (hpl : (backTo pos (starEach [.Name n p1] X.env)).any (·.1) = false := by rfl)
    (hnn : n ≠ "__name__" := by decide) (hnd : (n == ("__debug__" : Str)) = false := by decide) :
    Ev X (.Call (.Name "isinstance" p0) [a, .Name n p1] [] pos) σ s r := fun s1 k Q q =>
  we_of (pe_callB call_isi hg hm (by decide +kernel) (pa_cons pe_we (pa_cons (pe_bltn (v := .ty T) hgn hn hv rfl hnn hnd) pa_nil he2) he) (he := he) (hpl := hpl)) (ha s1 k _ fun v s2 k2 r2 => by
    obtain ⟨p, vs, rfl, h1, _⟩ := r2
    exact ⟨.ref p, .ty T, .type "list", .type T, r, rfl, .ty T, sql_ty h1, kit_ty h, q _ s2 k2 rfl⟩)
theorem eb_isB {x y : Bool} (ha : Ev X a σ s x) (hb : Ev X b σ s y) : EvB X (.Compare a [.Is] [b] pos) σ s (decide (x = y)) :=
  eb_cmp op_isBl ha hb (fun v u s2 hv hu Q q => ⟨x, y, hv, hu, q⟩) (nomark _)
theorem eb_isnotB {x y : Bool} (ha : Ev X a σ s x) (hb : Ev X b σ s y) : EvB X (.Compare a [.IsNot] [b] pos) σ s (!decide (x = y)) :=
  eb_cmp op_notBl ha hb (fun v u s2 hv hu Q q => ⟨x, y, hv, hu, q⟩) (nomark _)
theorem ev_sliceT {x : Tu α} {lo hi : Option Expr} {l h : Option Int} (ha : Ev X a σ s x) (hl : EvO X lo σ s l) (hh : EvO X hi σ s h) : Ev X (.Subscript a (.Slice lo hi none p2) pos) σ s (Tu.mk (cut x.l l h)) := fun s1 k Q q => by
  obtain ⟨tl, pl, ql⟩ := po_evo hl
  obtain ⟨th, ph, qh⟩ := po_evo hh
  refine we_of (pe_slice sl_tupA pe_we pl ph) (ha s1 k _ fun v s2 k2 r2 => ql s2 (k.trans k2) _ fun s3 k3 => qh s3 ((k.trans k2).trans k3) _ fun s4 k4 => ?_)
  obtain ⟨p, vs, rfl, h1, h2⟩ := Enc.mono (α := Tu α) (k3.trans k4).f r2
  have kk := (k2.trans k3).trans k4
  refine ⟨p, vs, rfl, sqt_mono s4.sub h1, fun hw => ?_, fun _ l hl => q _ (s4.newF l _ hl) (kk.trans (Ex.newF hl)) ⟨l, _, rfl, tup_new hl, (h2.cut _ _).mono (Ex.newF hl).f⟩⟩
  refine q _ s4 kk ⟨p, vs, rfl, h1, ?_⟩
  have e : cut x.l l h = x.l := by
    unfold cut
    rw [← h2.len, hw.1, hw.2, List.drop_zero, Nat.sub_zero, h2.len, List.take_length]
  show Reps _ _ vs (cut x.l l h)
  rw [e]; exact h2
def popN (n : Nat) (i : Int) : Option Nat := if -(2 ^ 63) ≤ i ∧ i < 2 ^ 63 then seqIndex? i n else none
theorem seqIx_lt {n : Nat} {i : Int} {k : Nat} (h : seqIndex? i n = some k) : k < n := by
  unfold seqIndex? at h
  dsimp only at h
  split at h <;> split at h
  all_goals first | (rename_i h2; simp only [Bool.and_eq_true, decide_eq_true_eq] at h2; cases h; omega) | cases h
theorem do_popAt (i : Nat) {p : Addr} {n : Str} {xs : List α} {z : Int} {j : Nat} (hσ : σ[i]? = some (some (.ref p))) (o : Own X.K s p xs) (he : Ev X e σ s z) (hj : popN xs.length z = some j)
    (k : ∀ s1, Mx (· = p) s s1 → Own X.K s1 p (xs.eraseIdx j) → WSs X rest D σ s1.H)
    (hN : X.N[i]? = some n := by rfl) (hv : Vis X.env.scope n := by first | exact Or.inl rfl | exact Or.inr (Or.inl rfl) | exact Or.inr (Or.inr rfl)) (hd : (n == ("__debug__" : Str)) = false := by decide) (hcd : (n == ("__classdict__" : Str)) = false := by decide)
    (hbase : attributeBase (.Name n p0) "pop" X.env (eval (.Name n p0) X.env) = eval (.Name n p0) X.env := by rfl)
    (hfew : ((backTo p2 (starEach [e] X.env)).all (fun x => !x.1) && (backToKw p2 (keywordEach [] X.env)).all (fun x => x.1.isSome) && decide (([e] : List Expr).length + ([] : List Keyword).length + (if ([] : List Keyword).isEmpty then 0 else 1) < 30)) = true := by rfl)
    (hline : (p1.endLine == p2.line) = true := by rfl) (hs : starEach [e] X.env = (false, eval e X.env) :: starEach [] X.env := by rfl) (hplain : (backTo p2 (starEach [] X.env)).any (·.1) = false := by rfl)
    (hsw : swapsWith (.Call (.Attribute (.Name n p0) "pop" p1) [e] [] p2) none p3.line X.env = pure false := by rfl) :
    WSs X (.Expr (.Call (.Attribute (.Name n p0) "pop" p1) [e] [] p2) p3 :: rest) D σ s.H :=
  do_cons (ps_expr (pe_bm PySem.F.plainAttrs_list PySem.F.slot_list_pop PySem.F.type_list_pop mt_popAt (pe_var hN hv hd hcd) (pa_cons pe_we pa_nil hs) hbase hfew hline hs hplain) hsw) (by
    obtain ⟨h1, vs, h2, h3⟩ := id o
    refine ⟨_, hσ, .inl ⟨rfl, vs, .inl (.inl h2)⟩, he s (Ex.refl _) _ fun v s1 k1 r1 => ?_⟩
    have f1 := k1.n _ _ h2 h1
    have g1 := k1.h _ _ h2
    unfold popN at hj
    split at hj
    · rename_i hb
      have hlt : j < vs.length := by rw [h3.len]; exact seqIx_lt hj
      refine ⟨p, vs, z, j, vs[j], rfl, by rw [show v = V.int z from r1], g1, hb.1, hb.2, by rw [h3.len]; exact hj, List.getElem?_eq_getElem hlt, ?_⟩
      exact k (s1.put p (.lst (vs.eraseIdx j)) f1) (k1.mx.trans (Mx.put f1)) ⟨f1, _, upd_same, (h3.mono k1.f).erase j⟩
    · cases hj)
def InsOk (i : Int) (n : Nat) : Prop := 0 ≤ i ∧ i < 2 ^ 63 ∧ n < sizeLine
def insI {τ : Type} (xs : List τ) (i : Int) (x : τ) : List τ := xs.take i.toNat ++ [x] ++ xs.drop i.toNat
theorem do_insert (i : Nat) {p : Addr} {n : Str} {xs : List α} {z : Int} {x : α} (hσ : σ[i]? = some (some (.ref p))) (o : Own X.K s p xs) (ha : Ev X a σ s z) (hb : Ev X b σ s x) (hj : InsOk z xs.length)
    (k : ∀ s1, Mx (· = p) s s1 → Own X.K s1 p (insI xs z x) → WSs X rest D σ s1.H)
    (hN : X.N[i]? = some n := by rfl) (hv : Vis X.env.scope n := by first | exact Or.inl rfl | exact Or.inr (Or.inl rfl) | exact Or.inr (Or.inr rfl)) (hd : (n == ("__debug__" : Str)) = false := by decide) (hcd : (n == ("__classdict__" : Str)) = false := by decide)
    (hbase : attributeBase (.Name n p0) "insert" X.env (eval (.Name n p0) X.env) = eval (.Name n p0) X.env := by rfl)
    (hfew : ((backTo p2 (starEach [a, b] X.env)).all (fun x => !x.1) && (backToKw p2 (keywordEach [] X.env)).all (fun x => x.1.isSome) && decide (([a, b] : List Expr).length + ([] : List Keyword).length + (if ([] : List Keyword).isEmpty then 0 else 1) < 30)) = true := by rfl)
    (hline : (p1.endLine == p2.line) = true := by rfl) (hs : starEach [a, b] X.env = (false, eval a X.env) :: starEach [b] X.env := by rfl) (hs2 : starEach [b] X.env = (false, eval b X.env) :: starEach [] X.env := by rfl) (hplain : (backTo p2 (starEach [b] X.env)).any (·.1) = false := by rfl)
    (hsw : swapsWith (.Call (.Attribute (.Name n p0) "insert" p1) [a, b] [] p2) none p3.line X.env = pure false := by rfl) :
    WSs X (.Expr (.Call (.Attribute (.Name n p0) "insert" p1) [a, b] [] p2) p3 :: rest) D σ s.H :=
  do_cons (ps_expr (pe_bm PySem.F.plainAttrs_list PySem.F.slot_list_insert PySem.F.type_list_insert mt_insert (pe_var hN hv hd hcd) (pa_cons pe_we (pa_cons pe_we pa_nil hs2) hs) hbase hfew hline hs hplain) hsw) (by
    obtain ⟨h1, vs, h2, h3⟩ := id o
    refine ⟨_, hσ, .inl ⟨rfl, vs, .inl (.inl h2)⟩, ha s (Ex.refl _) _ fun u s1 k1 r1 => hb s1 k1 _ fun v s2 k2 r2 => ?_⟩
    have kk := k1.trans k2
    have f1 := kk.n _ _ h2 h1
    have g1 := kk.h _ _ h2
    refine ⟨p, vs, z, v, rfl, by rw [show u = V.int z from r1], g1, by rw [h3.len]; exact hj.2.2, hj.1, hj.2.1, ?_⟩
    exact k (s2.put p (.lst (vs.take z.toNat ++ [v] ++ vs.drop z.toNat)) f1) (kk.mx.trans (Mx.put f1)) ⟨f1, _, upd_same, (((h3.mono kk.f).take _).snoc r2).app ((h3.mono kk.f).drop _)⟩)
theorem do_reverse (i : Nat) {p : Addr} {n : Str} {xs : List α} (hσ : σ[i]? = some (some (.ref p))) (o : Own X.K s p xs)
    (k : ∀ s1, Mx (· = p) s s1 → Own X.K s1 p xs.reverse → WSs X rest D σ s1.H)
    (hN : X.N[i]? = some n := by rfl) (hv : Vis X.env.scope n := by first | exact Or.inl rfl | exact Or.inr (Or.inl rfl) | exact Or.inr (Or.inr rfl)) (hd : (n == ("__debug__" : Str)) = false := by decide) (hcd : (n == ("__classdict__" : Str)) = false := by decide)
    (hbase : attributeBase (.Name n p0) "reverse" X.env (eval (.Name n p0) X.env) = eval (.Name n p0) X.env := by rfl) (hline : (p1.endLine == p2.line) = true := by rfl)
    (hsw : swapsWith (.Call (.Attribute (.Name n p0) "reverse" p1) [] [] p2) none p3.line X.env = pure false := by rfl) :
    WSs X (.Expr (.Call (.Attribute (.Name n p0) "reverse" p1) [] [] p2) p3 :: rest) D σ s.H :=
  do_cons (ps_expr (pe_bm0 PySem.F.plainAttrs_list PySem.F.slot_list_reverse PySem.F.type_list_reverse mt_reverse (pe_var hN hv hd hcd) hbase hline) hsw) (by
    obtain ⟨h1, vs, h2, h3⟩ := id o
    refine ⟨_, hσ, .inl ⟨rfl, vs, .inl (.inl h2)⟩, p, vs, rfl, rfl, h2, ?_⟩
    exact k (s.put p (.lst vs.reverse) h1) (Mx.put h1) ⟨h1, _, upd_same, h3.rev⟩)
theorem do_clear (i : Nat) {p : Addr} {n : Str} {xs : List α} (hσ : σ[i]? = some (some (.ref p))) (o : Own X.K s p xs)
    (k : ∀ s1, Mx (· = p) s s1 → Own X.K s1 p ([] : List α) → WSs X rest D σ s1.H)
    (hN : X.N[i]? = some n := by rfl) (hv : Vis X.env.scope n := by first | exact Or.inl rfl | exact Or.inr (Or.inl rfl) | exact Or.inr (Or.inr rfl)) (hd : (n == ("__debug__" : Str)) = false := by decide) (hcd : (n == ("__classdict__" : Str)) = false := by decide)
    (hbase : attributeBase (.Name n p0) "clear" X.env (eval (.Name n p0) X.env) = eval (.Name n p0) X.env := by rfl) (hline : (p1.endLine == p2.line) = true := by rfl)
    (hsw : swapsWith (.Call (.Attribute (.Name n p0) "clear" p1) [] [] p2) none p3.line X.env = pure false := by rfl) :
    WSs X (.Expr (.Call (.Attribute (.Name n p0) "clear" p1) [] [] p2) p3 :: rest) D σ s.H :=
  do_cons (ps_expr (pe_bm0 PySem.F.plainAttrs_list PySem.F.slot_list_clear PySem.F.type_list_clear mt_clear (pe_var hN hv hd hcd) hbase hline) hsw) (by
    obtain ⟨h1, vs, h2, h3⟩ := id o
    refine ⟨_, hσ, .inl ⟨rfl, vs, .inl (.inl h2)⟩, p, vs, rfl, rfl, h2, ?_⟩
    exact k (s.put p (.lst []) h1) (Mx.put h1) ⟨h1, _, upd_same, trivial⟩)
theorem ev_catT {x y : Tu α} (ha : Ev X a σ s x) (hb : Ev X b σ s y) (hz : x.l.length + y.l.length ≤ sizeLine) : Ev X (.BinOp a .Add b pos) σ s (Tu.mk (x.l ++ y.l)) := fun s1 k Q q =>
  we_of (pe_op op_catA pe_we pe_we) (ha s1 k _ fun v s2 k2 r2 => hb s2 (k.trans k2) _ fun u s3 k3 r3 => by
    obtain ⟨p, vs, rfl, h1, h2⟩ := Enc.mono (α := Tu α) k3.f r2
    obtain ⟨p', ws, rfl, h3, h4⟩ := r3
    have kk := k2.trans k3
    refine ⟨p, p', vs, ws, rfl, rfl, sqt_mono s3.sub h1, sqt_mono s3.sub h3, by rw [h2.len, h4.len]; exact hz, fun e => ?_, fun _ e => ?_, fun _ _ l hl => q _ (s3.newF l _ hl) (kk.trans (Ex.newF hl)) ⟨l, _, rfl, tup_new hl, (h2.app h4).mono (Ex.newF hl).f⟩⟩
    · refine q _ s3 kk ⟨p', ws, rfl, h3, ?_⟩
      subst e
      have e2 : x.l = [] := List.length_eq_zero_iff.mp h2.len.symm
      show Reps _ _ ws (x.l ++ y.l)
      rw [e2]; exact h4
    · refine q _ s3 kk ⟨p, vs, rfl, h1, ?_⟩
      subst e
      have e2 : y.l = [] := List.length_eq_zero_iff.mp h4.len.symm
      show Reps _ _ vs (x.l ++ y.l)
      rw [e2, List.append_nil]; exact h2)
end
theorem foldO_app {α β : Type} {N : Nat} {f : List β → α → Option (List β)} {g : α → β} : ∀ {xs : List α} {b : List β}, (∀ b x, b.length < N → x ∈ xs → f b x = some (b ++ [g x])) → b.length + xs.length ≤ N → foldO f b xs = some (b ++ xs.map g)
  | [], b, _, _ => by simp [foldO]
  | x :: r, b, h, hl => by
    rw [List.length_cons] at hl
    unfold foldO
    rw [h b x (by omega) List.mem_cons_self, Option.bind_some, foldO_app (xs := r) (b := b ++ [g x]) (fun b y hb hy => h b y hb (List.mem_cons_of_mem _ hy)) (by rw [List.length_append, List.length_singleton]; omega)]
    simp
theorem atI_map {α β : Type} {f : α → β} {xs : List α} {i : Int} {x : α} (h : atI xs i = some x) : atI (xs.map f) i = some (f x) := by
  unfold atI at h ⊢
  rw [List.length_map]
  cases hj : ixN xs.length i with
  | none => rw [hj] at h; cases h
  | some j =>
    rw [hj] at h
    show (xs.map f)[j]? = _
    rw [List.getElem?_map]
    have : xs[j]? = some x := h
    rw [this]; rfl
theorem foldF_none {α ρ : Type} {f : Unit → α → Option (Fl Unit ρ)} : ∀ {xs : List α}, (∀ x ∈ xs, f () x = some (.nx ())) → foldF f () xs = some (.nx ())
  | [], _ => rfl
  | x :: r, h => by
    unfold foldF
    rw [h x List.mem_cons_self]
    exact foldF_none fun y hy => h y (List.mem_cons_of_mem _ hy)
theorem foldF_ok {α ρ : Type} {f : Unit → α → Option (Fl Unit ρ)} {xs : List α} {Q : Fl Unit ρ → Prop} (h : ∀ x ∈ xs, Ok (f () x) (· = .nx ())) (q : Q (.nx ())) : Ok (foldF f () xs) Q :=
  ⟨_, foldF_none fun x hx => (h x hx).eq, q⟩
def Drawn (sizes ds : List Int) : Prop := ds.length = sizes.length ∧ ∀ (j : Nat) (d n : Int), ds[j]? = some d → sizes[j]? = some n → 0 ≤ d ∧ d < n
theorem ok_draw {sizes ds : List Int} (h : Drawn sizes ds) (k : Nat) {n : Int} (hk : sizes[k]? = some n) {Q : Int → Prop} (q : ∀ d, 0 ≤ d → d < n → Q d) : Ok (atI ds (k : Int)) Q := by
  obtain ⟨h1, h2⟩ := h
  have hlt : k < ds.length := by rw [h1]; exact (List.getElem?_eq_some_iff.mp hk).1
  refine ok_atI (by omega) (by omega) fun d hd => ?_
  rw [show (k : Int).toNat = k by omega] at hd
  obtain ⟨a, b⟩ := h2 k d n hd hk
  exact q d a b
theorem ok_sgn {x : Str} {i : Int} {Q : Str → Prop} (hz : x.length ≤ sizeLine) (h0 : 0 ≤ i) (h1 : i < x.length) (h : ∀ c, x.cps.toList[i.toNat]? = some c → Q ⟨#[c]⟩) : Ok (sgn x i) Q := by
  unfold sgn
  rw [if_pos hz]
  have hl : i.toNat < x.cps.toList.length := by
    rw [Array.length_toList]
    show i.toNat < x.length
    omega
  rw [atI_get h0 (by rw [Array.length_toList]; show i < (x.length : Int); exact h1), List.getElem?_eq_getElem hl]
  exact ok_some (h _ (List.getElem?_eq_getElem hl))
theorem bnd_some {α : Type} (m : Option α) : (bnd m fun x => some x) = m := by cases m <;> rfl
theorem ok_ret {α : Type} {m : Option α} {P : α → Prop} (h : Ok m P) : Ok (bnd m fun x => some x) P := by rw [bnd_some]; exact h
def txt (x : Str) : Prop := PyData.strOk x = true
theorem shp_strs {xs : List Str} (h : ∀ x ∈ xs, txt x) : shp xs := by
  unfold shp SeqAt.shaped
  have h1 : PyData.canLay0 (EqD.toD xs) = true := by
    show PyData.canLay0 (.list (xs.map PyData.str)) = true
    unfold PyData.canLay0
    induction xs with
    | nil => simp [PyData.canLayAll0]
    | cons x r ih =>
      rw [List.map_cons]
      unfold PyData.canLayAll0
      rw [ih fun y hy => h y (List.mem_cons_of_mem _ hy)]
      show (PyData.canLay0 (.str x) && true) = true
      unfold PyData.canLay0
      rw [show PyData.strOk x = true from h x List.mem_cons_self]; rfl
  have h2 : PyData.depth (EqD.toD xs) ≤ 64 := by
    show PyData.depth (.list (xs.map PyData.str)) ≤ 64
    unfold PyData.depth
    have : PyData.depthAll (xs.map PyData.str) = 0 := by
      clear h h1
      induction xs with
      | nil => simp [PyData.depthAll]
      | cons x r ih => rw [List.map_cons]; unfold PyData.depthAll; rw [ih]; simp [PyData.depth]
    omega
  rw [h1, decide_eq_true h2]; rfl
end Dy

namespace Dy
open PySem PySem.Spec L2
open PyProof.Rows hiding St
open Enc (rep)
open Flat (toV)
open EncA (repA)

def S.back (s t : S) (h : Fle s.F t.F) : S := ⟨s.F, t.H, fun a o q => t.sub a o (h a o q)⟩
theorem backE {s0 s t : S} (h : Fle s.F t.F) (E : Ex s0 s) (E' : Ex s0 t) : Ex s0 (s.back t h) := ⟨E.f, E'.h, E.n⟩
theorem backOwn {α : Type} [Enc α] {K : PySem.W.Frag} {s s1 t : S} {p : Addr} {xs : List α} (h : Fle s.F t.F) (o : Own K s p xs) (h1 : s1.F p = s.H p) (h2 : Fle s1.F t.F) : Own K (s.back t h) p xs := by
  obtain ⟨n, vs, e, r⟩ := o
  exact ⟨n, vs, t.sub _ _ (h2 _ _ (h1.trans e)), r⟩
theorem backOwn2 {α : Type} [Flat α] {K : PySem.W.Frag} {s t : S} {q : Addr} {xs : List α} (h : Fle s.F t.F) (o : Own K t q xs) : Own K (s.back t h) q xs := by
  obtain ⟨n, vs, e, r⟩ := o
  refine ⟨?_, vs, e, ?_⟩
  · show s.F q = none
    cases z : s.F q with
    | none => rfl
    | some u => rw [h _ _ z] at n; cases n
  · rw [r.flat]; exact Reps.of_flat xs
theorem backFlat {α : Type} [Flat α] {K : PySem.W.Frag} {s t : S} {v : V} {x : α} (h : Fle s.F t.F) (r : rep K t.F v x) : rep K (s.back t h).F v x := Flat.iff.mpr (Flat.iff.mp r)
section
variable {α β γ δ : Type} [Enc α] [Enc β] [Enc γ] [Enc δ] {X : Cx} {σ : St} {s t : S} {e a b c tg iter : Expr} {es : List Expr} {pos p0 p1 p2 p3 p4 p5 : Pos} {D : Ends} {rest A B body : List Stmt}
theorem do_frz2 {p : Addr} {xs : List α} {ss : List Stmt} (o : Own X.K s p xs) (k : ∀ s' : S, s'.H = s.H → Fle s.F s'.F → (∀ q, q ≠ p → s'.F q = s.F q) → rep X.K s'.F (.ref p) xs → s'.F p = s.H p → WSs X ss D σ s'.H) : WSs X ss D σ s.H := by
  obtain ⟨hn, vs, hp, r⟩ := o
  have f : Fle s.F (upd s.F p (.lst vs)) := fun a o q => by rw [upd_ne (ne_of_none q hn)]; exact q
  exact k ⟨upd s.F p (.lst vs), s.H, fun a o q => by
    unfold upd at q
    split at q
    · rename_i e; cases q; rw [e]; exact hp
    · exact s.sub a o q⟩ rfl f (fun q hq => upd_ne hq) ⟨p, vs, rfl, .inl (.inl upd_same), r.mono f⟩ (by show upd s.F p (.lst vs) p = _; rw [upd_same, hp])
theorem do_back {ss : List Stmt} (s : S) {t : S} (h : Fle s.F t.F) (k : WSs X ss D σ (s.back t h).H) : WSs X ss D σ t.H := k

section
variable {p : Addr} {n : Str} {xs : List α}
theorem we_pop (i : Nat) {z : Int} {j : Nat} {y : α} {Q : VK} (hσ : σ[i]? = some (some (.ref p))) (o : Own X.K s p xs) (he : Ev X e σ s z) (hj : popN xs.length z = some j) (hy : xs[j]? = some y)
    (k : ∀ v s1, Mx (· = p) s s1 → Own X.K s1 p (xs.eraseIdx j) → rep X.K s1.F v y → Q v s1.H)
    (hN : X.N[i]? = some n := by rfl) (hv : Vis X.env.scope n := by first | exact Or.inl rfl | exact Or.inr (Or.inl rfl) | exact Or.inr (Or.inr rfl)) (hd : (n == ("__debug__" : Str)) = false := by decide) (hcd : (n == ("__classdict__" : Str)) = false := by decide)
    (hbase : attributeBase (.Name n p0) "pop" X.env (eval (.Name n p0) X.env) = eval (.Name n p0) X.env := by rfl)
    (hfew : ((backTo p2 (starEach [e] X.env)).all (fun x => !x.1) && (backToKw p2 (keywordEach [] X.env)).all (fun x => x.1.isSome) && decide (([e] : List Expr).length + ([] : List Keyword).length + (if ([] : List Keyword).isEmpty then 0 else 1) < 30)) = true := by rfl)
    (hline : (p1.endLine == p2.line) = true := by rfl) (hs : starEach [e] X.env = (false, eval e X.env) :: starEach [] X.env := by rfl) (hplain : (backTo p2 (starEach [] X.env)).any (·.1) = false := by rfl) :
    WE X (.Call (.Attribute (.Name n p0) "pop" p1) [e] [] p2) σ s.H Q :=
  we_of (pe_bm PySem.F.plainAttrs_list PySem.F.slot_list_pop PySem.F.type_list_pop mt_popAt (pe_var hN hv hd hcd) (pa_cons pe_we pa_nil hs) hbase hfew hline hs hplain) (by
    obtain ⟨h1, vs, h2, h3⟩ := id o
    refine ⟨_, hσ, .inl ⟨rfl, vs, .inl (.inl h2)⟩, he s (Ex.refl _) _ fun v s1 k1 r1 => ?_⟩
    have f1 := k1.n _ _ h2 h1
    have g1 := k1.h _ _ h2
    unfold popN at hj
    split at hj
    · rename_i hb
      obtain ⟨w, hw, rw'⟩ := (h3.mono k1.f).get hy
      refine ⟨p, vs, z, j, w, rfl, by rw [show v = V.int z from r1], g1, hb.1, hb.2, by rw [h3.len]; exact hj, hw, ?_⟩
      exact k w (s1.put p (.lst (vs.eraseIdx j)) f1) (k1.mx.trans (Mx.put f1)) ⟨f1, _, upd_same, (h3.mono k1.f).erase j⟩ rw'
    · cases hj)
end
def popAt {τ : Type} (xs : List τ) (z : Int) : Option (τ × List τ) := (popN xs.length z).bind fun j => (xs[j]?).map fun y => (y, xs.eraseIdx j)
theorem popAt_some {τ : Type} {xs ys : List τ} {z : Int} {y : τ} (h : popAt xs z = some (y, ys)) : ∃ j, popN xs.length z = some j ∧ xs[j]? = some y ∧ ys = xs.eraseIdx j := by
  unfold popAt at h
  obtain ⟨j, h1, h2⟩ := bndE h
  obtain ⟨w, h3, h4⟩ := Option.map_eq_some_iff.mp h2
  cases h4
  exact ⟨j, h1, h3, rfl⟩
theorem do_setPop (i l : Nat) {p : Addr} {n m : Str} {xs ys : List α} {z : Int} {y : α} {py : Pos} (hσ : σ[i]? = some (some (.ref p))) (o : Own X.K s p xs) (he : Ev X e σ s z) (hj : popAt xs z = some (y, ys))
    (k : ∀ v s1, Mx (· = p) s s1 → Own X.K s1 p ys → rep X.K s1.F v y → WSs X rest D (σ.set l (some v)) s1.H)
    (hnd : X.N.Nodup) (hN : X.N[i]? = some n := by rfl) (hv : Vis X.env.scope n := by first | exact Or.inl rfl | exact Or.inr (Or.inl rfl) | exact Or.inr (Or.inr rfl)) (hd : (n == ("__debug__" : Str)) = false := by decide) (hcd : (n == ("__classdict__" : Str)) = false := by decide)
    (hbase : attributeBase (.Name n p0) "pop" X.env (eval (.Name n p0) X.env) = eval (.Name n p0) X.env := by rfl)
    (hfew : ((backTo p2 (starEach [e] X.env)).all (fun x => !x.1) && (backToKw p2 (keywordEach [] X.env)).all (fun x => x.1.isSome) && decide (([e] : List Expr).length + ([] : List Keyword).length + (if ([] : List Keyword).isEmpty then 0 else 1) < 30)) = true := by rfl)
    (hline : (p1.endLine == p2.line) = true := by rfl) (hs : starEach [e] X.env = (false, eval e X.env) :: starEach [] X.env := by rfl) (hplain : (backTo p2 (starEach [] X.env)).any (·.1) = false := by rfl)
    (hx : Loc X.env.scope m := by first | exact Or.inl rfl | exact Or.inr rfl) (hi : X.N[l]? = some m := by rfl)
    (hsw : swapsWith (.Call (.Attribute (.Name n p0) "pop" p1) [e] [] p2) (some (.Name m py)) pos.line X.env = pure false := by rfl) (hf : X.fn m = true ∨ X.env.scope.names.lookup m = some .local := by first | exact .inl rfl | exact .inr rfl) :
    WSs X (.Assign [.Name m py] (.Call (.Attribute (.Name n p0) "pop" p1) [e] [] p2) pos :: rest) D σ s.H := by
  obtain ⟨j, h1, h2, rfl⟩ := popAt_some hj
  exact do_cons (ps_set hnd hi hx pe_we hsw hf) (we_pop i hσ o he h1 h2 (fun v s1 m1 o1 r1 => k v s1 m1 o1 r1) hN hv hd hcd hbase hfew hline hs hplain)
theorem do_appPop (i l : Nat) {p q : Addr} {n m : Str} {xs ys zs : List α} {z : Int} {y : α} {py : Pos} (hσ : σ[i]? = some (some (.ref p))) (hσ2 : σ[l]? = some (some (.ref q))) (hpq : q ≠ p) (o : Own X.K s p xs) (o2 : Own X.K s q zs) (hz : zs.length < sizeLine) (he : Ev X e σ s z) (hj : popAt xs z = some (y, ys))
    (k : ∀ s1, Mx (fun a => a = p ∨ a = q) s s1 → Own X.K s1 p ys → Own X.K s1 q (zs ++ [y]) → WSs X rest D σ s1.H)
    (hN : X.N[i]? = some n := by rfl) (hv : Vis X.env.scope n := by first | exact Or.inl rfl | exact Or.inr (Or.inl rfl) | exact Or.inr (Or.inr rfl)) (hd : (n == ("__debug__" : Str)) = false := by decide) (hcd : (n == ("__classdict__" : Str)) = false := by decide)
    (hbase : attributeBase (.Name n p0) "pop" X.env (eval (.Name n p0) X.env) = eval (.Name n p0) X.env := by rfl)
    (hfew : ((backTo p2 (starEach [e] X.env)).all (fun x => !x.1) && (backToKw p2 (keywordEach [] X.env)).all (fun x => x.1.isSome) && decide (([e] : List Expr).length + ([] : List Keyword).length + (if ([] : List Keyword).isEmpty then 0 else 1) < 30)) = true := by rfl)
    (hline : (p1.endLine == p2.line) = true := by rfl) (hs : starEach [e] X.env = (false, eval e X.env) :: starEach [] X.env := by rfl) (hplain : (backTo p2 (starEach [] X.env)).any (·.1) = false := by rfl)
    (hN2 : X.N[l]? = some m := by rfl) (hv2 : Vis X.env.scope m := by first | exact Or.inl rfl | exact Or.inr (Or.inl rfl) | exact Or.inr (Or.inr rfl)) (hd2 : (m == ("__debug__" : Str)) = false := by decide) (hcd2 : (m == ("__classdict__" : Str)) = false := by decide)
    (hbase2 : attributeBase (.Name m py) "append" X.env (eval (.Name m py) X.env) = eval (.Name m py) X.env := by rfl)
    (hfew2 : ((backTo p4 (starEach [.Call (.Attribute (.Name n p0) "pop" p1) [e] [] p2] X.env)).all (fun x => !x.1) && (backToKw p4 (keywordEach [] X.env)).all (fun x => x.1.isSome) && decide (([.Call (.Attribute (.Name n p0) "pop" p1) [e] [] p2] : List Expr).length + ([] : List Keyword).length + (if ([] : List Keyword).isEmpty then 0 else 1) < 30)) = true := by rfl)
    (hline2 : (p3.endLine == p4.line) = true := by rfl) (hs2 : starEach [.Call (.Attribute (.Name n p0) "pop" p1) [e] [] p2] X.env = (false, eval (.Call (.Attribute (.Name n p0) "pop" p1) [e] [] p2) X.env) :: starEach [] X.env := by rfl) (hplain2 : (backTo p4 (starEach [] X.env)).any (·.1) = false := by rfl)
    (hsw : swapsWith (.Call (.Attribute (.Name m py) "append" p3) [.Call (.Attribute (.Name n p0) "pop" p1) [e] [] p2] [] p4) none p5.line X.env = pure false := by rfl) :
    WSs X (.Expr (.Call (.Attribute (.Name m py) "append" p3) [.Call (.Attribute (.Name n p0) "pop" p1) [e] [] p2] [] p4) p5 :: rest) D σ s.H := by
  obtain ⟨j, h1, h2, rfl⟩ := popAt_some hj
  refine do_cons (ps_expr (pe_bm PySem.F.plainAttrs_list PySem.F.slot_list_append PySem.F.type_list_append mt_append (pe_var hN2 hv2 hd2 hcd2) (pa_cons pe_we pa_nil hs2) hbase2 hfew2 hline2 hs2 hplain2) hsw) ?_
  obtain ⟨g1, vs, g2, g3⟩ := id o2
  refine ⟨_, hσ2, .inl ⟨rfl, vs, .inl (.inl g2)⟩, we_pop i hσ o he h1 h2 (fun v s1 m1 o1 r1 => ?_) hN hv hd hcd hbase hfew hline hs hplain⟩
  obtain ⟨f1, ws, f2, f3⟩ := o2.mx m1 hpq
  refine ⟨q, ws, v, rfl, rfl, f2, by rw [f3.len]; exact hz, ?_⟩
  have m2 : Mx (fun a => a = p ∨ a = q) s1 (s1.put q (.lst (ws ++ [v])) f1) := ⟨(Mx.put f1).f, fun a u h nn => (Mx.put f1).h a u h fun z => nn (.inr z), (Mx.put f1).n, (Mx.put f1).d⟩
  have m0 : Mx (fun a => a = p ∨ a = q) s s1 := ⟨m1.f, fun a u h nn => m1.h a u h fun z => nn (.inl z), m1.n, m1.d⟩
  refine k (s1.put q (.lst (ws ++ [v])) f1) (m0.trans m2) (o1.mx (Mx.put f1) fun z => hpq z.symm) ⟨f1, _, upd_same, f3.snoc r1⟩
theorem Ex.mu2 {s t u : S} {p q : Addr} (a : Ex s t) (b : Mx (fun a => a = p ∨ a = q) t u) (h : s.H p = none) (h2 : s.H q = none) : Ex s u := a.mu b fun _ e => e.elim (fun z => z ▸ h) fun z => z ▸ h2
def popAll {σ τ : Type} (f : List τ → σ → Option Int) : List τ → List σ → Option (List τ)
  | _, [] => some []
  | l, x :: r => (f l x).bind fun z => (popAt l z).bind fun y => (popAll f y.2 r).bind fun ys => some (y.1 :: ys)
theorem do_retPop (i j : Nat) {τ : Type} [Enc τ] {zs : List τ} {xs ys : List α} {f : List α → τ → Option Int} {p : Addr} {n x : Str} {px : Pos} {ie : Expr} {scope : Scope} {own : List (Str × Nat)} (hc : X.calm = true) (hN : X.N.Nodup) (hi : EvI X (.Name x px) iter σ s zs) (o : Own X.K s p xs) (ok : BlkOk X.N X.env.scope scope own)
    (hj : X.N[j]? = some x) (hjo : j ∈ own.map (·.2)) (hg : ∀ s0 H0 C cl fp, PG (Blk X scope s0 H0 C cl fp) (.Name x px) (gName j)) (hσ : ∀ v, ((wipe σ (own.map (·.2))).set j (some v))[i]? = some (some (.ref p))) (hf : popAll f xs zs = some ys) (hz : ys.length ≤ sizeLine)
    (he : ∀ (l : List α) (y : τ) (z : Int) (v : V) (s1 : S), y ∈ zs → Mx (· = p) s s1 → Own X.K s1 p l → rep X.K s1.F v y → f l y = some z → ∀ s0 H0 C cl fp, Ev (Blk X scope s0 H0 C cl fp) ie ((wipe σ (own.map (·.2))).set j (some v)) s1 z)
    (k : ∀ q s1, Mx (· = p) s s1 → s.H q = none → Own X.K s1 q ys → D.rt (.ref q) s1.H)
    (hNi : X.N[i]? = some n := by rfl)
    (hv : ∀ s0 H0 C cl fp, Vis (Blk X scope s0 H0 C cl fp).env.scope n := by intros; first | exact Or.inl rfl | exact Or.inr (Or.inl rfl) | exact Or.inr (Or.inr rfl)) (hd : (n == ("__debug__" : Str)) = false := by decide) (hcd : (n == ("__classdict__" : Str)) = false := by decide)
    (hbase : ∀ s0 H0 C cl fp, attributeBase (.Name n p0) "pop" (Blk X scope s0 H0 C cl fp).env (eval (.Name n p0) (Blk X scope s0 H0 C cl fp).env) = eval (.Name n p0) (Blk X scope s0 H0 C cl fp).env := by intros; rfl)
    (hfew : ∀ s0 H0 C cl fp, ((backTo p2 (starEach [ie] (Blk X scope s0 H0 C cl fp).env)).all (fun x => !x.1) && (backToKw p2 (keywordEach [] (Blk X scope s0 H0 C cl fp).env)).all (fun x => x.1.isSome) && decide (([ie] : List Expr).length + ([] : List Keyword).length + (if ([] : List Keyword).isEmpty then 0 else 1) < 30)) = true := by intros; rfl)
    (hline : (p1.endLine == p2.line) = true := by rfl) (hs1 : ∀ s0 H0 C cl fp, starEach [ie] (Blk X scope s0 H0 C cl fp).env = (false, eval ie (Blk X scope s0 H0 C cl fp).env) :: starEach [] (Blk X scope s0 H0 C cl fp).env := by intros; rfl) (hplain : ∀ s0 H0 C cl fp, (backTo p2 (starEach [] (Blk X scope s0 H0 C cl fp).env)).any (·.1) = false := by intros; rfl)
    (hs : ∀ x, foldedSetIterable iter X.env x = pure x := by intro _; rfl) : WSs X (.Return (some (.ListComp (.Call (.Attribute (.Name n p0) "pop" p1) [ie] [] p2) [⟨.Name x px, iter, [], 0⟩] scope p3)) pos :: rest) D σ s.H := by
  have hpe : PE X (.ListComp (.Call (.Attribute (.Name n p0) "pop" p1) [ie] [] p2) [⟨.Name x px, iter, [], 0⟩] scope p3) (tLc (WI X (.Name x px) iter) (gName j) tYes (fun σ H Q => ∀ s0 H0 C cl fp, WE (Blk X scope s0 H0 C cl fp) (.Call (.Attribute (.Name n p0) "pop" p1) [ie] [] p2) σ H Q) (own.map (·.2))) :=
    pe_lc hc hN pi_wi ok hg (fun s0 H0 C cl fp => pts_nil) (fun s0 H0 C cl fp => pe_im fun _ _ _ h => h s0 H0 C cl fp) hs
  refine do_cons (ps_ret hpe) ?_
  refine (show EvI X (.Name x px) iter σ s zs from hi) s (Ex.refl _) _ fun J s2 k2 W => ?_
  intro Dd hD
  have o2 : Own X.K s2 p xs := o.ex k2
  have hne : p ≠ Dd := Own.ne o2 hD
  refine ⟨fun i m H => ∃ (u : S) (pre l : List α) (vs : List V), u.H = H ∧ m = zs.length - i ∧ Mx (· = p) s2 u ∧ Own X.K u p l ∧ u.F Dd = none ∧ u.H Dd = some (.lst vs) ∧ Reps X.K u.F vs pre ∧ (∃ suf, popAll f l (zs.drop i) = some suf ∧ pre ++ suf = ys), ⟨zs.length, s2.newO Dd (.lst []) hD, [], xs, [], rfl, rfl, (Ex.newO hD).mx, o2.ex (Ex.newO hD), (fF hD : s2.F Dd = none), upd_same, trivial, ys, hf, rfl⟩, ?_⟩
  rintro i' m H ⟨u, pre, l, vs, rfl, rfl, ku, ol, n1, n2, n3, suf, h1, h2⟩
  by_cases hi' : i' < zs.length
  · right
    obtain ⟨g1, g2⟩ := W.go i' u zs[i'] ku.f (List.getElem?_eq_getElem hi')
    refine ⟨g1, fun H' => ∃ m', m' < zs.length - i' ∧ ∃ (u : S) (pre l : List α) (vs : List V), u.H = H' ∧ m' = zs.length - (i' + 1) ∧ Mx (· = p) s2 u ∧ Own X.K u p l ∧ u.F Dd = none ∧ u.H Dd = some (.lst vs) ∧ Reps X.K u.F vs pre ∧ (∃ suf, popAll f l (zs.drop (i' + 1)) = some suf ∧ pre ++ suf = ys), fun H' z => z, fun v H' hy => ?_⟩
    obtain ⟨u', rfl, ku', rv⟩ := g2 v H' hy
    refine ⟨by show wipe ((wipe σ (own.map (·.2))).set j (some v)) (own.map (·.2)) = _; rw [wipe_set hjo]; exact wipe_wipe fun _ z => z, ?_⟩
    unfold tYes
    dsimp only
    rw [if_pos rfl]
    rw [List.drop_eq_getElem_cons hi'] at h1
    unfold popAll at h1
    obtain ⟨z, hz1, h1⟩ := bndE h1
    obtain ⟨⟨y, l'⟩, hz2, h1⟩ := bndE h1
    obtain ⟨suf', hz3, h1⟩ := bndE h1
    cases h1
    obtain ⟨jj, e1, e2, e3⟩ := popAt_some hz2
    subst e3
    have kk : Mx (· = p) s u' := (k2.mx.trans ku).trans ku'.mx
    intro s0 H0 C cl fp
    refine we_pop (X := Blk X scope s0 H0 C cl fp) (e := ie) i (hσ v) (ol.ex ku') (he l zs[i'] z v u' (List.getElem_mem hi') kk (ol.ex ku') rv hz1 s0 H0 C cl fp) e1 e2 (fun w u4 m4 o4 r4 => ?_) hNi (hv s0 H0 C cl fp) hd hcd (hbase s0 H0 C cl fp) (hfew s0 H0 C cl fp) hline (hs1 s0 H0 C cl fp) (hplain s0 H0 C cl fp)
    have k5 : Mx (· = p) u u4 := ku'.mx.trans m4
    have hD4 : u4.H Dd = some (.lst vs) := k5.h _ _ n2 fun z => hne z.symm
    have hF4 : u4.F Dd = none := k5.n _ _ n2 n1
    have hlen : vs.length < sizeLine := by
      have e1 := n3.len
      have e2 : ys.length = pre.length + (suf'.length + 1) := by rw [← h2, List.length_append, List.length_cons]
      omega
    have hlt : zs.length - (i' + 1) < zs.length - i' := by omega
    have md : Mx (· = p) s2 (u4.put Dd (.lst (vs ++ [w])) hF4) := ⟨(ku.trans k5).f, fun a ob h nn => by
      show upd u4.H Dd _ a = some ob
      rw [upd_ne (ne_of_none h hD)]; exact (ku.trans k5).h a ob h nn, (ku.trans k5).n, fun a ob h => by
      obtain ⟨ob', h'⟩ := (ku.trans k5).d a ob h
      exact ⟨ob', by show upd u4.H Dd _ a = some ob'; rw [upd_ne (ne_of_none h hD)]; exact h'⟩⟩
    exact ⟨vs, hD4, hlen, _, hlt, u4.put Dd (.lst (vs ++ [w])) hF4, pre ++ [y], _, vs ++ [w], rfl, rfl, md, o4.mx (Mx.put hF4) hne, hF4, upd_same, (n3.mono k5.f).snoc r4, suf', hz3, by rw [List.append_assoc]; exact h2⟩
  · left
    have hd : zs.drop i' = [] := List.drop_eq_nil_of_le (by omega)
    rw [hd] at h1
    cases h1
    refine ⟨W.stop i' u ku.f (by omega), k Dd u (k2.mx.trans ku) (fr_back k2 hD) ⟨n1, vs, n2, ?_⟩⟩
    rw [← h2, List.append_nil]
    exact n3
end
end Dy

namespace Dy
open PySem PySem.Spec L2
open PyProof.Rows hiding St

theorem php : ∀ (n : Nat) (l : List Nat), l.Nodup → (∀ x ∈ l, x < n) → l.length ≤ n
  | 0, [], _, _ => Nat.le_refl _
  | 0, x :: _, _, h => absurd (h x List.mem_cons_self) (Nat.not_lt_zero _)
  | n + 1, l, hn, h => by
    by_cases hm : n ∈ l
    · have h1 := php n (l.erase n) (hn.erase n) (fun x hx => by
        have h2 := h x (List.mem_of_mem_erase hx)
        have h3 : x ≠ n := (hn.mem_erase_iff.mp hx).1
        omega)
      rw [List.length_erase_of_mem hm] at h1
      omega
    · have := php n l hn (fun x hx => by
        have h2 := h x hx
        have h3 : x ≠ n := fun e => hm (e ▸ hx)
        omega)
      omega
theorem mem_rng {a b x : Int} : x ∈ rng a b ↔ a ≤ x ∧ x < b := by
  constructor
  · exact rng_mem
  · intro ⟨h1, h2⟩
    unfold rng
    refine List.mem_map.mpr ⟨(x - a).toNat, List.mem_range.mpr (by omega), by omega⟩
theorem rng_nodup (a b : Int) : (rng a b).Nodup := by
  unfold rng
  refine List.Pairwise.map _ (fun x y h e => h (by omega)) List.nodup_range
theorem rng_sorted (a b : Int) : (rng a b).Pairwise (· ≤ ·) := by
  unfold rng
  refine List.Pairwise.map _ (fun x y h => ?_) List.pairwise_lt_range
  omega
theorem sort_perm (xs : List Int) : (sortI xs).Perm xs := List.mergeSort_perm _ _
theorem sort_of_perm {xs ys : List Int} (h : xs.Perm ys) (hs : ys.Pairwise (· ≤ ·)) : sortI xs = ys := by
  refine List.Perm.eq_of_pairwise (le := fun x y : Int => x ≤ y) (fun a b _ _ h h' => Int.le_antisymm h h') ?_ hs ((sort_perm xs).trans h)
  have := List.pairwise_mergeSort (le := fun x y : Int => decide (x ≤ y)) (fun a b c h1 h2 => by simp at *; omega) (fun a b => by simp; omega) xs
  exact this.imp (by simp)
theorem perm_rng {l : List Int} {n : Nat} (h1 : l.Nodup) (h2 : l.length = n) (h3 : ∀ x ∈ l, 0 ≤ x ∧ x < n) : l.Perm (rng 0 n) := by
  refine (List.perm_ext_iff_of_nodup h1 (rng_nodup 0 n)).mpr fun a => ⟨fun h => mem_rng.mpr (h3 a h), fun h => ?_⟩
  obtain ⟨a0, a1⟩ := mem_rng.mp h
  refine Classical.byContradiction fun hn => ?_
  have h4 : ((a :: l).map Int.toNat).Nodup := by
    refine List.Pairwise.map (R := fun x y => x ≠ y ∧ 0 ≤ x ∧ 0 ≤ y) _ (fun x y ⟨h, p, q⟩ e => h (by omega)) ?_
    refine List.pairwise_cons.mpr ⟨fun x hx => ⟨fun e => hn (e ▸ hx), a0, (h3 x hx).1⟩, ?_⟩
    refine List.Pairwise.imp_of_mem (fun {x y} hx hy h => ⟨h, (h3 x hx).1, (h3 y hy).1⟩) h1
  have h5 := php n _ h4 (fun x hx => by
    obtain ⟨y, hy, rfl⟩ := List.mem_map.mp hx
    rcases List.mem_cons.mp hy with rfl | hy
    · omega
    · have := h3 y hy; omega)
  simp at h5
  omega
def nxt (o : List Int) (x : Int) : Int := o.getD x.toNat 0
def it (o : List Int) : Nat → Int → Int
  | 0, x => x
  | k + 1, x => nxt o (it o k x)
theorem it_add (o : List Int) (a b : Nat) (x : Int) : it o (a + b) x = it o a (it o b x) := by
  induction a with
  | zero => rw [Nat.zero_add]; rfl
  | succ a ih => rw [Nat.succ_add]; show nxt o _ = nxt o _; rw [ih]
theorem it_one (o : List Int) (x : Int) : it o 1 x = nxt o x := rfl
theorem it_comm (o : List Int) (a b : Nat) (x : Int) : it o a (it o b x) = it o b (it o a x) := by rw [← it_add, ← it_add, Nat.add_comm]
structure IsOrd (o : List Int) : Prop where
  l1 : 1 ≤ o.length
  l2 : o.length ≤ 40
  pm : o.Perm (rng 0 o.length)
theorem isOrd_sort {o : List Int} (h1 : 1 ≤ o.length) (h2 : o.length ≤ 40) (h3 : sortI o = rng 0 o.length) : IsOrd o := ⟨h1, h2, by rw [← h3]; exact (sort_perm o).symm⟩
section
variable {o : List Int}
theorem IsOrd.sort (h : IsOrd o) : sortI o = rng 0 o.length := sort_of_perm h.pm (rng_sorted _ _)
theorem IsOrd.nd (h : IsOrd o) : o.Nodup := h.pm.nodup_iff.mpr (rng_nodup _ _)
theorem IsOrd.mem (h : IsOrd o) {x : Int} : x ∈ o ↔ 0 ≤ x ∧ x < o.length := h.pm.mem_iff.trans mem_rng
theorem nxt_get {x : Int} (h0 : 0 ≤ x) (h1 : x < o.length) : o[x.toNat]? = some (nxt o x) := by
  unfold nxt
  have : x.toNat < o.length := by omega
  rw [List.getElem?_eq_getElem this, List.getD_eq_getElem?_getD, List.getElem?_eq_getElem this]; rfl
theorem nxt_at {x : Int} (h0 : 0 ≤ x) (h1 : x < o.length) : atI o x = some (nxt o x) := by rw [atI_get h0 h1, nxt_get h0 h1]
theorem IsOrd.nxt (h : IsOrd o) {x : Int} (h0 : 0 ≤ x) (h1 : x < o.length) : 0 ≤ Dy.nxt o x ∧ Dy.nxt o x < o.length := h.mem.mp (List.mem_of_getElem? (nxt_get h0 h1))
theorem IsOrd.it (h : IsOrd o) {x : Int} (h0 : 0 ≤ x) (h1 : x < o.length) : ∀ k, 0 ≤ Dy.it o k x ∧ Dy.it o k x < o.length
  | 0 => ⟨h0, h1⟩
  | k + 1 => h.nxt (h.it h0 h1 k).1 (h.it h0 h1 k).2
theorem IsOrd.inj (h : IsOrd o) {x y : Int} (x0 : 0 ≤ x) (x1 : x < o.length) (y0 : 0 ≤ y) (y1 : y < o.length) (e : Dy.nxt o x = Dy.nxt o y) : x = y := by
  have h1 := nxt_get x0 x1
  have h2 := nxt_get y0 y1
  rw [← e] at h2
  obtain ⟨a1, b1⟩ := List.getElem?_eq_some_iff.mp h1
  obtain ⟨a2, b2⟩ := List.getElem?_eq_some_iff.mp h2
  have := (List.getElem_inj h.nd (i := x.toNat) (j := y.toNat) (h₀ := a1) (h₁ := a2)).mp (b1.trans b2.symm)
  omega
theorem IsOrd.itInj (h : IsOrd o) : ∀ (k : Nat) {x y : Int}, 0 ≤ x → x < o.length → 0 ≤ y → y < o.length → Dy.it o k x = Dy.it o k y → x = y
  | 0, _, _, _, _, _, _, e => e
  | k + 1, _, _, x0, x1, y0, y1, e => h.itInj k x0 x1 y0 y1 (h.inj (h.it x0 x1 k).1 (h.it x0 x1 k).2 (h.it y0 y1 k).1 (h.it y0 y1 k).2 e)
theorem least {p : Nat → Prop} : ∀ n, p n → ∃ m, m ≤ n ∧ p m ∧ ∀ k, k < m → ¬ p k := by
  intro n
  induction n using Nat.strongRecOn with
  | _ n ih =>
    intro h
    by_cases hk : ∃ k, k < n ∧ p k
    · obtain ⟨k, h1, h2⟩ := hk
      obtain ⟨m, h3, h4, h5⟩ := ih k h1 h2
      exact ⟨m, by omega, h4, h5⟩
    · exact ⟨n, Nat.le_refl _, h, fun k hk' hp => hk ⟨k, hk', hp⟩⟩
theorem IsOrd.cycle (h : IsOrd o) {x : Int} (h0 : 0 ≤ x) (h1 : x < o.length) : ∃ L, 1 ≤ L ∧ L ≤ o.length ∧ Dy.it o L x = x ∧ ∀ k, 0 < k → k < L → Dy.it o k x ≠ x := by
  have ex : ∃ L, 1 ≤ L ∧ L ≤ o.length ∧ Dy.it o L x = x := by
    refine Classical.byContradiction fun hn => ?_
    have hne : ∀ i j, i < j → j ≤ o.length → Dy.it o i x ≠ Dy.it o j x := fun i j hij hj e => by
      refine hn ⟨j - i, by omega, by omega, ?_⟩
      have e2 : Dy.it o i x = Dy.it o i (Dy.it o (j - i) x) := by rw [← it_add, show i + (j - i) = j by omega]; exact e
      have := h.it h0 h1 (j - i)
      exact (h.itInj i h0 h1 this.1 this.2 e2).symm
    have h2 : ((List.range (o.length + 1)).map fun k => (Dy.it o k x).toNat).Nodup := by
      refine List.Pairwise.map (R := fun a b => a < b ∧ b ≤ o.length) _ (fun a b ⟨p, q⟩ e => ?_) ?_
      · have e1 := h.it h0 h1 a
        have e2 := h.it h0 h1 b
        exact hne a b p q (by omega)
      · refine List.Pairwise.imp_of_mem (fun {a b} ha hb hlt => ⟨hlt, by have := List.mem_range.mp hb; omega⟩) List.pairwise_lt_range
    have h3 := php o.length _ h2 (fun y hy => by
      obtain ⟨k, _, rfl⟩ := List.mem_map.mp hy
      have := h.it h0 h1 k
      omega)
    rw [List.length_map, List.length_range] at h3
    omega
  obtain ⟨L, a, b, c⟩ := ex
  obtain ⟨m, m1, ⟨m2, m3, m4⟩, m5⟩ := least (p := fun L => 1 ≤ L ∧ L ≤ o.length ∧ Dy.it o L x = x) L ⟨a, b, c⟩
  exact ⟨m, m2, m3, m4, fun k k0 k1 e => m5 k k1 ⟨by omega, by omega, e⟩⟩
theorem it_mul {L : Nat} {x : Int} (h : Dy.it o L x = x) : ∀ q, Dy.it o (L * q) x = x
  | 0 => rfl
  | q + 1 => by rw [Nat.mul_succ, it_add, h, it_mul h q]
theorem it_mod {L : Nat} {x : Int} (h : Dy.it o L x = x) (m : Nat) : Dy.it o (m % L) x = Dy.it o m x := by
  conv => rhs; rw [← Nat.mod_add_div m L, it_add, it_mul h]
def srv (o : List Int) (m : Nat) : List Int := (rng 0 o.length).map (Dy.it o m)
theorem srv_len (o : List Int) (m : Nat) : (srv o m).length = o.length := by unfold srv; rw [List.length_map, rng_len]; omega
theorem rng_getE {a b : Int} {i : Nat} (h : i < (b - a).toNat) : (rng a b)[i]? = some (a + (i : Int)) := by
  unfold rng
  rw [List.getElem?_map, List.getElem?_range h]; rfl
theorem srv_at {m : Nat} {x : Int} (h0 : 0 ≤ x) (h1 : x < o.length) : atI (srv o m) x = some (Dy.it o m x) := by
  rw [atI_get h0 (by rw [srv_len]; exact h1)]
  unfold srv
  rw [List.getElem?_map, rng_getE (by omega)]
  show some (Dy.it o m (0 + (x.toNat : Int))) = _
  rw [show (0 : Int) + (x.toNat : Int) = x by omega]
theorem srv_perm (h : IsOrd o) (m : Nat) : (srv o m).Perm (rng 0 o.length) := by
  refine perm_rng ?_ (srv_len o m) (fun x hx => ?_)
  · refine List.Pairwise.map (R := fun (a b : Int) => a ≠ b ∧ (0 ≤ a ∧ a < (o.length : Int)) ∧ 0 ≤ b ∧ b < (o.length : Int)) _ (fun a b ⟨p, q, r⟩ e => p (h.itInj m q.1 q.2 r.1 r.2 e)) ?_
    exact List.Pairwise.imp_of_mem (fun {a b} ha hb hne => ⟨hne, mem_rng.mp ha, mem_rng.mp hb⟩) (rng_nodup _ _)
  · obtain ⟨y, hy, rfl⟩ := List.mem_map.mp hx
    obtain ⟨a, b⟩ := mem_rng.mp hy
    exact h.it a b m
theorem srv_mem (h : IsOrd o) {m : Nat} {x : Int} (hx : x ∈ srv o m) : 0 ≤ x ∧ x < o.length := mem_rng.mp ((srv_perm h m).mem_iff.mp hx)
theorem srv_zero (o : List Int) : srv o 0 = rng 0 o.length := by
  unfold srv
  have : (Dy.it o 0 : Int → Int) = id := by funext x; rfl
  rw [this, List.map_id]
theorem srv_one (o : List Int) : srv o 1 = o := by
  refine List.ext_getElem? fun i => ?_
  unfold srv
  rw [List.getElem?_map]
  by_cases h : i < o.length
  · rw [rng_getE (by omega)]
    show some (Dy.nxt o (0 + (i : Int))) = _
    have := nxt_get (o := o) (x := (i : Int)) (by omega) (by omega)
    rw [show (0 : Int) + (i : Int) = (i : Int) by omega, ← this]
    congr 1
  · rw [List.getElem?_eq_none (by rw [rng_len]; omega), List.getElem?_eq_none (by omega)]; rfl
theorem srv_add (a b : Nat) : (srv o a).map (Dy.it o b) = srv o (b + a) := by
  unfold srv
  rw [List.map_map]
  exact List.map_congr_left fun x _ => (it_add o b a x).symm
end
theorem erase_perm {τ : Type} : ∀ (l : List τ) (i : Nat) (h : i < l.length), (l[i] :: l.eraseIdx i).Perm l
  | [], i, h => absurd h (Nat.not_lt_zero _)
  | x :: xs, 0, _ => List.Perm.refl _
  | x :: xs, i + 1, h => (List.Perm.swap x _ _).trans (List.Perm.cons x (erase_perm xs i (Nat.lt_of_succ_lt_succ h)))
theorem popAt_ok {τ : Type} {l : List τ} {z : Int} (h0 : 0 ≤ z) (h1 : z < l.length) (h2 : l.length < 1000000) : Ok (popAt l z) (fun r => (r.1 :: r.2).Perm l) := by
  unfold popAt popN seqIndex?
  have hl : z.toNat < l.length := by omega
  rw [if_pos ⟨by omega, by omega⟩]
  simp only
  rw [show (if z < 0 then z + (l.length : Int) else z) = z from if_neg (by omega), if_pos (by rw [Bool.and_eq_true]; exact ⟨decide_eq_true h0, decide_eq_true h1⟩), Option.bind_some, List.getElem?_eq_getElem hl]
  exact ok_some (erase_perm l _ hl)
theorem ok_popAll {σ τ : Type} {f : List τ → σ → Option Int} : ∀ {xs : List σ} {l : List τ}, (∀ l' x, l' ≠ [] → l'.length ≤ l.length → x ∈ xs → Ok (f l' x) (fun z => 0 ≤ z ∧ z < l'.length)) → xs.length ≤ l.length → l.length < 1000000 → Ok (popAll f l xs) (fun ys => ys.length = xs.length ∧ ∃ r, (ys ++ r).Perm l)
  | [], l, _, _, _ => ⟨[], rfl, rfl, l, List.Perm.refl _⟩
  | x :: xs, l, h, hl, hz => by
    rw [List.length_cons] at hl
    have hne : l ≠ [] := fun e => by subst e; simp at hl
    unfold popAll
    refine ok_bnd (h l x hne (Nat.le_refl _) List.mem_cons_self) fun z ⟨z0, z1⟩ => ok_bnd (popAt_ok z0 z1 hz) fun r hr => ?_
    have hlen : r.2.length + 1 = l.length := by have := hr.length_eq; rw [List.length_cons] at this; exact this
    refine ok_bnd (ok_popAll (fun l' y hn hl' hy => h l' y hn (by omega) (List.mem_cons_of_mem _ hy)) (by omega) (by omega)) fun ys ⟨e1, r', e2⟩ => ok_some ⟨by rw [List.length_cons, List.length_cons, e1], r', ?_⟩
    exact (List.Perm.cons r.1 e2).trans hr
theorem repl_one {τ : Type} (n : Int) (x : τ) : repl n [x] = List.replicate n.toNat x := by
  unfold repl
  exact List.flatten_replicate_singleton
end Dy

namespace Dy
open PySem PySem.Spec L2
open PyProof.Rows hiding St
instance {α β : Type} [Enc α] [Enc β] : Opn (α × β) := ⟨fun h => by obtain ⟨_, _, _, e, _⟩ := h; cases e⟩
instance {α β γ : Type} [Enc α] [Enc β] [Enc γ] : Opn (T3 α β γ) := ⟨fun h => by obtain ⟨_, _, _, _, e, _⟩ := h; cases e⟩
instance {α β γ : Type} {n m k : Nat} [Shp α n] [Shp β m] [Shp γ k] : Shp (T3 α β γ) (n + m + k + 1) := ⟨fun x => by
  obtain ⟨h1, h2⟩ := Shp.ok x.a
  obtain ⟨h3, h4⟩ := Shp.ok x.b
  obtain ⟨h5, h6⟩ := Shp.ok x.c
  refine ⟨?_, ?_⟩
  · show PyData.canLay0 (.tuple [EqD.toD x.a, EqD.toD x.b, EqD.toD x.c]) = true
    simp [PyData.canLay0, PyData.canLayAll0, h1, h3, h5]
  · show PyData.depth (.tuple [EqD.toD x.a, EqD.toD x.b, EqD.toD x.c]) ≤ n + m + k + 1
    simp [PyData.depth, PyData.depthAll]
    omega⟩
section
variable {X : Cx} {K : PySem.W.Frag} {a b e : Expr} {σ : St} {s : S} {p0 p1 p2 pos : Pos} {α β : Type} [Enc α] [Enc β]
def ixS (x y : Str) : Option Nat := (Builtin.Str.occurrences y x 0 y.length 1).head?
theorem ev_indexS {x y : Str} {j : Nat} (ha : Ev X a σ s y) (hb : Ev X b σ s x) (h : ixS x y = some j)
    (hs : starEach [b] X.env = [(false, eval b X.env)] := by rfl) (hbase : attributeBase a "index" X.env (eval a X.env) = eval a X.env := by rfl) (hline : (p1.endLine == pos.line) = true := by rfl) :
    Ev X (.Call (.Attribute a "index" p1) [b] [] pos) σ s (j : Int) := fun s1 k Q q =>
  we_of (pe_m1 PySem.F.slot_str_index PySem.F.type_str_index mt_sindex pe_we pe_we hs hbase hline) (ha s1 k _ fun v s2 k2 r2 => ⟨⟨y, r2⟩, hb s2 (k.trans k2) _ fun u s3 k3 r3 => by
    unfold ixS at h
    obtain ⟨rest, hr⟩ : ∃ rest, Builtin.Str.occurrences y x 0 y.length 1 = j :: rest := by
      cases ho : Builtin.Str.occurrences y x 0 y.length 1 with
      | nil => rw [ho] at h; cases h
      | cons i rest => rw [ho] at h; cases h; exact ⟨rest, rfl⟩
    exact ⟨y, x, j, rest, r2, by rw [show u = V.str x from r3], hr, q _ s3 (k2.trans k3) rfl⟩⟩)
end
section
variable {α α' α'' β : Type} [Enc α] [Enc α'] [Enc α''] [Enc β] {X : Cx} {σ : St} {s : S} {elt tg iter c : Expr} {ifs : List Expr} {scope : Scope} {own : List (Str × Nat)} {pos : Pos}
theorem ev_some' {e : Expr} {x : Option α} {y : α} (ha : Ev X e σ s x) (h : x = some y) : Ev X e σ s y := fun s1 k Q q => by
  subst h
  exact ha s1 k Q fun v s2 k2 r2 => q v s2 k2 r2
theorem en_comp0P {xs : List (α × α')} {ys : List β} {f : α × α' → Option β} {i j : Nat} (hc : X.calm = true) (hN : X.N.Nodup) (hi : EvI X tg iter σ s xs) (ok : BlkOk X.N X.env.scope scope own)
    (hio : i ∈ own.map (·.2)) (hjo : j ∈ own.map (·.2)) (hg : ∀ s0 H0 C cl fp, PG (Blk X scope s0 H0 C cl fp) tg (gTup X.K 2 (gCons (gName i) (gCons (gName j) gNil)))) (hf : mapO f xs = some ys) (hz : ys.length ≤ sizeLine)
    (he : ∀ (x : α × α') (y : β) (v u : V) (s1 : S), x ∈ xs → Ex s s1 → Enc.rep X.K s1.F v x.1 → Enc.rep X.K s1.F u x.2 → f x = some y → ∀ s0 H0 C cl fp, Ev (Blk X scope s0 H0 C cl fp) elt (((wipe σ (own.map (·.2))).set i (some v)).set j (some u)) s1 y)
    (hs : ∀ x, foldedSetIterable iter X.env x = pure x := by intro _; rfl) : EvL X elt tg iter [] scope σ s ys :=
  ⟨hc, hN, hs, own, _, _, ok, hg, fun _ _ _ _ _ => pts_nil, fun s1 k Q q => comp_read (t := fun _ => some true) hc hN hi ok hg tg_2 (fun _ _ _ _ _ => pts_nil) hf hz (fun F x σ2 ⟨v, u, _, _, e⟩ => by rw [e, wipe_set hjo, wipe_set hio]; exact wipe_wipe fun _ z => z)
    (fun x b s1 σ2 Q _ _ _ hb q => by cases hb; exact q s1 (Ex.refl _)) (fun x y s1 σ2 hx k ⟨v, u, r, r', e⟩ _ hfx => by subst e; exact he x y v u s1 hx k r r' hfx) s1 k Q q⟩
theorem en_comp1P {xs : List (α × α')} {ys : List β} {t : α × α' → Option Bool} {f : α × α' → Option β} {i j : Nat} (hc : X.calm = true) (hN : X.N.Nodup) (hi : EvI X tg iter σ s xs) (ok : BlkOk X.N X.env.scope scope own)
    (hio : i ∈ own.map (·.2)) (hjo : j ∈ own.map (·.2)) (hg : ∀ s0 H0 C cl fp, PG (Blk X scope s0 H0 C cl fp) tg (gTup X.K 2 (gCons (gName i) (gCons (gName j) gNil)))) (hf : compO t f xs = some ys) (hz : ys.length ≤ sizeLine)
    (ht : ∀ (x : α × α') (b : Bool) (v u : V) (s1 : S), x ∈ xs → Ex s s1 → Enc.rep X.K s1.F v x.1 → Enc.rep X.K s1.F u x.2 → t x = some b → ∀ s0 H0 C cl fp, EvT (Blk X scope s0 H0 C cl fp) c (((wipe σ (own.map (·.2))).set i (some v)).set j (some u)) s1 b)
    (he : ∀ (x : α × α') (y : β) (v u : V) (s1 : S), x ∈ xs → Ex s s1 → Enc.rep X.K s1.F v x.1 → Enc.rep X.K s1.F u x.2 → t x = some true → f x = some y → ∀ s0 H0 C cl fp, Ev (Blk X scope s0 H0 C cl fp) elt (((wipe σ (own.map (·.2))).set i (some v)).set j (some u)) s1 y)
    (hs : ∀ x, foldedSetIterable iter X.env x = pure x := by intro _; rfl) : EvL X elt tg iter [c] scope σ s ys :=
  ⟨hc, hN, hs, own, _, _, ok, hg, fun s0 H0 C cl fp => pts_one (pt_im fun _ _ _ h => h s0 H0 C cl fp), fun s1 k Q q => comp_read (tt := fun σ H Q => ∀ s0 H0 C cl fp, WT (Blk X scope s0 H0 C cl fp) c σ H Q) hc hN hi ok hg tg_2 (fun s0 H0 C cl fp => pts_one (pt_im fun _ _ _ h => h s0 H0 C cl fp)) hf hz (fun F x σ2 ⟨v, u, _, _, e⟩ => by rw [e, wipe_set hjo, wipe_set hio]; exact wipe_wipe fun _ z => z)
    (fun x b s1 σ2 Q hx k ⟨v, u, r, r', e⟩ hb q => by subst e; intro s0 H0 C cl fp; exact ht x b v u s1 hx k r r' hb s0 H0 C cl fp s1 (Ex.refl _) Q q) (fun x y s1 σ2 hx k ⟨v, u, r, r', e⟩ htx hfx => by subst e; exact he x y v u s1 hx k r r' htx hfx) s1 k Q q⟩
end
end Dy

namespace Dy
open PySem PySem.Spec L2
open PyProof.Rows hiding St
open Enc (rep)
open EncA (repA)

inductive Er where
  | pl (c : Str)
  | pi (c f : Str) (i : Int)
  | ps (c f x : Str)
def Er.c : Er → Str
  | .pl c => c
  | .pi c _ _ => c
  | .ps c _ _ => c
inductive Rz (ρ : Type) where
  | ok (r : ρ)
  | er (e : Er)
def tb {α β : Type} (m : Option (Rz α)) (h : Er → Option β) (k : α → Option β) : Option β := match m with
  | none => none
  | some (.ok r) => k r
  | some (.er e) => h e
theorem tbE {α β : Type} {m : Option (Rz α)} {h : Er → Option β} {k : α → Option β} {o : β} (hm : tb m h k = some o) : (∃ e, m = some (.er e) ∧ h e = some o) ∨ ∃ r, m = some (.ok r) ∧ k r = some o := by
  cases m with
  | none => cases hm
  | some x => cases x with
    | ok r => exact .inr ⟨r, rfl, hm⟩
    | er e => exact .inl ⟨e, rfl, hm⟩
def ExR (K : PySem.W.Frag) (F : Hp) (e : Er) (cls : Value) (d : Option Addr) : Prop := match e with
  | .pl c => cls = .ref (He.ga K c) ∧ d = none
  | .pi c f i => cls = .ref (He.ga K c) ∧ ∃ dd, d = some dd ∧ F dd = some (.xd [(f, V.int i)])
  | .ps c f x => cls = .ref (He.ga K c) ∧ ∃ dd, d = some dd ∧ F dd = some (.xd [(f, V.str x)])
theorem exR_cls {K : PySem.W.Frag} {F : Hp} {e : Er} {cls : Value} {d : Option Addr} (h : ExR K F e cls d) : cls = .ref (He.ga K e.c) := by
  cases e with
  | pl c => exact h.1
  | pi c f i => exact h.1
  | ps c f x => exact h.1
theorem ExR.mono {K : PySem.W.Frag} {F F' : Hp} {e : Er} {cls : Value} {d : Option Addr} (k : Fle F F') (h : ExR K F e cls d) : ExR K F' e cls d := by
  cases e with
  | pl c => exact h
  | pi c f i => obtain ⟨h1, dd, h2, h3⟩ := h; exact ⟨h1, dd, h2, k _ _ h3⟩
  | ps c f x => obtain ⟨h1, dd, h2, h3⟩ := h; exact ⟨h1, dd, h2, k _ _ h3⟩
def RzQ {ρ : Type} [Enc ρ] (K : PySem.W.Frag) (s : S) (o : Rz ρ) (Q : VK) (E : XK) : Prop := match o with
  | .ok r => ∀ v s', Ex s s' → rep K s'.F v r → Q v s'.H
  | .er e => ∀ cls d s', Ex s s' → ExR K s'.F e cls d → E cls d s'.H
def spR {A : Type} [EncA A] {ρ : Type} [Enc ρ] (K : PySem.W.Frag) (m : A → Option (Rz ρ)) : Sp := fun vs H Q E => ∃ (s : S) (x : A) (o : Rz ρ), s.H = H ∧ repA K s.F vs x ∧ m x = some o ∧ RzQ K s o Q E
section
variable {X : Cx} {σ : St} {s : S} {e : Expr} {es : List Expr} {p0 p1 p2 pos : Pos} {α : Type} [Enc α]
theorem ev_callR {A : Type} [EncA A] {m : A → Option (Rz α)} {n : Str} {k j : Nat} {x : A} {r : α} (C : Cal X.prog X.w X.K X.mg X.base (L2.CX X.prog X.w) k n (spR X.K m)) (hr : Room j X.A) (hk : k ≤ j) (ha : EvA X (e :: es) σ s x) (h : m x = some (.ok r)) (hg : Gl X n := by rfl)
    (hdb : (n == ("__debug__" : Str)) = false := by decide) (he : starEach (e :: es) X.env = (false, eval e X.env) :: starEach es X.env := by rfl) (hpl : (backTo pos (starEach es X.env)).any (·.1) = false := by rfl) : Ev X (.Call (.Name n p0) (e :: es) [] pos) σ s r := fun s1 k1 Q q => by
  obtain ⟨f, fd, ps, F, hm, kp, b⟩ := C.ex
  refine we_of (pe_callS (E := fun _ _ _ _ => False) F (hr.mono hk) hg hm kp b (fun σ' pins H sh ev s' I c => ?_) pa_wa hdb he hpl) (ha s1 k1 _ fun vs s2 k2 r2 => ⟨s2, x, .ok r, rfl, r2, h, fun v s3 k3 r3 => q v s3 (k2.trans k3) r3⟩)
  obtain ⟨_, _, _, _, _, _, _, _, _, _, _, _, hf⟩ := c
  exact hf.elim
def EvX (X : Cx) (e : Expr) (σ : St) (s : S) : Prop := ∀ s1, Ex s s1 → ∀ Q, WE X e σ s1.H Q
theorem EvX.ev (h : EvX X e σ s) (x : α) : Ev X e σ s x := fun s1 k Q _ => h s1 k Q
theorem evX_call {A : Type} [EncA A] {ρ : Type} [Enc ρ] {m : A → Option (Rz ρ)} {n : Str} {k j : Nat} {x : A} {er : Er} {W : WX} (C : Cal X.prog X.w X.K X.mg X.base (L2.CX X.prog X.w) k n (spR X.K m)) (tk : Takes X W) (hr : Room j X.A) (hk : k ≤ j) (ha : EvA X (e :: es) σ s x) (h : m x = some (.er er))
    (hw : ∀ cls d s2, Ex s s2 → ExR X.K s2.F er cls d → W cls d σ s2.H) (hg : Gl X n := by rfl)
    (hdb : (n == ("__debug__" : Str)) = false := by decide) (he : starEach (e :: es) X.env = (false, eval e X.env) :: starEach es X.env := by rfl) (hpl : (backTo pos (starEach es X.env)).any (·.1) = false := by rfl) : EvX X (.Call (.Name n p0) (e :: es) [] pos) σ s := fun s1 k1 Q => by
  obtain ⟨f, fd, ps, F, hm, kp, b⟩ := C.ex
  exact we_of (pe_callS (E := L2.WE W) F (hr.mono hk) hg hm kp b (fun σ' => passAt tk σ') pa_wa hdb he hpl) (ha s1 k1 _ fun vs s2 k2 r2 => ⟨s2, x, .er er, rfl, r2, h, fun cls d s3 k3 r3 => hw cls d s3 ((k1.trans k2).trans k3) r3⟩)
inductive Nv where
  | nv
instance : Enc Nv := ⟨fun _ _ _ _ => False, fun _ h => h⟩
theorem nv_elim {K : PySem.W.Frag} {F : Hp} {v : V} {x : Nv} {p : Prop} (h : rep K F v x) : p := (show False from h).elim
theorem nv2_elim {β : Type} [Enc β] {K : PySem.W.Frag} {F : Hp} {v : V} {x : β × Nv} {p : Prop} (h : rep K F v x) : p := by
  obtain ⟨_, _, _, _, _, _, h⟩ := h
  exact (show False from h).elim
end
section
variable {P : Program} {w : World} {K : PySem.W.Frag} {mg : Str → Option Value} {base : Heap}
theorem mk_calR {A ρ : Type} [EncA A] [Enc ρ] {m : A → Option (Rz ρ)} {x : Str} {st : Stmt} {f : Addr} {fd : FuncData} {N ps : List Str} {k : Nat} (F : FunP K x st f fd) (hm : mg x = some (.ref f)) (b : Binds K fd ps []) (Sc : FnScope N ps (defScope st))
    (hl : ∀ (F : Hp) (vs : List V) (a : A), repA K F vs a → vs.length = ps.length)
    (body : ∀ (cdv : Value) (A' : Around) (outer : List Env) (s0 : Shared) (H0 : Hp) (E0 : XK), Room k (A'.deeper (envOfC x (defScope st) s0.heap.objs.size f cdv)) → ∀ (s : S) (vs : List V) (a : A) (o : Rz ρ) (Q : VK), repA K s.F vs a → m a = some o →
      RzQ K s o Q E0 → WSs (cxOf (L2.CX P w) P w K mg base N x (defScope st) f cdv A' outer s0 H0 E0) (defBody st) (RD Q) (start N vs) s.H) : Cal P w K mg base (L2.CX P w) (k + 1) x (spR K m) :=
  ⟨f, fd, ps, F.ok Sc (fun vs H Q E ⟨s, a, r, _, h, _⟩ => hl s.F vs a h) (fun cdv A' outer s0 H0 vs Q E hr ⟨s, a, o, e, h1, h2, h3⟩ => ⟨_, pss_ws, by
    have := body cdv A' outer s0 H0 E hr s vs a o Q h1 h2 h3
    rw [e] at this
    exact this⟩), hm, F.kp, b⟩
end
structure ExcF (K : PySem.W.Frag) (mg : Str → Option Value) (c : Str) : Prop where
  q : PySem.W.excIn K (He.ga K c) He.veBase "ValueError.__new__" = true
  kp : PySem.W.keepIn K (.ref (He.ga K c)) = true
  sb : PySem.W.subIn K (.ref (He.ga K c)) (.type "BaseException") = some true
  ty : PySem.W.typeIn K (.ref (He.ga K c)) = some (.type "type")
  gl : mg c = some (.ref (He.ga K c))
section
variable {X : Cx} {σ : St} {s : S} {D : Ends} {rest : List Stmt} {W : WX}
theorem do_raise0 {c m : Str} {j : Nat} {p p2 pos pos' : Pos} (T : ExcF X.K X.mg c) (tk : Takes X W) (h : W (.ref (He.ga X.K c)) none σ s.H) (hc : X.calm = true := by rfl) (hg : Gl X c := by rfl) (hdb : (c == ("__debug__" : Str)) = false := by decide) :
    WSs X (.Raise (some (.Call (.Name c p) [.Constant (.str m) j p2] [] pos)) none pos' :: rest) D σ s.H :=
  do_cons (ps_raise hc tk (pmk_own F.excBase_ValueError T.q T.gl T.kp (raises_own T.sb T.ty) hg hdb)) h
theorem do_tryAs (i : Nat) {x n : Str} {c : Value} {body suite : List Stmt} {b₀ : Stmt} {np pos pos' : Pos} {Wout : WX} (hN : X.N.Nodup) (hcN : Names X x c) (tk : Takes X Wout)
    (h : ∀ pn xe, Takes (X.tr pn xe) (wAs X.K c i (fun a cls d D σ H => ∀ (oe : Obj) (pn : List (Addr × Obj)), Zc cls d oe → (∃ vs, oe.data = .fields vs) → WSs (X.suite a ((a, oe) :: pn)) (b₀ :: suite) D σ H) Wout { D with nx := fun σ' H' => WSs X rest D σ' H' }) → PassesOwn (model X.prog X.w) X.A X.env xe →
      WSs (X.tr pn xe) body { D with nx := fun σ' H' => WSs X rest D σ' H' } σ s.H)
    (hs : X.stack = X.env :: X.outer := by rfl) (hf : X.env.frame = some X.env.locals := by rfl) (hi : X.N[i]? = some n := by rfl) (hln : X.env.kindOf n = some .local := by rfl) :
    WSs X (.Try body [.ExceptHandler (some (.Name x np)) (some n) (b₀ :: suite) pos'] [] [] pos :: rest) D σ s.H :=
  do_cons (ps_try_as (tb := fun W D σ H => ∀ pn xe, Takes (X.tr pn xe) W → PassesOwn (model X.prog X.w) X.A X.env xe → WSs (X.tr pn xe) body D σ H) (ts := fun a cls d D σ H => ∀ (oe : Obj) (pn : List (Addr × Obj)), Zc cls d oe → (∃ vs, oe.data = .fields vs) → WSs (X.suite a ((a, oe) :: pn)) (b₀ :: suite) D σ H)
    hs hf hN hi hln hcN tk (fun W pn xe t po => pss_im fun D σ H hh => hh pn xe t po) (fun a oe cls d pn hz hv => pss_im fun D σ H hh => hh oe pn hz hv)) h
end
end Dy

namespace Dy
open PySem PySem.Spec L2
open PyProof.Rows hiding St
open Enc (rep)
open EncA (repA)

section
open PySem.W PySem.Calls
variable {prog : Program} {w : World} {A : Around} {E : Value → Shared → Prop} {K : Frag} {x D : Addr} {ox : Obj} {od : Option Obj}
theorem cls_bind (T : ExcC K D) : findObj K D od "__class__" = some (.bind (.builtin "getset_descriptor.__get__") (.builtin "object.__class__")) := by
  obtain ⟨cd, hc⟩ := Option.isSome_iff_exists.mp (show (clsIn K D).isSome = true by obtain ⟨cd, hc, _⟩ := any_some T.hd; rw [hc]; rfl)
  unfold findObj
  rw [hc, Option.bind_some, T.ha, Option.bind_some]
  simp [T.hn, T.ht]
theorem asks_cls {s : Shared} {Q : Option Value → Shared → Prop} (T : ExcC K D) (X : K.In s.heap) (I : PySem.W.InstAt s.heap x ox D od) (h : Q (some (.ref D)) { s with toks := s.toks + 1 }) : wpAny (model prog w) A (getAttr? (.ref x) "__class__") Q E s := by
  obtain ⟨hp, g, d, t, os⟩ := s
  have l0 := I.type (M := model prog w)
  have l1 := looks_findIn (M := model prog w) X T.hg
  have l2 := looks_findIn (M := model prog w) X T.hk
  have l3 := looks_find (M := model prog w) X I (cls_bind T)
  have sub : Looks (model prog w) hp (isInstance (.ref x) (.type "BaseException")) true := l0.andThen (looks_subIn X T.hs)
  unfold getAttr? getAttrBy? getAttrBy
  refine wpAny_bind (wpAny_mkText (wpAny_bind (wpAny_attempt (wpAny_holding (wpAny_bind (l0.at (wpAny_bind (l1.at ?_))))))))
  have no : (onTheHeap (Value.ref D) && Value.builtin "BaseException.__getattribute__" == Value.builtin "object.__getattribute__") = false := by
    rw [show (Value.builtin "BaseException.__getattribute__" == Value.builtin "object.__getattribute__") = false by decide +kernel]; rfl
  show wpAny _ _ (if (onTheHeap (Value.ref D) && Value.builtin "BaseException.__getattribute__" == Value.builtin "object.__getattribute__") = true then _ else _) _ _ _
  rw [no, if_neg Bool.false_ne_true]
  unfold getAttrByItsOwn hookBefore
  refine wpAny_bind ?_
  rw [if_pos (show onTheHeap (Value.ref D) = true from rfl)]
  refine l2.at (wpAny_bind (wpAny_attempt (wpAny_holding ?_)))
  unfold callGetattribute
  rw [show (false && onTheHeap (Value.builtin "BaseException.__getattribute__")) = false from rfl, if_neg Bool.false_ne_true]
  unfold boundAndCalled
  rw [PySem.F.excAttr_ValueError.ga.bind (.ref x)]
  refine wpAny_bind (wpAny_pure ?_)
  show wpAny _ _ (call (.builtin "BaseException.__getattribute__") [.ref x, .str "__class__" t]) _ _ _
  refine wpAny_call (codeAny_call_builtin PySem.F.excAttr_ValueError.ga.plain PySem.F.entry_bexc_ga ?_)
  refine @check_slot (model prog w) _ _ ⟨hp, g, d, t + 1, os⟩ "BaseException.__getattribute__" "BaseException" "__getattribute__" (.ref x) [.str "__class__" t] [] _ (by decide +kernel) (by decide +kernel) sub (PySem.F.args_bexc_ga (.ref x) (.str "__class__" t)) ?_
  unfold Builtin.«object.__getattribute__»
  refine wpAny_bind (wpAny_of_eq (a := ((Value.ref x : Value), [Value.str "__class__" t])) (by first | rfl | (simp only [slotArgs]; rfl)) ?_)
  refine wpAny_bind (wpAny_pure (wpAny_bind (l0.at (wpAny_bind (l3.at ?_)))))
  show wpAny _ _ (holding [Value.builtin "object.__class__"] (call (.builtin "getset_descriptor.__get__") [.builtin "object.__class__", .ref x, .ref D]) >>= ret) _ _ _
  refine wpAny_bind (wpAny_holding (wpAny_call (class_get (s := ⟨hp, g, d, t + 1, os⟩) (ox := ox) (od := od) X I T.hm (wpAny_pure ?_))))
  show wpAny _ _ (handedOut (.ref D)) _ _ _
  rw [handedOut_of (v := .ref D) rfl]
  first
    | exact wpAny_pure (wpAny_pure h)
    | exact wpAny_pure h
    | exact wpAny_pure (wpAny_bind (wpAny_pure (wpAny_pure h)))
theorem cls_at (T : ExcC K D) : ∃ c' d' cd' sl', K.lookup D = some ⟨c', d', .cls cd', sl'⟩ := by
  obtain ⟨cd, hc, _⟩ := any_some T.hd
  unfold clsIn at hc
  split at hc
  · rename_i c' d' cd' sl' ho
    exact ⟨c', d', cd', sl', ho⟩
  · cases hc
def InstE (a D : Addr) (oe : Obj) : Heap → Prop := fun h => ∃ od, PySem.W.InstAt h a oe D od
theorem kit_exc (T : ExcC K D) : KitX K (.ref x) (.ref D) (InstE x D ox) where
  ty := fun _ _ _ ⟨_, I⟩ => I.type
  it := fun _ _ X _ => by
    obtain ⟨_, _, _, _, ho⟩ := cls_at T
    intro A' Q' E' s' k q
    unfold isType loadHead
    exact wpAny_bind (wpAny_loadPart (k _ _ (X _ _ ho)) (wpAny_pure q))
  ne := fun h tp dd its n sl X htp => by
    obtain ⟨_, _, _, _, ho⟩ := cls_at T
    refine Bool.eq_false_iff.mpr fun q => ?_
    obtain rfl : D = tp := Value.ref.inj (beq_iff_eq.mp q)
    cases (X _ _ ho).symm.trans htp
  ca := fun X ⟨_, I⟩ k => asks_cls T X I k
end

structure Rw where
  v : V
instance : Enc Rw := ⟨fun _ _ v x => v = x.v, fun _ h => h⟩
theorem rw_reps {K : PySem.W.Frag} {F : Hp} : ∀ {vs : List V} {xs : List Rw}, Reps K F vs xs → vs = xs.map (·.v)
  | [], [], _ => rfl
  | _ :: _, _ :: _, ⟨h, t⟩ => by rw [List.map_cons, ← rw_reps t, show _ = _ from h]
  | [], _ :: _, h => h.elim
  | _ :: _, [], h => h.elim
def clsR (K : PySem.W.Frag) (c : Str) : V := if c = ("ValueError" : Str) then .ty "ValueError" else .ref (He.ga K c)
def clsV (K : PySem.W.Frag) (c : Str) : Value := if c = ("ValueError" : Str) then .type "ValueError" else .ref (He.ga K c)
theorem cls_cv (K : PySem.W.Frag) (c : Str) : ClsV (clsR K c) (clsV K c) := by
  unfold clsR clsV
  split
  · exact .ty _
  · exact .own _
theorem cls_all (K : PySem.W.Frag) : ∀ cs : List Str, Paired ClsV (cs.map (clsR K)) (cs.map (clsV K))
  | [] => .nil
  | c :: cs => .cons (cls_cv K c) (cls_all K cs)
def excCB (K : PySem.W.Frag) (D : Addr) : Bool := xfB K D && (He.eqO (PySem.W.findIn K (.ref D) "__class__") (some (some (.builtin "object.__class__"))) && (He.eqO (PySem.W.specialIn K (.builtin "object.__class__") "__get__") (some (some (.builtin "getset_descriptor.__get__"))) &&
  (decide (PySem.W.takesIn K (.builtin "object.__class__") = some true) && decide (PySem.W.mroIn K D (.type "object") = some true))))
theorem excCB_ok {K : PySem.W.Frag} {D : Addr} (h : excCB K D = true) : ExcC K D := by
  unfold excCB at h
  obtain ⟨h0, h⟩ := He.ba h
  obtain ⟨h5, h⟩ := He.ba h
  obtain ⟨h6, h⟩ := He.ba h
  obtain ⟨h7, h8⟩ := He.ba h
  unfold xfB at h0
  obtain ⟨h1, h0⟩ := He.ba h0
  obtain ⟨h2, h0⟩ := He.ba h0
  obtain ⟨h3, h4⟩ := He.ba h0
  exact ⟨of_decide_eq_true h1, of_decide_eq_true h2, of_decide_eq_true h3, h4, He.eqO_ok h5, He.eqO_ok h6, of_decide_eq_true h7, of_decide_eq_true h8⟩
structure ETab where
  ds : List Str
  fl : List (Str × Str)
  is : List ((Str × Str) × Bool)
  ex : List ((Str × Str) × Bool)
def lk (d c : Str) : List ((Str × Str) × Bool) → Option Bool
  | [] => none
  | q :: r => if q.1 = (d, c) then some q.2 else lk d c r
theorem lk_mem {d c : Str} {b : Bool} : ∀ {l : List ((Str × Str) × Bool)}, lk d c l = some b → ((d, c), b) ∈ l
  | [], h => by cases h
  | q :: r, h => by
    unfold lk at h
    split at h
    · rename_i e
      cases h
      rw [← e]
      exact List.mem_cons_self
    · exact List.mem_cons_of_mem _ (lk_mem h)
def ETab.ok (t : ETab) (K : PySem.W.Frag) : Bool := ((t.ds.all fun d => excCB K (He.ga K d)) && t.fl.all fun q => He.eqO (PySem.W.findIn K (.ref (He.ga K q.1)) q.2) (some none)) && ((t.is.all fun q => decide (PySem.W.kitOne K (.ref (He.ga K q.1.1)) (clsV K q.1.2) = some q.2)) && t.ex.all fun q => decide (PySem.W.exmOne K (.ref (He.ga K q.1.1)) (clsV K q.1.2) = some q.2))
def isE (t : ETab) (e : Er) (c : Str) : Option Bool := if e.c ∈ t.ds then lk e.c c t.is else none
def isEs (t : ETab) (e : Er) : List Str → Option Bool
  | [] => some false
  | c :: r => (isE t e c).bind fun b => if b = true then some true else isEs t e r
def exE (t : ETab) (e : Er) (c : Str) : Option Bool := lk e.c c t.ex
def erI (t : ETab) (e : Er) (f : Str) : Option Int := match e with
  | .pi c g i => if g = f ∧ (c, g) ∈ t.fl ∧ c ∈ t.ds then some i else none
  | _ => none
def erS (t : ETab) (e : Er) (f : Str) : Option Str := match e with
  | .ps c g x => if g = f ∧ (c, g) ∈ t.fl ∧ c ∈ t.ds then some x else none
  | _ => none
section
variable {K : PySem.W.Frag} {t : ETab}
theorem ETab.ds_ok (h : t.ok K = true) {d : Str} (hd : d ∈ t.ds) : ExcC K (He.ga K d) := by
  unfold ETab.ok at h
  exact excCB_ok (List.all_eq_true.mp (He.ba (He.ba h).1).1 d hd)
theorem ETab.xf_ok (h : t.ok K = true) {d : Str} (hd : d ∈ t.ds) : XfC K (He.ga K d) := by
  unfold ETab.ok at h
  have := List.all_eq_true.mp (He.ba (He.ba h).1).1 d hd
  unfold excCB at this
  exact xfB_ok (He.ba this).1
theorem ETab.fl_ok (h : t.ok K = true) {d f : Str} (hd : (d, f) ∈ t.fl) : PySem.W.findIn K (.ref (He.ga K d)) f = some none := by
  unfold ETab.ok at h
  exact He.eqO_ok (List.all_eq_true.mp (He.ba (He.ba h).1).2 _ hd)
theorem ETab.is_ok (h : t.ok K = true) {d c : Str} {b : Bool} (hl : lk d c t.is = some b) : PySem.W.kitOne K (.ref (He.ga K d)) (clsV K c) = some b := by
  unfold ETab.ok at h
  exact of_decide_eq_true (List.all_eq_true.mp (He.ba (He.ba h).2).1 _ (lk_mem hl))
theorem ETab.ex_ok (h : t.ok K = true) {d c : Str} {b : Bool} (hl : lk d c t.ex = some b) : PySem.W.exmOne K (.ref (He.ga K d)) (clsV K c) = some b := by
  unfold ETab.ok at h
  exact of_decide_eq_true (List.all_eq_true.mp (He.ba (He.ba h).2).2 _ (lk_mem hl))
theorem exE_ok (h : t.ok K = true) {e : Er} {c : Str} {b : Bool} {cls : Value} {d : Option Addr} {F : Hp} (he : ExR K F e cls d) (hl : exE t e c = some b) : PySem.W.exmOne K cls (clsV K c) = some b := by
  rw [exR_cls he]
  exact ETab.ex_ok h hl
end
section
variable {X : Cx} {σ : St} {s : S} {e : Expr} {es : List Expr} {p0 p1 p2 p3 pos : Pos} {a : Addr} {oe : Obj} {pn : List (Addr × Obj)}
theorem exc_inst {D : Addr} {d : Option Addr} {pins : List (Addr × Obj)} {σ : St} {H : Hp} {sh : Shared} (hz : Zc (.ref D) d oe) (hf : ∃ vs, oe.data = .fields vs) (hd : ∀ dd, d = some dd → ∃ fs, H dd = some (.xd fs)) (I : Inv (X.suite a ((a, oe) :: pn)) pins σ H sh) : InstE a D oe sh.heap := by
  obtain ⟨hget, _⟩ := I.pin (a, oe) (List.mem_append.mpr (.inl List.mem_cons_self))
  obtain ⟨vs, hv⟩ := hf
  cases d with
  | none =>
    exact ⟨none, hget, hz.1, by unfold PySem.W.notCls; rw [hv], by rw [hz.2]; trivial⟩
  | some dd =>
    obtain ⟨fs, he⟩ := hd dd rfl
    obtain ⟨mA, hns, _⟩ := (show ObjOk X.prog X.w H sh.heap dd (.xd fs) from I.hok dd _ he)
    obtain ⟨od, ho, _⟩ := lookIn_ns hns
    exact ⟨some od, hget, hz.1, by unfold PySem.W.notCls; rw [hv], by rw [hz.2]; exact ho⟩
theorem call_isE1 {D : Addr} {d : Option Addr} (C : ExcC X.K D) (hz : Zc (.ref D) d oe) (hf : ∃ vs, oe.data = .fields vs) : CallR (X.suite a ((a, oe) :: pn)) (.builtin "isinstance") (fun xs H Q => (∀ dd, d = some dd → ∃ fs, H dd = some (.xd fs)) ∧ ∃ (c : V) (cv : Value) (b : Bool), xs = [.ref a, c] ∧ ClsV c cv ∧ PySem.W.kitOne X.K (.ref D) cv = some b ∧ Q (.bl b) H) := by
  intro pins s σ H xs us Q I r h
  obtain ⟨hd, c, cv, b, rfl, k, e, q⟩ := h
  obtain ⟨u1, u2, rfl, r1, r2⟩ := vals2 r
  cases (show u1 = Value.ref a from r1)
  have e2 := k.eq r2
  subst e2
  exact PySem.W.kia_one (kit_exc C) I.kIn (exc_inst hz hf hd I) e (fun z => nomatch z) fun tk => ⟨.bl b, H, I.kept (t' := tk) fun _ _ z => z, rfl, q⟩
theorem call_isET {D : Addr} {d : Option Addr} (C : ExcC X.K D) (hz : Zc (.ref D) d oe) (hf : ∃ vs, oe.data = .fields vs) : CallR (X.suite a ((a, oe) :: pn)) (.builtin "isinstance") (fun xs H Q => (∀ dd, d = some dd → ∃ fs, H dd = some (.xd fs)) ∧ ∃ (tp : Addr) (cs : List V) (us : List Value) (b : Bool), xs = [.ref a, .ref tp] ∧ H tp = some (.tup cs) ∧ Paired ClsV cs us ∧ PySem.W.kitAny X.K (.ref D) us = some b ∧ Q (.bl b) H) := by
  intro pins s σ H xs us Q I r h
  obtain ⟨hd, tp, cs, ws, b, rfl, hT, k, e, q⟩ := h
  obtain ⟨u1, u2, rfl, r1, r2⟩ := vals2 r
  cases (show u1 = Value.ref a from r1)
  cases (show u2 = Value.ref tp from r2)
  obtain ⟨_, its, rv, o, h1, h2, n, h3⟩ := (show ObjOk X.prog X.w H s.heap tp (.tup cs) from I.hok tp _ hT)
  have e3 := ClsV.all k rv
  subst e3
  obtain ⟨oc, od, dt, sl⟩ := o
  simp only at h2 h3
  subst h2 h3
  exact PySem.W.kia_tup (kit_exc C) I.kIn (exc_inst hz hf hd I) h1 e (fun z => nomatch z) fun tk => ⟨.bl b, H, I.kept (t' := tk) fun _ _ z => z, rfl, q⟩
theorem exR_xd {K : PySem.W.Frag} {F : Hp} {e : Er} {cls : Value} {d : Option Addr} (h : ExR K F e cls d) : ∀ dd, d = some dd → ∃ fs, F dd = some (.xd fs) := fun dd e1 => by
  cases e with
  | pl c => rw [h.2] at e1; cases e1
  | pi c f i => obtain ⟨_, d2, h2, h3⟩ := h; rw [h2] at e1; cases e1; exact ⟨_, h3⟩
  | ps c f x => obtain ⟨_, d2, h2, h3⟩ := h; rw [h2] at e1; cases e1; exact ⟨_, h3⟩
theorem kit_any {K : PySem.W.Frag} {t : ETab} (h : t.ok K = true) {er : Er} : ∀ {cs : List Str} {b : Bool}, isEs t er cs = some b → PySem.W.kitAny K (.ref (He.ga K er.c)) (cs.map (clsV K)) = some b
  | [], b, e => e
  | c :: r, b, e => by
    unfold isEs isE at e
    by_cases hd : er.c ∈ t.ds
    · rw [if_pos hd] at e
      cases hl : lk er.c c t.is with
      | none => rw [hl] at e; cases e
      | some b1 =>
        rw [hl] at e
        have k1 := ETab.is_ok h hl
        rw [List.map_cons]
        unfold PySem.W.kitAny
        rw [k1]
        cases b1 with
        | true => exact e
        | false => exact kit_any h e
    · rw [if_neg hd] at e; cases e
theorem ev_cls {c : Str} (h : (c ≠ ("ValueError" : Str) ∧ X.mg c = some (.ref (He.ga X.K c))) ∨ (c = ("ValueError" : Str) ∧ X.mg c = none)) (hg : Gl X c := by rfl) (hd : (c == ("__debug__" : Str)) = false := by decide) : Ev X (.Name c pos) σ s (Rw.mk (clsR X.K c)) := by
  rcases h with ⟨h1, h2⟩ | ⟨h1, h2⟩
  · have : clsR X.K c = .ref (He.ga X.K c) := if_neg h1
    rw [this]
    exact ev_glob ⟨.ref (He.ga X.K c), _, h2, rfl, fun _ => rfl⟩ hg hd
  · subst h1
    exact fun s1 k Q q => we_of (pe_bltn (v := .ty "ValueError") hg h2 PyProof.Rows.Boot.«ValueError» rfl (by decide) (by decide)) (q _ s1 (Ex.refl _) rfl)
theorem ev_isE {c : Str} {er : Er} {d : Option Addr} {b : Bool} {t : ETab} (h : t.ok X.K = true) (hl : isE t er c = some b) (hz : Zc (.ref (He.ga X.K er.c)) d oe) (hf : ∃ vs, oe.data = .fields vs) (hx : ExR X.K s.F er (.ref (He.ga X.K er.c)) d) (hm : X.mg "isinstance" = none)
    (ha : Ev (X.suite a ((a, oe) :: pn)) e σ s (Rw.mk (.ref a))) (hb : Ev (X.suite a ((a, oe) :: pn)) (.Name c p1) σ s (Rw.mk (clsR X.K c))) (hg : Gl (X.suite a ((a, oe) :: pn)) "isinstance" := by rfl)
    (he : starEach [e, .Name c p1] X.env = (false, eval e X.env) :: starEach [.Name c p1] X.env := by rfl) (he2 : starEach [.Name c p1] X.env = (false, eval (.Name c p1) X.env) :: starEach [] X.env := by rfl) (hpl : (backTo pos (starEach [.Name c p1] X.env)).any (·.1) = false := by rfl) :
    Ev (X.suite a ((a, oe) :: pn)) (.Call (.Name "isinstance" p0) [e, .Name c p1] [] pos) σ s b := fun s1 k Q q => by
  unfold isE at hl
  by_cases hd : er.c ∈ t.ds
  · rw [if_pos hd] at hl
    refine we_of (pe_callB (call_isE1 (d := d) (ETab.ds_ok h hd) hz hf) hg hm (by decide +kernel) (pa_cons pe_we (pa_cons pe_we pa_nil he2) he) (he := he) (hpl := hpl)) (ha s1 k _ fun v s2 k2 r2 => hb s2 (k.trans k2) _ fun u s3 k3 r3 => ?_)
    cases (show v = .ref a from r2)
    cases (show u = clsR X.K c from r3)
    exact ⟨fun dd e1 => by
      obtain ⟨fs, z⟩ := exR_xd hx dd e1
      exact ⟨fs, s3.sub _ _ (((k.trans k2).trans k3).f _ _ z)⟩, clsR X.K c, clsV X.K c, b, rfl, cls_cv X.K c, ETab.is_ok h hl, q _ s3 (k2.trans k3) rfl⟩
  · rw [if_neg hd] at hl; cases hl
theorem ev_xfI {f : Str} {er : Er} {d : Option Addr} {i : Int} {t : ETab} (h : t.ok X.K = true) (hl : erI t er f = some i) (hz : Zc (.ref (He.ga X.K er.c)) d oe) (hf : ∃ vs, oe.data = .fields vs) (hx : ExR X.K s.F er (.ref (He.ga X.K er.c)) d)
    (ha : Ev (X.suite a ((a, oe) :: pn)) e σ s (Rw.mk (.ref a))) (hb : attributeBase e f X.env (eval e X.env) = eval e X.env := by rfl) : Ev (X.suite a ((a, oe) :: pn)) (.Attribute e f pos) σ s i := fun s1 k Q q => by
  cases er with
  | pl c => cases hl
  | ps c g x => cases hl
  | pi c g j =>
    unfold erI at hl
    dsimp only at hl
    split at hl
    · rename_i hh
      obtain ⟨rfl, h2, h3⟩ := hh
      cases hl
      obtain ⟨_, dd, rfl, h5⟩ := hx
      refine we_of (pe_xf (ETab.xf_ok h h3) (ETab.fl_ok h h2) hz hf pe_we hb) (ha s1 k _ fun v s2 k2 r2 => ?_)
      cases (show v = .ref a from r2)
      exact ⟨rfl, rfl, dd, _, _, rfl, s2.sub _ _ ((k.trans k2).f _ _ h5), by simp, q _ s2 k2 rfl⟩
    · cases hl
theorem ev_xfS {f : Str} {er : Er} {d : Option Addr} {x : Str} {t : ETab} (h : t.ok X.K = true) (hl : erS t er f = some x) (hz : Zc (.ref (He.ga X.K er.c)) d oe) (hf : ∃ vs, oe.data = .fields vs) (hx : ExR X.K s.F er (.ref (He.ga X.K er.c)) d)
    (ha : Ev (X.suite a ((a, oe) :: pn)) e σ s (Rw.mk (.ref a))) (hb : attributeBase e f X.env (eval e X.env) = eval e X.env := by rfl) : Ev (X.suite a ((a, oe) :: pn)) (.Attribute e f pos) σ s x := fun s1 k Q q => by
  cases er with
  | pl c => cases hl
  | pi c g x => cases hl
  | ps c g j =>
    unfold erS at hl
    dsimp only at hl
    split at hl
    · rename_i hh
      obtain ⟨rfl, h2, h3⟩ := hh
      cases hl
      obtain ⟨_, dd, rfl, h5⟩ := hx
      refine we_of (pe_xf (ETab.xf_ok h h3) (ETab.fl_ok h h2) hz hf pe_we hb) (ha s1 k _ fun v s2 k2 r2 => ?_)
      cases (show v = .ref a from r2)
      exact ⟨rfl, rfl, dd, _, _, rfl, s2.sub _ _ ((k.trans k2).f _ _ h5), by simp, q _ s2 k2 rfl⟩
    · cases hl
theorem isEs_ds {t : ETab} {er : Er} {c : Str} {r : List Str} {b : Bool} (h : isEs t er (c :: r) = some b) : er.c ∈ t.ds := by
  unfold isEs isE at h
  by_cases hd : er.c ∈ t.ds
  · exact hd
  · rw [if_neg hd] at h; cases h
theorem names_of {c : Str} (h : X.mg c = some (.ref (He.ga X.K c))) (hg : Gl X c := by rfl) (hd : (c == ("__debug__" : Str)) = false := by decide) (hv : c ≠ ("ValueError" : Str) := by decide) : Names X c (clsV X.K c) := ⟨hg, hd, .inl (by rw [h]; exact congrArg some (if_neg hv).symm)⟩
theorem takes_false : Takes X (fun _ _ _ _ => False) := fun u s' ⟨_, _, _, _, _, _, _, _, _, _, _, _, _, _, _, _, h⟩ => h.elim
theorem ev_isEs {c0 : Str} {cr : List Str} {er : Er} {d : Option Addr} {cs : List Str} {b : Bool} {t : ETab} {n} (h : t.ok X.K = true) (hl : isEs t er cs = some b) (hz : Zc (.ref (He.ga X.K er.c)) d oe) (hf : ∃ vs, oe.data = .fields vs) (hx : ExR X.K s.F er (.ref (He.ga X.K er.c)) d) (hm : X.mg "isinstance" = none)
    (ha : Ev (X.suite a ((a, oe) :: pn)) e σ s (Rw.mk (.ref a))) (hb : EvE (X.suite a ((a, oe) :: pn)) es σ s (cs.map fun c => Rw.mk (clsR X.K c))) (hc : cs.length ≤ 1000) (e0 : cs = c0 :: cr := by rfl) (hg : Gl (X.suite a ((a, oe) :: pn)) "isinstance" := by rfl)
    (he : starEach [e, .Tuple es n p1] X.env = (false, eval e X.env) :: starEach [.Tuple es n p1] X.env := by rfl) (he2 : starEach [.Tuple es n p1] X.env = (false, eval (.Tuple es n p1) X.env) :: starEach [] X.env := by rfl) (hpl : (backTo pos (starEach [.Tuple es n p1] X.env)).any (·.1) = false := by rfl) :
    Ev (X.suite a ((a, oe) :: pn)) (.Call (.Name "isinstance" p0) [e, .Tuple es n p1] [] pos) σ s b := fun s1 k Q q =>
  we_of (pe_callB (call_isET (d := d) (ETab.ds_ok h (isEs_ds (by rw [e0] at hl; exact hl))) hz hf) hg hm (by decide +kernel) (pa_cons pe_we (pa_cons (pe_tup pa_wa) pa_nil he2) he) (he := he) (hpl := hpl)) (ha s1 k _ fun v s2 k2 r2 => hb s2 (k.trans k2) _ fun us s3 k3 r3 => by
    cases (show v = .ref a from r2)
    have e := rw_reps r3
    have e2 : us = cs.map (clsR X.K) := by rw [e, List.map_map]; rfl
    subst e2
    refine ⟨by rw [List.length_map, sizeLine_eq]; omega, fun p hp => ⟨fun dd e1 => ?_, p, _, cs.map (clsV X.K), b, rfl, upd_same, cls_all X.K cs, kit_any h hl, q _ (s3.newF p (.tup (cs.map (clsR X.K))) hp) ((k2.trans k3).trans (Ex.newF hp)) rfl⟩⟩
    obtain ⟨fs, z⟩ := exR_xd hx dd e1
    exact ⟨fs, (s3.newF p _ hp).sub _ _ ((((k.trans k2).trans k3).trans (Ex.newF hp)).f _ _ z)⟩)
end
section
variable {X : Cx} {σ : St} {s : S} {D : Ends} {rest : List Stmt} {e : Expr} {pos : Pos}
theorem do_dropX (h : EvX X e σ s) (hs : swapsWith e none pos.line X.env = pure false := by rfl) : WSs X (.Expr e pos :: rest) D σ s.H :=
  do_cons (ps_expr pe_we hs) (h s (Ex.refl _) _)
theorem do_retX (h : EvX X e σ s) : WSs X (.Return (some e) pos :: rest) D σ s.H := do_cons (ps_ret pe_we) (h s (Ex.refl _) _)
theorem do_setX (i : Nat) {n : Str} {py : Pos} (h : EvX X e σ s) (hN : X.N.Nodup) (hx : Loc X.env.scope n := by first | exact Or.inl rfl | exact Or.inr rfl) (hi : X.N[i]? = some n := by rfl)
    (hs : swapsWith e (some (.Name n py)) pos.line X.env = pure false := by rfl) (hf : X.fn n = true ∨ X.env.scope.names.lookup n = some .local := by first | exact .inl rfl | exact .inr rfl) : WSs X (.Assign [.Name n py] e pos :: rest) D σ s.H :=
  do_cons (ps_set hN hi hx pe_we hs hf) (h s (Ex.refl _) _)
theorem do_unpX (i j : Nat) {tg : Expr} (h : EvX X e σ s) (hg : PG X tg (gTup X.K 2 (gCons (gName i) (gCons (gName j) gNil)))) (hs : swapsWithSole [tg] e pos.line X.env = pure false := by rfl) (hw : swappedStores [tg] e X.env = pure none := by rfl)
    (h1 : (assignEach [tg] X.env).map (·.2) = [assign tg X.env] := by rfl) : WSs X (.Assign [tg] e pos :: rest) D σ s.H :=
  do_cons (ps_asg pe_we hg hs hw h1) (h s (Ex.refl _) _)
theorem was_of {K : PySem.W.Frag} {c : Value} {i : Nat} {ts : Addr → Value → Option Addr → TS} {Wout : WX} {cls : Value} {d : Option Addr} {σ : St} {H : Hp} (h1 : PySem.W.exmOne K cls c = some true)
    (h2 : ∀ a, H a = none → ts a cls d { nx := fun σ' H' => D.nx (σ'.set i none) H', rt := D.rt, bk := fun σ' H' => D.bk (σ'.set i none) H', ct := fun σ' H' => D.ct (σ'.set i none) H' } (σ.set i (some (.ref a))) H) : wAs K c i ts Wout D cls d σ H := ⟨true, h1, fun _ => h2, fun z => nomatch z⟩
theorem do_ifC {c : Expr} {A B : List Stmt} {x : Bool} (hc : EvT X c σ s x) (h1 : x = true → ∀ s1, Ex s s1 → WSs X A { D with nx := fun σ' H' => WSs X rest D σ' H' } σ s1.H) (h2 : x = false → ∀ s1, Ex s s1 → WSs X B { D with nx := fun σ' H' => WSs X rest D σ' H' } σ s1.H) : WSs X (.If c A B pos :: rest) D σ s.H :=
  do_cons (ps_if pt_wt pss_ws pss_ws) (hc s (Ex.refl _) _ fun s1 k => by
    cases x with
    | true => exact iteT (h1 rfl s1 k)
    | false => exact iteF (h2 rfl s1 k))
end

section
variable {α : Type} [Enc α] {X : Cx} {σ : St} {s : S} {a b : Expr} {pos : Pos}
theorem en_repO {p : Addr} {xs : List α} {n : Int} (ha : Ev X a σ s (Rw.mk (.ref p))) (o : Own X.K s p xs) (hb : ∀ t, Ex s t → Ev X b σ t n) (hz : RepOk n xs.length) : EvN X (.BinOp a .Mult b pos) σ s (repl n xs) := fun s1 k Q q =>
  we_of (pe_op op_rep pe_we pe_we) (ha s1 k _ fun v s2 k2 r2 => by
    cases (show v = V.ref p from r2)
    exact hb s2 (k.trans k2) s2 (Ex.refl _) _ fun u s3 k3 r3 => by
      obtain ⟨_, vs, h1, h2⟩ := o.ex ((k.trans k2).trans k3)
      exact ⟨p, n, vs, rfl, r3, h1, hz.1, hz.2.1, by rw [h2.len]; exact hz.2.2, fun l hl => q l (s3.newO l _ hl) ((k2.trans k3).trans (Ex.newO hl)) (fr_back (k2.trans k3) hl) (own_new hl (h2.repF _))⟩)
end
theorem goN {β ρ γ : Type} {b : β} {k : β → γ} {e : ρ → γ} {r : γ} (h : Fl.go (Fl.nx b) k e = r) : k b = r := h
def obsX (n : Nat) (fa : List He.Fa) (fn : List He.DefD) (gs : PySem.W.Frag → Bool) (g : Addr → Option Obj) : Bool × He.AlD := (gs (He.frG g (He.asD g n)), He.obsDG n fa fn g)
def hookX (n : Nat) (fa : List He.Fa) (fn : List He.DefD) (gs : PySem.W.Frag → Bool) : PySem.W.Hook where
  α := Bool × He.AlD
  obs := fun s => obsX n fa fn gs s.heap.get?
  val := fun _ => (true, He.valD fn)
  says := fun _ h => ∃ K : PySem.W.Frag, K.In h ∧ He.SaysD fa fn K ∧ gs K = true
  of := fun _ _ e => ⟨_, He.frG_in, congrArg (fun z : Bool × He.AlD => z.2) e, congrArg (fun z : Bool × He.AlD => z.1) e⟩
  keeps := fun _ _ _ ⟨K, hK, c, d⟩ k => ⟨K, PySem.W.Frag.In.keeps hK k, c, d⟩
theorem obsX_eq {n : Nat} {fa : List He.Fa} {fn : List He.DefD} {gs : PySem.W.Frag → Bool} {g : Addr → Option Obj} {s : Shared} (h : ∀ a, g a = s.heap.get? a) : obsX n fa fn gs g = (hookX n fa fn gs).obs s := by
  have e : g = s.heap.get? := funext h
  rw [e] <;> rfl
end Dy

namespace Dy
open PySem PySem.Spec L2
open PyProof.Rows hiding St
open Enc (rep)
open EncA (repA)

def oexB (K : PySem.W.Frag) (C : Addr) : Bool := match K.lookup C with
  | some ⟨.type "type", _, .cls cd, sl⟩ => (match cd.mro, sl.toList with
    | .ref C' :: bm, [_, _, _, _, some (.builtin n), _] => C' == C && (n == "ValueError.__new__" && (!cd.hasDel && (cd.hasDict && PySem.HandSPX.refsVE bm)))
    | _, _ => false)
  | _ => false
theorem oexB_ok {K : PySem.W.Frag} {C : Addr} (h : oexB K C = true) : ∃ nm q N bs bm sn sub ab col dd k0 k1 k2 k3 k5, K.lookup C = some (excClassObj nm q C N bs bm true sn sub ab col dd k0 k1 k2 k3 k5 "ValueError.__new__") ∧ PySem.HandSPX.refsVE bm = true := by
  unfold oexB at h
  split at h
  · rename_i dd cd sl ho
    split at h
    · rename_i C' bm k0 k1 k2 k3 n k5 hm hs
      simp only [Bool.and_eq_true, beq_iff_eq, Bool.not_eq_true'] at h
      obtain ⟨rfl, rfl, h1, h2, h3⟩ := h
      obtain ⟨nm, bs, mro, ns, qn, hd, sn, sub, ab, col, del⟩ := cd
      dsimp only at hm h1 h2
      subst hm h1 h2
      obtain ⟨l⟩ := sl
      simp only at hs
      subst hs
      exact ⟨nm, qn, ns, bs, bm, sn, sub, ab, col, dd, k0, k1, k2, k3, k5, ho, h3⟩
    · cases h
  · cases h
def payB (K : PySem.W.Frag) (c f : Str) : Bool := oexB K (He.ga K c) && (He.eqO (PySem.W.findIn K (.ref (He.ga K c)) "__setattr__") (some (some (.builtin "object.__setattr__"))) && (decide (PySem.W.subIn K (.ref (He.ga K c)) (.type "BaseException") = some true) && (decide (PySem.W.typeIn K (.ref (He.ga K c)) = some (.type "type")) &&
  (PySem.W.keepIn K (.ref (He.ga K c)) && (He.eqO (PySem.W.findIn K (.ref (He.ga K c)) "__init__") (some (some (.ref (He.fAd K (c, some "__init__"))))) && (decide (PySem.W.typeIn K (.ref (He.fAd K (c, some "__init__"))) = some (.type "function")) && He.eqO (PySem.W.findIn K (.ref (He.ga K c)) f) (some none)))))))
structure PayF (K : PySem.W.Frag) (c f : Str) : Prop where
  o : OexC K (He.ga K c)
  i : PySem.W.findIn K (.ref (He.ga K c)) "__init__" = some (some (.ref (He.fAd K (c, some "__init__"))))
  t : PySem.W.typeIn K (.ref (He.fAd K (c, some "__init__"))) = some (.type "function")
  n : PySem.W.findIn K (.ref (He.ga K c)) f = some none
theorem payB_ok {K : PySem.W.Frag} {c f : Str} (h : payB K c f = true) : PayF K c f := by
  unfold payB at h
  obtain ⟨h1, h⟩ := He.ba h
  obtain ⟨h2, h⟩ := He.ba h
  obtain ⟨h3, h⟩ := He.ba h
  obtain ⟨h4, h⟩ := He.ba h
  obtain ⟨h5, h⟩ := He.ba h
  obtain ⟨h6, h⟩ := He.ba h
  obtain ⟨h7, h8⟩ := He.ba h
  exact ⟨⟨oexB_ok h1, He.eqO_ok h2, of_decide_eq_true h3, of_decide_eq_true h4, h5⟩, He.eqO_ok h6, of_decide_eq_true h7, He.eqO_ok h8⟩
def spInit (K : PySem.W.Frag) (f : Str) : Sp := fun vs H Q _ => ∃ (a C : Addr) (v : V), vs = [.ref a, v] ∧ H a = some (exo a C none) ∧ OexC K C ∧ PySem.W.findIn K (.ref C) f = some none ∧ ∀ dx, H dx = none → dx ≠ a → Q .non (upd (upd H dx (exd dx [(f, v)])) a (exo a C (some dx)))
section
variable {P : Program} {w : World} {K : PySem.W.Frag} {mg : Str → Option Value} {base : Heap}
theorem mk_init {f x : Str} {ar : Arguments} {sc : Scope} {q : Str} {fI : Addr} {fd : FuncData} {k : Nat} {p1 p2 p3 p4 : Pos} (F : FunD K "__init__" q ar [.Assign [.Attribute (.Name "self" p1) f p2] (.Name x p3) p4] sc [] [] fI fd) (Sc : FnScope ["self", x] ["self", x] sc)
    (hv : ∀ (cdv : Value) (A' : Around) (outer : List Env) (s0 : Shared) (H0 : Hp) (E0 : XK), Vis (cxOf CX0 P w K mg base ["self", x] q sc fI cdv A' outer s0 H0 E0).nox.env.scope "self" ∧ Vis (cxOf CX0 P w K mg base ["self", x] q sc fI cdv A' outer s0 H0 E0).nox.env.scope x ∧
      swapsWith (.Name x p3) (some (.Attribute (.Name "self" p1) f p2)) p4.line (cxOf CX0 P w K mg base ["self", x] q sc fI cdv A' outer s0 H0 E0).nox.env = pure false)
    (hx : (x == ("__debug__" : Str)) = false := by decide) (hx2 : (x == ("__classdict__" : Str)) = false := by decide) : FnOk P w K mg base CX0 (k + 1) fI fd ["self", x] (spInit K f) :=
  F.ok Sc (fun vs H Q E ⟨a, C, v, e, _⟩ => by rw [e]; rfl) (fun cdv A' outer s0 H0 vs Q E hr ⟨a, C, v, e, h1, h2, h3, h4⟩ => by
    obtain ⟨v1, v2, v3⟩ := hv cdv A' outer s0 H0 E
    subst e
    exact ⟨_, PSs.nox (pss_cons (ps_ost (pe_var (i := 0) rfl v1 (by decide) (by decide)) (pe_var (i := 1) rfl v2 hx hx2) v3) pss_nil), v, rfl, .ref a, rfl, a, C, rfl, h2, h3, .inl ⟨h1, fun dx n ne => h4 dx n ne⟩⟩)
end
section
variable {X : Cx} {σ : St} {s : S} {D : Ends} {rest : List Stmt} {W : WX} {e : Expr}
theorem do_raiseI {c f : Str} {fd : FuncData} {ps : List Str} {k j : Nat} {i : Int} {p pos pos' : Pos} (T : PayF X.K c f) (gC : X.mg c = some (.ref (He.ga X.K c))) (F1 : FnOk X.prog X.w X.K X.mg X.base CX0 k (He.fAd X.K (c, some "__init__")) fd ps (spInit X.K f)) (hb : Binds X.K fd ps [])
    (tk : Takes X W) (hr : Room j X.A) (hk : k + 1 ≤ j) (ha : Ev X e σ s i) (h : ∀ d s1, Ex s s1 → s1.F d = some (.xd [(f, V.int i)]) → W (.ref (He.ga X.K c)) (some d) σ s1.H)
    (hc : X.calm = true := by rfl) (hg : Gl X c := by rfl) (hdb : (c == ("__debug__" : Str)) = false := by decide) (he : starEach [e] X.env = (false, eval e X.env) :: starEach [] X.env := by rfl) (hpl : (backTo pos (starEach [] X.env)).any (·.1) = false := by rfl) :
    WSs X (.Raise (some (.Call (.Name c p) [e] [] pos)) none pos' :: rest) D σ s.H :=
  do_cons (ps_raise hc tk (pmk_oex T.o T.i T.t F1 (hr.mono hk) hb .nil pass0 hg gC (pa_cons pe_we pa_nil he) hdb he hpl)) (ha s (Ex.refl _) _ fun v s2 k2 r2 => by
    obtain rfl : v = V.int i := r2
    refine ⟨by simp, fun a hna => ⟨a, He.ga X.K c, V.int i, rfl, upd_same, T.o, T.n, fun dx h1 h2 => ?_⟩⟩
    have hdx : s2.H dx = none := by rw [upd_ne h2] at h1; exact h1
    refine ⟨rfl, dx, _, upd_same, by rw [upd_ne h2, upd_same], hdx, ?_⟩
    have eH : upd (del (upd (upd (upd s2.H a (exo a (He.ga X.K c) none)) dx (exd dx [(f, V.int i)])) a (exo a (He.ga X.K c) (some dx))) a) dx (.xd [(f, V.int i)]) = (s2.newF dx (.xd [(f, V.int i)]) hdx).H := by
      funext b
      show _ = upd s2.H dx (.xd [(f, V.int i)]) b
      by_cases hb1 : b = dx
      · subst hb1; rw [upd_same, upd_same]
      · rw [upd_ne hb1, upd_ne hb1]
        by_cases hb2 : b = a
        · subst hb2; rw [del_same, hna]
        · rw [del_ne hb2, upd_ne hb2, upd_ne hb1, upd_ne hb2]
    rw [eH]
    exact h dx _ (k2.trans (Ex.newF hdx)) upd_same)
end
def InitOk (P : Program) (w : World) (K : PySem.W.Frag) (mg : Str → Option Value) (base : Heap) (c f : Str) : Prop := ∃ (fd : FuncData) (ps : List Str), FnOk P w K mg base CX0 1 (He.fAd K (c, some "__init__")) fd ps (spInit K f) ∧ Binds K fd ps []
section
variable {α : Type} [Enc α] {X : Cx} {σ : St} {s : S} {e : Expr}
theorem ev_t2u {x : α × α} (h : Ev X e σ s x) : Ev X e σ s (⟨[x.1, x.2]⟩ : Tu α) := fun s1 k Q q => h s1 k Q fun v s2 k2 r => q v s2 k2 (by
  obtain ⟨p, v1, v2, rfl, h0, h1, h2⟩ := r
  exact ⟨p, [v1, v2], rfl, h0, h1, h2, trivial⟩)
end
class Arity (α : Type) (n : outParam Nat) extends Enc α where
  ar : ∀ {K : PySem.W.Frag} {F : Hp} {v : V} {x : α}, rep K F v x → ∃ p vs, v = .ref p ∧ SqT K F p vs ∧ vs.length = n
instance {α β : Type} [Enc α] [Enc β] : Arity (α × β) 2 := ⟨fun h => by
  obtain ⟨p, v1, v2, e, h, _⟩ := h
  exact ⟨p, _, e, h, rfl⟩⟩
instance {α β γ : Type} [Enc α] [Enc β] [Enc γ] : Arity (T3 α β γ) 3 := ⟨fun h => by
  obtain ⟨p, v1, v2, v3, e, h, _⟩ := h
  exact ⟨p, _, e, h, rfl⟩⟩
section
variable {α : Type} {X : Cx} {σ : St} {s : S} {e : Expr} {p0 pos : Pos}
theorem ev_lenA {n : Nat} [Arity α n] {x : α} (hm : X.mg "len" = none) (ha : Ev X e σ s x) (hg : Gl X "len" := by rfl) (he : starEach [e] X.env = (false, eval e X.env) :: starEach [] X.env := by rfl) (hpl : (backTo pos (starEach [] X.env)).any (·.1) = false := by rfl) : Ev X (.Call (.Name "len" p0) [e] [] pos) σ s (n : Int) :=
  ev_B1 call_len_seq hg hm boot_len ha (fun v s2 r2 Q q => by
    obtain ⟨p, vs, rfl, h1, h2⟩ := Arity.ar r2
    exact ⟨p, vs, rfl, .inr (sqt_mono s2.sub h1), q _ s2 (Ex.refl _) (by rw [h2]; rfl)⟩) (he := he) (hpl := hpl)
end
end Dy

namespace Dy
open PySem PySem.Spec L2
open PyProof.Rows hiding St
open Enc (rep)

def dsz (ns : List Int) : Nat := (PyProof.Rows.firstMet (fun i => ns.getD i 0) ns.length).length
section
variable {X : Cx} {a : Expr} {ta : TE} {p p2 q pos : Pos}
def tDsz (K : PySem.W.Frag) (ta : TE) : TE := fun σ H Q => ta σ H fun x H1 => ∃ (l : Addr) (ns : List Int), x = .ref l ∧ SqL K H1 l (ns.map V.int) ∧ ns.length ≤ 4000 ∧ dsz ns ≤ ns.length ∧ Q (.int (dsz ns : Nat)) H1
theorem pe_dsz (hg : Gl X "len") (hm : X.mg "len" = none) (hg2 : Gl X "set") (hm2 : X.mg "set" = none) (ha : PE X a ta) (hc : X.calm = true := by rfl)
    (na : starEach [a] X.env = (false, eval a X.env) :: starEach [] X.env := by rfl) : PE X (.Call (.Name "len" p) [.Call (.Name "set" p2) [a] [] q] [] pos) (tDsz X.K ta) := by
  refine ⟨fun pins s σ H Q I h => ?_⟩
  refine Call_ (ld_blt I hg hm boot_len (PyProof.Rows.callWith_builtin1 (PyProof.Rows.args_cons (Call_ (ld_blt I hg2 hm2 boot_set (PyProof.Rows.callWith_type1 (PyProof.Rows.args_cons (thn (ha.run pins s σ H _ I h) fun v s1 ⟨x, H1, I1, r1, l, ns, e, hq, hl, hd0, q1⟩ => PyProof.Rows.args_nil ?_) na) na rfl))) rfl) rfl rfl))
  subst e
  cases r1
  obtain ⟨its, r, pl, hz⟩ := I1.list hq
  have hlen : its.toArray.size = ns.length := by rw [List.size_toArray, ← r.length, List.length_map]
  refine call_set_list (I1.ok.hd hc) pl.isList (by simpa using RZ.intsAre_vals r) (by rw [hlen]; unfold scanBound; omega) fun h' tk hS hk => PyProof.Rows.args_nil ?_
  rw [hlen] at hS
  obtain ⟨o, es, ep, t, ho, hex, hd, _, _, _, hf, hn⟩ := hS
  have I2 : Inv X pins σ H1 { s1 with heap := h', toks := tk } := I1.kept fun b o e => hk b o (Heap.lt_size e) e
  unfold dsz at hd0 q1
  exact call_len_set ho hex hd hf (by rw [hn] <;> omega) ⟨.int (dsz ns : Nat), H1, I2.tok _, ⟨_, by rw [hn]; rfl⟩, q1⟩
theorem dsz_le (ns : List Int) : dsz ns ≤ ns.length := PyProof.Rows.firstMet_length_le _ _
variable {σ : St} {s : S}
theorem ev_dsz {xs : List Int} (hm : X.mg "len" = none) (hm2 : X.mg "set" = none) (ha : EvR X a σ s xs) (hz : xs.length ≤ 4000) (hc : X.calm = true := by rfl) (hg : Gl X "len" := by rfl) (hg2 : Gl X "set" := by rfl) (na : starEach [a] X.env = (false, eval a X.env) :: starEach [] X.env := by rfl) :
    Ev X (.Call (.Name "len" p) [.Call (.Name "set" p2) [a] [] q] [] pos) σ s ((dsz xs : Nat) : Int) := fun s1 k Q qq =>
  we_of (pe_dsz hg hm hg2 hm2 pe_we hc na) (ha s1 k _ fun v s2 k2 r2 => by
    obtain ⟨p, vs, rfl, h1, h2⟩ := r2
    obtain rfl := h2.flat
    exact ⟨p, xs, rfl, h1, hz, dsz_le xs, qq _ s2 k2 rfl⟩)
end
theorem fm_inv (ns : List Int) : ∀ i, i ≤ ns.length → (∀ x, x ∈ PyProof.Rows.firstMet (fun i => ns.getD i 0) i ↔ x ∈ ns.take i) ∧ ((PyProof.Rows.firstMet (fun i => ns.getD i 0) i).length = i ↔ (ns.take i).Nodup)
  | 0, _ => by
    rw [PyProof.Rows.firstMet_zero]
    simp
  | i + 1, h => by
    obtain ⟨h1, h2⟩ := fm_inv ns i (by omega)
    have h3 := PyProof.Rows.firstMet_length_le (fun i => ns.getD i 0) i
    have e1 : ns.getD i 0 = ns[i] := by rw [List.getD_eq_getElem?_getD, List.getElem?_eq_getElem (by omega)]; rfl
    have e2 : ns.take (i + 1) = ns.take i ++ [ns[i]] := by rw [List.take_add_one, List.getElem?_eq_getElem (by omega)]; rfl
    rw [PyProof.Rows.firstMet_succ, e2]
    generalize PyProof.Rows.firstMet (fun i => ns.getD i 0) i = m at *
    have e3 : PyProof.Rows.step_dedup m (ns.getD i 0) = if ns[i] ∈ m then m else m ++ [ns[i]] := by
      unfold PyProof.Rows.step_dedup
      rw [e1]
      have e4 : (m.any fun x => x == ns[i]) = true ↔ ns[i] ∈ m := by
        rw [List.any_eq_true]
        exact ⟨fun ⟨y, hy, ey⟩ => eq_of_beq ey ▸ hy, fun hm => ⟨_, hm, beq_self_eq_true _⟩⟩
      by_cases hm : ns[i] ∈ m
      · rw [if_pos hm, if_pos (e4.mpr hm)]
      · rw [if_neg hm, if_neg (fun z => hm (e4.mp z))]
    show (∀ x, x ∈ PyProof.Rows.step_dedup m (ns.getD i 0) ↔ _) ∧ ((PyProof.Rows.step_dedup m (ns.getD i 0)).length = i + 1 ↔ _)
    rw [e3]
    by_cases hm : ns[i] ∈ m
    · rw [if_pos hm]
      have hm2 := (h1 _).mp hm
      refine ⟨fun x => ?_, fun e => by omega, fun hn => ?_⟩
      · rw [List.mem_append, h1, List.mem_singleton]
        exact ⟨.inl, fun z => z.elim id fun z => z ▸ hm2⟩
      · exact absurd rfl ((List.nodup_append.mp hn).2.2 _ hm2 _ (List.mem_singleton.mpr rfl))
    · rw [if_neg hm]
      have hm2 : ns[i] ∉ ns.take i := fun z => hm ((h1 _).mpr z)
      refine ⟨fun x => by rw [List.mem_append, List.mem_append, h1], fun e => ?_, fun hn => ?_⟩
      · rw [List.length_append, List.length_singleton] at e
        refine List.nodup_append.mpr ⟨h2.mp (by omega), by simp, fun a ha b hb e => ?_⟩
        rw [List.mem_singleton.mp hb] at e
        exact hm2 (e ▸ ha)
      · rw [List.length_append, List.length_singleton, h2.mpr (List.nodup_append.mp hn).1]
theorem dsz_eq (ns : List Int) : dsz ns = ns.length ↔ ns.Nodup := by
  have := (fm_inv ns ns.length (Nat.le_refl _)).2
  rw [List.take_length] at this
  exact this
structure HL2 (α β : Type) where
  a : α
  b : β
deriving DecidableEq
instance {α β : Type} [Enc α] [Enc β] : Enc (HL2 α β) := ⟨fun K F v x => ∃ p v1 v2, v = .ref p ∧ SqL K F p [v1, v2] ∧ rep K F v1 x.a ∧ rep K F v2 x.b, fun e h => by
  obtain ⟨p, v1, v2, rfl, h0, h1, h2⟩ := h
  exact ⟨p, v1, v2, rfl, sql_mono e h0, Enc.mono e h1, Enc.mono e h2⟩⟩
instance {α β : Type} [EqD α] [EqD β] : EqD (HL2 α β) := ⟨fun x => .list [EqD.toD x.a, EqD.toD x.b], fun h f => by
  obtain ⟨p, v1, v2, rfl, h0, h1, h2⟩ := h
  exact .lst (sql_mono f h0) (.cons (EqD.dp h1 f) (.cons (EqD.dp h2 f) .nil)), fun x y => by
    obtain ⟨x1, x2⟩ := x
    obtain ⟨y1, y2⟩ := y
    show (PyData.eqv _ _ && (PyData.eqv _ _ && true)) = true ↔ _
    rw [Bool.and_eq_true, Bool.and_eq_true, EqD.eqv, EqD.eqv]; simp⟩
section
variable {α β : Type} [Enc α] [Enc β] {X : Cx} {σ : St} {s : S} {es : List Expr} {pos : Pos}
theorem ev_hl2 {x : α} {y : β} (h : EvA X es σ s (x, y, ())) : Ev X (.List es pos) σ s (⟨x, y⟩ : HL2 α β) := fun s1 k Q q =>
  we_of (pe_lst pa_wa) (h s1 k _ fun vs s2 k2 r2 => by
    obtain ⟨v1, _, rfl, r1, v2, _, rfl, r2, rfl⟩ := r2
    exact ⟨show _ ≤ 2 ^ 24 by simp, fun p hp => q _ (s2.newF p (.lst [v1, v2]) hp) (k2.trans (Ex.newF hp)) ⟨p, v1, v2, rfl, .inl (.inl upd_same), Enc.mono (Ex.newF hp).f r1, Enc.mono (Ex.newF hp).f r2⟩⟩)
end
def relS (scope sc : Scope) : Scope := { scope with names := scope.names.map fun (n, k) => if (k == .free && sc.kind == .function && sc.names.lookup n == some .cell) then (n, .cell) else (n, k) }
theorem blkOk_n {N : List Str} {scope1 sc0 scope : Scope} {env : Env} {own : List (Str × Nat)} (e : env.scope = sc0) (h : blkC N (relS scope1 sc0) scope own = true) : BlkOk N (relabel scope1 env) scope own := by
  have : relabel scope1 env = relS scope1 sc0 := by subst e; rfl
  rw [this]
  exact blkOk_by h
end Dy

namespace Dy
open PySem PySem.Spec L2
open PyProof.Rows hiding St
open Enc (rep)

inductive An where
  | b (x : Bool)
  | i (x : Int)
  | o (x : Option Int)
  | s (x : Str)
  | l (xs : List Int)
  | ls (xs : List Str)
  | ts (xs : Tu Str)
instance : Enc An := ⟨fun K F v x => match x with
  | .b x => rep K F v x
  | .i x => rep K F v x
  | .o x => rep K F v x
  | .s x => rep K F v x
  | .l x => rep K F v x
  | .ls x => rep K F v x
  | .ts x => rep K F v x, fun {K F F' v x} e h => by
  cases x with
  | b x => exact Enc.mono (α := Bool) e h
  | i x => exact Enc.mono (α := Int) e h
  | o x => exact Enc.mono (α := Option Int) e h
  | s x => exact Enc.mono (α := Str) e h
  | l x => exact Enc.mono (α := List Int) e h
  | ls x => exact Enc.mono (α := List Str) e h
  | ts x => exact Enc.mono (α := Tu Str) e h⟩
class ToD (α : Type) extends Enc α where
  td : α → PyData
  tdp : ∀ {K : PySem.W.Frag} {F H : Hp} {v : V} {x : α}, rep K F v x → Fle F H → Dp K H v (td x)
instance : ToD An := ⟨fun x => match x with
  | .b x => EqD.toD x
  | .i x => EqD.toD x
  | .o x => EqD.toD x
  | .s x => EqD.toD x
  | .l x => EqD.toD x
  | .ls x => EqD.toD x
  | .ts x => EqD.toD x, fun {K F H v x} h f => by
  cases x with
  | b x => exact EqD.dp (α := Bool) h f
  | i x => exact EqD.dp (α := Int) h f
  | o x => exact EqD.dp (α := Option Int) h f
  | s x => exact EqD.dp (α := Str) h f
  | l x => exact EqD.dp (α := List Int) h f
  | ls x => exact EqD.dp (α := List Str) h f
  | ts x => exact EqD.dp (α := Tu Str) h f⟩
instance {α : Type} [EqD α] : ToD (α × An) := ⟨fun x => .tuple [EqD.toD x.1, ToD.td x.2], fun h f => by
  obtain ⟨p, v1, v2, rfl, h0, h1, h2⟩ := h
  exact .tup (sqt_mono f h0) (.cons (EqD.dp h1 f) (.cons (ToD.tdp h2 f) .nil))⟩
def eqvD {α : Type} [ToD α] (x y : α) : Bool := PyData.eqv (ToD.td x) (ToD.td y)
def shpD {α : Type} [ToD α] (x : α) : Prop := SeqAt.shaped (ToD.td x) = true
section
variable {α : Type} {X : Cx} {σ : St} {s : S} {a b e : Expr} {pos : Pos}
theorem eb_eqV [ToD α] {x y : α} {j : Nat} (hr : Room j X.A) (ha : Ev X a σ s x) (hb : Ev X b σ s y) (h1 : shpD x) (h2 : shpD y) : EvB X (.Compare a [.Eq] [b] pos) σ s (eqvD x y) :=
  eb_cmp (op_eqD (hu64 hr)) ha hb (fun v u s2 hv hu Q q => ⟨_, _, ToD.tdp hv s2.sub, ToD.tdp hu s2.sub, h1, h2, q⟩) (nomark _)
theorem eb_neV [ToD α] {x y : α} {j : Nat} (hr : Room j X.A) (ha : Ev X a σ s x) (hb : Ev X b σ s y) (h1 : shpD x) (h2 : shpD y) : EvB X (.Compare a [.NotEq] [b] pos) σ s (!eqvD x y) :=
  eb_cmp (op_neD (hu64 hr)) ha hb (fun v u s2 hv hu Q q => ⟨_, _, ToD.tdp hv s2.sub, ToD.tdp hu s2.sub, h1, h2, q⟩) (nomark _)
theorem an_b {x : Bool} (h : Ev X e σ s x) : Ev X e σ s (An.b x) := h
theorem an_i {x : Int} (h : Ev X e σ s x) : Ev X e σ s (An.i x) := h
theorem an_o {x : Option Int} (h : Ev X e σ s x) : Ev X e σ s (An.o x) := h
theorem an_s {x : Str} (h : Ev X e σ s x) : Ev X e σ s (An.s x) := h
theorem an_l {x : List Int} (h : Ev X e σ s x) : Ev X e σ s (An.l x) := h
theorem an_ls {x : List Str} (h : Ev X e σ s x) : Ev X e σ s (An.ls x) := h
theorem an_ts {x : Tu Str} (h : Ev X e σ s x) : Ev X e σ s (An.ts x) := h
def anB : An → Option Bool
  | .b x => some x
  | _ => none
theorem ev_anB {x : An} {y : Bool} (h : Ev X e σ s x) (hy : anB x = some y) : Ev X e σ s y := by
  cases x with
  | b z => cases hy; exact h
  | _ => cases hy
end
end Dy

namespace Dy
open PySem PySem.Spec L2
open PyProof.Rows hiding St
open Enc (rep)
open Flat (toV)
open EncA (repA)

structure OA where
  p : PySem.W.Frag → Hp → Hp → (Addr → Prop) → Prop
  mono : ∀ {K : PySem.W.Frag} {F F' H : Hp} {P : Addr → Prop}, Fle F F' → p K F H P → p K F' H P
  loc : ∀ {K : PySem.W.Frag} {F H H' : Hp} {P : Addr → Prop}, (∀ a, P a → H' a = H a) → p K F H P → p K F H' P
  dom : ∀ {K : PySem.W.Frag} {F H : Hp} {P : Addr → Prop} {a : Addr}, p K F H P → P a → ∃ o, H a = some o
def top : OA := ⟨fun _ _ _ P => ∀ a, ¬ P a, fun _ h => h, fun _ h => h, fun h q => absurd q (h _)⟩
def fz {α : Type} [Enc α] (v : V) (x : α) : OA := ⟨fun K F _ P => rep K F v x ∧ ∀ a, ¬ P a, fun e h => ⟨Enc.mono e h.1, h.2⟩, fun _ h => h, fun h q => absurd q (h.2 _)⟩
def ol {α : Type} [Enc α] (p : Addr) (xs : List α) : OA := ⟨fun K F H P => (∀ a, P a ↔ a = p) ∧ ∃ vs, H p = some (.lst vs) ∧ Reps K F vs xs, fun e ⟨h0, vs, h1, h2⟩ => ⟨h0, vs, h1, h2.mono e⟩,
  fun e ⟨h0, vs, h1, h2⟩ => ⟨h0, vs, by rw [e p ((h0 p).mpr rfl)]; exact h1, h2⟩, fun ⟨h0, vs, h1, h2⟩ q => ⟨_, (congrArg _ ((h0 _).mp q)).trans h1⟩⟩
class DKey (κ : Type) extends Eqs κ where
  dec : DecidableEq κ
  toK : κ → Key
  kv : ∀ k, kV (toK k) = toV k
  kinj : ∀ a b, toK a = toK b ↔ a = b
instance : DKey Int := { dec := inferInstance, toK := Sum.inl, kv := fun _ => rfl, kinj := fun a b => ⟨fun h => Sum.inl.inj h, fun h => by rw [h]⟩ }
instance : DKey Str := { dec := inferInstance, toK := Sum.inr, kv := fun _ => rfl, kinj := fun a b => ⟨fun h => Sum.inr.inj h, fun h => by rw [h]⟩ }
def KReps {κ α : Type} [DKey κ] [Enc α] (K : PySem.W.Frag) (F : Hp) : List (Key × V) → List (κ × α) → Prop
  | [], [] => True
  | (k, v) :: r, (j, x) :: xs => k = DKey.toK j ∧ rep K F v x ∧ KReps K F r xs
  | _, _ => False
theorem KReps.mono {κ α : Type} [DKey κ] [Enc α] {K : PySem.W.Frag} {F F' : Hp} (e : Fle F F') : ∀ {kv : List (Key × V)} {xs : List (κ × α)}, KReps K F kv xs → KReps K F' kv xs
  | [], [], _ => trivial
  | _ :: _, _ :: _, ⟨h1, h2, t⟩ => ⟨h1, Enc.mono e h2, KReps.mono e t⟩
  | [], _ :: _, h => h.elim
  | _ :: _, [], h => h.elim
theorem KReps.len {κ α : Type} [DKey κ] [Enc α] {K : PySem.W.Frag} {F : Hp} : ∀ {kv : List (Key × V)} {xs : List (κ × α)}, KReps K F kv xs → kv.length = xs.length
  | [], [], _ => rfl
  | _ :: _, _ :: _, ⟨_, _, t⟩ => congrArg (· + 1) (KReps.len t)
  | [], _ :: _, h => h.elim
  | _ :: _, [], h => h.elim
def od {κ α : Type} [DKey κ] [Enc α] (p : Addr) (xs : List (κ × α)) : OA := ⟨fun K F H P => (∀ a, P a ↔ a = p) ∧ ∃ kv, H p = some (.dK kv) ∧ KReps K F kv xs, fun e ⟨h0, vs, h1, h2⟩ => ⟨h0, vs, h1, h2.mono e⟩,
  fun e ⟨h0, vs, h1, h2⟩ => ⟨h0, vs, by rw [e p ((h0 p).mpr rfl)]; exact h1, h2⟩, fun ⟨h0, vs, h1, h2⟩ q => ⟨_, (congrArg _ ((h0 _).mp q)).trans h1⟩⟩
def odl {κ α : Type} [DKey κ] [Enc α] (p : Addr) (o : Obj) (kv : List (Key × V)) (xs : List (κ × α)) : OA := ⟨fun K F H P => (∀ a, P a ↔ a = p) ∧ H p = some (.frz o (.dK kv)) ∧ KReps K F kv xs, fun e ⟨h0, h1, h2⟩ => ⟨h0, h1, h2.mono e⟩,
  fun e ⟨h0, h1, h2⟩ => ⟨h0, by rw [e p ((h0 p).mpr rfl)]; exact h1, h2⟩, fun ⟨h0, h1, h2⟩ q => ⟨_, (congrArg _ ((h0 _).mp q)).trans h1⟩⟩
def cell (p : Addr) (c : Str) (fs : List (Str × V)) : OA := ⟨fun K F H P => ∃ dx, (∀ a, P a ↔ (a = p ∨ a = dx)) ∧ H p = some (.ins (He.ga K c) dx fs) ∧ H dx = some (.own p), fun e h => h,
  fun e ⟨dx, h0, h1, h2⟩ => ⟨dx, h0, by rw [e p ((h0 p).mpr (.inl rfl))]; exact h1, by rw [e dx ((h0 dx).mpr (.inr rfl))]; exact h2⟩, fun ⟨dx, h0, h1, h2⟩ q => by
    rcases (h0 _).mp q with rfl | rfl
    · exact ⟨_, h1⟩
    · exact ⟨_, h2⟩⟩

structure Mz (P : Addr → Prop) (s t : S) : Prop where
  f : Fle s.F t.F
  h : ∀ a o, s.H a = some o → ¬ P a → t.H a = some o
  n : ∀ a o, s.H a = some o → ¬ P a → s.F a = none → t.F a = none
  d : ∀ a o, s.H a = some o → ∃ u, t.H a = some u
theorem Mx.z {P : Addr → Prop} {s t : S} (m : Mx P s t) : Mz P s t := ⟨m.f, m.h, fun a o h _ q => m.n a o h q, m.d⟩
theorem Ex.z {P : Addr → Prop} {s t : S} (e : Ex s t) : Mz P s t := e.mx.z
theorem Mz.trans {P : Addr → Prop} {s t u : S} (a : Mz P s t) (b : Mz P t u) : Mz P s u :=
  ⟨fun x o h => b.f x o (a.f x o h), fun x o h n => b.h x o (a.h x o h n) n,
   fun x o h p n => by obtain ⟨v, hv⟩ := a.d x o h; exact b.n x v hv p (a.n x o h p n),
   fun x o h => by obtain ⟨v, hv⟩ := a.d x o h; exact b.d x v hv⟩
theorem Mz.fr_back {P : Addr → Prop} {s t : S} (e : Mz P s t) {p : Addr} (h : t.H p = none) : s.H p = none := by
  cases q : s.H p with
  | none => rfl
  | some o => obtain ⟨u, z⟩ := e.d p o q; rw [z] at h; cases h
structure Iv (K : PySem.W.Frag) (P0 : Addr → Prop) (s0 s : S) (L : List OA) : Prop where
  m : Mz P0 s0 s
  o : ∃ φ : Nat → Addr → Prop, (∀ (i : Nat) (A : OA), L[i]? = some A → A.p K s.F s.H (φ i)) ∧ (∀ (i j : Nat) (a : Addr), φ i a → φ j a → i = j) ∧ (∀ (i : Nat) (a : Addr), φ i a → s.F a = none ∧ (P0 a ∨ s0.H a = none) ∧ i < L.length)
section
variable {α β κ : Type} [Enc α] [Enc β] [DKey κ] {K : PySem.W.Frag} {P0 : Addr → Prop} {s0 s s1 t : S} {L M : List OA}
theorem Iv.fz (h : Iv K P0 s0 s L) (i : Nat) {v : V} {x : α} (e : L[i]? = some (Dy.fz v x) := by rfl) : rep K s.F v x := by
  obtain ⟨φ, h1, _⟩ := h.o
  exact (h1 i _ e).1
theorem Iv.ol (h : Iv K P0 s0 s L) (i : Nat) {p : Addr} {xs : List α} (e : L[i]? = some (Dy.ol p xs) := by rfl) : Own K s p xs := by
  obtain ⟨φ, h1, h2, h3⟩ := h.o
  obtain ⟨q, vs, hp, r⟩ := h1 i _ e
  exact ⟨(h3 i p ((q p).mpr rfl)).1, vs, hp, r⟩
theorem Iv.at (h : Iv K P0 s0 s L) (i : Nat) {A : OA} (e : L[i]? = some A := by rfl) : ∃ P, A.p K s.F s.H P ∧ ∀ a, P a → s.F a = none := by
  obtain ⟨φ, h1, h2, h3⟩ := h.o
  exact ⟨φ i, h1 i A e, fun a q => (h3 i a q).1⟩
theorem Iv.ex (h : Iv K P0 s0 s L) (e : Ex s s1) : Iv K P0 s0 s1 L := by
  obtain ⟨φ, h1, h2, h3⟩ := h.o
  refine ⟨h.m.trans e.z, φ, fun i A hA => ?_, h2, fun i a q => ?_⟩
  · have h4 := h1 i A hA
    exact A.mono e.f (A.loc (fun a q => by
      obtain ⟨o, ho⟩ := A.dom h4 q
      rw [ho]; exact e.h _ _ ho) h4)
  · obtain ⟨h5, h6, h7⟩ := h3 i a q
    obtain ⟨A, hA⟩ : ∃ A, L[i]? = some A := ⟨L[i], List.getElem?_eq_getElem h7⟩
    obtain ⟨o, ho⟩ := A.dom (h1 i A hA) q
    exact ⟨e.n _ _ ho h5, h6, h7⟩
theorem Iv.upd (h : Iv K P0 s0 s L) (i : Nat) {A A' : OA} (hA : L[i]? = some A) (st : ∀ P, A.p K s.F s.H P → (∀ a, P a → s.F a = none) → ∃ P', A'.p K s1.F s1.H P' ∧ (∀ a, P' a → s1.F a = none ∧ (P a ∨ s.H a = none)) ∧ Mz P s s1) : Iv K P0 s0 s1 (L.set i A') := by
  obtain ⟨φ, h1, h2, h3⟩ := h.o
  obtain ⟨P', g1, g2, g3⟩ := st (φ i) (h1 i A hA) fun a q => (h3 i a q).1
  have hi : i < L.length := (List.getElem?_eq_some_iff.mp hA).1
  have old : ∀ j a, φ j a → ∃ o, s.H a = some o := fun j a q => by
    obtain ⟨_, _, h7⟩ := h3 j a q
    exact (L[j]).dom (h1 j _ (List.getElem?_eq_getElem h7)) q
  have m1 : Mz P0 s0 s1 := by
    refine ⟨h.m.f.trans g3.f, fun a o q n => g3.h _ _ (h.m.h a o q n) fun z => ?_, fun a o q np n => ?_, fun a o q => ?_⟩
    · rcases (h3 i a z).2.1 with w | w
      · exact n w
      · rw [w] at q; cases q
    · obtain ⟨u, hu⟩ := h.m.d a o q
      exact g3.n a u hu (fun z => by
        rcases (h3 i a z).2.1 with w | w
        · exact np w
        · rw [w] at q; cases q) (h.m.n a o q np n)
    · obtain ⟨u, hu⟩ := h.m.d a o q
      exact g3.d a u hu
  refine ⟨m1, fun j a => if j = i then P' a else φ j a, fun j B hB => ?_, fun j k a => ?_, fun j a => ?_⟩
  · by_cases e : j = i
    · subst e
      rw [List.getElem?_set_self hi] at hB
      cases hB
      simpa using g1
    · rw [List.getElem?_set_ne (Ne.symm e)] at hB
      simp only [e, if_false]
      have h4 := h1 j B hB
      exact B.mono g3.f (B.loc (fun a q => by
        obtain ⟨o, ho⟩ := B.dom h4 q
        rw [ho]; exact g3.h _ _ ho fun z => e (h2 _ _ _ q z)) h4)
  · intro q r
    by_cases e : j = i <;> by_cases e2 : k = i
    · rw [e, e2]
    · exfalso
      simp only [e, if_true] at q
      simp only [e2, if_false] at r
      rcases (g2 a q).2 with z | z
      · exact e2 (h2 _ _ _ r z)
      · obtain ⟨o, ho⟩ := old k a r
        rw [z] at ho; cases ho
    · exfalso
      simp only [e, if_false] at q
      simp only [e2, if_true] at r
      rcases (g2 a r).2 with z | z
      · exact e (h2 _ _ _ q z)
      · obtain ⟨o, ho⟩ := old j a q
        rw [z] at ho; cases ho
    · simp only [e, if_false] at q
      simp only [e2, if_false] at r
      exact h2 _ _ _ q r
  · intro q
    rw [List.length_set]
    by_cases e : j = i
    · simp only [e, if_true] at q
      obtain ⟨z1, z2⟩ := g2 a q
      refine ⟨z1, ?_, by rw [e]; exact hi⟩
      rcases z2 with z | z
      · exact (h3 i a z).2.1
      · refine .inr ?_
        exact h.m.fr_back z
    · simp only [e, if_false] at q
      obtain ⟨z1, z2, z3⟩ := h3 j a q
      obtain ⟨o, ho⟩ := old j a q
      exact ⟨g3.n _ _ ho (fun z => e (h2 _ _ _ q z)) z1, z2, z3⟩
theorem Iv.put (h : Iv K P0 s0 s L) (i : Nat) {A' : OA} (e : Ex s s1) (st : ∃ P', A'.p K s1.F s1.H P' ∧ ∀ a, P' a → s1.F a = none ∧ s.H a = none) : Iv K P0 s0 s1 (L.set i A') := by
  by_cases hi : i < L.length
  case neg => rw [List.set_eq_of_length_le (by omega)]; exact h.ex e
  refine h.upd i (List.getElem?_eq_getElem hi) fun P _ _ => ?_
  obtain ⟨P', g1, g2⟩ := st
  exact ⟨P', g1, fun a q => ⟨(g2 a q).1, .inr (g2 a q).2⟩, e.z⟩
theorem Iv.sf (h : Iv K P0 s0 s L) (i : Nat) {v : V} {x y : α} (e : Ex s s1) (r : rep K s1.F v x) (q : y = x) : Iv K P0 s0 s1 (L.set i (Dy.fz v y)) := by
  subst q
  exact h.put i e ⟨fun _ => False, ⟨r, fun _ z => z⟩, fun _ z => z.elim⟩
theorem Iv.sl (h : Iv K P0 s0 s L) (i : Nat) {p : Addr} {xs ys : List α} (e : Ex s s1) (n : s.H p = none) (o : Own K s1 p xs) (q : ys = xs) : Iv K P0 s0 s1 (L.set i (Dy.ol p ys)) := by
  subst q
  obtain ⟨o1, vs, o2, o3⟩ := o
  exact h.put i e ⟨fun a => a = p, ⟨fun _ => Iff.rfl, vs, o2, o3⟩, fun a z => by rw [z]; exact ⟨o1, n⟩⟩
theorem Iv.ml (h : Iv K P0 s0 s L) (i : Nat) {p : Addr} {xs : List α} {ys zs : List β} (m : Mx (· = p) s s1) (o : Own K s1 p ys) (q : zs = ys) (hA : L[i]? = some (Dy.ol p xs) := by rfl) : Iv K P0 s0 s1 (L.set i (Dy.ol p zs)) := by
  subst q
  obtain ⟨o1, vs, o2, o3⟩ := o
  refine h.upd i hA fun P hP _ => ⟨P, ?_, ?_, ?_⟩
  · exact ⟨hP.1, vs, o2, o3⟩
  · intro a z
    rw [(hP.1 a).mp z]
    exact ⟨o1, .inl ((hP.1 p).mpr rfl)⟩
  · exact ⟨m.f, fun a o q n => m.h a o q fun z => n ((hP.1 a).mpr z), fun a o q _ z => m.n a o q z, m.d⟩
def pick (L : List OA) (js : List (Option Nat)) : List OA := js.map fun o => match o with | none => top | some i => L.getD i top
theorem Iv.sel (h : Iv K P0 s0 s L) (js : List (Option Nat)) (hn : (js.filterMap id).Nodup) (hM : pick L js = M) : Iv K P0 s0 s M := by
  subst hM
  obtain ⟨φ, h1, h2, h3⟩ := h.o
  refine ⟨h.m, fun k a => ∃ i, js[k]? = some (some i) ∧ φ i a, fun k A hA => ?_, fun k l a ⟨i, e1, q1⟩ ⟨j, e2, q2⟩ => ?_, fun k a ⟨i, e1, q1⟩ => ?_⟩
  · unfold pick at hA
    rw [List.getElem?_map] at hA
    obtain ⟨o, e1, e2⟩ := Option.map_eq_some_iff.mp hA
    cases o with
    | none =>
      subst e2
      intro a ⟨i, e3, _⟩
      rw [e1] at e3; cases e3
    | some i =>
      dsimp only at e2
      have eφ : (fun a => ∃ j, js[k]? = some (some j) ∧ φ j a) = φ i := by
        funext a
        apply propext
        constructor
        · rintro ⟨j, e3, q⟩
          rw [e1] at e3
          cases e3
          exact q
        · exact fun q => ⟨i, e1, q⟩
      show A.p K s.F s.H (fun a => ∃ j, js[k]? = some (some j) ∧ φ j a)
      rw [eφ]
      cases hg : L[i]? with
      | none =>
        rw [List.getD_eq_getElem?_getD, hg] at e2
        subst e2
        intro a q
        have := (h3 i a q).2.2
        rw [List.getElem?_eq_getElem this] at hg
        cases hg
      | some B =>
        rw [List.getD_eq_getElem?_getD, hg] at e2
        subst e2
        exact h1 i B hg
  · have := h2 _ _ _ q1 q2
    subst this
    have key : ∀ (js : List (Option Nat)) (k l : Nat), (js.filterMap id).Nodup → js[k]? = some (some i) → js[l]? = some (some i) → k = l := by
      intro js
      induction js with
      | nil => intro k l _ e; cases e
      | cons x r ih =>
        intro k l hn e1 e2
        cases x with
        | none =>
          cases k with
          | zero => cases e1
          | succ k =>
            cases l with
            | zero => cases e2
            | succ l => exact congrArg (· + 1) (ih k l (by simpa using hn) (by simpa using e1) (by simpa using e2))
        | some y =>
          have hn' : y ∉ r.filterMap id ∧ (r.filterMap id).Nodup := by simpa using hn
          have mem : ∀ k, r[k]? = some (some i) → i ∈ r.filterMap id := fun k e => List.mem_filterMap.mpr ⟨some i, List.mem_of_getElem? e, rfl⟩
          cases k with
          | zero =>
            cases l with
            | zero => rfl
            | succ l =>
              have : y = i := by simpa using e1
              exact absurd (mem l (by simpa using e2)) (this ▸ hn'.1)
          | succ k =>
            cases l with
            | zero =>
              have : y = i := by simpa using e2
              exact absurd (mem k (by simpa using e1)) (this ▸ hn'.1)
            | succ l => exact congrArg (· + 1) (ih k l hn'.2 (by simpa using e1) (by simpa using e2))
    exact key js k l hn e1 e2
  · obtain ⟨z1, z2, z3⟩ := h3 i a q1
    refine ⟨z1, z2, ?_⟩
    unfold pick
    rw [List.length_map]
    exact (List.getElem?_eq_some_iff.mp e1).1
theorem Iv.tops (n : Nat) (s : S) : Iv K P0 s s (List.replicate n top) := by
  refine ⟨(Ex.refl s).z, fun _ _ => False, fun i A hA => ?_, fun _ _ _ z => z.elim, fun _ _ z => z.elim⟩
  have := List.mem_of_getElem? hA
  rw [List.eq_of_mem_replicate this]
  exact fun _ z => z
theorem Iv.exx (h : Iv K (fun _ => False) s0 s L) : Ex s0 s := ⟨h.m.f, fun a o q => h.m.h a o q fun z => z, fun a o q n => h.m.n a o q (fun z => z) n⟩
theorem Iv.frz (h : Iv K P0 s0 s L) (i : Nat) {p : Addr} {xs : List α} (hA : L[i]? = some (Dy.ol p xs) := by rfl) : ∃ s' : S, s'.H = s.H ∧ Fle s.F s'.F ∧ Iv K P0 s0 s' (L.set i (Dy.fz (.ref p) xs)) := by
  obtain ⟨s', h1, h2, h3, h4⟩ := (h.ol i hA).frz
  refine ⟨s', h1, h2, ?_⟩
  obtain ⟨φ, g1, g2, g3⟩ := h.o
  have hi : i < L.length := (List.getElem?_eq_some_iff.mp hA).1
  have hp : φ i p := ((g1 i _ hA).1 p).mpr rfl
  refine ⟨⟨h.m.f.trans h2, fun a o q n => by rw [h1]; exact h.m.h a o q n, fun a o q np n => ?_, fun a o q => by rw [h1]; exact h.m.d a o q⟩, fun j a => if j = i then False else φ j a, fun j B hB => ?_, fun j k a q r => ?_, fun j a q => ?_⟩
  · have ne : a ≠ p := fun z => by
      subst z
      rcases (g3 i a hp).2.1 with w | w
      · exact np w
      · rw [w] at q; cases q
    rw [h3 a ne]
    exact h.m.n a o q np n
  · by_cases e : j = i
    · subst e
      rw [List.getElem?_set_self hi] at hB
      cases hB
      exact ⟨h4, fun a => by simp⟩
    · rw [List.getElem?_set_ne (Ne.symm e)] at hB
      simp only [e, if_false]
      rw [h1]
      exact B.mono h2 (g1 j B hB)
  · by_cases e : j = i
    · simp only [e, if_true] at q
    · by_cases e2 : k = i
      · simp only [e2, if_true] at r
      · simp only [e, if_false] at q
        simp only [e2, if_false] at r
        exact g2 _ _ _ q r
  · by_cases e : j = i
    · simp only [e, if_true] at q
    · simp only [e, if_false] at q
      obtain ⟨z1, z2, z3⟩ := g3 j a q
      have ne : a ≠ p := fun z => e (g2 _ _ _ q (z ▸ hp))
      exact ⟨by rw [h3 a ne]; exact z1, z2, by rw [List.length_set]; exact z3⟩
structure Ro (K : PySem.W.Frag) (P0 : Addr → Prop) (s0 : S) (R : List OA) : Prop where
  o : ∀ (i : Nat) (A : OA), R[i]? = some A → ∃ P, A.p K s0.F s0.H P ∧ ∀ a, P a → ¬ P0 a
theorem OA.stay {A : OA} {P : Addr → Prop} (h : A.p K s.F s.H P) (m : Mz P0 s t) (n : ∀ a, P a → ¬ P0 a) : A.p K t.F t.H P :=
  A.mono m.f (A.loc (fun a q => by
    obtain ⟨o, ho⟩ := A.dom h q
    rw [ho]; exact m.h _ _ ho (n a q)) h)
theorem Iv.ro (h : Iv K P0 s0 s L) {R : List OA} (r : Ro K P0 s0 R) (i : Nat) {A : OA} (e : R[i]? = some A := by rfl) : ∃ P, A.p K s.F s.H P := by
  obtain ⟨P, h1, h2⟩ := r.o i A e
  exact ⟨P, OA.stay h1 h.m h2⟩
def rem (L : List OA) (ks : List Nat) : List OA := L.mapIdx fun i A => if i ∈ ks then top else A
def rsel (L R0 : List OA) (rs : List (Nat ⊕ Nat)) : List OA := rs.map fun z => match z with | .inl i => L.getD i top | .inr j => R0.getD j top
theorem call_in (h : Iv K P0 s0 s L) {R0 : List OA} (ro : Ro K P0 s0 R0) (ks : List Nat) (hn : ks.Nodup) (hk : ∀ k ∈ ks, k < L.length) (Lf : List OA) (hf : ∀ A ∈ Lf, A.p K s.F s.H (fun _ => False)) (rs : List (Nat ⊕ Nat)) (hrs : ∀ i, Sum.inl i ∈ rs → i ∉ ks) :
    ∃ P1, Iv K P1 s s (ks.map (fun k => L.getD k top) ++ Lf) ∧ Ro K P1 s (rsel L R0 rs) ∧ (ks = [] → ∀ a, ¬ P1 a) ∧ ∀ s' L', Iv K P1 s s' L' → Iv K P0 s0 s' (rem L ks ++ L') := by
  obtain ⟨φ, h1, h2, h3⟩ := h.o
  refine ⟨fun a => ∃ k ∈ ks, φ k a, ⟨(Ex.refl s).z, fun i a => ∃ k, ks[i]? = some k ∧ φ k a, fun i A hA => ?_, fun i j a ⟨k, e1, q1⟩ ⟨l, e2, q2⟩ => ?_, fun i a ⟨k, e1, q1⟩ => ?_⟩, ⟨fun i A hA => ?_⟩, fun e a w => (by obtain ⟨k, hk, _⟩ := w; rw [e] at hk; cases hk), fun s' L' iv => ?_⟩
  · by_cases hi : i < ks.length
    · rw [List.getElem?_append_left (by rw [List.length_map]; exact hi), List.getElem?_map, List.getElem?_eq_getElem hi, Option.map_some] at hA
      have hA := Option.some.inj hA
      have hkl := hk ks[i] (List.getElem_mem hi)
      rw [List.getD_eq_getElem?_getD, List.getElem?_eq_getElem hkl, Option.getD_some] at hA
      have eφ : (fun a => ∃ k, ks[i]? = some k ∧ φ k a) = φ ks[i] := by
        funext a
        apply propext
        rw [List.getElem?_eq_getElem hi]
        exact ⟨fun ⟨k, e, q⟩ => by cases e; exact q, fun q => ⟨_, rfl, q⟩⟩
      show A.p K s.F s.H (fun a => ∃ k, ks[i]? = some k ∧ φ k a)
      rw [eφ, ← hA]
      exact h1 _ _ (List.getElem?_eq_getElem hkl)
    · rw [List.getElem?_append_right (by rw [List.length_map]; omega)] at hA
      have eφ : (fun a => ∃ k, ks[i]? = some k ∧ φ k a) = fun _ => False := by
        funext a
        apply propext
        rw [List.getElem?_eq_none (by omega)]
        exact ⟨fun w => (by obtain ⟨k, e, _⟩ := w; cases e), fun z => z.elim⟩
      show A.p K s.F s.H (fun a => ∃ k, ks[i]? = some k ∧ φ k a)
      rw [eφ]
      exact hf A (List.mem_of_getElem? hA)
  · obtain ⟨hi, ei⟩ := List.getElem?_eq_some_iff.mp e1
    obtain ⟨hj, ej⟩ := List.getElem?_eq_some_iff.mp e2
    have e := h2 _ _ _ q1 q2
    rw [← ei, ← ej] at e
    exact (List.getElem_inj hn).mp e
  · exact ⟨(h3 k a q1).1, .inl ⟨k, List.mem_of_getElem? e1, q1⟩, by rw [List.length_append, List.length_map]; have := (List.getElem?_eq_some_iff.mp e1).1; omega⟩
  · unfold rsel at hA
    rw [List.getElem?_map] at hA
    obtain ⟨z, e1, e2⟩ := Option.map_eq_some_iff.mp hA
    have hz := List.mem_of_getElem? e1
    have tp : top.p K s.F s.H (fun _ => False) := fun _ z => z
    cases z with
    | inl i =>
      by_cases hi : i < L.length
      · have e3 : L[i]? = some A := by
          rw [List.getElem?_eq_getElem hi]
          simp only [List.getD_eq_getElem?_getD, List.getElem?_eq_getElem hi, Option.getD_some] at e2
          rw [e2]
        exact ⟨φ i, h1 i A e3, fun a q ⟨k, hk, q2⟩ => hrs i hz (h2 _ _ _ q q2 ▸ hk)⟩
      · simp only [List.getD_eq_getElem?_getD, List.getElem?_eq_none (Nat.le_of_not_lt hi), Option.getD_none] at e2
        rw [← e2]
        exact ⟨_, tp, fun _ z => z.elim⟩
    | inr j =>
      by_cases hj : j < R0.length
      · have e3 : R0[j]? = some A := by
          rw [List.getElem?_eq_getElem hj]
          simp only [List.getD_eq_getElem?_getD, List.getElem?_eq_getElem hj, Option.getD_some] at e2
          rw [e2]
        obtain ⟨P, g1, g2⟩ := ro.o j A e3
        refine ⟨P, OA.stay g1 h.m g2, fun a q ⟨k, hk, q2⟩ => ?_⟩
        rcases (h3 k a q2).2.1 with w | w
        · exact g2 a q w
        · obtain ⟨o, ho⟩ := A.dom g1 q
          rw [w] at ho; cases ho
      · simp only [List.getD_eq_getElem?_getD, List.getElem?_eq_none (Nat.le_of_not_lt hj), Option.getD_none] at e2
        rw [← e2]
        exact ⟨_, tp, fun _ z => z.elim⟩
  · obtain ⟨φ', g1, g2, g3⟩ := iv.o
    have hP : ∀ a o, s0.H a = some o → ¬ P0 a → ¬ ∃ k ∈ ks, φ k a := fun a o q np ⟨k, _, q2⟩ => by
      rcases (h3 k a q2).2.1 with w | w
      · exact np w
      · rw [w] at q; cases q
    have hlen : (rem L ks).length = L.length := by unfold rem; rw [List.length_mapIdx]
    refine ⟨⟨h.m.f.trans iv.m.f, fun a o q n => iv.m.h a o (h.m.h a o q n) (hP a o q n), fun a o q np n => ?_, fun a o q => ?_⟩, fun i a => if i < L.length then (i ∉ ks ∧ φ i a) else φ' (i - L.length) a, fun i A hA => ?_, fun i j a q r => ?_, fun i a q => ?_⟩
    · obtain ⟨u, hu⟩ := h.m.d a o q
      exact iv.m.n a u hu (hP a o q np) (h.m.n a o q np n)
    · obtain ⟨u, hu⟩ := h.m.d a o q
      exact iv.m.d a u hu
    · by_cases hi : i < L.length
      · rw [List.getElem?_append_left (by omega)] at hA
        unfold rem at hA
        rw [List.getElem?_mapIdx, List.getElem?_eq_getElem hi, Option.map_some] at hA
        have hA := Option.some.inj hA
        simp only [hi, if_true]
        by_cases hik : i ∈ ks
        · rw [if_pos hik] at hA
          rw [← hA]
          exact fun a ⟨z, _⟩ => z hik
        · rw [if_neg hik] at hA
          show A.p K s'.F s'.H (fun a => i ∉ ks ∧ φ i a)
          have eφ : (fun a => i ∉ ks ∧ φ i a) = φ i := by
            funext a
            apply propext
            exact ⟨fun z => z.2, fun z => ⟨hik, z⟩⟩
          rw [eφ, ← hA]
          exact OA.stay (h1 i _ (List.getElem?_eq_getElem hi)) iv.m fun a q ⟨k, hk, q2⟩ => hik (h2 _ _ _ q q2 ▸ hk)
      · rw [List.getElem?_append_right (by omega), hlen] at hA
        simp only [hi, if_false]
        exact g1 _ A hA
    · have apart : ∀ i j a, i < L.length → i ∉ ks → φ i a → φ' j a → False := fun i j a hi hik q r => by
        rcases (g3 j a r).2.1 with ⟨k, hk, q2⟩ | w
        · exact hik (h2 _ _ _ q q2 ▸ hk)
        · obtain ⟨o, ho⟩ := (L[i]).dom (h1 i _ (List.getElem?_eq_getElem hi)) q
          rw [w] at ho; cases ho
      by_cases hi : i < L.length <;> by_cases hj : j < L.length
      · simp only [hi, if_true] at q
        simp only [hj, if_true] at r
        exact h2 _ _ _ q.2 r.2
      · simp only [hi, if_true] at q
        simp only [hj, if_false] at r
        exact (apart _ _ _ hi q.1 q.2 r).elim
      · simp only [hi, if_false] at q
        simp only [hj, if_true] at r
        exact (apart _ _ _ hj r.1 r.2 q).elim
      · simp only [hi, if_false] at q
        simp only [hj, if_false] at r
        have := g2 _ _ _ q r
        omega
    · rw [List.length_append, hlen]
      by_cases hi : i < L.length
      · simp only [hi, if_true] at q
        obtain ⟨z1, z2, z3⟩ := h3 i a q.2
        obtain ⟨o, ho⟩ := (L[i]).dom (h1 i _ (List.getElem?_eq_getElem hi)) q.2
        exact ⟨iv.m.n a o ho (fun ⟨k, hk, q2⟩ => q.1 (h2 _ _ _ q.2 q2 ▸ hk)) z1, z2, by omega⟩
      · simp only [hi, if_false] at q
        obtain ⟨z1, z2, z3⟩ := g3 _ a q
        refine ⟨z1, ?_, by omega⟩
        rcases z2 with ⟨k, hk, q2⟩ | w
        · exact (h3 k a q2).2.1
        · exact .inr (h.m.fr_back w)
theorem Iv.fresh (h : Iv K (fun _ => False) s0 s L) (i : Nat) {p : Addr} {xs : List α} (e : L[i]? = some (Dy.ol p xs) := by rfl) : s0.H p = none := by
  obtain ⟨φ, h1, h2, h3⟩ := h.o
  obtain ⟨q, vs, hp, r⟩ := h1 i _ e
  rcases (h3 i p ((q p).mpr rfl)).2.1 with w | w
  · exact w.elim
  · exact w
theorem do_frzI {X : Cx} {σ : L2.St} {D : Ends} {ss : List Stmt} (h : Iv X.K P0 s0 s L) (i : Nat) {p : Addr} {xs : List α} (hA : L[i]? = some (Dy.ol p xs)) (k : ∀ s', Fle s.F s'.F → Iv X.K P0 s0 s' (L.set i (Dy.fz (.ref p) xs)) → WSs X ss D σ s'.H) : WSs X ss D σ s.H := by
  obtain ⟨s', h1, h2, h3⟩ := h.frz i hA
  rw [← h1]
  exact k s' h2 h3
end
end Dy

namespace Dy
open PySem PySem.Spec L2
open PyProof.Rows hiding St
open Enc (rep)
open Flat (toV)
open EncA (repA)

section
variable {κ τ : Type} [DecidableEq κ]
def dval (xs : List (κ × τ)) (k : κ) : Option τ := (xs.find? fun z => decide (z.1 = k)).map (·.2)
def dput (xs : List (κ × τ)) (k : κ) (y : τ) : List (κ × τ) := if (xs.any fun z => decide (z.1 = k)) = true then xs.map fun z => if z.1 = k then (z.1, y) else z else xs ++ [(k, y)]
def ddrop (xs : List (κ × τ)) (k : κ) : List (κ × τ) := xs.filter fun z => decide (z.1 ≠ k)
end
section
variable {κ α : Type} [DKey κ] [DecidableEq κ] [Enc α] {K : PySem.W.Frag} {F F' : Hp}
theorem toK_dec (a b : κ) : decide (DKey.toK a = DKey.toK b) = decide (a = b) := decide_eq_decide.mpr (DKey.kinj a b)
theorem KReps.val {k : κ} : ∀ {kv : List (Key × V)} {xs : List (κ × α)}, KReps K F kv xs → match dval xs k with
    | none => valV kv (DKey.toK k) = none
    | some x => ∃ v, valV kv (DKey.toK k) = some v ∧ rep K F v x
  | [], [], _ => rfl
  | (j, v) :: r, (i, x) :: xs, ⟨e, h, t⟩ => by
    subst e
    unfold dval valV
    rw [List.find?_cons, List.find?_cons]
    dsimp only
    rw [toK_dec i k]
    cases decide (i = k) with
    | true => exact ⟨v, rfl, h⟩
    | false => exact KReps.val (k := k) t
  | [], _ :: _, h => h.elim
  | _ :: _, [], h => h.elim
theorem KReps.any {k : κ} : ∀ {kv : List (Key × V)} {xs : List (κ × α)}, KReps K F kv xs → (kv.any fun z => decide (z.1 = DKey.toK k)) = xs.any fun z => decide (z.1 = k)
  | [], [], _ => rfl
  | (j, v) :: r, (i, x) :: xs, ⟨e, h, t⟩ => by
    subst e
    rw [List.any_cons, List.any_cons, KReps.any (k := k) t, toK_dec i k]
  | [], _ :: _, h => h.elim
  | _ :: _, [], h => h.elim
theorem KReps.app : ∀ {kv kw : List (Key × V)} {xs ys : List (κ × α)}, KReps K F kv xs → KReps K F kw ys → KReps K F (kv ++ kw) (xs ++ ys)
  | [], _, [], _, _, h => h
  | _ :: _, _, _ :: _, _, ⟨e, h, t⟩, w => ⟨e, h, KReps.app t w⟩
  | [], _, _ :: _, _, h, _ => h.elim
  | _ :: _, _, [], _, h, _ => h.elim
theorem KReps.repl {k : κ} {v : V} {y : α} (r : rep K F v y) : ∀ {kv : List (Key × V)} {xs : List (κ × α)}, KReps K F kv xs → KReps K F (kv.map fun z => if z.1 = DKey.toK k then (z.1, v) else z) (xs.map fun z => if z.1 = k then (z.1, y) else z)
  | [], [], _ => trivial
  | (j, u) :: kv, (i, x) :: xs, ⟨e, h, t⟩ => by
    subst e
    rw [List.map_cons, List.map_cons]
    dsimp only
    by_cases hh : i = k
    · rw [if_pos hh, if_pos (by rw [hh])]
      exact ⟨rfl, r, KReps.repl r t⟩
    · rw [if_neg hh, if_neg (fun z => hh ((DKey.kinj i k).mp z))]
      exact ⟨rfl, h, KReps.repl r t⟩
  | [], _ :: _, h => h.elim
  | _ :: _, [], h => h.elim
theorem KReps.put {k : κ} {v : V} {y : α} {kv : List (Key × V)} {xs : List (κ × α)} (h : KReps K F kv xs) (r : rep K F v y) : KReps K F (putK kv (DKey.toK k) v) (dput xs k y) := by
  unfold putK dput
  rw [h.any (k := k)]
  split
  · exact h.repl r
  · exact h.app ⟨rfl, r, trivial⟩
theorem KReps.drop {k : κ} : ∀ {kv : List (Key × V)} {xs : List (κ × α)}, KReps K F kv xs → KReps K F (dropK kv (DKey.toK k)) (ddrop xs k)
  | [], [], _ => trivial
  | (j, v) :: r, (i, x) :: xs, ⟨e, h, t⟩ => by
    subst e
    unfold dropK ddrop
    rw [List.filter_cons, List.filter_cons]
    dsimp only
    by_cases hh : i = k
    · rw [if_neg (by simp [hh]), if_neg (by simp [hh])]
      exact KReps.drop t
    · rw [if_pos (by simpa using fun z => hh ((DKey.kinj i k).mp z)), if_pos (by simpa using hh)]
      exact ⟨rfl, h, KReps.drop t⟩
  | [], _ :: _, h => h.elim
  | _ :: _, [], h => h.elim
theorem KReps.get : ∀ {kv : List (Key × V)} {xs : List (κ × α)} {i : Nat} {z : κ × α}, KReps K F kv xs → xs[i]? = some z → ∃ v, kv[i]? = some (DKey.toK z.1, v) ∧ rep K F v z.2
  | [], [], _, _, _, e => by simp at e
  | (j, v) :: _, (i, x) :: _, 0, z, ⟨e, h, _⟩, e2 => by
    have : (i, x) = z := Option.some.inj e2
    subst this
    exact ⟨v, by rw [e]; rfl, h⟩
  | _ :: kv, _ :: xs, i + 1, z, ⟨_, _, t⟩, e => by
    obtain ⟨v, h1, h2⟩ := KReps.get (i := i) t (by simpa using e)
    exact ⟨v, by simpa using h1, h2⟩
  | [], _ :: _, _, _, h, _ => h.elim
  | _ :: _, [], _, _, h, _ => h.elim
theorem KReps.keys : ∀ {kv : List (Key × V)} {xs : List (κ × α)}, KReps K F kv xs → Reps K F (kv.map fun z => kV z.1) (xs.map (·.1))
  | [], [], _ => trivial
  | (j, v) :: _, (i, x) :: _, ⟨e, _, t⟩ => by
    subst e
    exact ⟨Flat.iff.mpr (DKey.kv i), KReps.keys t⟩
  | [], _ :: _, h => h.elim
  | _ :: _, [], h => h.elim
end
def RepD {κ α : Type} [DKey κ] [Enc α] (K : PySem.W.Frag) (s : S) (p : Addr) (xs : List (κ × α)) : Prop := ∃ kv, Rd s.H p (.dK kv) ∧ KReps K s.F kv xs
def OwnD {κ α : Type} [DKey κ] [Enc α] (K : PySem.W.Frag) (s : S) (p : Addr) (xs : List (κ × α)) : Prop := s.F p = none ∧ ∃ kv, s.H p = some (.dK kv) ∧ KReps K s.F kv xs
def CellAt (s : S) (K : PySem.W.Frag) (p : Addr) (c : Str) (fs : List (Str × V)) : Prop := ∃ dx, s.H p = some (.ins (He.ga K c) dx fs)
section
variable {α β κ : Type} [Enc α] [Enc β] [DKey κ] {K : PySem.W.Frag} {P0 : Addr → Prop} {s0 s s1 t : S} {L M R : List OA}
theorem Rd.ex {p : Addr} {u : HO} (h : Rd s.H p u) (e : Ex s t) : Rd t.H p u := h.elim (fun z => .inl (e.h _ _ z)) fun ⟨o, z⟩ => .inr ⟨o, e.h _ _ z⟩
theorem RepD.ex {p : Addr} {xs : List (κ × α)} (h : RepD K s p xs) (e : Ex s t) : RepD K t p xs := by
  obtain ⟨kv, h1, h2⟩ := h
  exact ⟨kv, Rd.ex h1 e, h2.mono e.f⟩
theorem OwnD.r {p : Addr} {xs : List (κ × α)} (h : OwnD K s p xs) : RepD K s p xs := by
  obtain ⟨_, kv, h1, h2⟩ := h
  exact ⟨kv, .inl h1, h2⟩
theorem CellAt.ex {p : Addr} {c : Str} {fs : List (Str × V)} (h : CellAt s K p c fs) (e : Ex s t) : CellAt t K p c fs := by
  obtain ⟨dx, h1⟩ := h
  exact ⟨dx, e.h _ _ h1⟩
theorem OwnD.ex {p : Addr} {xs : List (κ × α)} (h : OwnD K s p xs) (e : Ex s t) : OwnD K t p xs := by
  obtain ⟨h0, kv, h1, h2⟩ := h
  exact ⟨e.n _ _ h1 h0, kv, e.h _ _ h1, h2.mono e.f⟩
theorem Iv.od (h : Iv K P0 s0 s L) (i : Nat) {p : Addr} {xs : List (κ × α)} (e : L[i]? = some (Dy.od p xs) := by rfl) : OwnD K s p xs := by
  obtain ⟨P, ⟨h0, kv, h1, h2⟩, h3⟩ := h.at i e
  exact ⟨h3 p ((h0 p).mpr rfl), kv, h1, h2⟩
theorem Iv.odl (h : Iv K P0 s0 s L) (i : Nat) {p : Addr} {o : Obj} {kv : List (Key × V)} {xs : List (κ × α)} (e : L[i]? = some (Dy.odl p o kv xs) := by rfl) : s.F p = none ∧ s.H p = some (.frz o (.dK kv)) ∧ KReps K s.F kv xs := by
  obtain ⟨P, ⟨h0, h1, h2⟩, h3⟩ := h.at i e
  exact ⟨h3 p ((h0 p).mpr rfl), h1, h2⟩
theorem Iv.odr (h : Iv K P0 s0 s L) (i : Nat) {p : Addr} {o : Obj} {kv : List (Key × V)} {xs : List (κ × α)} (e : L[i]? = some (Dy.odl p o kv xs) := by rfl) : RepD K s p xs := ⟨kv, .inr ⟨o, (h.odl i e).2.1⟩, (h.odl i e).2.2⟩
theorem Iv.cell (h : Iv K P0 s0 s L) (i : Nat) {p : Addr} {c : Str} {fs : List (Str × V)} (e : L[i]? = some (Dy.cell p c fs) := by rfl) : CellAt s K p c fs := by
  obtain ⟨P, ⟨dx, h0, h1, h2⟩, h3⟩ := h.at i e
  exact ⟨dx, h1⟩
theorem Iv.rol (h : Iv K P0 s0 s L) (r : Ro K P0 s0 R) (i : Nat) {p : Addr} {xs : List α} (e : R[i]? = some (Dy.ol p xs) := by rfl) : RepR K s (.ref p) xs := by
  obtain ⟨P, h0, vs, h1, h2⟩ := h.ro r i e
  exact ⟨p, vs, rfl, .inl (.inl h1), h2⟩
theorem Iv.rod (h : Iv K P0 s0 s L) (r : Ro K P0 s0 R) (i : Nat) {p : Addr} {xs : List (κ × α)} (e : R[i]? = some (Dy.od p xs) := by rfl) : RepD K s p xs := by
  obtain ⟨P, h0, kv, h1, h2⟩ := h.ro r i e
  exact ⟨kv, .inl h1, h2⟩
theorem Iv.rcell (h : Iv K P0 s0 s L) (r : Ro K P0 s0 R) (i : Nat) {p : Addr} {c : Str} {fs : List (Str × V)} (e : R[i]? = some (Dy.cell p c fs) := by rfl) : CellAt s K p c fs := by
  obtain ⟨P, dx, h0, h1, h2⟩ := h.ro r i e
  exact ⟨dx, h1⟩
theorem Iv.rfz (h : Iv K P0 s0 s L) (r : Ro K P0 s0 R) (i : Nat) {v : V} {x : α} (e : R[i]? = some (Dy.fz v x) := by rfl) : rep K s.F v x := by
  obtain ⟨P, h0, h1⟩ := h.ro r i e
  exact h0
theorem Iv.sd (h : Iv K P0 s0 s L) (i : Nat) {p : Addr} {xs ys : List (κ × α)} (e : Ex s s1) (n : s.H p = none) (o : OwnD K s1 p xs) (q : ys = xs) : Iv K P0 s0 s1 (L.set i (Dy.od p ys)) := by
  subst q
  obtain ⟨o1, vs, o2, o3⟩ := o
  exact h.put i e ⟨fun a => a = p, ⟨fun _ => Iff.rfl, vs, o2, o3⟩, fun a z => by rw [z]; exact ⟨o1, n⟩⟩
theorem Iv.md (h : Iv K P0 s0 s L) (i : Nat) {p : Addr} {xs : List (κ × α)} {ys zs : List (κ × β)} (m : Mx (· = p) s s1) (o : OwnD K s1 p ys) (q : zs = ys) (hA : L[i]? = some (Dy.od p xs) := by rfl) : Iv K P0 s0 s1 (L.set i (Dy.od p zs)) := by
  subst q
  obtain ⟨o1, vs, o2, o3⟩ := o
  refine h.upd i hA fun P hP _ => ⟨P, ?_, ?_, ?_⟩
  · exact ⟨hP.1, vs, o2, o3⟩
  · intro a z
    rw [(hP.1 a).mp z]
    exact ⟨o1, .inl ((hP.1 p).mpr rfl)⟩
  · exact ⟨m.f, fun a o q n => m.h a o q fun z => n ((hP.1 a).mpr z), fun a o q _ z => m.n a o q z, m.d⟩
def lockS (s : S) (p : Addr) (u : HO) (h : s.F p = none) : S := s.put p u h
theorem Iv.lock (h : Iv K P0 s0 s L) (i : Nat) {p : Addr} {kv : List (Key × V)} {xs : List (κ × α)} (o : Obj) (hA : L[i]? = some (Dy.od p xs)) (hf : s.F p = none) (h1 : s.H p = some (.dK kv)) (h2 : KReps K s.F kv xs) : Iv K P0 s0 (s.put p (.frz o (.dK kv)) hf) (L.set i (Dy.odl p o kv xs)) :=
  h.upd i hA fun P hP _ => ⟨P, ⟨hP.1, upd_same, h2⟩, fun a z => by rw [(hP.1 a).mp z]; exact ⟨hf, .inl ((hP.1 p).mpr rfl)⟩, by
    have m : Mx (· = p) s (s.put p (.frz o (.dK kv)) hf) := Mx.put hf
    exact ⟨m.f, fun a o q n => m.h a o q fun z => n ((hP.1 a).mpr z), fun a o q _ z => m.n a o q z, m.d⟩⟩
theorem Iv.unlock (h : Iv K P0 s0 s L) (i : Nat) {p : Addr} {o : Obj} {kv : List (Key × V)} {xs : List (κ × α)} (hA : L[i]? = some (Dy.odl p o kv xs)) : ∃ s' : S, s'.H = L2.upd s.H p (.dK kv) ∧ s'.F = s.F ∧ Iv K P0 s0 s' (L.set i (Dy.od p xs)) := by
  obtain ⟨hf, h1, h2⟩ := h.odl i hA
  refine ⟨s.put p (.dK kv) hf, rfl, rfl, h.upd i hA fun P hP _ => ⟨P, ⟨hP.1, kv, upd_same, h2⟩, fun a z => by rw [(hP.1 a).mp z]; exact ⟨hf, .inl ((hP.1 p).mpr rfl)⟩, ?_⟩⟩
  have m : Mx (· = p) s (s.put p (.dK kv) hf) := Mx.put hf
  exact ⟨m.f, fun a o q n => m.h a o q fun z => n ((hP.1 a).mpr z), fun a o q _ z => m.n a o q z, m.d⟩
end
section
variable {α β γ κ : Type} [Enc α] [Enc β] [Enc γ] [DKey κ] [DecidableEq κ] {X : Cx} {σ : L2.St} {P0 : Addr → Prop} {s0 s t : S} {L : List OA} {e a b c o i : Expr} {es : List Expr} {pos p0 p1 p2 p3 : Pos} {D : Ends} {rest : List Stmt} {n : Str} {p : Addr}
theorem ev_raw {v : V} {x : α} (h : Ev X e σ s (Rw.mk v)) (r : rep X.K s.F v x) : Ev X e σ s x := fun s1 k Q q => h s1 k Q fun u s2 k2 e1 => by
  cases (show u = v from e1)
  exact q v s2 k2 (Enc.mono (k.trans k2).f r)
theorem er_raw {p : Addr} {xs : List α} (h : Ev X e σ s (Rw.mk (.ref p))) (r : RepR X.K s (.ref p) xs) : EvR X e σ s xs := fun s1 k Q q => h s1 k Q fun u s2 k2 e1 => by
  cases (show u = V.ref p from e1)
  exact q _ s2 k2 (r.ex (k.trans k2))
theorem raw_var (i : Nat) {v : V} (h : σ[i]? = some (some v)) (hN : X.N[i]? = some n := by rfl) (hv : Vis X.env.scope n := by first | exact Or.inl rfl | exact Or.inr (Or.inl rfl) | exact Or.inr (Or.inr rfl)) (hd : (n == ("__debug__" : Str)) = false := by decide)
    (hcd : (n == ("__classdict__" : Str)) = false := by decide) : Ev X (.Name n pos) σ s (Rw.mk v) := ev_var i h (show rep _ _ v (Rw.mk v) from rfl) hN hv hd hcd
theorem raw_fld {f c : Str} {v : V} {fs : List (Str × V)} (h : Ev X e σ s (Rw.mk (.ref p))) (r : CellAt s X.K p c fs) (hl : fs.lookup f = some v) (hc : Cls X.K (He.ga X.K c)) (hn : NoAttr X.K (He.ga X.K c) f) (hb : attributeBase e f X.env (eval e X.env) = eval e X.env := by rfl) : Ev X (.Attribute e f pos) σ s (Rw.mk v) := fun s1 k Q q =>
  we_of (pe_fld pe_we hb) (h s1 k _ fun u s2 k2 e1 => by
    cases (show u = V.ref p from e1)
    obtain ⟨dx, h1⟩ := r.ex (k.trans k2)
    exact ⟨p, _, dx, fs, v, rfl, h1, hc, hn, hl, q v s2 k2 rfl⟩)
theorem hu1 {j : Nat} (hr : Room j X.A) : X.A.units + 1 < cLine := by have := hu64 hr; omega
theorem dget_of {K : PySem.W.Frag} {k : κ} {xs : List (κ × α)} {w : V} (r : RepD K s p xs) (hw : w = toV k) : ∃ o, DGet s.H p w o ∧ match dval xs k with | none => o = none | some x => ∃ v, o = some v ∧ rep K s.F v x := by
  obtain ⟨kv, h1, h2⟩ := r
  refine ⟨valV kv (DKey.toK k), .inl ⟨kv, DKey.toK k, h1, by rw [hw, DKey.kv], rfl⟩, ?_⟩
  have := h2.val (k := k)
  cases hd : dval xs k with
  | none => rw [hd] at this; exact this
  | some x => rw [hd] at this; exact this
theorem ev_dget {j : Nat} {k : κ} {xs : List (κ × α)} {x : α} (hr : Room j X.A) (ho : Ev X o σ s (Rw.mk (.ref p))) (r : RepD X.K s p xs) (hi : Ev X i σ s k) (h : dval xs k = some x) (hs : NoSl i := by intro _ _; rfl) : Ev X (.Subscript o i pos) σ s x := fun s1 k1 Q q =>
  we_of (pe_dget (hu1 hr) pe_we pe_we hs) (ho s1 k1 _ fun v s2 k2 e2 => hi s2 (k1.trans k2) _ fun u s3 k3 e3 => by
    cases (show v = V.ref p from e2)
    obtain ⟨o', g1, g2⟩ := dget_of (r.ex ((k1.trans k2).trans k3)) (Flat.iff.mp e3)
    rw [h] at g2
    obtain ⟨w, rfl, g3⟩ := g2
    exact ⟨p, w, rfl, g1, q w s3 (k2.trans k3) g3⟩)
theorem dval_some {xs : List (κ × α)} {k : κ} {o : Option V} {K : PySem.W.Frag} {F : Hp} (g : match dval xs k with | none => o = none | some x => ∃ v, o = some v ∧ rep K F v x) : o.isSome = (dval xs k).isSome := by
  cases hd : dval xs k with
  | none => rw [hd] at g; rw [g]; rfl
  | some x => rw [hd] at g; obtain ⟨v, rfl, _⟩ := g; rfl
theorem ev_din {j : Nat} {k : κ} {xs : List (κ × α)} (hr : Room j X.A) (hi : Ev X i σ s k) (ho : Ev X o σ s (Rw.mk (.ref p))) (r : RepD X.K s p xs) (h1 : behindInMarks .In o = false := by rfl) : EvB X (.Compare i [.In] [o] pos) σ s (dval xs k).isSome :=
  ⟨fun s1 k1 Q q => we_of (pe_cmp (pc_din (hu1 hr) pe_we pe_we) h1) (hi s1 k1 _ fun u s2 k2 e2 => ho s2 (k1.trans k2) _ fun v s3 k3 e3 => by
    cases (show v = V.ref p from e3)
    obtain ⟨o', g1, g2⟩ := dget_of (r.ex ((k1.trans k2).trans k3)) ((Flat.iff.mp (e2 : rep _ _ u k)))
    exact ⟨p, o', rfl, g1, by rw [dval_some g2]; exact q _ s3 (k2.trans k3) rfl⟩),
   fun s1 k1 Q q => wt_of (pt_cmp (pc_din (hu1 hr) pe_we pe_we) h1) (hi s1 k1 _ fun u s2 k2 e2 => ho s2 (k1.trans k2) _ fun v s3 k3 e3 => by
    cases (show v = V.ref p from e3)
    obtain ⟨o', g1, g2⟩ := dget_of (r.ex ((k1.trans k2).trans k3)) ((Flat.iff.mp (e2 : rep _ _ u k)))
    exact ⟨p, o', rfl, g1, _, by rw [dval_some g2], q s3 (k2.trans k3)⟩)⟩
theorem ev_dnotIn {j : Nat} {k : κ} {xs : List (κ × α)} (hr : Room j X.A) (hi : Ev X i σ s k) (ho : Ev X o σ s (Rw.mk (.ref p))) (r : RepD X.K s p xs) (h1 : behindInMarks .NotIn o = false := by rfl) : EvB X (.Compare i [.NotIn] [o] pos) σ s (!(dval xs k).isSome) :=
  ⟨fun s1 k1 Q q => we_of (pe_cmp (pc_dnotin (hu1 hr) pe_we pe_we) h1) (hi s1 k1 _ fun u s2 k2 e2 => ho s2 (k1.trans k2) _ fun v s3 k3 e3 => by
    cases (show v = V.ref p from e3)
    obtain ⟨o', g1, g2⟩ := dget_of (r.ex ((k1.trans k2).trans k3)) ((Flat.iff.mp (e2 : rep _ _ u k)))
    exact ⟨p, o', rfl, g1, by rw [dval_some g2]; exact q _ s3 (k2.trans k3) rfl⟩),
   fun s1 k1 Q q => wt_of (pt_cmp (pc_dnotin (hu1 hr) pe_we pe_we) h1) (hi s1 k1 _ fun u s2 k2 e2 => ho s2 (k1.trans k2) _ fun v s3 k3 e3 => by
    cases (show v = V.ref p from e3)
    obtain ⟨o', g1, g2⟩ := dget_of (r.ex ((k1.trans k2).trans k3)) ((Flat.iff.mp (e2 : rep _ _ u k)))
    exact ⟨p, o', rfl, g1, _, by rw [dval_some g2], q s3 (k2.trans k3)⟩)⟩
theorem ev_dget1 {j : Nat} {k : κ} {xs : List (κ × α)} (hr : Room j X.A) (ho : Ev X o σ s (Rw.mk (.ref p))) (r : RepD X.K s p xs) (hi : Ev X i σ s k) (m : M1 X o "get" p1 i pos := by exact ⟨rfl, rfl, rfl, rfl⟩) : Ev X (.Call (.Attribute o "get" p1) [i] [] pos) σ s (dval xs k) := fun s1 k1 Q q =>
  we_of (pe_dget1 (hu1 hr) pe_we pe_we m) (ho s1 k1 _ fun v s2 k2 e2 => by
    cases (show v = V.ref p from e2)
    refine ⟨p, rfl, ?_, hi s2 (k1.trans k2) _ fun u s3 k3 e3 => ?_⟩
    · obtain ⟨kv, h1, _⟩ := r.ex (k1.trans k2)
      exact .inl ⟨kv, h1⟩
    · obtain ⟨o', g1, g2⟩ := dget_of (r.ex ((k1.trans k2).trans k3)) (Flat.iff.mp e3)
      refine ⟨o', g1, q _ s3 (k2.trans k3) ?_⟩
      cases hd : dval xs k with
      | none => rw [hd] at g2; rw [g2]; rfl
      | some x => rw [hd] at g2; obtain ⟨w, rfl, g3⟩ := g2; exact g3)
theorem ev_dlen {xs : List (κ × α)} (hm : X.mg "len" = none) (ho : Ev X o σ s (Rw.mk (.ref p))) (r : OwnD X.K s p xs) (hg : Gl X "len" := by rfl) (he : starEach [o] X.env = (false, eval o X.env) :: starEach [] X.env := by rfl) (hpl : (backTo pos (starEach [] X.env)).any (·.1) = false := by rfl) : Ev X (.Call (.Name "len" p0) [o] [] pos) σ s (xs.length : Int) := fun s1 k1 Q q =>
  we_of (pe_callB call_lenD hg hm boot_len (pa_cons pe_we pa_nil he) (he := he) (hpl := hpl)) (ho s1 k1 _ fun v s2 k2 e2 => by
    cases (show v = V.ref p from e2)
    obtain ⟨_, kv, h1, h2⟩ := r.ex (k1.trans k2)
    exact ⟨p, kv, rfl, h1, q _ s2 k2 (by rw [h2.len]; rfl)⟩)
theorem en_dlist {xs : List (κ × α)} (hm : X.mg "list" = none) (ho : Ev X o σ s (Rw.mk (.ref p))) (r : OwnD X.K s p xs) (hc : X.calm = true := by rfl) (hg : Gl X "list" := by rfl) (he : starEach [o] X.env = (false, eval o X.env) :: starEach [] X.env := by rfl) (hpl : (backTo pos (starEach [] X.env)).any (·.1) = false := by rfl) : EvN X (.Call (.Name "list" p0) [o] [] pos) σ s (xs.map (·.1)) := fun s1 k1 Q q =>
  we_of (pe_callTy (call_list_dK hc) hg hm (by decide +kernel) (pa_cons pe_we pa_nil he) (he := he) (hpl := hpl)) (ho s1 k1 _ fun v s2 k2 e2 => by
    cases (show v = V.ref p from e2)
    obtain ⟨_, kv, h1, h2⟩ := r.ex (k1.trans k2)
    exact ⟨p, kv, rfl, h1, fun l hl => q l (s2.newO l _ hl) (k2.trans (Ex.newO hl)) (fr_back k2 hl) (own_new hl h2.keys)⟩)
def EvND (X : Cx) (e : Expr) (σ : L2.St) (s : S) (xs : List (κ × α)) : Prop := ∀ s1, Ex s s1 → ∀ Q : VK, (∀ p s2, Ex s1 s2 → s1.H p = none → OwnD X.K s2 p xs → Q (.ref p) s2.H) → WE X e σ s1.H Q
theorem en_dnew : EvND X (.Dict [] [] pos) σ s ([] : List (κ × α)) := fun s1 k1 Q q => we_of pe_dnewK fun p hp => q p (s1.newO p (.dK []) hp) (Ex.newO hp) hp ⟨(fF hp : s1.F p = none), [], upd_same, trivial⟩
theorem do_setD (i : Nat) {xs : List (κ × α)} {n : Str} {py : Pos} (h : EvND X e σ s xs) (k : ∀ p s1, Ex s s1 → s.H p = none → OwnD X.K s1 p xs → WSs X rest D (σ.set i (some (.ref p))) s1.H) (hN : X.N.Nodup) (hx : Loc X.env.scope n := by first | exact Or.inl rfl | exact Or.inr rfl) (hi : X.N[i]? = some n := by rfl)
    (hs : swapsWith e (some (.Name n py)) pos.line X.env = pure false := by rfl) (hf : X.fn n = true ∨ X.env.scope.names.lookup n = some .local := by first | exact .inl rfl | exact .inr rfl) : WSs X (.Assign [.Name n py] e pos :: rest) D σ s.H :=
  do_cons (ps_set hN hi hx pe_we hs hf) (h s (Ex.refl _) _ fun v s1 k1 n1 r => k v s1 k1 n1 r)
theorem do_dput {j : Nat} {k : κ} {xs : List (κ × α)} {y : α} (hr : Room j X.A) (ho : Ev X o σ s (Rw.mk (.ref p))) (r : OwnD X.K s p xs) (hv : Ev X e σ s y) (hi : Ev X i σ s k) (hz : xs.length < sizeLine) (kk : ∀ s1, Mx (· = p) s s1 → OwnD X.K s1 p (dput xs k y) → WSs X rest D σ s1.H)
    (hs : swapsWith e (some (.Subscript o i p1)) pos.line X.env = pure false := by rfl) : WSs X (.Assign [.Subscript o i p1] e pos :: rest) D σ s.H :=
  do_cons (ps_dput (hu1 hr) pe_we pe_we pe_we hs) (hv s (Ex.refl _) _ fun v s1 k1 e1 => ho s1 k1 _ fun u s2 k2 e2 => hi s2 (k1.trans k2) _ fun w s3 k3 e3 => by
    cases (show u = V.ref p from e2)
    have kx := (k1.trans k2).trans k3
    obtain ⟨f0, kv, h1, h2⟩ := r.ex kx
    refine ⟨p, _, rfl, .inl ⟨kv, DKey.toK k, h1, by rw [Flat.iff.mp e3, DKey.kv], by rw [h2.len]; exact hz, rfl⟩, ?_⟩
    exact kk (s3.put p (.dK (putK kv (DKey.toK k) v)) f0) (kx.mx.trans (Mx.put f0)) ⟨f0, _, upd_same, h2.put (Enc.mono (k2.trans k3).f e1)⟩)
theorem do_dpop1 {k : κ} {xs : List (κ × α)} {x : α} (ho : Ev X o σ s (Rw.mk (.ref p))) (r : OwnD X.K s p xs) (hi : Ev X i σ s k) (h : dval xs k = some x) (kk : ∀ s1, Mx (· = p) s s1 → OwnD X.K s1 p (ddrop xs k) → WSs X rest D σ s1.H)
    (m : M1 X o "pop" p1 i p2 := by exact ⟨rfl, rfl, rfl, rfl⟩) (hs : swapsWith (.Call (.Attribute o "pop" p1) [i] [] p2) none pos.line X.env = pure false := by rfl) : WSs X (.Expr (.Call (.Attribute o "pop" p1) [i] [] p2) pos :: rest) D σ s.H :=
  do_cons (ps_expr (pe_dpop1 pe_we pe_we m) hs) (ho s (Ex.refl _) _ fun u s1 k1 e1 => by
    cases (show u = V.ref p from e1)
    refine ⟨p, rfl, ?_, hi s1 k1 _ fun w s2 k2 e2 => ?_⟩
    · obtain ⟨_, kv, h1, _⟩ := r.ex k1
      exact .inl ⟨kv, .inl h1⟩
    · have kx := k1.trans k2
      obtain ⟨f0, kv, h1, h2⟩ := r.ex kx
      have := h2.val (k := k)
      rw [h] at this
      obtain ⟨v, hv, _⟩ := this
      exact ⟨kv, DKey.toK k, v, h1, by rw [Flat.iff.mp e2, DKey.kv], hv, kk (s2.put p (.dK (dropK kv (DKey.toK k))) f0) (kx.mx.trans (Mx.put f0)) ⟨f0, _, upd_same, h2.drop⟩⟩)
theorem ddrop_none {xs : List (κ × α)} {k : κ} (h : dval xs k = none) : ddrop xs k = xs := by
  unfold ddrop
  rw [List.filter_eq_self]
  intro z hz
  unfold dval at h
  rw [Option.map_eq_none_iff, List.find?_eq_none] at h
  have := h z hz
  simpa using this
theorem do_dpop2 {k : κ} {xs : List (κ × α)} {z : β} (ho : Ev X o σ s (Rw.mk (.ref p))) (r : OwnD X.K s p xs) (hi : Ev X i σ s k) (he : Ev X e σ s z) (kk : ∀ s1, Mx (· = p) s s1 → OwnD X.K s1 p (ddrop xs k) → WSs X rest D σ s1.H)
    (m : M2 X o "pop" p1 i e p2 := by exact ⟨rfl, rfl, rfl, rfl⟩) (hs : swapsWith (.Call (.Attribute o "pop" p1) [i, e] [] p2) none pos.line X.env = pure false := by rfl) : WSs X (.Expr (.Call (.Attribute o "pop" p1) [i, e] [] p2) pos :: rest) D σ s.H :=
  do_cons (ps_expr (pe_dpop2 pe_we pe_we pe_we m) hs) (ho s (Ex.refl _) _ fun u s1 k1 e1 => by
    cases (show u = V.ref p from e1)
    refine ⟨p, rfl, ?_, hi s1 k1 _ fun w s2 k2 e2 => he s2 (k1.trans k2) _ fun y s3 k3 e3 => ?_⟩
    · obtain ⟨_, kv, h1, _⟩ := r.ex k1
      exact .inl ⟨kv, .inl h1⟩
    · have kx := (k1.trans k2).trans k3
      obtain ⟨f0, kv, h1, h2⟩ := r.ex kx
      have hval := h2.val (k := k)
      refine ⟨kv, DKey.toK k, h1, by rw [Flat.iff.mp (e2 : rep _ _ w k), DKey.kv], fun v hv => ?_, fun hn => ?_⟩
      · exact kk (s3.put p (.dK (dropK kv (DKey.toK k))) f0) (kx.mx.trans (Mx.put f0)) ⟨f0, _, upd_same, h2.drop⟩
      · have hd : dval xs k = none := by
          cases hd : dval xs k with
          | none => rfl
          | some x => rw [hd] at hval; obtain ⟨v, hv, _⟩ := hval; rw [hv] at hn; cases hn
        exact kk s3 kx.mx (by rw [ddrop_none hd]; exact ⟨f0, kv, h1, h2⟩))


end
end Dy

namespace Dy
open PySem PySem.Spec L2
open PyProof.Rows hiding St
open Enc (rep)
open Flat (toV)
open EncA (repA)

section
variable {α β γ κ τ υ ρ : Type} [Enc α] [Enc β] [Enc γ] [Enc τ] [DKey κ] [DecidableEq κ] {X : Cx} {σ : L2.St} {P0 : Addr → Prop} {s0 s t : S} {L : List OA} {e a b c o i tg iter elt : Expr} {ifs : List Expr} {scope : Scope} {own : List (Str × Nat)} {es : List Expr} {pos p0 p1 p2 p3 : Pos} {D : Ends} {rest body : List Stmt} {n : Str} {p : Addr}
structure WalkG (K : PySem.W.Frag) (G : S → Prop) (J : It) (xs : List α) : Prop where
  go : ∀ (i : Nat) (t : S) (x : α), G t → xs[i]? = some x → J.go i t.H ∧ ∀ v H', J.yld i t.H v H' → ∃ t' : S, t'.H = H' ∧ Ex t t' ∧ rep K t'.F v x
  stop : ∀ (i : Nat) (t : S), G t → xs.length ≤ i → J.stop i t.H
def EvIG (X : Cx) (tg e : Expr) (σ : L2.St) (s : S) (G : S → Prop) (xs : List α) : Prop := ∀ s1, Ex s s1 → ∀ R : It → Hp → Prop, (∀ J s2, Ex s1 s2 → WalkG X.K G J xs → R J s2.H) → WI X tg e σ s1.H R
def GL (K : PySem.W.Frag) (p : Addr) (xs : List α) : S → Prop := fun t => RepR K t (.ref p) xs
def GD (K : PySem.W.Frag) (p : Addr) (o : Obj) (kv : List (Key × V)) (xs : List (κ × α)) : S → Prop := fun t => t.H p = some (.frz o (.dK kv)) ∧ KReps K t.F kv xs
theorem GL.ex {K : PySem.W.Frag} {xs : List α} (h : GL K p xs s) (e : Ex s t) : GL K p xs t := RepR.ex h e
theorem GD.ex {K : PySem.W.Frag} {o : Obj} {kv : List (Key × V)} {xs : List (κ × α)} (h : GD K p o kv xs s) (e : Ex s t) : GD K p o kv xs t := ⟨e.h _ _ h.1, h.2.mono e.f⟩
theorem ei_rawL {xs : List α} (h : Ev X e σ s (Rw.mk (.ref p))) (r : RepR X.K s (.ref p) xs) : EvIG X tg e σ s (GL X.K p xs) xs := fun s1 k R q =>
  wi_of (pi_list pe_we) (h s1 k _ fun v s2 k2 e2 => by
    cases (show v = V.ref p from e2)
    have w : WalkG X.K (GL X.K p xs) (Itl X.K p) xs := ⟨fun i t x ⟨a, vs, e, h1, h2⟩ hx => by
      cases e
      obtain ⟨v, h3, h4⟩ := h2.get hx
      refine ⟨⟨vs, v, h1, h3⟩, fun w H' ⟨e1, hy⟩ => ⟨t, e1.symm, Ex.refl _, ?_⟩⟩
      have := hy vs h1
      rw [h3] at this
      cases this
      exact h4, fun i t ⟨a, vs, e, h1, h2⟩ hi => by
      cases e
      exact ⟨vs, h1, by rw [h2.len]; exact hi⟩⟩
    obtain ⟨a, vs, e, h1, h2⟩ := r.ex (k.trans k2)
    cases e
    exact ⟨p, rfl, ⟨vs, h1⟩, q _ s2 k2 w⟩)
theorem ei_keys {ob : Obj} {kv : List (Key × V)} {xs : List (κ × α)} (h : Ev X e σ s (Rw.mk (.ref p))) (r : GD X.K p ob kv xs s) : EvIG X tg e σ s (GD X.K p ob kv xs) (xs.map (·.1)) := fun s1 k R q =>
  wi_of (pi_keys pe_we) (h s1 k _ fun v s2 k2 e2 => by
    cases (show v = V.ref p from e2)
    exact ⟨p, ob, rfl, .inl ⟨kv, (GD.ex r (k.trans k2)).1, q _ s2 k2 ⟨fun i t x g hx => by
      rw [List.getElem?_map] at hx
      obtain ⟨z, h1, h2⟩ := Option.map_eq_some_iff.mp hx
      obtain ⟨w, h3, h4⟩ := g.2.get h1
      refine ⟨⟨g.1, (List.getElem?_eq_some_iff.mp h3).1⟩, fun y H' ⟨e1, k', v', h5, h6⟩ => ⟨t, e1.symm, Ex.refl _, ?_⟩⟩
      rw [h3] at h5
      cases h5
      rw [h6, ← h2]
      exact Flat.iff.mpr (DKey.kv _), fun i t g hi => ⟨g.1, by rw [g.2.len]; rw [List.length_map] at hi; exact hi⟩⟩⟩⟩)
theorem ei_vals {ob : Obj} {kv : List (Key × V)} {xs : List (κ × α)} (h : Ev X e σ s (Rw.mk (.ref p))) (r : GD X.K p ob kv xs s) (hbase : attributeBase e "values" X.env (eval e X.env) = eval e X.env := by rfl) (hline : (p1.endLine == pos.line) = true := by rfl) : EvIG X tg (.Call (.Attribute e "values" p1) [] [] pos) σ s (GD X.K p ob kv xs) (xs.map (·.2)) := fun s1 k R q =>
  wi_of (pi_values pe_we hbase hline) (h s1 k _ fun v s2 k2 e2 => by
    cases (show v = V.ref p from e2)
    exact ⟨p, ob, kv, rfl, (GD.ex r (k.trans k2)).1, q _ s2 k2 ⟨fun i t x g hx => by
      rw [List.getElem?_map] at hx
      obtain ⟨z, h1, h2⟩ := Option.map_eq_some_iff.mp hx
      obtain ⟨w, h3, h4⟩ := g.2.get h1
      refine ⟨⟨g.1, (List.getElem?_eq_some_iff.mp h3).1⟩, fun y H' ⟨e1, k', h5⟩ => ⟨t, e1.symm, Ex.refl _, ?_⟩⟩
      rw [h3] at h5
      cases h5
      rw [← h2]
      exact h4, fun i t g hi => ⟨g.1, by rw [g.2.len]; rw [List.length_map] at hi; exact hi⟩⟩⟩)
theorem ei_items {elts : List Expr} {kk : Nat} {tpos : Pos} {ob : Obj} {kv : List (Key × V)} {xs : List (κ × α)} (h : Ev X e σ s (Rw.mk (.ref p))) (r : GD X.K p ob kv xs s) (hbase : attributeBase e "items" X.env (eval e X.env) = eval e X.env := by rfl) (hline : (p1.endLine == pos.line) = true := by rfl) : EvIG X (.Tuple elts kk tpos) (.Call (.Attribute e "items" p1) [] [] pos) σ s (GD X.K p ob kv xs) xs := fun s1 k R q =>
  wi_of (pi_items pe_we hbase hline) (h s1 k _ fun v s2 k2 e2 => by
    cases (show v = V.ref p from e2)
    exact ⟨p, ob, kv, rfl, (GD.ex r (k.trans k2)).1, q _ s2 k2 ⟨fun i t z g h1 => by
      obtain ⟨w, h3, h4⟩ := g.2.get h1
      refine ⟨⟨g.1, (List.getElem?_eq_some_iff.mp h3).1⟩, fun y H' ⟨T, k', v', h5, h6, h7, h8⟩ => ⟨t.newF T (.tup [kV k', v']) h7, h8.symm, Ex.newF h7, ?_⟩⟩
      rw [h3] at h5
      cases h5
      rw [h6]
      exact ⟨T, _, _, rfl, tup_new h7, Flat.iff.mpr (DKey.kv _), Enc.mono (Ex.newF h7).f h4⟩, fun i t g hi => ⟨g.1, by rw [g.2.len]; exact hi⟩⟩⟩)
theorem for_read {xs : List τ} {g : TG} {B : Hp → τ → St → St → Prop} {G : S → Prop} (hi : EvIG X tg iter σ s G xs) (T : Tgt (α := τ) X.K g B)
    (R : Nat → St → S → Prop) (hG : ∀ i σ' t, R i σ' t → G t) (h0 : ∀ s1, Ex s s1 → R 0 σ s1)
    (hb : ∀ (i : Nat) (x : τ) (σ' σ2 : St) (t t' : S), xs[i]? = some x → R i σ' t → Ex t t' → B t'.F x σ' σ2 → WSs X body (LD D fun σ s => R (i + 1) σ s) σ2 t'.H)
    (hd : ∀ σ' t, R xs.length σ' t → D.nx σ' t.H) : tFor (WI X tg iter) g (WSs X body) D σ s.H :=
  hi s (Ex.refl _) _ fun J s1 k1 W => by
    refine ⟨fun i m σ' H' => ∃ t : S, t.H = H' ∧ m = xs.length - i ∧ i ≤ xs.length ∧ R i σ' t, ⟨xs.length, s1, rfl, rfl, Nat.zero_le _, h0 s1 k1⟩, ?_⟩
    rintro i m σ' H' ⟨t, rfl, rfl, hle, r⟩
    by_cases hlt : i < xs.length
    · right
      obtain ⟨g1, g2⟩ := W.go i t xs[i] (hG i σ' t r) (List.getElem?_eq_getElem hlt)
      refine ⟨g1, fun σ' H' => ∃ u : S, u.H = H' ∧ R (i + 1) σ' u, fun σ' H' ⟨u, e1, r1⟩ => ⟨xs.length - (i + 1), by omega, u, e1, rfl, hlt, r1⟩, fun v H' hy => ?_⟩
      obtain ⟨t', rfl, kt, rv⟩ := g2 v H' hy
      refine T.run t' v xs[i] _ _ rv fun σ2 hB => ?_
      exact (hb i xs[i] σ' σ2 t t' (List.getElem?_eq_getElem hlt) r kt hB).imp (fun σ3 H3 ⟨u, e1, r1⟩ => ⟨u, e1, r1⟩) (fun _ _ q => q) (fun _ _ q => q.elim) (fun _ _ q => q.elim)
    · left
      have e : i = xs.length := by omega
      subst e
      exact ⟨W.stop _ t (hG _ σ' t r) (Nat.le_refl _), hd σ' t r⟩
theorem for_readO {xs : List τ} {f : υ → τ → Option υ} {b0 b1 : υ} {g : TG} {B : Hp → τ → St → St → Prop} {G : S → Prop} (hi : EvIG X tg iter σ s G xs) (T : Tgt (α := τ) X.K g B) (hf : foldO f b0 xs = some b1)
    (R : υ → St → S → Prop) (hG : ∀ b σ' t, R b σ' t → G t) (h0 : ∀ s1, Ex s s1 → R b0 σ s1)
    (hb : ∀ (x : τ) (b b' : υ) (σ' σ2 : St) (t t' : S), x ∈ xs → f b x = some b' → R b σ' t → Ex t t' → B t'.F x σ' σ2 → WSs X body (LD D fun σ s => R b' σ s) σ2 t'.H)
    (hd : ∀ σ' t, R b1 σ' t → D.nx σ' t.H) : tFor (WI X tg iter) g (WSs X body) D σ s.H :=
  for_read hi T (fun i σ' t => ∃ b, foldO f b (xs.drop i) = some b1 ∧ R b σ' t) (fun i σ' t ⟨b, _, r⟩ => hG b σ' t r) (fun s1 k => ⟨b0, hf, h0 s1 k⟩)
    (fun i x σ' σ2 t t' hx ⟨b, h1, h2⟩ kt hB => by
      obtain ⟨hlt, rfl⟩ := List.getElem?_eq_some_iff.mp hx
      obtain ⟨b', h3, h4⟩ := foldO_drop hlt h1
      exact (hb xs[i] b b' σ' σ2 t t' (List.getElem_mem hlt) h3 h2 kt hB).imp (fun σ3 H3 ⟨u, e1, r1⟩ => ⟨u, e1, b', h4, r1⟩) (fun _ _ q => q) (fun _ _ q => q.elim) (fun _ _ q => q.elim))
    (fun σ' t ⟨b, h1, h2⟩ => by
      rw [List.drop_length] at h1
      cases h1
      exact hd σ' t h2)
theorem for_readF {xs : List τ} {f : υ → τ → Option (Fl υ ρ)} {b0 : υ} {o : Fl υ ρ} {g : TG} {B : Hp → τ → St → St → Prop} {G : S → Prop} (hi : EvIG X tg iter σ s G xs) (T : Tgt (α := τ) X.K g B) (hf : foldF f b0 xs = some o)
    (R : υ → St → S → Prop) (hG : ∀ b σ' t, R b σ' t → G t) (h0 : ∀ s1, Ex s s1 → R b0 σ s1)
    (hb : ∀ (x : τ) (b : υ) (q : Fl υ ρ) (σ' σ2 : St) (t t' : S), x ∈ xs → f b x = some q → (∀ r, q = .rt r → o = .rt r) → R b σ' t → Ex t t' → B t'.F x σ' σ2 → WSs X body (LD D fun σ s => ∃ b', q = .nx b' ∧ R b' σ s) σ2 t'.H)
    (hd : ∀ b1 σ' t, o = .nx b1 → R b1 σ' t → D.nx σ' t.H) : tFor (WI X tg iter) g (WSs X body) D σ s.H :=
  for_read hi T (fun i σ' t => ∃ b, foldF f b (xs.drop i) = some o ∧ R b σ' t) (fun i σ' t ⟨b, _, r⟩ => hG b σ' t r) (fun s1 k => ⟨b0, hf, h0 s1 k⟩)
    (fun i x σ' σ2 t t' hx ⟨b, h1, h2⟩ kt hB => by
      obtain ⟨hlt, rfl⟩ := List.getElem?_eq_some_iff.mp hx
      obtain ⟨q, h3, h4, h5⟩ := foldF_drop hlt h1
      exact (hb xs[i] b q σ' σ2 t t' (List.getElem_mem hlt) h3 h5 h2 kt hB).imp (fun σ3 H3 ⟨u, e1, b', e2, r1⟩ => ⟨u, e1, b', h4 b' e2, r1⟩) (fun _ _ q => q) (fun _ _ q => q.elim) (fun _ _ q => q.elim))
    (fun σ' t ⟨b, h1, h2⟩ => by
      rw [List.drop_length] at h1
      cases h1
      exact hd b σ' t rfl h2)
theorem do_forG {g : TG} (hp : PassesOwn (model X.prog X.w) X.A X.env X.xe) (hc : X.calm = true) (hg : PG X tg g) (h : tFor (WI X tg iter) g (WSs X body) { D with nx := fun σ' H' => WSs X rest D σ' H' } σ s.H)
    (hs : ∀ x, foldedSetIterable iter X.env x = pure x := by intro _; rfl) : WSs X (.For tg iter body [] pos :: rest) D σ s.H :=
  do_cons (ps_for hp hc pi_wi hg pss_ws hs) h
abbrev LK (D : Ends) (rest : List Stmt) (X : Cx) (p : Addr) (ob : Obj) (kv : List (Key × V)) : Ends :=
  ⟨fun σ' H' => H' p = some (.frz ob (.dK kv)) ∧ WSs X rest D σ' (upd H' p (.dK kv)), fun v H' => H' p = some (.frz ob (.dK kv)) ∧ D.rt v (upd H' p (.dK kv)), fun σ' H' => H' p = some (.frz ob (.dK kv)) ∧ D.bk σ' (upd H' p (.dK kv)), fun σ' H' => H' p = some (.frz ob (.dK kv)) ∧ D.ct σ' (upd H' p (.dK kv))⟩
theorem do_forD {g : TG} {xs : List (κ × α)} (iv : Iv X.K P0 s0 s L) (i : Nat) (hA : L[i]? = some (Dy.od p xs)) (hp : PassesOwn (model X.prog X.w) X.A X.env X.xe) (hc : X.calm = true) (hg : PG X tg g)
    (h : ∀ (ob : Obj) (kv : List (Key × V)) (s1 : S), Fle s.F s1.F → Iv X.K P0 s0 s1 (L.set i (Dy.odl p ob kv xs)) → tFor (WI X tg iter) g (WSs X body) (LK D rest X p ob kv) σ s1.H)
    (hs : ∀ x, foldedSetIterable iter X.env x = pure x := by intro _; rfl) : WSs X (.For tg iter body [] pos :: rest) D σ s.H :=
  do_cons (ps_lock (ps_for hp hc pi_wi hg pss_ws hs)) (by
    obtain ⟨hf, kv, h1, h2⟩ := iv.od i hA
    exact ⟨p, .dK kv, h1, trivial, fun ob => h ob kv (s.put p (.frz ob (.dK kv)) hf) (Fle.refl _) (iv.lock i ob hA hf h1 h2)⟩)
theorem lk_nx {xs : List (κ × α)} {ob : Obj} {kv : List (Key × V)} (iv : Iv X.K P0 s0 s L) (i : Nat) (hA : L[i]? = some (Dy.odl p ob kv xs)) (k : ∀ s1, s1.F = s.F → Iv X.K P0 s0 s1 (L.set i (Dy.od p xs)) → WSs X rest D σ s1.H) : (LK D rest X p ob kv).nx σ s.H := by
  obtain ⟨s', e1, e2, iv'⟩ := iv.unlock i hA
  have := k s' e2 iv'
  rw [e1] at this
  exact ⟨(iv.odl i hA).2.1, this⟩
theorem lk_rt {xs : List (κ × α)} {ob : Obj} {kv : List (Key × V)} {v : V} (iv : Iv X.K P0 s0 s L) (i : Nat) (hA : L[i]? = some (Dy.odl p ob kv xs)) (k : ∀ s1, s1.F = s.F → Iv X.K P0 s0 s1 (L.set i (Dy.od p xs)) → D.rt v s1.H) : (LK D rest X p ob kv).rt v s.H := by
  obtain ⟨s', e1, e2, iv'⟩ := iv.unlock i hA
  have := k s' e2 iv'
  rw [e1] at this
  exact ⟨(iv.odl i hA).2.1, this⟩
theorem lk_ex {kv : List (Key × V)} {ob : Obj} {s1 : S} (hf : s.F p = none) (h1 : s.H p = some (.dK kv)) (k : Ex s s1) : ∃ (hf1 : s1.F p = none), Ex (s.put p (.frz ob (.dK kv)) hf) (s1.put p (.frz ob (.dK kv)) hf1) := by
  refine ⟨k.n _ _ h1 hf, k.f, fun a o q => ?_, fun a o q n => ?_⟩
  · by_cases e : a = p
    · subst e
      have q : upd s.H a (.frz ob (.dK kv)) a = some o := q
      rw [upd_same] at q
      show upd s1.H a _ a = _
      rw [upd_same]; exact q
    · have q : upd s.H p (.frz ob (.dK kv)) a = some o := q
      rw [upd_ne e] at q
      show upd s1.H p _ a = _
      rw [upd_ne e]; exact k.h _ _ q
  · by_cases e : a = p
    · subst e; exact k.n _ _ h1 hf
    · have q : upd s.H p (.frz ob (.dK kv)) a = some o := q
      rw [upd_ne e] at q
      exact k.n _ _ q n
theorem lk_back {kv : List (Key × V)} {ob : Obj} {s1 s2 : S} (hf : s1.F p = none) (h1 : s1.H p = some (.dK kv)) (k : Ex (s1.put p (.frz ob (.dK kv)) hf) s2) : ∃ (hf2 : s2.F p = none), s2.H p = some (.frz ob (.dK kv)) ∧ Ex s1 (s2.put p (.dK kv) hf2) := by
  have hf2 : s2.F p = none := k.n p _ (show upd s1.H p _ p = _ from upd_same) hf
  refine ⟨hf2, k.h p _ (show upd s1.H p _ p = _ from upd_same), k.f, fun a o q => ?_, fun a o q n => ?_⟩
  · by_cases e : a = p
    · subst e
      rw [h1] at q
      cases q
      exact upd_same
    · show upd s2.H p _ a = _
      rw [upd_ne e]
      exact k.h _ _ (show upd s1.H p _ a = _ by rw [upd_ne e]; exact q)
  · by_cases e : a = p
    · subst e; exact hf2
    · exact k.n a o (show upd s1.H p _ a = _ by rw [upd_ne e]; exact q) n
theorem en_lock {ys : List β} {xs : List (κ × α)} (r : OwnD X.K s p xs) (h : ∀ (ob : Obj) (kv : List (Key × V)) (s1 : S), s1.F = s.F → (∀ a o, s.H a = some o → a ≠ p → s1.H a = some o) → GD X.K p ob kv xs s1 → (∀ hf, s1 = s.put p (.frz ob (.dK kv)) hf → EvN X e σ s1 ys)) : EvN X e σ s ys := fun s1 k Q q => by
  obtain ⟨hf, kv, h1, h2⟩ := r
  refine we_of (pe_lock pe_we) ⟨p, .dK kv, k.h _ _ h1, trivial, fun ob => ?_⟩
  obtain ⟨hf1, kx⟩ := lk_ex (ob := ob) hf h1 k
  have := h ob kv (s.put p (.frz ob (.dK kv)) hf) rfl (fun a o q n => (upd_ne n).trans q) ⟨upd_same, h2⟩ hf rfl
  refine this _ kx _ fun p2 s2 k2 n2 o2 => ?_
  obtain ⟨hf2, g1, k3⟩ := lk_back hf1 (k.h _ _ h1) k2
  refine ⟨g1, ?_⟩
  have ne : p2 ≠ p := fun z => by
    have : upd s1.H p (.frz ob (.dK kv)) p2 = none := n2
    rw [z, upd_same] at this; cases this
  have n2' : s1.H p2 = none := by
    have : upd s1.H p (.frz ob (.dK kv)) p2 = none := n2
    rw [upd_ne ne] at this; exact this
  obtain ⟨o1, vs, o3, o4⟩ := o2
  exact q p2 (s2.put p (.dK kv) hf2) k3 n2' ⟨o1, vs, (upd_ne ne).trans o3, o4⟩
theorem comp_readG {xs : List α} {ys : List β} {t : α → Option Bool} {f : α → Option β} {g : TG} {B : Hp → α → St → St → Prop} {tt : TT} {G : S → Prop} (hGx : ∀ s1 s2, Ex s1 s2 → G s1 → G s2) (hG0 : G s) (hi : EvIG X tg iter σ s G xs)
    (T : Tgt (α := α) X.K g B) (hf : compO t f xs = some ys) (hz : ys.length ≤ sizeLine)
    (hw : ∀ (F : Hp) (x : α) σ2, B F x (wipe σ (own.map (·.2))) σ2 → wipe σ2 (own.map (·.2)) = wipe σ (own.map (·.2)))
    (ht : ∀ (x : α) (b : Bool) (s1 : S) (σ2 : St) (Q : Bool → Hp → Prop), x ∈ xs → Ex s s1 → B s1.F x (wipe σ (own.map (·.2))) σ2 → t x = some b → (∀ s2, Ex s1 s2 → Q b s2.H) → tt σ2 s1.H Q)
    (he : ∀ (x : α) (y : β) (s1 : S) (σ2 : St), x ∈ xs → Ex s s1 → B s1.F x (wipe σ (own.map (·.2))) σ2 → t x = some true → f x = some y → ∀ s0 H0 C cl fp, Ev (Blk X scope s0 H0 C cl fp) elt σ2 s1 y)
    (s1 : S) (k : Ex s s1) (Q : VK) (q : ∀ p s2, Ex s1 s2 → s1.H p = none → Own X.K s2 p ys → Q (.ref p) s2.H) : tLc (WI X tg iter) g tt (fun σ H Q => ∀ s0 H0 C cl fp, WE (Blk X scope s0 H0 C cl fp) elt σ H Q) (own.map (·.2)) σ s1.H Q := by
  refine hi s1 k _ fun J s2 k2 W => ?_
  intro D hD
  have hgG : ∀ u, Ex s2 u → G u := fun u ku => hGx _ _ ((k.trans k2).trans ku) hG0
  refine ⟨fun i m H => ∃ (u : S) (pre : List β) (vs : List V), u.H = H ∧ m = xs.length - i ∧ Ex s2 u ∧ u.F D = none ∧ u.H D = some (.lst vs) ∧ Reps X.K u.F vs pre ∧ (∃ suf, compO t f (xs.drop i) = some suf ∧ pre ++ suf = ys), ⟨xs.length, s2.newO D (.lst []) hD, [], [], rfl, rfl, Ex.newO hD, (fF hD : s2.F D = none), upd_same, trivial, ys, by rw [List.drop_zero]; exact hf, rfl⟩, ?_⟩
  rintro i m H ⟨u, pre, vs, rfl, rfl, ku, n1, n2, n3, suf, h1, h2⟩
  by_cases hi' : i < xs.length
  · right
    have hx : xs[i]? = some xs[i] := List.getElem?_eq_getElem hi'
    obtain ⟨g1, g2⟩ := W.go i u xs[i] (hgG u ku) hx
    refine ⟨g1, fun H' => ∃ m', m' < xs.length - i ∧ ∃ (u : S) (pre : List β) (vs : List V), u.H = H' ∧ m' = xs.length - (i + 1) ∧ Ex s2 u ∧ u.F D = none ∧ u.H D = some (.lst vs) ∧ Reps X.K u.F vs pre ∧ (∃ suf, compO t f (xs.drop (i + 1)) = some suf ∧ pre ++ suf = ys), fun H' z => z, fun v H' hy => ?_⟩
    obtain ⟨u', rfl, ku', rv⟩ := g2 v H' hy
    refine T.run u' v xs[i] _ _ rv fun σ2 hB => ⟨hw _ _ _ hB, ?_⟩
    rw [List.drop_eq_getElem_cons hi'] at h1
    unfold compO at h1
    cases hb : t xs[i] with
    | none => rw [hb] at h1; cases h1
    | some b =>
      rw [hb, Option.bind_some] at h1
      have mem : xs[i] ∈ xs := List.getElem_mem hi'
      have base : Ex s u' := (k.trans k2).trans (ku.trans ku')
      refine ht xs[i] b u' σ2 _ mem base hB hb fun u3 k3 => ?_
      have hlt : xs.length - (i + 1) < xs.length - i := by omega
      have kk : Ex u u3 := ku'.trans k3
      cases b with
      | false =>
        rw [if_neg Bool.false_ne_true] at h1 ⊢
        exact ⟨_, hlt, u3, pre, vs, rfl, rfl, ku.trans kk, kk.n _ _ n2 n1, kk.h _ _ n2, n3.mono kk.f, suf, h1, h2⟩
      | true =>
        rw [if_pos rfl] at h1 ⊢
        cases hfx : f xs[i] with
        | none => rw [hfx] at h1; cases h1
        | some y =>
          rw [hfx, Option.bind_some] at h1
          cases hr : compO t f (xs.drop (i + 1)) with
          | none => rw [hr] at h1; cases h1
          | some suf' =>
            rw [hr] at h1
            cases h1
            intro s0 H0 C cl fp
            refine he xs[i] y u' σ2 mem base hB hb hfx s0 H0 C cl fp u3 k3 _ fun w u4 k4 r4 => ?_
            have k5 : Ex u u4 := kk.trans k4
            have hD4 : u4.H D = some (.lst vs) := k5.h _ _ n2
            have hF4 : u4.F D = none := k5.n _ _ n2 n1
            have hlen : vs.length < sizeLine := by
              have e1 := n3.len
              have e2 : ys.length = pre.length + (suf'.length + 1) := by rw [← h2, List.length_append, List.length_cons]
              omega
            refine ⟨vs, hD4, hlen, _, hlt, u4.put D (.lst (vs ++ [w])) hF4, pre ++ [y], vs ++ [w], rfl, rfl, (ku.trans k5).mu1 (Mx.put hF4) hD, hF4, upd_same, (n3.mono k5.f).snoc r4, suf', rfl, by rw [List.append_assoc]; exact h2⟩
  · left
    have hd : xs.drop i = [] := List.drop_eq_nil_of_le (by omega)
    rw [hd] at h1
    cases h1
    refine ⟨W.stop i u (hgG u ku) (by omega), q D u (k2.trans ku) (fr_back k2 hD) ⟨n1, vs, n2, ?_⟩⟩
    rw [← h2, List.append_nil]
    exact n3
theorem en_comp0G {xs : List α} {ys : List β} {f : α → Option β} {j : Nat} {n : Str} {py : Pos} {G : S → Prop} (hGx : ∀ s1 s2, Ex s1 s2 → G s1 → G s2) (hG0 : G s) (hc : X.calm = true) (hN : X.N.Nodup) (hi : EvIG X (.Name n py) iter σ s G xs) (ok : BlkOk X.N X.env.scope scope own) (hj : X.N[j]? = some n)
    (hjo : j ∈ own.map (·.2)) (hg : ∀ s0 H0 C cl fp, PG (Blk X scope s0 H0 C cl fp) (.Name n py) (gName j)) (hf : mapO f xs = some ys) (hz : ys.length ≤ sizeLine)
    (he : ∀ (x : α) (y : β) (v : V) (s1 : S), x ∈ xs → Ex s s1 → rep X.K s1.F v x → f x = some y → ∀ s0 H0 C cl fp, Ev (Blk X scope s0 H0 C cl fp) elt ((wipe σ (own.map (·.2))).set j (some v)) s1 y)
    (hs : ∀ x, foldedSetIterable iter X.env x = pure x := by intro _; rfl) : EvL X elt (.Name n py) iter [] scope σ s ys :=
  ⟨hc, hN, hs, own, _, _, ok, hg, fun _ _ _ _ _ => pts_nil, fun s1 k Q q => comp_readG (t := fun _ => some true) hGx hG0 hi tg_n hf hz (fun F x σ2 ⟨v, _, e⟩ => by rw [e, wipe_set hjo]; exact wipe_wipe fun _ z => z)
    (fun x b s1 σ2 Q _ _ _ hb q => by cases hb; exact q s1 (Ex.refl _)) (fun x y s1 σ2 hx k ⟨v, r, e⟩ _ hfx => by subst e; exact he x y v s1 hx k r hfx) s1 k Q q⟩
theorem en_comp1G {xs : List α} {ys : List β} {t : α → Option Bool} {f : α → Option β} {j : Nat} {n : Str} {py : Pos} {G : S → Prop} (hGx : ∀ s1 s2, Ex s1 s2 → G s1 → G s2) (hG0 : G s) (hc : X.calm = true) (hN : X.N.Nodup) (hi : EvIG X (.Name n py) iter σ s G xs) (ok : BlkOk X.N X.env.scope scope own) (hj : X.N[j]? = some n)
    (hjo : j ∈ own.map (·.2)) (hg : ∀ s0 H0 C cl fp, PG (Blk X scope s0 H0 C cl fp) (.Name n py) (gName j)) (hf : compO t f xs = some ys) (hz : ys.length ≤ sizeLine)
    (ht : ∀ (x : α) (b : Bool) (v : V) (s1 : S), x ∈ xs → Ex s s1 → rep X.K s1.F v x → t x = some b → ∀ s0 H0 C cl fp, EvT (Blk X scope s0 H0 C cl fp) c ((wipe σ (own.map (·.2))).set j (some v)) s1 b)
    (he : ∀ (x : α) (y : β) (v : V) (s1 : S), x ∈ xs → Ex s s1 → rep X.K s1.F v x → t x = some true → f x = some y → ∀ s0 H0 C cl fp, Ev (Blk X scope s0 H0 C cl fp) elt ((wipe σ (own.map (·.2))).set j (some v)) s1 y)
    (hs : ∀ x, foldedSetIterable iter X.env x = pure x := by intro _; rfl) : EvL X elt (.Name n py) iter [c] scope σ s ys :=
  ⟨hc, hN, hs, own, _, _, ok, hg, fun s0 H0 C cl fp => pts_one (pt_im fun _ _ _ h => h s0 H0 C cl fp), fun s1 k Q q => comp_readG (tt := fun σ H Q => ∀ s0 H0 C cl fp, WT (Blk X scope s0 H0 C cl fp) c σ H Q) hGx hG0 hi tg_n hf hz (fun F x σ2 ⟨v, _, e⟩ => by rw [e, wipe_set hjo]; exact wipe_wipe fun _ z => z)
    (fun x b s1 σ2 Q hx k ⟨v, r, e⟩ hb q => by subst e; intro s0 H0 C cl fp; exact ht x b v s1 hx k r hb s0 H0 C cl fp s1 (Ex.refl _) Q q) (fun x y s1 σ2 hx k ⟨v, r, e⟩ htx hfx => by subst e; exact he x y v s1 hx k r htx hfx) s1 k Q q⟩
end
end Dy

namespace Dy
open PySem PySem.Spec L2
open PyProof.Rows hiding St
open Enc (rep)
open Flat (toV)
open EncA (repA)

def tc (p : Addr) (vs : List V) : OA := ⟨fun K F H P => (∀ a, P a ↔ a = p) ∧ H p = some (.tup vs), fun e h => h, fun e ⟨h0, h1⟩ => ⟨h0, by rw [e p ((h0 p).mpr rfl)]; exact h1⟩, fun ⟨h0, h1⟩ q => ⟨_, (congrArg _ ((h0 _).mp q)).trans h1⟩⟩
abbrev No : Addr → Prop := fun _ => False
def spI {A O : Type} (K : PySem.W.Frag) (pre : List V → A → List OA → List OA → Prop) (m : A → Option O) (ok : List V → A → O → V → List OA → Prop) (er : List V → A → O → Er → List OA → Prop) : Sp := fun vs H Q E =>
  ∃ (s : S) (P0 : Addr → Prop) (L R : List OA) (x : A) (o : O), s.H = H ∧ pre vs x L R ∧ Iv K P0 s s L ∧ Ro K P0 s R ∧ m x = some o ∧
    (∀ v s' L', ok vs x o v L' → Iv K P0 s s' L' → Q v s'.H) ∧ (∀ e cls d s' L', er vs x o e L' → Iv K P0 s s' L' → ExR K s'.F e cls d → E cls d s'.H)
def noEr {A O : Type} : List V → A → O → Er → List OA → Prop := fun _ _ _ _ _ => False
abbrev FunM (K : PySem.W.Frag) (x q : Str) (st : Stmt) (f : Addr) (fd : FuncData) : Prop := FunD K x q (defArgs st) (defBody st) (defScope st) [] [] f fd
section
variable {P : Program} {w : World} {K : PySem.W.Frag} {mg : Str → Option Value} {base : Heap} {A O : Type} {pre : List V → A → List OA → List OA → Prop} {m : A → Option O} {ok : List V → A → O → V → List OA → Prop} {er : List V → A → O → Er → List OA → Prop}
theorem mk_I {x q : Str} {st : Stmt} {f : Addr} {fd : FuncData} {N ps : List Str} {k : Nat} (F : FunM K x q st f fd) (Sc : FnScope N ps (defScope st)) (hl : ∀ vs a L R, pre vs a L R → vs.length = ps.length)
    (body : ∀ (cdv : Value) (A' : Around) (outer : List Env) (s0 : Shared) (H0 : Hp) (E0 : XK), Room k (A'.deeper (envOfC q (defScope st) s0.heap.objs.size f cdv)) → ∀ (s : S) (P0 : Addr → Prop) (L R : List OA) (vs : List V) (a : A) (o : O) (Q : VK), pre vs a L R → Iv K P0 s s L → Ro K P0 s R → m a = some o →
      (∀ v s' L', ok vs a o v L' → Iv K P0 s s' L' → Q v s'.H) → WSs (cxOf CX0 P w K mg base N q (defScope st) f cdv A' outer s0 H0 E0).nox (defBody st) (RD Q) (start N vs) s.H) : FnOk P w K mg base CX0 (k + 1) f fd ps (spI K pre m ok noEr) :=
  F.ok Sc (fun vs H Q E ⟨s, P0, L, R, a, o, _, h, _⟩ => hl vs a L R h) (fun cdv A' outer s0 H0 vs Q E hr ⟨s, P0, L, R, a, o, e, h1, h2, h3, h4, h5, _⟩ => ⟨_, pss_ws.nox, by
    have := body cdv A' outer s0 H0 E hr s P0 L R vs a o Q h1 h2 h3 h4 h5
    rw [e] at this
    exact this⟩)
theorem mk_IX {x q : Str} {st : Stmt} {f : Addr} {fd : FuncData} {N ps : List Str} {k : Nat} (F : FunM K x q st f fd) (Sc : FnScope N ps (defScope st)) (hl : ∀ vs a L R, pre vs a L R → vs.length = ps.length)
    (body : ∀ (cdv : Value) (A' : Around) (outer : List Env) (s0 : Shared) (H0 : Hp) (E0 : XK), Room k (A'.deeper (envOfC q (defScope st) s0.heap.objs.size f cdv)) → ∀ (s : S) (P0 : Addr → Prop) (L R : List OA) (vs : List V) (a : A) (o : O) (Q : VK), pre vs a L R → Iv K P0 s s L → Ro K P0 s R → m a = some o →
      (∀ v s' L', ok vs a o v L' → Iv K P0 s s' L' → Q v s'.H) → (∀ e cls d s' L', er vs a o e L' → Iv K P0 s s' L' → ExR K s'.F e cls d → E0 cls d s'.H) → WSs (cxOf (L2.CX P w) P w K mg base N q (defScope st) f cdv A' outer s0 H0 E0) (defBody st) (RD Q) (start N vs) s.H) : FnOk P w K mg base (L2.CX P w) (k + 1) f fd ps (spI K pre m ok er) :=
  F.ok Sc (fun vs H Q E ⟨s, P0, L, R, a, o, _, h, _⟩ => hl vs a L R h) (fun cdv A' outer s0 H0 vs Q E hr ⟨s, P0, L, R, a, o, e, h1, h2, h3, h4, h5, h6⟩ => ⟨_, pss_ws, by
    have := body cdv A' outer s0 H0 E hr s P0 L R vs a o Q h1 h2 h3 h4 h5 h6
    rw [e] at this
    exact this⟩)
theorem cal_of {CX : CXT} {q : Sp} {x : Str} {f : Addr} {fd : FuncData} {ps : List Str} {k : Nat} (h : FnOk P w K mg base CX k f fd ps q) (hm : mg x = some (.ref f)) (kp : PySem.W.keepIn K (.ref f) = true) (b : Binds K fd ps []) : Cal P w K mg base CX k x q := ⟨f, fd, ps, h, hm, kp, b⟩
structure CalM (P : Program) (w : World) (K : PySem.W.Frag) (mg : Str → Option Value) (base : Heap) (CX : CXT) (k : Nat) (c m : Str) (q : Sp) : Prop where
  ex : ∃ (f : Addr) (fd : FuncData) (ps : List Str), FnOk P w K mg base CX k f fd ps q ∧ Meth K (He.ga K c) m f ∧ Binds K fd ps []
structure CalC (P : Program) (w : World) (K : PySem.W.Frag) (mg : Str → Option Value) (base : Heap) (CX : CXT) (k : Nat) (c : Str) (q : Sp) : Prop where
  ex : ∃ (f : Addr) (fd : FuncData) (ps : List Str), FnOk P w K mg base CX k f fd ps q ∧ Mk K (He.ga K c) f ∧ mg c = some (.ref (He.ga K c)) ∧ Binds K fd ps []
end
section
variable {X : Cx} {CX : CXT} {k j : Nat} {f C : Addr} {fd : FuncData} {ps : List Str} {sp : Sp} {o e : Expr} {es : List Expr} {ta : TE} {t : TA} {m n : Str} {pos apos p0 : Pos} {σ : L2.St} {s : S}
def tMethS (C : Addr) (m : Str) (sp : Sp) (E : L2.St → XK) (ta : TE) (t : TA) : TE := fun σ H Q => ta σ H fun x H1 => ∃ a dx fs, x = .ref a ∧ H1 a = some (.ins C dx fs) ∧ fs.lookup m = none ∧ t σ H1 fun vs H2 => sp (x :: vs) H2 Q (E σ)
theorem pe_methX {E : L2.St → XK} {pl : Sem Bool} (he : PE X o ta) (c : Cls X.K C) (hm : Meth X.K C m f) (F : FnOk X.prog X.w X.K X.mg X.base CX k f fd ps sp) (hr : Room k X.A) (hb : Binds X.K fd ps []) (hx : ∀ σ, PassesAt CX X σ (E σ)) (ha : PA X (e :: es) t)
    (hst : starEach (e :: es) X.env = (false, eval e X.env) :: starEach es X.env := by rfl) (hpl : (backTo pos (starEach es X.env)).any (·.1) = false := by rfl)
    (ht : eval (.Call (.Attribute o m apos) (e :: es) [] pos) X.env = (do
      let ov ← eval o X.env
      standAt apos.atName
      let (f, first) ← holding [ov] (getMethod ov m pl)
      callWith pos f first (backTo pos (starEach (e :: es) X.env)) (backToKw pos (keywordEach [] X.env))) := by rfl) :
    PE X (.Call (.Attribute o m apos) (e :: es) [] pos) (tMethS C m sp E ta t) := by
  refine ⟨fun pins s σ H Q I h => ?_⟩
  refine PySem.W.methodCall_KW (pl := pl) (thn (he.run pins s σ H _ I h) fun u s1 ⟨x, H1, I1, rx, a, dx, fs, ex, ea, l, q⟩ => ?_) ht
  subst ex
  obtain rfl : u = Value.ref a := rx
  refine getmeth_ok I1 ea c hm l ?_
  refine PySem.W.callWith_K (first := [.ref a]) (h₀ := X.base) I1.ok.mod.kin hm.kp (thn (ha.run pos pins s1 σ H1 _ I1 q) fun us s2 ⟨vs, H2, I2, r, q2⟩ => ⟨I2.kIn, ?_⟩) hst hpl
  exact run_fnS (us := .ref a :: us) (vs := .ref a :: vs) F hr hb (hx σ) I2 (.cons rfl r) q2
theorem pe_methX0 {E : L2.St → XK} {pl : Sem Bool} (he : PE X o ta) (c : Cls X.K C) (hm : Meth X.K C m f) (F : FnOk X.prog X.w X.K X.mg X.base CX k f fd ps sp) (hr : Room k X.A) (hb : Binds X.K fd ps []) (hx : ∀ σ, PassesAt CX X σ (E σ))
    (ht : eval (.Call (.Attribute o m apos) [] [] pos) X.env = (do
      let ov ← eval o X.env
      standAt apos.atName
      let (f, first) ← holding [ov] (getMethod ov m pl)
      callWith pos f first (backTo pos (starEach [] X.env)) (backToKw pos (keywordEach [] X.env))) := by rfl) :
    PE X (.Call (.Attribute o m apos) [] [] pos) (tMethS C m sp E ta tNil) := by
  refine ⟨fun pins s σ H Q I h => ?_⟩
  refine PySem.W.methodCall_KW (pl := pl) (thn (he.run pins s σ H _ I h) fun u s1 ⟨x, H1, I1, rx, a, dx, fs, ex, ea, l, q⟩ => ?_) ht
  subst ex
  obtain rfl : u = Value.ref a := rx
  refine getmeth_ok I1 ea c hm l ?_
  exact PySem.W.callWith_K0 (first := [.ref a]) I1.kIn hm.kp (run_fnS (us := [.ref a]) (vs := [.ref a]) F hr hb (hx σ) I1 (.cons rfl .nil) q)
theorem run_makeS {E : XK} {pins : List (Addr × Obj)} {σ : L2.St} {H : Hp} {s : Shared} {Q : VK} {us : List Value} {vs : List V} (M : Mk X.K C f) (F : FnOk X.prog X.w X.K X.mg X.base CX k f fd ps sp) (hr : Room (k + 1) X.A) (hb : Binds X.K fd ps [])
    (hx : PassesAt CX X σ E) (I : Inv X pins σ H s) (r : Vals vs us)
    (h : ∀ x dx, H x = none → H dx = none → dx ≠ x → sp (.ref x :: vs) (upd (upd H dx (.own x)) x (.ins C dx [])) (fun v H2 => v = .non ∧ Q (.ref x) H2) E) :
    wpAny (model X.prog X.w) X.A (call (.ref C) us) (EP X pins σ Q) X.xe s := by
  have hq := h (s.heap.objs.size + 1) s.heap.objs.size (I.hok.fresh (Nat.le_succ _)) (I.hok.fresh (Nat.le_refl _)) (Nat.ne_of_lt (Nat.lt_succ_self _))
  have I2 := Inv.made (C := C) I
  have r2 : Vals (V.ref (s.heap.objs.size + 1) :: vs) (Value.ref (s.heap.objs.size + 1) :: us) := .cons rfl r
  have hl : (Value.ref (s.heap.objs.size + 1) :: us).length = ps.length := by
    have e := r2.length
    rw [F.len _ _ _ _ hq] at e
    exact e.symm
  refine wpAny_call (make_map (f := f) I.kIn M.makes M.init (beq_iff_eq.mp M.fn) (codeAny_mono (F.run _ X.stack _ _ ⟨Value.ref (s.heap.objs.size + 1) :: us, []⟩ (Value.ref (s.heap.objs.size + 1) :: us) _ _ E (hr.make C us [])
    (I2.env0.make C us []) (by
      have := hb _ (Value.ref (s.heap.objs.size + 1) :: us) I2.kIn (by rw [List.append_nil]; exact hl)
      rw [List.append_nil] at this
      exact this) r2 hq) fun r s' hq' => ?_))
  cases r with
  | error e => exact hx pins _ _ e s' I2 hq'
  | ok fl =>
    cases fl with
    | ret u =>
      obtain ⟨v, H', I3, rv, ev, q3⟩ := I2.after hq'
      subst ev
      exact ⟨rv, ⟨V.ref (s.heap.objs.size + 1), H', I3, rfl, q3⟩⟩
    | next => exact False.elim hq'
    | brk => exact False.elim hq'
    | cont => exact False.elim hq'
def tMakeS (C : Addr) (sp : Sp) (E : L2.St → XK) (t : TA) : TE := fun σ H Q => t σ H fun vs H1 => ∀ x dx, H1 x = none → H1 dx = none → dx ≠ x → sp (.ref x :: vs) (upd (upd H1 dx (.own x)) x (.ins C dx [])) (fun v H2 => v = .non ∧ Q (.ref x) H2) (E σ)
theorem pe_makeX {E : L2.St → XK} (M : Mk X.K C f) (F : FnOk X.prog X.w X.K X.mg X.base CX k f fd ps sp) (hr : Room (k + 1) X.A) (hg : Gl X n) (hm : X.mg n = some (.ref C)) (hb : Binds X.K fd ps []) (hx : ∀ σ, PassesAt CX X σ (E σ))
    (ha : PA X (e :: es) t) (hdb : (n == ("__debug__" : Str)) = false := by decide) (he : starEach (e :: es) X.env = (false, eval e X.env) :: starEach es X.env := by rfl) (hpl : (backTo pos (starEach es X.env)).any (·.1) = false := by rfl) :
    PE X (.Call (.Name n p0) (e :: es) [] pos) (tMakeS C sp E t) := by
  refine ⟨fun pins s σ H Q I h => ?_⟩
  refine wpAny_Call_Name_kw (ld_glob I hg hm ?_ hdb)
  refine PySem.W.callWith_K (h₀ := X.base) I.ok.mod.kin M.kp (thn (ha.run pos pins s σ H _ I h) fun us s1 ⟨vs, H1, I1, r, q⟩ => ⟨I1.kIn, ?_⟩) he hpl
  exact run_makeS M F hr hb (hx σ) I1 r q
theorem pe_makeX0 {E : L2.St → XK} (M : Mk X.K C f) (F : FnOk X.prog X.w X.K X.mg X.base CX k f fd ps sp) (hr : Room (k + 1) X.A) (hg : Gl X n) (hm : X.mg n = some (.ref C)) (hb : Binds X.K fd ps []) (hx : ∀ σ, PassesAt CX X σ (E σ))
    (hdb : (n == ("__debug__" : Str)) = false := by decide) : PE X (.Call (.Name n p0) [] [] pos) (tMakeS C sp E tNil) := by
  refine ⟨fun pins s σ H Q I h => ?_⟩
  refine wpAny_Call_Name_kw (ld_glob I hg hm ?_ hdb)
  exact PySem.W.callWith_K0 I.kIn M.kp (run_makeS (us := []) M F hr hb (hx σ) I .nil h)

def Calls (X : Cx) (e : Expr) (σ : L2.St) (s : S) (sp : Sp) (E : XK) (Φ : List V → S → Prop) : Prop := ∀ s1, Ex s s1 → ∀ Q : VK, (∀ vs s2, Ex s1 s2 → Φ vs s2 → sp vs s2.H Q E) → WE X e σ s1.H Q
theorem ca_fn {A : Type} [EncA A] {a : A} {E : L2.St → XK} (C : Cal X.prog X.w X.K X.mg X.base CX k n sp) (hx : ∀ σ, PassesAt CX X σ (E σ)) (hr : Room j X.A) (hk : k ≤ j) (ha : EvA X (e :: es) σ s a) (hg : Gl X n := by rfl)
    (hdb : (n == ("__debug__" : Str)) = false := by decide) (he : starEach (e :: es) X.env = (false, eval e X.env) :: starEach es X.env := by rfl) (hpl : (backTo pos (starEach es X.env)).any (·.1) = false := by rfl) : Calls X (.Call (.Name n p0) (e :: es) [] pos) σ s sp (E σ) (fun vs s2 => repA X.K s2.F vs a) := fun s1 k1 Q q => by
  obtain ⟨f, fd, ps, F, hm, kp, b⟩ := C.ex
  exact we_of (pe_callS (E := E) F (hr.mono hk) hg hm kp b hx pa_wa hdb he hpl) (ha s1 k1 _ fun vs s2 k2 r2 => q vs s2 k2 r2)
theorem ca_meth {A : Type} [EncA A] {a : A} {E : L2.St → XK} {c : Str} {p : Addr} {fs : List (Str × V)} (C : CalM X.prog X.w X.K X.mg X.base CX k c m sp) (hc : Cls X.K (He.ga X.K c)) (hx : ∀ σ, PassesAt CX X σ (E σ)) (hr : Room j X.A) (hk : k ≤ j) (ho : Ev X o σ s (Rw.mk (.ref p))) (r : CellAt s X.K p c fs) (hl : fs.lookup m = none) (ha : EvA X (e :: es) σ s a)
    {pl : Sem Bool} (hst : starEach (e :: es) X.env = (false, eval e X.env) :: starEach es X.env := by rfl) (hpl : (backTo pos (starEach es X.env)).any (·.1) = false := by rfl)
    (ht : eval (.Call (.Attribute o m apos) (e :: es) [] pos) X.env = (do
      let ov ← eval o X.env
      standAt apos.atName
      let (f, first) ← holding [ov] (getMethod ov m pl)
      callWith pos f first (backTo pos (starEach (e :: es) X.env)) (backToKw pos (keywordEach [] X.env))) := by rfl) : Calls X (.Call (.Attribute o m apos) (e :: es) [] pos) σ s sp (E σ) (fun vs s2 => ∃ ws, vs = .ref p :: ws ∧ repA X.K s2.F ws a) := fun s1 k1 Q q => by
  obtain ⟨f, fd, ps, F, hm, b⟩ := C.ex
  refine we_of (pe_methX (E := E) (pl := pl) pe_we hc hm F (hr.mono hk) b hx pa_wa hst hpl ht) (ho s1 k1 _ fun v s2 k2 e2 => ?_)
  cases (show v = V.ref p from e2)
  obtain ⟨dx, h1⟩ := r.ex (k1.trans k2)
  exact ⟨p, dx, fs, rfl, h1, hl, ha s2 (k1.trans k2) _ fun ws s3 k3 r3 => q _ s3 (k2.trans k3) ⟨ws, rfl, r3⟩⟩
theorem ca_meth0 {E : L2.St → XK} {c : Str} {p : Addr} {fs : List (Str × V)} (C : CalM X.prog X.w X.K X.mg X.base CX k c m sp) (hc : Cls X.K (He.ga X.K c)) (hx : ∀ σ, PassesAt CX X σ (E σ)) (hr : Room j X.A) (hk : k ≤ j) (ho : Ev X o σ s (Rw.mk (.ref p))) (r : CellAt s X.K p c fs) (hl : fs.lookup m = none)
    {pl : Sem Bool} (ht : eval (.Call (.Attribute o m apos) [] [] pos) X.env = (do
      let ov ← eval o X.env
      standAt apos.atName
      let (f, first) ← holding [ov] (getMethod ov m pl)
      callWith pos f first (backTo pos (starEach [] X.env)) (backToKw pos (keywordEach [] X.env))) := by rfl) : Calls X (.Call (.Attribute o m apos) [] [] pos) σ s sp (E σ) (fun vs s2 => ∃ ws, vs = .ref p :: ws ∧ repA X.K s2.F ws ()) := fun s1 k1 Q q => by
  obtain ⟨f, fd, ps, F, hm, b⟩ := C.ex
  refine we_of (pe_methX0 (E := E) (pl := pl) pe_we hc hm F (hr.mono hk) b hx ht) (ho s1 k1 _ fun v s2 k2 e2 => ?_)
  cases (show v = V.ref p from e2)
  obtain ⟨dx, h1⟩ := r.ex (k1.trans k2)
  exact ⟨p, dx, fs, rfl, h1, hl, q _ s2 k2 ⟨[], rfl, rfl⟩⟩
def CallsN (X : Cx) (e : Expr) (σ : L2.St) (s : S) (c : Str) (sp : Sp) (E : XK) (Φ : List V → S → Prop) : Prop := ∀ s1, Ex s s1 → ∀ Q : VK, (∀ vs s2, Ex s1 s2 → Φ vs s2 → ∀ x dx, s2.H x = none → s2.H dx = none → dx ≠ x → sp (.ref x :: vs) (upd (upd s2.H dx (.own x)) x (.ins (He.ga X.K c) dx [])) (fun v H2 => v = .non ∧ Q (.ref x) H2) E) → WE X e σ s1.H Q
theorem ca_make {A : Type} [EncA A] {a : A} {E : L2.St → XK} (C : CalC X.prog X.w X.K X.mg X.base CX k n sp) (hx : ∀ σ, PassesAt CX X σ (E σ)) (hr : Room j X.A) (hk : k + 1 ≤ j) (ha : EvA X (e :: es) σ s a) (hg : Gl X n := by rfl)
    (hdb : (n == ("__debug__" : Str)) = false := by decide) (he : starEach (e :: es) X.env = (false, eval e X.env) :: starEach es X.env := by rfl) (hpl : (backTo pos (starEach es X.env)).any (·.1) = false := by rfl) : CallsN X (.Call (.Name n p0) (e :: es) [] pos) σ s n sp (E σ) (fun vs s2 => repA X.K s2.F vs a) := fun s1 k1 Q q => by
  obtain ⟨f, fd, ps, F, M, hm, b⟩ := C.ex
  exact we_of (pe_makeX (E := E) M F (hr.mono hk) hg hm b hx pa_wa hdb he hpl) (ha s1 k1 _ fun vs s2 k2 r2 => fun x dx h1 h2 h3 => q vs s2 k2 r2 x dx h1 h2 h3)
theorem ca_make0 {E : L2.St → XK} (C : CalC X.prog X.w X.K X.mg X.base CX k n sp) (hx : ∀ σ, PassesAt CX X σ (E σ)) (hr : Room j X.A) (hk : k + 1 ≤ j) (hg : Gl X n := by rfl)
    (hdb : (n == ("__debug__" : Str)) = false := by decide) : CallsN X (.Call (.Name n p0) [] [] pos) σ s n sp (E σ) (fun vs s2 => repA X.K s2.F vs ()) := fun s1 k1 Q q => by
  obtain ⟨f, fd, ps, F, M, hm, b⟩ := C.ex
  exact we_of (pe_makeX0 (E := E) M F (hr.mono hk) hg hm b hx hdb) fun x dx h1 h2 h3 => q [] s1 (Ex.refl _) rfl x dx h1 h2 h3
theorem pass00 {E : L2.St → XK} : ∀ σ, PassesAt CX0 X σ (E σ) := fun σ pins H s e s' I c => c.elim
theorem passF : ∀ σ, PassesAt (L2.CX X.prog X.w) X σ ((fun _ _ _ _ => False : L2.St → XK) σ) := fun σ pins H s e s' I c => by
  obtain ⟨_, _, _, _, _, _, _, _, _, _, _, _, hf⟩ := c
  exact hf.elim
def EvK (X : Cx) (e : Expr) (σ : L2.St) (s : S) (Φ : V → S → Prop) : Prop := ∀ Q : VK, (∀ v s2, Φ v s2 → Q v s2.H) → WE X e σ s.H Q
def EvG (X : Cx) (e : Expr) (σ : L2.St) (s : S) (ok : V → List OA → Prop) : Prop := ∀ s1, Ex s s1 → ∀ Q : VK, (∀ v s2 L', ok v L' → Iv X.K No s1 s2 L' → Q v s2.H) → WE X e σ s1.H Q
end
section
variable {X : Cx} {P0 : Addr → Prop} {s0 s s1 t : S} {L R0 M : List OA} {K : PySem.W.Frag}
theorem Iv.add (h : Iv K P0 s0 s L) (g : Iv K No s s1 M) : Iv K P0 s0 s1 (L ++ M) := by
  obtain ⟨P1, _, _, h3, h4⟩ := call_in h (R0 := []) ⟨fun i A e => by cases e⟩ [] List.nodup_nil (fun k hk => by cases hk) [] (fun A hA => by cases hA) [] (fun i hi => by cases hi)
  have e0 : P1 = No := by
    funext a
    exact propext ⟨fun z => (h3 rfl a z).elim, fun z => z.elim⟩
  have := h4 s1 M (by rw [e0]; exact g)
  have er : rem L [] = L := by
    unfold rem
    apply List.ext_getElem?
    intro i
    rw [List.getElem?_mapIdx]
    cases L[i]? <;> simp
  rw [er] at this
  exact this
theorem Iv.noex (h : Iv K No s0 s L) : Ex s0 s := h.exx
theorem Iv.nil : Iv K P0 s s [] := Iv.tops 0 s
theorem Iv.cons1 {A : OA} (h : Iv K No s s1 [A]) : A :: [] = [A] := rfl
theorem ev_ivf {α : Type} [Enc α] {v : V} {x : α} (e : Ex s s1) (r : rep K s1.F v x) : Iv K No s s1 [Dy.fz v x] := (Iv.sf (Iv.tops (K := K) (P0 := No) 1 s) 0 e r rfl)
theorem ev_ivl {α : Type} [Enc α] {p : Addr} {x : List α} (e : Ex s s1) (n : s.H p = none) (o : Own K s1 p x) : Iv K No s s1 [Dy.ol p x] := (Iv.sl (Iv.tops (K := K) (P0 := No) 1 s) 0 e n o rfl)
theorem ev_ivd {α κ : Type} [DKey κ] [Enc α] {p : Addr} {x : List (κ × α)} (e : Ex s s1) (n : s.H p = none) (o : OwnD K s1 p x) : Iv K No s s1 [Dy.od p x] := (Iv.sd (Iv.tops (K := K) (P0 := No) 1 s) 0 e n o rfl)
end
section
variable {X : Cx} {CX : CXT} {k j : Nat} {e : Expr} {es : List Expr} {pos p0 p1 : Pos} {σ : L2.St} {P0 : Addr → Prop} {s0 s : S} {L R0 : List OA} {A O : Type} {pre : List V → A → List OA → List OA → Prop} {m : A → Option O} {ok : List V → A → O → V → List OA → Prop} {er : List V → A → O → Er → List OA → Prop} {x : A} {o : O} {E : XK} {Φ : List V → S → Prop} {ok' : V → List OA → Prop}
theorem eg_call (c : Calls X e σ s (spI X.K pre m ok er) E Φ) (iv : Iv X.K P0 s0 s L) (ro : Ro X.K P0 s0 R0) (rs : List (Nat ⊕ Nat))
    (hp : ∀ vs s2, Ex s s2 → Φ vs s2 → ∃ Lf, pre vs x Lf (rsel L R0 rs) ∧ (∀ A ∈ Lf, A.p X.K s2.F s2.H No) ∧ (∀ v L', ok vs x o v L' → ok' v L') ∧ (∀ e L', er vs x o e L' → False)) (hm : m x = some o) : EvG X e σ s ok' := fun s1 k1 Q q =>
  c s1 k1 Q fun vs s2 k2 φ => by
    obtain ⟨Lf, h1, h2, h3, h4⟩ := hp vs s2 (k1.trans k2) φ
    obtain ⟨P1, g1, g2, g3, g4⟩ := call_in (iv.ex (k1.trans k2)) ro [] List.nodup_nil (fun k hk => by cases hk) Lf h2 rs (fun i _ z => by cases z)
    have e0 : P1 = No := by
      funext a
      exact propext ⟨fun z => (g3 rfl a z).elim, fun z => z.elim⟩
    subst e0
    exact ⟨s2, No, Lf, _, x, o, rfl, h1, g1, g2, hm, fun v s' L' hok iv' => q v s' L' (h3 v L' hok) ⟨k2.z.trans iv'.m, by
      obtain ⟨φ, f1, f2, f3⟩ := iv'.o
      exact ⟨φ, f1, f2, fun i a z => ⟨(f3 i a z).1, (f3 i a z).2.1.elim (fun z => z.elim) (fun z => .inr (fr_back k2 z)), (f3 i a z).2.2⟩⟩⟩, fun e cls d s' L' z _ _ => (h4 e L' z).elim⟩
theorem ek_call (c : Calls X e σ s (spI X.K pre m ok er) E Φ) (iv : Iv X.K P0 s0 s L) (ro : Ro X.K P0 s0 R0) (ks : List Nat) (hn : ks.Nodup) (hk : ∀ k ∈ ks, k < L.length) (rs : List (Nat ⊕ Nat)) (hrs : ∀ i, Sum.inl i ∈ rs → i ∉ ks)
    (hp : ∀ vs s2, Ex s s2 → Φ vs s2 → ∃ Lf, pre vs x (ks.map (fun k => L.getD k top) ++ Lf) (rsel L R0 rs) ∧ (∀ A ∈ Lf, A.p X.K s2.F s2.H No) ∧ (∀ v L', ok vs x o v L' → ok' v L') ∧ (∀ e L', er vs x o e L' → False)) (hm : m x = some o) :
    EvK X e σ s (fun v s' => ∃ L', ok' v L' ∧ Fle s.F s'.F ∧ Iv X.K P0 s0 s' (rem L ks ++ L')) := fun Q q =>
  c s (Ex.refl _) Q fun vs s2 k2 φ => by
    obtain ⟨Lf, h1, h2, h3, h4⟩ := hp vs s2 k2 φ
    obtain ⟨P1, g1, g2, g3, g4⟩ := call_in (iv.ex k2) ro ks hn hk Lf h2 rs hrs
    exact ⟨s2, P1, _, _, x, o, rfl, h1, g1, g2, hm, fun v s' L' hok iv' => q v s' ⟨L', h3 v L' hok, k2.f.trans iv'.m.f, g4 s' L' iv'⟩, fun e cls d s' L' z _ _ => (h4 e L' z).elim⟩
theorem ex_call {er' : Er → List OA → Prop} {W : WX} (c : Calls X e σ s (spI X.K pre m ok er) (L2.WE W σ) Φ) (iv : Iv X.K P0 s0 s L) (ro : Ro X.K P0 s0 R0) (ks : List Nat) (hn : ks.Nodup) (hk : ∀ k ∈ ks, k < L.length) (rs : List (Nat ⊕ Nat)) (hrs : ∀ i, Sum.inl i ∈ rs → i ∉ ks)
    (hp : ∀ vs s2, Ex s s2 → Φ vs s2 → ∃ Lf, pre vs x (ks.map (fun k => L.getD k top) ++ Lf) (rsel L R0 rs) ∧ (∀ A ∈ Lf, A.p X.K s2.F s2.H No) ∧ (∀ v L', ok vs x o v L' → False) ∧ (∀ e L', er vs x o e L' → er' e L')) (hm : m x = some o)
    (hw : ∀ e cls d s' L', er' e L' → Iv X.K P0 s0 s' (rem L ks ++ L') → ExR X.K s'.F e cls d → W cls d σ s'.H) : EvX X e σ s := fun s1 k1 Q =>
  c s1 k1 Q fun vs s2 k2 φ => by
    obtain ⟨Lf, h1, h2, h3, h4⟩ := hp vs s2 (k1.trans k2) φ
    obtain ⟨P1, g1, g2, g3, g4⟩ := call_in (iv.ex (k1.trans k2)) ro ks hn hk Lf h2 rs hrs
    exact ⟨s2, P1, _, _, x, o, rfl, h1, g1, g2, hm, fun v s' L' hok iv' => (h3 v L' hok).elim, fun e cls d s' L' z iv' r => hw e cls d s' L' (h4 e L' z) (g4 s' L' iv') r⟩
theorem mk_cell {c : Str} {p dx : Addr} (iv : Iv X.K P0 s0 s L) (hx : s.H p = none) (hd : s.H dx = none) (ne : dx ≠ p) : ∃ s1 : S, s1.H = upd (upd s.H dx (.own p)) p (.ins (He.ga X.K c) dx []) ∧ Ex s s1 ∧ Iv X.K P0 s0 s1 (L ++ [Dy.cell p c []]) ∧ Iv X.K No s s1 [Dy.cell p c []] := by
  have e1 : Ex s (s.newO dx (.own p) hd) := Ex.newO hd
  have hx1 : (s.newO dx (.own p) hd).H p = none := by show upd s.H dx _ p = none; rw [upd_ne (Ne.symm ne)]; exact hx
  have e2 := Ex.newO (o := HO.ins (He.ga X.K c) dx []) hx1
  have e3 := e1.trans e2
  have g : Iv X.K No s ((s.newO dx (.own p) hd).newO p (.ins (He.ga X.K c) dx []) hx1) [Dy.cell p c []] := by
    refine Iv.put (L := [top]) (Iv.tops (P0 := No) 1 s) 0 e3 ⟨fun a => a = p ∨ a = dx, ⟨dx, fun _ => Iff.rfl, upd_same, ?_⟩, fun a z => ?_⟩
    · show upd (upd s.H dx (.own p)) p _ dx = _
      rw [upd_ne ne, upd_same]
    · rcases z with rfl | rfl
      · exact ⟨(fF hx : s.F a = none), hx⟩
      · exact ⟨(fF hd : s.F a = none), hd⟩
  exact ⟨_, rfl, e3, iv.add g, g⟩
theorem eg_make {c : Str} (ca : CallsN X e σ s c (spI X.K pre m ok er) E Φ) (iv : Iv X.K P0 s0 s L) (ro : Ro X.K P0 s0 R0) (rs : List (Nat ⊕ Nat))
    (hp : ∀ vs s2 p, Ex s s2 → Φ vs s2 → ∃ Lf, pre (.ref p :: vs) x (Dy.cell p c [] :: Lf) (rsel L R0 rs) ∧ (∀ (A : OA) (s3 : S), Ex s2 s3 → A ∈ Lf → A.p X.K s3.F s3.H No) ∧ (∀ v L', ok (.ref p :: vs) x o v L' → v = .non ∧ ok' (.ref p) L') ∧ (∀ e L', er (.ref p :: vs) x o e L' → False)) (hm : m x = some o) : EvG X e σ s ok' := fun s1 k1 Q q =>
  ca s1 k1 Q fun vs s2 k2 φ p dx n1 n2 ne => by
    obtain ⟨Lf, h1, h2, h3, h4⟩ := hp vs s2 p (k1.trans k2) φ
    obtain ⟨s3, e3, k3, iv3, iv4⟩ := mk_cell (c := c) (iv.ex (k1.trans k2)) n1 n2 ne
    have kk := k2.trans k3
    obtain ⟨P1, g1, g2, g3, g4⟩ := call_in (R0 := rsel L R0 rs) (K := X.K) (s0 := s3) (s := s3) (P0 := fun a => a = p ∨ a = dx) (L := [Dy.cell p c []]) ⟨(Ex.refl s3).z, by
        obtain ⟨φ, f1, f2, f3⟩ := iv4.o
        refine ⟨φ, f1, f2, fun i a z => ⟨(f3 i a z).1, .inl ?_, (f3 i a z).2.2⟩⟩
        have hi : i = 0 := by have := (f3 i a z).2.2; simpa using this
        subst hi
        obtain ⟨dx', w0, w1, w2⟩ := f1 0 _ rfl
        have : dx' = dx := by
          rw [e3, upd_same] at w1
          cases w1; rfl
        subst this
        exact (w0 a).mp z⟩ ⟨fun i A hA => by
        obtain ⟨PP, w1, w2, _, _⟩ := call_in (iv.ex (k1.trans k2)) ro [] List.nodup_nil (fun k hk => by cases hk) [] (fun A hA => by cases hA) rs (fun i _ z => by cases z)
        obtain ⟨Pa, u1, u2⟩ := w2.o i A hA
        refine ⟨Pa, OA.stay (P0 := No) u1 k3.z fun _ _ z => z, fun a ha z => ?_⟩
        obtain ⟨o', ho'⟩ := A.dom u1 ha
        rcases z with rfl | rfl
        · rw [n1] at ho'; cases ho'
        · rw [n2] at ho'; cases ho'⟩ [0] (by decide) (by simp) Lf (fun A hA => h2 A s3 k3 hA) ((List.range rs.length).map Sum.inr) (fun i z => by simp at z)
    refine ⟨s3, P1, _, _, x, o, e3, ?_, g1, g2, hm, fun v s' L' hok iv' => ?_, fun e cls d s' L' z _ _ => (h4 e L' z).elim⟩
    · have er : rsel [Dy.cell p c []] (rsel L R0 rs) ((List.range rs.length).map Sum.inr) = rsel L R0 rs := by
        apply List.ext_getElem?
        intro i
        unfold rsel
        rw [List.map_map, List.getElem?_map]
        by_cases hi : i < rs.length
        · rw [List.getElem?_range hi]
          simp only [Option.map_some, Function.comp]
          rw [List.getD_eq_getElem?_getD, List.getElem?_map, List.getElem?_eq_getElem hi]
          rfl
        · rw [List.getElem?_eq_none (by rw [List.length_range]; omega), List.getElem?_map, List.getElem?_eq_none (by omega)]; rfl
      rw [er]
      exact h1
    · obtain ⟨v0, hok'⟩ := h3 v L' hok
      have := g4 s' L' iv'
      refine ⟨v0, q _ s' L' hok' ?_⟩
      have iv5 : Iv X.K (fun a => a = p ∨ a = dx) s3 s' L' := by
        have := this.sel ((List.range L'.length).map fun i => some (i + 1)) (by
          have : (List.map (fun i => some (i + 1)) (List.range L'.length)).filterMap id = (List.range L'.length).map (· + 1) := by
            rw [List.filterMap_map]
            exact (List.filterMap_eq_map (f := fun i : Nat => i + 1)) ▸ rfl
          rw [this]
          exact List.Pairwise.map _ (fun a b h e => h (Nat.succ.inj e)) List.nodup_range) (M := L') (by
          unfold pick rem
          apply List.ext_getElem?
          intro i
          rw [List.map_map, List.getElem?_map]
          by_cases hi : i < L'.length
          · rw [List.getElem?_range hi]
            simp [List.getD_eq_getElem?_getD, List.getElem?_eq_getElem hi]
          · rw [List.getElem?_eq_none (by rw [List.length_range]; omega), List.getElem?_eq_none (by omega)]; rfl)
        exact this
      refine ⟨⟨kk.f.trans iv5.m.f, fun a o h _ => ?_, fun a o h _ n => ?_, fun a o h => ?_⟩, ?_⟩
      · have : ¬ (a = p ∨ a = dx) := fun z => by
          rcases z with rfl | rfl
          · rw [k2.h _ _ h] at n1; cases n1
          · rw [k2.h _ _ h] at n2; cases n2
        exact iv5.m.h _ _ (kk.h _ _ h) this
      · have : ¬ (a = p ∨ a = dx) := fun z => by
          rcases z with rfl | rfl
          · rw [k2.h _ _ h] at n1; cases n1
          · rw [k2.h _ _ h] at n2; cases n2
        exact iv5.m.n _ _ (kk.h _ _ h) this (kk.n _ _ h n)
      · exact iv5.m.d _ _ (kk.h _ _ h)
      · obtain ⟨φ, f1, f2, f3⟩ := iv5.o
        refine ⟨φ, f1, f2, fun i a z => ⟨(f3 i a z).1, .inr ?_, (f3 i a z).2.2⟩⟩
        rcases (f3 i a z).2.1 with (rfl | rfl) | w
        · exact fr_back k2 n1
        · exact fr_back k2 n2
        · exact fr_back kk w
theorem ex_make {c : Str} {er' : Er → Prop} {W : WX} (ca : CallsN X e σ s c (spI X.K pre m ok er) (L2.WE W σ) Φ) (iv : Iv X.K P0 s0 s L) (ro : Ro X.K P0 s0 R0) (rs : List (Nat ⊕ Nat))
    (hp : ∀ vs s2 p, Ex s s2 → Φ vs s2 → ∃ Lf, pre (.ref p :: vs) x (Dy.cell p c [] :: Lf) (rsel L R0 rs) ∧ (∀ (A : OA) (s3 : S), Ex s2 s3 → A ∈ Lf → A.p X.K s3.F s3.H No) ∧ (∀ v L', ok (.ref p :: vs) x o v L' → False) ∧ (∀ e L', er (.ref p :: vs) x o e L' → er' e)) (hm : m x = some o)
    (hw : ∀ e cls d s', er' e → Ex s s' → ExR X.K s'.F e cls d → W cls d σ s'.H) : EvX X e σ s := fun s1 k1 Q =>
  ca s1 k1 Q fun vs s2 k2 φ p dx n1 n2 ne => by
    obtain ⟨Lf, h1, h2, h3, h4⟩ := hp vs s2 p (k1.trans k2) φ
    obtain ⟨s3, e3, k3, iv3, iv4⟩ := mk_cell (c := c) (iv.ex (k1.trans k2)) n1 n2 ne
    have kk := (k1.trans k2).trans k3
    obtain ⟨P1, g1, g2, g3, g4⟩ := call_in (R0 := rsel L R0 rs) (K := X.K) (s0 := s3) (s := s3) (P0 := fun a => a = p ∨ a = dx) (L := [Dy.cell p c []]) ⟨(Ex.refl s3).z, by
        obtain ⟨φ, f1, f2, f3⟩ := iv4.o
        refine ⟨φ, f1, f2, fun i a z => ⟨(f3 i a z).1, .inl ?_, (f3 i a z).2.2⟩⟩
        have hi : i = 0 := by have := (f3 i a z).2.2; simpa using this
        subst hi
        obtain ⟨dx', w0, w1, w2⟩ := f1 0 _ rfl
        have : dx' = dx := by
          rw [e3, upd_same] at w1
          cases w1; rfl
        subst this
        exact (w0 a).mp z⟩ ⟨fun i A hA => by
        obtain ⟨PP, w1, w2, _, _⟩ := call_in (iv.ex (k1.trans k2)) ro [] List.nodup_nil (fun k hk => by cases hk) [] (fun A hA => by cases hA) rs (fun i _ z => by cases z)
        obtain ⟨Pa, u1, u2⟩ := w2.o i A hA
        refine ⟨Pa, OA.stay (P0 := No) u1 k3.z fun _ _ z => z, fun a ha z => ?_⟩
        obtain ⟨o', ho'⟩ := A.dom u1 ha
        rcases z with rfl | rfl
        · rw [n1] at ho'; cases ho'
        · rw [n2] at ho'; cases ho'⟩ [0] (by decide) (by simp) Lf (fun A hA => h2 A s3 k3 hA) ((List.range rs.length).map Sum.inr) (fun i z => by simp at z)
    refine ⟨s3, P1, _, _, x, o, e3, ?_, g1, g2, hm, fun v s' L' hok iv' => (h3 v L' hok).elim, fun e cls d s' L' z iv' r => hw e cls d s' (h4 e L' z) ?_ r⟩
    · have er : rsel [Dy.cell p c []] (rsel L R0 rs) ((List.range rs.length).map Sum.inr) = rsel L R0 rs := by
        apply List.ext_getElem?
        intro i
        unfold rsel
        rw [List.map_map, List.getElem?_map]
        by_cases hi : i < rs.length
        · rw [List.getElem?_range hi]
          simp only [Option.map_some, Function.comp]
          rw [List.getD_eq_getElem?_getD, List.getElem?_map, List.getElem?_eq_getElem hi]
          rfl
        · rw [List.getElem?_eq_none (by rw [List.length_range]; omega), List.getElem?_map, List.getElem?_eq_none (by omega)]; rfl
      rw [er]
      exact h1
    · have iv5 := g4 s' L' iv'
      have k0 := k1.trans k2
      refine ⟨kk.f.trans iv5.m.f, fun a o h => ?_, fun a o h n => ?_⟩
      · have : ¬ (a = p ∨ a = dx) := fun z => by
          rcases z with rfl | rfl
          · rw [k0.h _ _ h] at n1; cases n1
          · rw [k0.h _ _ h] at n2; cases n2
        exact iv5.m.h _ _ (kk.h _ _ h) this
      · have : ¬ (a = p ∨ a = dx) := fun z => by
          rcases z with rfl | rfl
          · rw [k0.h _ _ h] at n1; cases n1
          · rw [k0.h _ _ h] at n2; cases n2
        exact iv5.m.n _ _ (kk.h _ _ h) this (kk.n _ _ h n)
end
end Dy

namespace Dy
open PySem PySem.Spec L2
open PyProof.Rows hiding St
open Enc (rep)
open Flat (toV)
open EncA (repA)

structure Dc (κ α : Type) where
  l : List (κ × α)
instance {κ α : Type} [DKey κ] [Enc α] : Enc (Dc κ α) := ⟨fun K F v x => ∃ p o kv, v = .ref p ∧ F p = some (.frz o (.dK kv)) ∧ KReps K F kv x.l, fun e ⟨p, o, kv, h1, h2, h3⟩ => ⟨p, o, kv, h1, e _ _ h2, h3.mono e⟩⟩
section
variable {α β γ κ τ υ ρ : Type} [Enc α] [Enc β] [Enc γ] [Enc τ] [DKey κ] [DecidableEq κ] {X : Cx} {σ : L2.St} {P0 : Addr → Prop} {s0 s s1 t : S} {L M : List OA} {e a b c o i tg iter elt : Expr} {es : List Expr} {pos p0 p1 p2 p3 : Pos} {D : Ends} {rest body : List Stmt} {n : Str} {p : Addr} {K : PySem.W.Frag}
theorem Iv.tc (h : Iv K P0 s0 s L) (i : Nat) {p : Addr} {vs : List V} (e : L[i]? = some (Dy.tc p vs) := by rfl) : s.H p = some (.tup vs) := by
  obtain ⟨P, ⟨h0, h1⟩, h3⟩ := h.at i e
  exact h1
theorem eg_ev {x : α} (h : Ev X e σ s x) : EvG X e σ s (fun v L' => L' = [fz v x]) := fun s1 k Q q => h s1 k Q fun v s2 k2 r => q v s2 _ rfl (ev_ivf k2 r)
theorem eg_new {xs : List α} (h : EvN X e σ s xs) : EvG X e σ s (fun v L' => ∃ p, v = .ref p ∧ L' = [ol p xs]) := fun s1 k Q q => h s1 k Q fun p s2 k2 n2 r => q _ s2 _ ⟨p, rfl, rfl⟩ (ev_ivl k2 n2 r)
theorem eg_newD {xs : List (κ × α)} (h : EvND X e σ s xs) : EvG X e σ s (fun v L' => ∃ p, v = .ref p ∧ L' = [od p xs]) := fun s1 k Q q => h s1 k Q fun p s2 k2 n2 r => q _ s2 _ ⟨p, rfl, rfl⟩ (ev_ivd k2 n2 r)
theorem eg_raw {v0 : V} (h : Ev X e σ s (Rw.mk v0)) : EvG X e σ s (fun v L' => v = v0 ∧ L' = []) := fun s1 k Q q => h s1 k Q fun v s2 k2 r => q v s2 [] ⟨r, rfl⟩ ((Iv.tops (P0 := No) 0 s1).ex k2)
theorem EvG.imp {ok ok' : V → List OA → Prop} (h : EvG X e σ s ok) (k : ∀ v L', ok v L' → ok' v L') : EvG X e σ s ok' := fun s1 k1 Q q => h s1 k1 Q fun v s2 L' z => q v s2 L' (k v L' z)
theorem ev_of_eg {x : α} {ok : V → List OA → Prop} (h : EvG X e σ s ok) (k : ∀ v L', ok v L' → ∃ M, L' = fz v x :: M) : Ev X e σ s x := fun s1 k1 Q q => h s1 k1 Q fun v s2 L' z iv => by
  obtain ⟨M, rfl⟩ := k v L' z
  exact q v s2 iv.exx (iv.fz 0)
theorem en_of_eg {xs : List α} {ok : V → List OA → Prop} (h : EvG X e σ s ok) (k : ∀ v L', ok v L' → ∃ p M, v = .ref p ∧ L' = ol p xs :: M) : EvN X e σ s xs := fun s1 k1 Q q => h s1 k1 Q fun v s2 L' z iv => by
  obtain ⟨p, M, rfl, rfl⟩ := k v L' z
  exact q p s2 iv.exx (iv.fresh 0) (iv.ol 0)
def EvGs (X : Cx) (es : List Expr) (σ : L2.St) (s : S) (ok : List V → List OA → Prop) : Prop := ∀ s1, Ex s s1 → ∀ Q : List V → Hp → Prop, (∀ vs s2 L', ok vs L' → Iv X.K No s1 s2 L' → Q vs s2.H) → WA X es σ s1.H Q
theorem egs_nil : EvGs X [] σ s (fun vs L' => vs = [] ∧ L' = []) := fun s1 k Q q => wa_of pa_nil (q [] s1 [] ⟨rfl, rfl⟩ (Iv.tops (P0 := No) 0 s1))
theorem egs_cons {ok : V → List OA → Prop} {ok2 : List V → List OA → Prop} (h : EvG X e σ s ok) (hr : EvGs X es σ s ok2) (hs : starEach (e :: es) X.env = (false, eval e X.env) :: starEach es X.env := by exact star_cons rfl) :
    EvGs X (e :: es) σ s (fun vs L' => ∃ v L1 ws L2, vs = v :: ws ∧ L' = L1 ++ L2 ∧ ok v L1 ∧ ok2 ws L2) := fun s1 k Q q =>
  wa_of (pa_cons pe_we pa_wa hs) (h s1 k _ fun v s2 L1 z1 iv1 => hr s2 (k.trans iv1.exx) _ fun ws s3 L2 z2 iv2 => q _ s3 _ ⟨v, L1, ws, L2, rfl, rfl, z1, z2⟩ (iv1.add iv2))
theorem eg_tup {ok : List V → List OA → Prop} {k} (h : EvGs X es σ s ok) (hz : ∀ vs L', ok vs L' → vs.length ≤ 1000) : EvG X (.Tuple es k pos) σ s (fun v L' => ∃ p vs L1, v = .ref p ∧ ok vs L1 ∧ L' = tc p vs :: L1) := fun s1 k1 Q q =>
  we_of (pe_tup pa_wa) (h s1 k1 _ fun vs s2 L1 z1 iv1 => ⟨by rw [sizeLine_eq]; have := hz vs L1 z1; omega, fun p hp => by
    have iv2 : Iv X.K No s2 (s2.newO p (.tup vs) hp) [tc p vs] := Iv.put (L := [top]) (Iv.tops (P0 := No) 1 s2) 0 (Ex.newO hp) ⟨fun a => a = p, ⟨fun _ => Iff.rfl, upd_same⟩, fun a z => by rw [z]; exact ⟨(fF hp : s2.F p = none), hp⟩⟩
    have := iv1.add iv2
    have iv3 := this.sel (M := tc p vs :: L1) (some L1.length :: (List.range L1.length).map some) (by
      have e1 : (some L1.length :: (List.range L1.length).map some).filterMap id = L1.length :: List.range L1.length := by simp
      rw [e1]
      exact List.nodup_cons.mpr ⟨by simp, List.nodup_range⟩) (by
      unfold pick
      rw [List.map_cons]
      congr 1
      · simp [List.getD_eq_getElem?_getD]
      · apply List.ext_getElem?
        intro i
        rw [List.map_map, List.getElem?_map]
        by_cases hi : i < L1.length
        · rw [List.getElem?_range hi]
          simp [List.getD_eq_getElem?_getD, List.getElem?_append_left hi, List.getElem?_eq_getElem hi]
        · rw [List.getElem?_eq_none (by rw [List.length_range]; omega), List.getElem?_eq_none (by omega)]; rfl)
    exact q _ _ _ ⟨p, vs, L1, rfl, z1, rfl⟩ iv3⟩)
theorem do_setG (i : Nat) {n : Str} {py : Pos} {ok : V → List OA → Prop} (h : EvG X e σ s ok) (k : ∀ v s1 L', ok v L' → Iv X.K No s s1 L' → WSs X rest D (σ.set i (some v)) s1.H) (hN : X.N.Nodup) (hx : Loc X.env.scope n := by first | exact Or.inl rfl | exact Or.inr rfl) (hi : X.N[i]? = some n := by rfl)
    (hs : swapsWith e (some (.Name n py)) pos.line X.env = pure false := by rfl) (hf : X.fn n = true ∨ X.env.scope.names.lookup n = some .local := by first | exact .inl rfl | exact .inr rfl) : WSs X (.Assign [.Name n py] e pos :: rest) D σ s.H :=
  do_cons (ps_set hN hi hx pe_we hs hf) (h s (Ex.refl _) _ fun v s1 L' z iv => k v s1 L' z iv)
theorem do_setK (i : Nat) {n : Str} {py : Pos} {Φ : V → S → Prop} (h : EvK X e σ s Φ) (k : ∀ v s1, Φ v s1 → WSs X rest D (σ.set i (some v)) s1.H) (hN : X.N.Nodup) (hx : Loc X.env.scope n := by first | exact Or.inl rfl | exact Or.inr rfl) (hi : X.N[i]? = some n := by rfl)
    (hs : swapsWith e (some (.Name n py)) pos.line X.env = pure false := by rfl) (hf : X.fn n = true ∨ X.env.scope.names.lookup n = some .local := by first | exact .inl rfl | exact .inr rfl) : WSs X (.Assign [.Name n py] e pos :: rest) D σ s.H :=
  do_cons (ps_set hN hi hx pe_we hs hf) (h _ fun v s1 z => k v s1 z)
theorem do_exprK {Φ : V → S → Prop} (h : EvK X e σ s Φ) (k : ∀ v s1, Φ v s1 → WSs X rest D σ s1.H) (hs : swapsWith e none pos.line X.env = pure false := by rfl) : WSs X (.Expr e pos :: rest) D σ s.H :=
  do_cons (ps_expr pe_we hs) (h _ fun v s1 z => k v s1 z)
theorem do_retK {Φ : V → S → Prop} (h : EvK X e σ s Φ) (k : ∀ v s1, Φ v s1 → D.rt v s1.H) : WSs X (.Return (some e) pos :: rest) D σ s.H :=
  do_cons (ps_ret pe_we) (h _ fun v s1 z => k v s1 z)
theorem do_retE (k : D.rt .non s.H) : WSs X (.Return none pos :: rest) D σ s.H := do_cons ps_retN k
theorem ek_of {ok : V → List OA → Prop} (h : EvG X e σ s ok) (iv : Iv X.K P0 s0 s L) : EvK X e σ s (fun v s' => ∃ L', ok v L' ∧ Fle s.F s'.F ∧ Iv X.K P0 s0 s' (L ++ L')) := fun Q q => h s (Ex.refl _) Q fun v s1 L' z iv' => q v s1 ⟨L', z, iv'.m.f, iv.add iv'⟩
theorem do_exprG {ok : V → List OA → Prop} (h : EvG X e σ s ok) (k : ∀ v s1 L', ok v L' → Iv X.K No s s1 L' → WSs X rest D σ s1.H) (hs : swapsWith e none pos.line X.env = pure false := by rfl) : WSs X (.Expr e pos :: rest) D σ s.H :=
  do_cons (ps_expr pe_we hs) (h s (Ex.refl _) _ fun v s1 L' z iv => k v s1 L' z iv)
theorem do_unpK2 (i j : Nat) {Φ : V → S → Prop} (h : EvK X e σ s Φ) (k : ∀ v s1, Φ v s1 → ∃ p v1 v2, v = .ref p ∧ s1.H p = some (.tup [v1, v2]) ∧ WSs X rest D ((σ.set i (some v1)).set j (some v2)) s1.H)
    (hg : PG X tg (gTup X.K 2 (gCons (gName i) (gCons (gName j) gNil)))) (hs : swapsWithSole [tg] e pos.line X.env = pure false := by rfl) (hw : swappedStores [tg] e X.env = pure none := by rfl)
    (h1 : (assignEach [tg] X.env).map (·.2) = [assign tg X.env] := by rfl) : WSs X (.Assign [tg] e pos :: rest) D σ s.H :=
  do_cons (ps_asg pe_we hg hs hw h1) (h _ fun v s1 z => by
    obtain ⟨p, v1, v2, rfl, h0, kk⟩ := k v s1 z
    exact ⟨p, _, rfl, .inl (.inl h0), rfl, v1, _, rfl, v2, _, rfl, rfl, kk⟩)
theorem do_unpK3 (i j l : Nat) {Φ : V → S → Prop} (h : EvK X e σ s Φ) (k : ∀ v s1, Φ v s1 → ∃ p v1 v2 v3, v = .ref p ∧ s1.H p = some (.tup [v1, v2, v3]) ∧ WSs X rest D (((σ.set i (some v1)).set j (some v2)).set l (some v3)) s1.H)
    (hg : PG X tg (gTup X.K 3 (gCons (gName i) (gCons (gName j) (gCons (gName l) gNil))))) (hs : swapsWithSole [tg] e pos.line X.env = pure false := by rfl) (hw : swappedStores [tg] e X.env = pure none := by rfl)
    (h1 : (assignEach [tg] X.env).map (·.2) = [assign tg X.env] := by rfl) : WSs X (.Assign [tg] e pos :: rest) D σ s.H :=
  do_cons (ps_asg pe_we hg hs hw h1) (h _ fun v s1 z => by
    obtain ⟨p, v1, v2, v3, rfl, h0, kk⟩ := k v s1 z
    exact ⟨p, _, rfl, .inl (.inl h0), rfl, v1, _, rfl, v2, _, rfl, v3, _, rfl, rfl, kk⟩)
theorem do_fldG {f cn : Str} {fs : List (Str × V)} {ok : V → List OA → Prop} (iv : Iv X.K P0 s0 s L) (i : Nat) (hA : L[i]? = some (Dy.cell p cn fs)) (ho : Ev X o σ s (Rw.mk (.ref p))) (h : EvG X e σ s ok) (hc : Cls X.K (He.ga X.K cn)) (hn : NoAttr X.K (He.ga X.K cn) f) (hl : fs.length < 1000)
    (k : ∀ v s1 L', ok v L' → Fle s.F s1.F → Iv X.K P0 s0 s1 (L.set i (Dy.cell p cn (putF f v fs)) ++ L') → WSs X rest D σ s1.H)
    (hs : swapsWith e (some (.Attribute o f p1)) pos.line X.env = pure false := by rfl) : WSs X (.Assign [.Attribute o f p1] e pos :: rest) D σ s.H :=
  do_cons (ps_fld pe_we pe_we hs) (h s (Ex.refl _) _ fun v s1 L' z iv1 => ho s1 iv1.exx _ fun u s2 k2 e2 => by
    cases (show u = V.ref p from e2)
    have ivA := (iv.add iv1).ex k2
    have hA2 : (L ++ L')[i]? = some (Dy.cell p cn fs) := by rw [List.getElem?_append_left (List.getElem?_eq_some_iff.mp hA).1]; exact hA
    obtain ⟨P, ⟨dx, h0, h1, h2⟩, h3⟩ := ivA.at i hA2
    have ne : dx ≠ p := ne_of h2 h1 (by intro z; cases z)
    have hf : s2.F p = none := h3 p ((h0 p).mpr (.inl rfl))
    refine ⟨p, _, dx, fs, rfl, h1, hc, hn, hl, ?_⟩
    have iv3 : Iv X.K P0 s0 (s2.put p (.ins (He.ga X.K cn) dx (putF f v fs)) hf) ((L ++ L').set i (Dy.cell p cn (putF f v fs))) := by
      refine ivA.upd i hA2 fun P hP hPf => ⟨P, ?_, ?_, ?_⟩
      · obtain ⟨dx', g0, g1, g2⟩ := hP
        have : dx' = dx := by rw [h1] at g1; cases g1; rfl
        subst this
        exact ⟨dx', g0, upd_same, (upd_ne ne).trans g2⟩
      · exact fun a z => ⟨hPf a z, .inl z⟩
      · have m : Mx (· = p) s2 (s2.put p (.ins (He.ga X.K cn) dx (putF f v fs)) hf) := Mx.put hf
        obtain ⟨dx', g0, g1, g2⟩ := hP
        exact ⟨m.f, fun a o q n => m.h a o q fun z => n ((g0 a).mpr (.inl z)), fun a o q _ z => m.n a o q z, m.d⟩
    rw [List.set_append_left _ _ (List.getElem?_eq_some_iff.mp hA).1] at iv3
    exact k v (s2.put p (.ins (He.ga X.K cn) dx (putF f v fs)) hf) L' z (iv1.m.f.trans k2.f) iv3)
theorem do_setItemP {xs : List α} {x : α} {z : Int} {j : Nat} (ho : Ev X o σ s (Rw.mk (.ref p))) (r : Own X.K s p xs) (he : Ev X e σ s x) (hi : Ev X a σ s z) (hj : ixN xs.length z = some j)
    (k : ∀ s1, Mx (· = p) s s1 → Own X.K s1 p (xs.set j x) → WSs X rest D σ s1.H)
    (ha : ∀ v, assign (.Subscript o a p1) X.env v = (do
      let ov ← holding [v] (eval o X.env)
      let iv ← holding [v, ov] (eval a X.env)
      standAt p1
      holding [v, ov, iv] (setItem ov iv v)
      release [v, ov, iv] []) := by intro _; rfl)
    (hs : swapsWithSole [.Subscript o a p1] e pos.line X.env = pure false := by rfl) (hw : swappedStores [.Subscript o a p1] e X.env = pure none := by rfl)
    (h1 : (assignEach [.Subscript o a p1] X.env).map (·.2) = [assign (.Subscript o a p1) X.env] := by rfl) :
    WSs X (.Assign [.Subscript o a p1] e pos :: rest) D σ s.H :=
  do_cons (ps_asg pe_we (pg_sub pe_we pe_we set_list ha) hs hw h1) (he s (Ex.refl _) _ fun v s1 k1 r1 => ho s1 k1 _ fun w s2 k2 e2 => by
    cases (show w = V.ref p from e2)
    have k12 := k1.trans k2
    exact hi s2 k12 _ fun u s3 k3 r3 => by
      obtain ⟨f0, vs, h2, h3⟩ := r.ex (k12.trans k3)
      refine ⟨p, vs, z, j, rfl, r3, h2, by rw [h3.len]; exact hj, ?_⟩
      exact k (s3.put p (.lst (vs.set j v)) f0) ((k12.trans k3).mx.trans (Mx.put f0)) ⟨f0, _, upd_same, h3.set j (Enc.mono (k2.trans k3).f r1)⟩)
theorem do_appendP {xs : List α} {x : α} (ho : Ev X o σ s (Rw.mk (.ref p))) (r : Own X.K s p xs) (he : Ev X e σ s x) (hz : xs.length < sizeLine)
    (k : ∀ s1, Mx (· = p) s s1 → Own X.K s1 p (xs ++ [x]) → WSs X rest D σ s1.H)
    (hbase : attributeBase o "append" X.env (eval o X.env) = eval o X.env := by rfl)
    (hfew : ((backTo p2 (starEach [e] X.env)).all (fun x => !x.1) && (backToKw p2 (keywordEach [] X.env)).all (fun x => x.1.isSome) && decide (([e] : List Expr).length + ([] : List Keyword).length + (if ([] : List Keyword).isEmpty then 0 else 1) < 30)) = true := by rfl)
    (hline : (p1.endLine == p2.line) = true := by rfl) (hs : starEach [e] X.env = (false, eval e X.env) :: starEach [] X.env := by rfl) (hplain : (backTo p2 (starEach [] X.env)).any (·.1) = false := by rfl)
    (hsw : swapsWith (.Call (.Attribute o "append" p1) [e] [] p2) none p3.line X.env = pure false := by rfl) :
    WSs X (.Expr (.Call (.Attribute o "append" p1) [e] [] p2) p3 :: rest) D σ s.H :=
  do_cons (ps_expr (pe_bm PySem.F.plainAttrs_list PySem.F.slot_list_append PySem.F.type_list_append mt_append pe_we (pa_cons pe_we pa_nil hs) hbase hfew hline hs hplain) hsw) (ho s (Ex.refl _) _ fun w s1 k1 e1 => by
    cases (show w = V.ref p from e1)
    obtain ⟨f1, vs, h2, h3⟩ := r.ex k1
    refine ⟨.inl ⟨rfl, vs, .inl (.inl h2)⟩, he s1 k1 _ fun v s2 k2 r2 => ?_⟩
    obtain ⟨f2, ws, g2, g3⟩ := r.ex (k1.trans k2)
    exact ⟨p, ws, v, rfl, rfl, g2, by rw [g3.len]; exact hz, k (s2.put p (.lst (ws ++ [v])) f2) ((k1.trans k2).mx.trans (Mx.put f2)) ⟨f2, _, upd_same, g3.snoc r2⟩⟩)
theorem raw_tup {vs : List V} {v : V} {z : Int} (h : Ev X e σ s (Rw.mk (.ref p))) (r : s.H p = some (.tup vs)) (hb : Ev X b σ s z) (hv : atI vs z = some v) (hp : PlainIx b := by intro _ _; rfl) : Ev X (.Subscript e b pos) σ s (Rw.mk v) := fun s1 k Q q =>
  we_of (pe_ix ix_tup pe_we pe_we hp) (h s1 k _ fun u s2 k2 e2 => hb s2 (k.trans k2) _ fun w s3 k3 e3 => by
    cases (show u = V.ref p from e2)
    exact ⟨p, vs, z, v, rfl, e3, .inl (.inl (((k.trans k2).trans k3).h _ _ r)), hv, q v s3 (k2.trans k3) rfl⟩)
theorem ev_lenTc {vs : List V} {z : Int} (hm : X.mg "len" = none) (ha : Ev X e σ s (Rw.mk (.ref p))) (r : s.H p = some (.tup vs)) (hz : (vs.length : Int) = z) (hg : Gl X "len" := by rfl) (he : starEach [e] X.env = (false, eval e X.env) :: starEach [] X.env := by rfl) (hpl : (backTo pos (starEach [] X.env)).any (·.1) = false := by rfl) : Ev X (.Call (.Name "len" p0) [e] [] pos) σ s z := fun s1 k Q q =>
  we_of (pe_callB call_len_seq hg hm boot_len (pa_cons pe_we pa_nil he) (he := he) (hpl := hpl)) (ha s1 k _ fun u s2 k2 e2 => by
    cases (show u = V.ref p from e2)
    subst hz
    exact ⟨p, vs, rfl, .inr (.inl (.inl ((k.trans k2).h _ _ r))), q _ s2 k2 rfl⟩)
theorem own_some {xs : List α} (h : Own K s p xs) : Own K s p (xs.map some) := by
  obtain ⟨h0, vs, h1, h2⟩ := h
  refine ⟨h0, vs, h1, ?_⟩
  have : ∀ {vs : List V} {xs : List α}, Reps K s.F vs xs → Reps K s.F vs (xs.map some) := by
    intro vs
    induction vs with
    | nil => intro xs h; cases xs with | nil => trivial | cons _ _ => exact h.elim
    | cons v vs ih => intro xs h; cases xs with
      | nil => exact h.elim
      | cons x xs => exact ⟨h.1, ih h.2⟩
  exact this h2
theorem en_some {xs : List α} (h : EvN X e σ s xs) : EvN X e σ s (xs.map some) := fun s1 k Q q => h s1 k Q fun p s2 k2 n2 o2 => q p s2 k2 n2 (own_some o2)
def memF {ε : Type} [DecidableEq ε] (x : ε) (xs : List ε) : Bool := decide (x ∈ xs)
theorem memF_iff {ε : Type} [DecidableEq ε] {x : ε} {xs : List ε} : memF x xs = true ↔ x ∈ xs := decide_eq_true_iff
theorem eb_inF {ε : Type} [Flat ε] [DecidableEq ε] {x : ε} {xs : List ε} (ha : Ev X a σ s x) (hb : EvR X b σ s xs) (hm : behindInMarks .In b = false := by rfl) : EvB X (.Compare a [.In] [b] pos) σ s (memF x xs) :=
  eb_cmpR op_in_seq ha hb (fun v u s2 hv hu Q q => by
    obtain ⟨p, vs, rfl, h1, h2⟩ := hu
    rw [Flat.iff.mp hv]
    obtain rfl := h2.flat
    refine ⟨p, _, rfl, .inl h1, Flat.flat x, flat_all xs, ?_⟩
    rw [inV_flat]; exact q) hm
theorem eb_notInF {ε : Type} [Flat ε] [DecidableEq ε] {x : ε} {xs : List ε} (ha : Ev X a σ s x) (hb : EvR X b σ s xs) (hm : behindInMarks .NotIn b = false := by rfl) : EvB X (.Compare a [.NotIn] [b] pos) σ s (!memF x xs) :=
  eb_cmpR op_notIn_seq ha hb (fun v u s2 hv hu Q q => by
    obtain ⟨p, vs, rfl, h1, h2⟩ := hu
    rw [Flat.iff.mp hv]
    obtain rfl := h2.flat
    refine ⟨p, _, rfl, .inl h1, Flat.flat x, flat_all xs, ?_⟩
    rw [inV_flat]; exact q) hm
def S.all (s : S) : S := ⟨s.H, s.H, fun _ _ h => h⟩
def EvV {A : Type} [EncA A] (X : Cx) (es : List Expr) (σ : L2.St) (s : S) (a : A) : Prop := ∀ s1, Ex s s1 → ∀ Q : List V → Hp → Prop, (∀ vs s2, Ex s1 s2 → repA X.K s2.H vs a → Q vs s2.H) → WA X es σ s1.H Q
theorem evv_nil : EvV X [] σ s () := fun s1 k Q q => wa_of pa_nil (q [] s1 (Ex.refl _) rfl)
theorem repA_H {A : Type} [EncA A] {vs : List V} {a : A} (e : Ex s t) (h : repA K s.H vs a) : repA K t.H vs a := EncA.monoA e.h h
theorem evv_cons {A : Type} [EncA A] {x : α} {r : A} (h : Ev X e σ s x) (hr : EvV X es σ s r) (hs : starEach (e :: es) X.env = (false, eval e X.env) :: starEach es X.env := by exact star_cons rfl) : EvV X (e :: es) σ s (x, r) := fun s1 k Q q =>
  wa_of (pa_cons pe_we pa_wa hs) (h s1 k _ fun v s2 k2 r2 => hr s2 (k.trans k2) _ fun vs s3 k3 r3 => q _ s3 (k2.trans k3) ⟨v, vs, rfl, Enc.mono (Fle.trans k3.f s3.sub) r2, r3⟩)
theorem evv_consR {A : Type} [EncA A] {xs : List α} {r : A} (h : EvR X e σ s xs) (hr : EvV X es σ s r) (hs : starEach (e :: es) X.env = (false, eval e X.env) :: starEach es X.env := by exact star_cons rfl) : EvV X (e :: es) σ s (xs, r) := fun s1 k Q q =>
  wa_of (pa_cons pe_we pa_wa hs) (h s1 k _ fun v s2 k2 r2 => hr s2 (k.trans k2) _ fun vs s3 k3 r3 => q _ s3 (k2.trans k3) ⟨v, vs, rfl, by
    obtain ⟨p, vs, e1, h1, h2⟩ := r2.ex k3
    exact ⟨p, vs, e1, h1, h2.mono s3.sub⟩, r3⟩)
def S.backH (s t : S) (h : ∀ a o, s.H a = some o → t.H a = some o) : S := ⟨s.F, t.H, fun a o q => h a o (s.sub a o q)⟩
theorem backH_ex (e : Ex s.all t) : Ex s (s.backH t e.h) := ⟨fun _ _ h => h, e.h, fun _ _ _ h => h⟩
theorem ev_callT {A ε : Type} [EncA A] [Flat ε] {m : A → Option ε} {n : Str} {k j : Nat} {x : A} {r : ε} (C : Cal X.prog X.w X.K X.mg X.base CX0 k n (sp X.K m)) (hr : Room j X.A) (hk : k ≤ j) (ha : EvV X (e :: es) σ s x) (h : m x = some r) (hg : Gl X n := by rfl)
    (hdb : (n == ("__debug__" : Str)) = false := by decide) (he : starEach (e :: es) X.env = (false, eval e X.env) :: starEach es X.env := by rfl) (hpl : (backTo pos (starEach es X.env)).any (·.1) = false := by rfl) : Ev X (.Call (.Name n p0) (e :: es) [] pos) σ s r := fun s1 k1 Q q =>
  we_of (pe_c0 C hr hk hg pa_wa hdb he hpl) (ha s1 k1 _ fun vs s2 k2 r2 => ⟨s2.all, x, r, rfl, by rw [List.append_nil]; exact r2, h, fun v s3 k3 r3 => q v (s2.backH s3 k3.h) (k2.trans (backH_ex k3)) (Flat.iff.mpr (Flat.iff.mp r3))⟩)
theorem en_callT {A ε : Type} [EncA A] [Flat ε] {m : A → Option (List ε)} {n : Str} {k j : Nat} {x : A} {r : List ε} (C : Cal X.prog X.w X.K X.mg X.base CX0 k n (spN X.K m)) (hr : Room j X.A) (hk : k ≤ j) (ha : EvV X (e :: es) σ s x) (h : m x = some r) (hg : Gl X n := by rfl)
    (hdb : (n == ("__debug__" : Str)) = false := by decide) (he : starEach (e :: es) X.env = (false, eval e X.env) :: starEach es X.env := by rfl) (hpl : (backTo pos (starEach es X.env)).any (·.1) = false := by rfl) : EvN X (.Call (.Name n p0) (e :: es) [] pos) σ s r := fun s1 k1 Q q =>
  we_of (pe_c0 C hr hk hg pa_wa hdb he hpl) (ha s1 k1 _ fun vs s2 k2 r2 => ⟨s2.all, x, r, rfl, by rw [List.append_nil]; exact r2, h, fun p s3 k3 n3 ⟨_, vs, o1, o2⟩ => q p (s2.backH s3 k3.h) (k2.trans (backH_ex k3)) (fr_back k2 n3) ⟨(fF (s := s2) n3 : s2.F p = none), vs, o1, by rw [o2.flat]; exact Reps.of_flat _⟩⟩)
theorem do_frzD {ss : List Stmt} {xs : List (κ × α)} (iv : Iv X.K P0 s0 s L) (i : Nat) (hA : L[i]? = some (Dy.od p xs)) (k : ∀ s', Fle s.F s'.F → Iv X.K P0 s0 s' (L.set i (fz (.ref p) (Dc.mk xs))) → WSs X ss D σ s'.H) : WSs X ss D σ s.H := Hold.mk fun pins sh I => by
  obtain ⟨hf, kv, h1, h2⟩ := iv.od i hA
  obtain ⟨ob, I2⟩ := I.lock h1 trivial
  have iv1 := iv.lock i ob hA hf h1 h2
  have f : Fle s.F (upd s.F p (.frz ob (.dK kv))) := fun a o q => by rw [upd_ne (ne_of_none q hf)]; exact q
  let s' : S := ⟨upd s.F p (.frz ob (.dK kv)), upd s.H p (.frz ob (.dK kv)), fun a o q => by
    unfold upd at q ⊢
    split
    · rename_i e; rw [if_pos e] at q; exact q
    · rename_i e; rw [if_neg e] at q; exact s.sub a o q⟩
  refine Hold.run (k s' f ?_) pins sh I2
  obtain ⟨φ, g1, g2, g3⟩ := iv.o
  have hi : i < L.length := (List.getElem?_eq_some_iff.mp hA).1
  have hp : φ i p := ((g1 i _ hA).1 p).mpr rfl
  have hx : P0 p ∨ s0.H p = none := (g3 i p hp).2.1
  refine ⟨⟨iv.m.f.trans f, fun a o q n => ?_, fun a o q np n => ?_, fun a o q => ?_⟩, fun j a => if j = i then False else φ j a, fun j B hB => ?_, fun j k a q r => ?_, fun j a q => ?_⟩
  · have ne : a ≠ p := fun z => by
      subst z
      rcases hx with w | w
      · exact n w
      · rw [w] at q; cases q
    exact (upd_ne ne).trans (iv.m.h a o q n)
  · have ne : a ≠ p := fun z => by
      subst z
      rcases hx with w | w
      · exact np w
      · rw [w] at q; cases q
    exact (upd_ne ne).trans (iv.m.n a o q np n)
  · by_cases e : a = p
    · exact ⟨_, by rw [e]; exact upd_same⟩
    · obtain ⟨u, hu⟩ := iv.m.d a o q
      exact ⟨u, (upd_ne e).trans hu⟩
  · by_cases e : j = i
    · subst e
      rw [List.getElem?_set_self hi] at hB
      cases hB
      exact ⟨⟨p, ob, kv, rfl, upd_same, h2.mono f⟩, fun a => by simp⟩
    · rw [List.getElem?_set_ne (Ne.symm e)] at hB
      simp only [e, if_false]
      exact B.mono f (B.loc (fun a q => upd_ne fun z => e (g2 _ _ _ q (z ▸ hp))) (g1 j B hB))
  · by_cases e : j = i
    · simp only [e, if_true] at q
    · by_cases e2 : k = i
      · simp only [e2, if_true] at r
      · simp only [e, if_false] at q
        simp only [e2, if_false] at r
        exact g2 _ _ _ q r
  · by_cases e : j = i
    · simp only [e, if_true] at q
    · simp only [e, if_false] at q
      obtain ⟨z1, z2, z3⟩ := g3 j a q
      have ne : a ≠ p := fun z => e (g2 _ _ _ q (z ▸ hp))
      exact ⟨(upd_ne ne).trans z1, z2, by rw [List.length_set]; exact z3⟩
theorem ei_itemsF {elts : List Expr} {kk : Nat} {tpos : Pos} {x : Dc κ α} (h : Ev X e σ s x) (hbase : attributeBase e "items" X.env (eval e X.env) = eval e X.env := by rfl) (hline : (p1.endLine == pos.line) = true := by rfl) : EvI X (.Tuple elts kk tpos) (.Call (.Attribute e "items" p1) [] [] pos) σ s x.l := fun s1 k R q =>
  wi_of (pi_items pe_we hbase hline) (h s1 k _ fun v s2 k2 r2 => by
    obtain ⟨p, ob, kv, rfl, h1, h2⟩ := r2
    exact ⟨p, ob, kv, rfl, s2.sub _ _ h1, q _ s2 k2 ⟨fun i t z f hz => by
      obtain ⟨w, h3, h4⟩ := h2.get hz
      refine ⟨⟨t.sub _ _ (f _ _ h1), (List.getElem?_eq_some_iff.mp h3).1⟩, fun y H' ⟨T, k', v', h5, h6, h7, h8⟩ => ⟨t.newF T (.tup [kV k', v']) h7, h8.symm, Ex.newF h7, ?_⟩⟩
      rw [h3] at h5
      cases h5
      rw [h6]
      exact ⟨T, _, _, rfl, tup_new h7, Flat.iff.mpr (DKey.kv _), Enc.mono (Ex.newF h7).f (Enc.mono f h4)⟩, fun i t f hi => ⟨t.sub _ _ (f _ _ h1), by rw [h2.len]; exact hi⟩⟩⟩)
end
section
variable {α β κ ε : Type} [Enc α] [Enc β] [DKey κ] [DecidableEq κ] {X : Cx} {σ : L2.St} {P0 : Addr → Prop} {s0 s : S} {L R : List OA} {e a b : Expr} {pos p0 p1 : Pos} {p : Addr} {K : PySem.W.Frag}
theorem en_lockI {ys : List β} {xs : List (κ × α)} (iv : Iv X.K P0 s0 s L) (i : Nat) (hA : L[i]? = some (Dy.od p xs)) (h : ∀ (ob : Obj) (kv : List (Key × V)) (s1 : S), Iv X.K P0 s0 s1 (L.set i (Dy.odl p ob kv xs)) → EvN X e σ s1 ys) : EvN X e σ s ys := fun s1 k Q q => by
  obtain ⟨hf, kv, h1, h2⟩ := iv.od i hA
  refine we_of (pe_lock pe_we) ⟨p, .dK kv, k.h _ _ h1, trivial, fun ob => ?_⟩
  obtain ⟨hf1, kx⟩ := lk_ex (ob := ob) hf h1 k
  refine h ob kv (s.put p (.frz ob (.dK kv)) hf) (iv.lock i ob hA hf h1 h2) _ kx _ fun p2 s2 k2 n2 o2 => ?_
  obtain ⟨hf2, g1, k3⟩ := lk_back hf1 (k.h _ _ h1) k2
  refine ⟨g1, ?_⟩
  have ne : p2 ≠ p := fun z => by
    have : upd s1.H p (.frz ob (.dK kv)) p2 = none := n2
    rw [z, upd_same] at this; cases this
  have n2' : s1.H p2 = none := by
    have : upd s1.H p (.frz ob (.dK kv)) p2 = none := n2
    rw [upd_ne ne] at this; exact this
  obtain ⟨o1, vs, o3, o4⟩ := o2
  exact q p2 (s2.put p (.dK kv) hf2) k3 n2' ⟨o1, vs, (upd_ne ne).trans o3, o4⟩
theorem Iv.gd (h : Iv K P0 s0 s L) (i : Nat) {o : Obj} {kv : List (Key × V)} {xs : List (κ × α)} (e : L[i]? = some (Dy.odl p o kv xs) := by rfl) : GD K p o kv xs s := (h.odl i e).2
theorem ro0 : Ro K P0 s [] := ⟨fun i A e => by cases e⟩
def AllF (K : PySem.W.Frag) (s : S) (L : List OA) : Prop := ∀ A ∈ L, A.p K s.F s.H No
theorem all_nil : AllF K s [] := fun A h => by cases h
theorem all_cons {v : V} {x : α} (r : rep K s.F v x) (h : AllF K s L) : AllF K s (fz v x :: L) := fun A hA => by
  rcases List.mem_cons.mp hA with rfl | hA
  · exact ⟨r, fun _ z => z⟩
  · exact h A hA
theorem AllF.ex {t : S} (h : AllF K s L) (e : Ex s t) : AllF K t L := fun A hA => OA.stay (P0 := No) (h A hA) e.z fun _ _ z => z
class EqO (ε : Type) extends Flat ε where
  sc : ∀ x y : ε, scal (toV x) (toV y) = true
  ij : ∀ x y : ε, toV x = toV y ↔ x = y
instance : EqO (Option Int) := { sc := fun x y => by cases x <;> cases y <;> rfl, ij := fun x y => by cases x <;> cases y <;> simp [Flat.toV] }
instance : EqO (Option Str) := { sc := fun x y => by cases x <;> cases y <;> rfl, ij := fun x y => by cases x <;> cases y <;> simp [Flat.toV] }
theorem eb_eqF {ε : Type} [EqO ε] [DecidableEq ε] {x y : ε} (ha : Ev X a σ s x) (hb : Ev X b σ s y) : EvB X (.Compare a [.Eq] [b] pos) σ s (decide (x = y)) :=
  eb_cmp op_eq ha hb (fun v u s2 hv hu Q q => by
    rw [Flat.iff.mp hv, Flat.iff.mp hu]
    refine ⟨EqO.sc x y, ?_⟩
    rw [show decide (toV x = toV y) = decide (x = y) from decide_eq_decide.mpr (EqO.ij x y)]
    exact q) (nomark _)
theorem eb_neF {ε : Type} [EqO ε] [DecidableEq ε] {x y : ε} (ha : Ev X a σ s x) (hb : Ev X b σ s y) : EvB X (.Compare a [.NotEq] [b] pos) σ s (!decide (x = y)) :=
  eb_cmp op_ne ha hb (fun v u s2 hv hu Q q => by
    rw [Flat.iff.mp hv, Flat.iff.mp hu]
    refine ⟨EqO.sc x y, ?_⟩
    rw [show decide (toV x = toV y) = decide (x = y) from decide_eq_decide.mpr (EqO.ij x y)]
    exact q) (nomark _)
theorem eb_ch_lt_lt {x y z : Int} {c : Expr} (ha : Ev X a σ s x) (hb : Ev X b σ s y) (hc : Ev X c σ s z) (hm : lastMarks [.Lt, .Lt] [b, c] = false := by with_unfolding_all rfl) : EvB X (.Compare a [.Lt, .Lt] [b, c] pos) σ s (decide (x < y) && decide (y < z)) := eb_chain op_lt rfl op_lt rfl ha hb hc hm
theorem eb_ch_lt_le {x y z : Int} {c : Expr} (ha : Ev X a σ s x) (hb : Ev X b σ s y) (hc : Ev X c σ s z) (hm : lastMarks [.Lt, .LtE] [b, c] = false := by with_unfolding_all rfl) : EvB X (.Compare a [.Lt, .LtE] [b, c] pos) σ s (decide (x < y) && decide (y ≤ z)) := eb_chain op_lt rfl op_le rfl ha hb hc hm
theorem eb_ch_le_lt {x y z : Int} {c : Expr} (ha : Ev X a σ s x) (hb : Ev X b σ s y) (hc : Ev X c σ s z) (hm : lastMarks [.LtE, .Lt] [b, c] = false := by with_unfolding_all rfl) : EvB X (.Compare a [.LtE, .Lt] [b, c] pos) σ s (decide (x ≤ y) && decide (y < z)) := eb_chain op_le rfl op_lt rfl ha hb hc hm
theorem eb_ch_le_le {x y z : Int} {c : Expr} (ha : Ev X a σ s x) (hb : Ev X b σ s y) (hc : Ev X c σ s z) (hm : lastMarks [.LtE, .LtE] [b, c] = false := by with_unfolding_all rfl) : EvB X (.Compare a [.LtE, .LtE] [b, c] pos) σ s (decide (x ≤ y) && decide (y ≤ z)) := eb_chain op_le rfl op_le rfl ha hb hc hm
theorem ev_isiTc {n : Str} {T : String} {r : Bool} {vs : List V} (hm : X.mg "isinstance" = none) (hn : X.mg n = none) (hv : bootBuiltins n = some (.type T)) (ha : Ev X a σ s (Rw.mk (.ref p))) (hc : s.H p = some (.tup vs)) (h : kitB "tuple" T = some r)
    (hg : Gl X "isinstance" := by rfl) (hgn : Gl X n := by rfl) (he : starEach [a, .Name n p1] X.env = (false, eval a X.env) :: starEach [.Name n p1] X.env := by rfl) (he2 : starEach [.Name n p1] X.env = (false, eval (.Name n p1) X.env) :: starEach [] X.env := by rfl) (hpl : (backTo pos (starEach [.Name n p1] X.env)).any (·.1) = false := by rfl)
    (hnn : n ≠ "__name__" := by decide) (hnd : (n == ("__debug__" : Str)) = false := by decide) :
    Ev X (.Call (.Name "isinstance" p0) [a, .Name n p1] [] pos) σ s r := fun s1 k Q q =>
  we_of (pe_callB call_isi hg hm (by decide +kernel) (pa_cons pe_we (pa_cons (pe_bltn (v := .ty T) hgn hn hv rfl hnn hnd) pa_nil he2) he) (he := he) (hpl := hpl)) (ha s1 k _ fun v s2 k2 r2 => by
    cases (show v = V.ref p from r2)
    exact ⟨.ref p, .ty T, .type "tuple", .type T, r, rfl, .ty T, sqt_ty (K := X.K) (.inl (.inl ((k.trans k2).h _ _ hc))), kit_ty h, q _ s2 k2 rfl⟩)
end
def clsB (K : PySem.W.Frag) (c : Str) (fs ms : List Str) : Bool := PySem.W.plainGet K (He.ga K c) Str.empty && (PySem.W.hasDictIn K (He.ga K c) && (PySem.W.plainOver K (He.ga K c) && (He.eqO (PySem.W.findIn K (.ref (He.ga K c)) "__setattr__") (some (some (.builtin "object.__setattr__"))) &&
  (PySem.W.makesIn K (He.ga K c) && (PySem.W.keepIn K (.ref (He.ga K c)) && ((fs.all fun f => He.eqO (PySem.W.findIn K (.ref (He.ga K c)) f) (some none)) && (ms.all fun m => He.eqO (PySem.W.findIn K (.ref (He.ga K c)) m) (some (some (.ref (He.fAd K (c, some m))))) && (PySem.W.isFn K (.ref (He.fAd K (c, some m))) && PySem.W.keepIn K (.ref (He.fAd K (c, some m)))))))))))
structure ClsF (K : PySem.W.Frag) (c : Str) (fs ms : List Str) : Prop where
  cl : Cls K (He.ga K c)
  ma : PySem.W.makesIn K (He.ga K c) = true
  kp : PySem.W.keepIn K (.ref (He.ga K c)) = true
  na : ∀ f ∈ fs, NoAttr K (He.ga K c) f
  me : ∀ m ∈ ms, Meth K (He.ga K c) m (He.fAd K (c, some m))
theorem clsB_ok {K : PySem.W.Frag} {c : Str} {fs ms : List Str} (h : clsB K c fs ms = true) : ClsF K c fs ms := by
  unfold clsB at h
  obtain ⟨h1, h⟩ := He.ba h
  obtain ⟨h2, h⟩ := He.ba h
  obtain ⟨h3, h⟩ := He.ba h
  obtain ⟨h4, h⟩ := He.ba h
  obtain ⟨h5, h⟩ := He.ba h
  obtain ⟨h6, h⟩ := He.ba h
  obtain ⟨h7, h8⟩ := He.ba h
  refine ⟨⟨h1, h2, h3, He.eqO_ok h4⟩, h5, h6, fun f hf => He.eqO_ok (List.all_eq_true.mp h7 f hf), fun m hm => ?_⟩
  obtain ⟨g1, g⟩ := He.ba (List.all_eq_true.mp h8 m hm)
  obtain ⟨g2, g3⟩ := He.ba g
  exact ⟨He.eqO_ok g1, g2, g3⟩
theorem ClsF.mkOf {K : PySem.W.Frag} {c : Str} {fs ms : List Str} (h : ClsF K c fs ms) (hi : ("__init__" : Str) ∈ ms) : Mk K (He.ga K c) (He.fAd K (c, some "__init__")) := ⟨h.ma, (h.me _ hi).at_, (h.me _ hi).fn, h.kp⟩
end Dy

namespace Dy
open PySem PySem.Spec L2
open PyProof.Rows hiding St
open Enc (rep)
open Flat (toV)
open EncA (repA)
section
variable {X : Cx} {α β γ δ ε κ : Type} [Enc α] [Enc β] [Enc γ] [Enc δ] [Enc ε] [DKey κ] {K : PySem.W.Frag} {σ : L2.St} {s t : S} {a b e o : Expr} {es rest : List Expr} {p : Addr} {v : V} {pos p0 p1 p2 p3 : Pos}
theorem repH_v {x : α} (h : rep K s.F v x) (e : Ex s t) : rep K t.H v x := Enc.mono (Fle.trans e.f t.sub) h
theorem repH_r {xs : List α} (h : RepR K s v xs) (e : Ex s t) : rep K t.H v xs := by
  obtain ⟨p, vs, e1, h1, h2⟩ := h.ex e
  exact ⟨p, vs, e1, h1, h2.mono t.sub⟩
theorem repH_l {xs : List α} (h : Own K s p xs) (e : Ex s t) : rep K t.H (.ref p) xs := repH_r h.r e
theorem repH_t2 {v1 v2 : V} {x : α} {y : β} (h : s.H p = some (.tup [v1, v2])) (e : Ex s t) (h1 : rep K t.H v1 x) (h2 : rep K t.H v2 y) : rep K t.H (.ref p) (x, y) := ⟨p, v1, v2, rfl, .inl (.inl (e.h _ _ h)), h1, h2⟩
theorem repH_t3 {v1 v2 v3 : V} {x : α} {y : β} {z : γ} (h : s.H p = some (.tup [v1, v2, v3])) (e : Ex s t) (h1 : rep K t.H v1 x) (h2 : rep K t.H v2 y) (h3 : rep K t.H v3 z) : rep K t.H (.ref p) (⟨x, y, z⟩ : T3 α β γ) := ⟨p, v1, v2, v3, rfl, .inl (.inl (e.h _ _ h)), h1, h2, h3⟩
theorem repH_t4 {v1 v2 v3 v4 : V} {x : α} {y : β} {z : γ} {w : δ} (h : s.H p = some (.tup [v1, v2, v3, v4])) (e : Ex s t) (h1 : rep K t.H v1 x) (h2 : rep K t.H v2 y) (h3 : rep K t.H v3 z) (h4 : rep K t.H v4 w) : rep K t.H (.ref p) (⟨x, y, z, w⟩ : T4 α β γ δ) := ⟨p, v1, v2, v3, v4, rfl, .inl (.inl (e.h _ _ h)), h1, h2, h3, h4⟩
theorem repH_t5 {v1 v2 v3 v4 v5 : V} {x : α} {y : β} {z : γ} {w : δ} {u : ε} (h : s.H p = some (.tup [v1, v2, v3, v4, v5])) (e : Ex s t) (h1 : rep K t.H v1 x) (h2 : rep K t.H v2 y) (h3 : rep K t.H v3 z) (h4 : rep K t.H v4 w) (h5 : rep K t.H v5 u) : rep K t.H (.ref p) (⟨x, y, z, w, u⟩ : T5 α β γ δ ε) := ⟨p, v1, v2, v3, v4, v5, rfl, .inl (.inl (e.h _ _ h)), h1, h2, h3, h4, h5⟩
theorem evv_consP {A : Type} [EncA A] {x : α} {r : A} (h : Ev X e σ s (Rw.mk v)) (hx : ∀ t, Ex s t → rep X.K t.H v x) (hr : EvV X es σ s r) (hs : starEach (e :: es) X.env = (false, eval e X.env) :: starEach es X.env := by exact star_cons rfl) : EvV X (e :: es) σ s (x, r) := fun s1 k Q q =>
  wa_of (pa_cons pe_we pa_wa hs) (h s1 k _ fun w s2 k2 e2 => by
    cases (show w = v from e2)
    exact hr s2 (k.trans k2) _ fun vs s3 k3 r3 => q _ s3 (k2.trans k3) ⟨v, vs, rfl, hx s3 ((k.trans k2).trans k3), r3⟩)
theorem evv_consG {A : Type} [EncA A] {x : α} {r : A} {ok : V → List OA → Prop} (h : EvG X e σ s ok) (hx : ∀ v s1 s2 L', ok v L' → Iv X.K No s1 s2 L' → rep X.K s2.H v x) (hr : EvV X es σ s r) (hs : starEach (e :: es) X.env = (false, eval e X.env) :: starEach es X.env := by exact star_cons rfl) : EvV X (e :: es) σ s (x, r) := fun s1 k Q q =>
  wa_of (pa_cons pe_we pa_wa hs) (h s1 k _ fun w s2 L' z iv => hr s2 (k.trans iv.exx) _ fun vs s3 k3 r3 => q _ s3 (iv.exx.trans k3) ⟨w, vs, rfl, Enc.mono k3.h (hx w s1 s2 L' z iv), r3⟩)
end
section
variable {X : Cx} {D : Ends} {α : Type} [Enc α] {σ : L2.St} {s : S} {o : Expr} {rest : List Stmt} {p : Addr} {p1 p2 p3 : Pos}
theorem do_clearP {xs : List α} (ho : Ev X o σ s (Rw.mk (.ref p))) (r : Own X.K s p xs)
    (k : ∀ s1, Mx (· = p) s s1 → Own X.K s1 p ([] : List α) → WSs X rest D σ s1.H)
    (hbase : attributeBase o "clear" X.env (eval o X.env) = eval o X.env := by rfl) (hline : (p1.endLine == p2.line) = true := by rfl)
    (hsw : swapsWith (.Call (.Attribute o "clear" p1) [] [] p2) none p3.line X.env = pure false := by rfl) :
    WSs X (.Expr (.Call (.Attribute o "clear" p1) [] [] p2) p3 :: rest) D σ s.H :=
  do_cons (ps_expr (pe_bm0 PySem.F.plainAttrs_list PySem.F.slot_list_clear PySem.F.type_list_clear mt_clear pe_we hbase hline) hsw) (ho s (Ex.refl _) _ fun w s1 k1 e1 => by
    cases (show w = V.ref p from e1)
    obtain ⟨f1, vs, h2, h3⟩ := r.ex k1
    exact ⟨.inl ⟨rfl, vs, .inl (.inl h2)⟩, p, vs, rfl, rfl, h2, k (s1.put p (.lst []) f1) (k1.mx.trans (Mx.put f1)) ⟨f1, _, upd_same, trivial⟩⟩)
end
end Dy

set_option maxHeartbeats 1000000
namespace RT
open PySem PySem.Spec PyProof.Rows PySem.W
section
variable {prog : Program} {w : World} {A : Around} {E : Value → Shared → Prop} {s : Shared}
theorem call_list_rev {it l : Addr} {items : Array Value} {Q : Value → Shared → Prop} (hh : A.handled = none) (hit : s.heap.IsRevIter it l ((items.size : Int) - 1)) (hl : s.heap.IsList l items) (hne : l ≠ it) (hn : items.size ≤ sizeLine)
    (hQ : ∀ (h' : Heap) (tk : Nat) (acc : Array Value) (c' : Nat), (∀ b o, b ≠ it → s.heap.get? b = some o → h'.get? b = some o) → h'.get? s.heap.objs.size = some { cls := .type "list", dict := none, data := .seq acc c', slots := #[] } → ItemsOf (fun i v => items[items.size - 1 - i]? = some v) acc items.size →
      Q (.ref s.heap.objs.size) { s with heap := h', toks := tk }) :
    wpAny (model prog w) A (call (.type "list") [.ref it]) Q E s := by
  refine callType_codes (Q₁ := fun obj s₁ => obj = .ref s.heap.objs.size ∧ s₁ = { s with heap := s.heap.push { cls := .type "list", data := .seq #[] } }) PySem.F.called_list (PySem.F.typeCall_list_1 _) PySem.F.entry_list_init
    (code_list_new _ ⟨rfl, rfl⟩) fun obj s₁ h₁ => ?_
  obtain ⟨rfl, rfl⟩ := h₁
  have hS : (s.heap.push { cls := .type "list", data := .seq #[] }).get? s.heap.objs.size = some { cls := .type "list", data := .seq #[] } := Heap.get?_push_size _ rfl
  obtain ⟨oi, hoi, _⟩ := id hit
  obtain ⟨ol, hol, _⟩ := id hl
  have hSi : s.heap.objs.size ≠ it := Nat.ne_of_gt (Heap.lt_size hoi)
  have hSl : s.heap.objs.size ≠ l := Nat.ne_of_gt (Heap.lt_size hol)
  have hSf : s.heap.objs.size ∉ [it, l] := by simp only [List.mem_cons, List.not_mem_nil, or_false, not_or]; exact ⟨hSi, hSl⟩
  have W := (Walks.listRev (prog := prog) (w := w) (A := A.in1.in1) hh it l hne items).toS
  refine ⟨⟨_, hS, rfl⟩, PySem.F.args_list_init_2 _ _, ?_⟩
  generalize hS0 : s.heap.objs.size = S at *
  have oth0 : ∀ b o, s.heap.get? b = some o → (s.heap.push { cls := .type "list", data := .seq #[] }).get? b = some o := fun b o e => Heap.get?_push_of_some _ e
  show wpAny _ _ (do let old ← Builtin.List.listItems (.ref S); Builtin.List.listUpdate (.ref S) (fun _ => #[]); letGo old.toList.reverse; Builtin.List.listExtendWith (.ref S) (.ref it) .none) _ _ _
  refine wpAny_bind ?_
  unfold Builtin.List.listItems
  refine wpAny_bind (wpAny_seqItems hS rfl (wpAny_pure ?_))
  show wpAny _ _ (updateSeq S (fun _ => #[]) >>= fun _ => letGo (#[] : Array Value).toList.reverse >>= fun _ => Builtin.List.listExtendWith (.ref S) (.ref it) .none) _ _ _
  refine wpAny_bind (wpAny_updateSeq hS rfl ?_)
  have hS₂ := Heap.get?_update_self (Obj.mapSeq (fun _ => (#[] : Array Value))) hS rfl
  have oth : ∀ b o, b ≠ S → s.heap.get? b = some o → ((s.heap.push { cls := .type "list", data := .seq #[] }).update S (Obj.mapSeq (fun _ => (#[] : Array Value)))).get? b = some o :=
    fun b o hb e => (Heap.get?_update_other _ _ (Ne.symm hb)).trans (oth0 b o e)
  generalize hH : (s.heap.push { cls := .type "list", data := .seq #[] }).update S (Obj.mapSeq (fun _ => (#[] : Array Value))) = H2 at *
  refine wpAny_bind (wpAny_letGo ?_)
  have hit1 : H2.IsRevIter it l ((items.size : Int) - 1) := hit.at fun o e => oth it o (Ne.symm hSi) e
  have hl1 : H2.IsList l items := hl.at fun o e => oth l o (Ne.symm hSl) e
  have hT : ({ s with heap := H2 } : Shared).TypeIs (.ref it) "list_reverseiterator" := Heap.IsRevIter.typeIs (s := { s with heap := H2 }) hit1
  have h1 : Builtin.List.listSameRef (.ref S) (.ref it) = false := by simp [Builtin.List.listSameRef, hSi]
  unfold Builtin.List.listExtendWith
  refine wpAny_bind (wpAny_typeOf hT ?_)
  rw [if_neg (by rw [h1]; decide)]
  refine wpAny_bind (wpAny_pyIter_revIter (s := { s with heap := H2 }) hit1 ?_)
  refine wpAny_bind (wpAny_holding ?_)
  unfold Builtin.List.listLengthHint
  refine wpAny_bind (wpAny_specialOf hT nolen_lri ?_)
  show wpAny _ _ (specialOf (Value.ref it) (Str.ofString "__length_hint__") >>= _) _ _ _
  refine wpAny_bind (wpAny_specialOf hT hint_lri ?_)
  generalize hid : ("list_reverseiterator.__length_hint__" : String) = id0
  wp_delta
  rw [show splitId id0 = some ("list_reverseiterator", "__length_hint__") from by subst hid; decide +kernel]
  subst hid
  refine wpAny_bind (wpAny_isInstance (b := true) hT (by rw [isSubtype_type]; kernel_rfl) ?_)
  refine wpAny_pure ?_
  rw [if_neg (by decide)]
  have e0 : ((items.size : Nat) : Int) - 1 - ((0 : Nat) : Int) = (items.size : Int) - 1 := by omega
  refine wpAny_pure ⟨plainId_quiet F.plain_extend_loop _, codeAny_extend_loopS W hn _ hSf _ items.size 0 _ _ _ rfl (Nat.zero_le _) ⟨Nat.zero_le _, by rw [e0]; exact hit1, hl1⟩ hS₂ (ItemsOf.nil _) fun s' acc' c' hm hS' hacc => ?_⟩
  rw [Moved.eq_with hm]
  refine ⟨rfl, hQ s'.heap s'.toks acc' c' (fun b o hb e => hm.heap b o (fun hmem => ?_) (oth b o (fun z => ?_) e)) hS' hacc⟩
  · rcases List.mem_cons.mp hmem with e' | hmem
    · exact absurd (Heap.lt_size e) (by rw [e', hS0]; exact Nat.lt_irrefl _)
    · exact hb (List.mem_singleton.mp hmem)
  · exact absurd (Heap.lt_size e) (by rw [z, hS0]; exact Nat.lt_irrefl _)
end
end RT
namespace L2
open PySem PySem.Spec PyProof.Rows RT
section
variable {X : Cx}
def tLstRev (K : PySem.W.Frag) (te : TE) : TE := fun σ H Q => te σ H fun v H1 => ∃ (a : Addr) (xs : List V), v = .ref a ∧ SqL K H1 a xs ∧ ∀ q, H1 q = none → Q (.ref q) (upd H1 q (.lst xs.reverse))
theorem pe_listRev {e : Expr} {te : TE} {p p2 pos pos2 : Pos} (hc : X.calm = true) (hg : Gl X "list") (hm : X.mg "list" = none) (hg2 : Gl X "reversed") (hm2 : X.mg "reversed" = none) (he : PE X e te)
    (hs : starEach [e] X.env = (false, eval e X.env) :: starEach [] X.env := by rfl)
    (hs2 : starEach [.Call (.Name "reversed" p2) [e] [] pos2] X.env = (false, eval (.Call (.Name "reversed" p2) [e] [] pos2) X.env) :: starEach [] X.env := by rfl) :
    PE X (.Call (.Name "list" p) [.Call (.Name "reversed" p2) [e] [] pos2] [] pos) (tLstRev X.K te) := by
  refine ⟨fun pins s σ H Q I h => ?_⟩
  refine Call_ (ld_blt I hg hm boot_list (PyProof.Rows.callWith_type1 (args_cons (Call_ (ld_blt I hg2 hm2 PyProof.Rows.boot_reversed (PyProof.Rows.callWith_type1 (args_cons (thn (he.run pins s σ H _ I h) fun u s1 ⟨v, H1, I1, r1, q1⟩ => args_nil ?_) hs) hs rfl))) hs2) hs2 rfl))
  obtain ⟨a, xs, ev, hq, q⟩ := q1
  subst ev
  obtain rfl : u = Value.ref a := r1
  obtain ⟨its, rv, p', hz⟩ := I1.list hq
  refine call_reversed_list p'.isList (args_nil ?_)
  have k0 : ∀ b o, s1.heap.get? b = some o → (s1.heap.push (revObj a ((its.toArray.size : Int) - 1))).get? b = some o := fun b o e => Heap.get?_push_of_some _ e
  have I2 : Inv X pins σ H1 { s1 with heap := s1.heap.push (revObj a ((its.toArray.size : Int) - 1)) } := I1.kept (t' := s1.toks) k0
  obtain ⟨f0, f1, f2, f3, f4, f5⟩ := I1.fpOk (H' := H1) (b := s1.heap.objs.size) (Nat.le_refl _) (I1.hok.fresh (Nat.le_refl _))
  have hl := p'.isList
  obtain ⟨ol, hol, _⟩ := id hl
  have hne : a ≠ s1.heap.objs.size := Nat.ne_of_lt (Heap.lt_size hol)
  have hn : its.toArray.size ≤ sizeLine := by rw [List.size_toArray, ← rv.length]; exact hz
  refine call_list_rev (s := { s1 with heap := s1.heap.push (revObj a ((its.toArray.size : Int) - 1)) }) (I1.ok.hd hc) ⟨_, Heap.get?_push_size _ rfl, rfl, rfl⟩ (hl.push _) hne hn fun h' tk acc c' hk hS' hi => ?_
  have hfr : H1 (s1.heap.push (revObj a ((its.toArray.size : Int) - 1))).objs.size = none := I2.hok.fresh (Nat.le_refl _)
  have k1 : ∀ b o, (s1.heap.push (revObj a ((its.toArray.size : Int) - 1))).get? b = some o → ((s1.heap.push (revObj a ((its.toArray.size : Int) - 1))).push { cls := .type "list", dict := none, data := .seq acc c', slots := #[] }).get? b = some o := fun b o e => Heap.get?_push_of_some _ e
  have I3 := I2.laid (t' := s1.toks) k1 (Nat.le_refl _) (show ObjOk X.prog X.w _ _ _ (.lst xs.reverse) from ⟨by rw [List.length_reverse]; exact hz, acc.toList, c', vals_rev rv hi, by rw [Array.toArray_toList]; exact Heap.get?_push_size _ rfl⟩)
  have hin : s1.heap.objs.size ≠ (s1.heap.push (revObj a ((its.toArray.size : Int) - 1))).objs.size := by
    rw [show (s1.heap.push (revObj a ((its.toArray.size : Int) - 1))).objs.size = s1.heap.objs.size + 1 from by simp [Heap.push]]
    omega
  have I4 : Inv X pins σ (upd H1 (s1.heap.push (revObj a ((its.toArray.size : Int) - 1))).objs.size (.lst xs.reverse)) { s1 with heap := h', toks := tk } := Inv.turned (s := { s1 with heap := (s1.heap.push (revObj a ((its.toArray.size : Int) - 1))).push { cls := .type "list", dict := none, data := .seq acc c', slots := #[] } }) I3 (t' := tk) (it := s1.heap.objs.size) (fun b o hb e => by
    rcases PySem.Heap.get?_push_cases e with ⟨e1, e2⟩ | e1
    · rw [e1, e2]; exact hS'
    · exact hk b o hb e1) (by rw [upd_ne hin]; exact f0) f1 f3 f4 f5
  exact ⟨.ref _, _, I4, rfl, q _ hfr⟩
end
end L2
namespace Dy
open PySem PySem.Spec L2
open PyProof.Rows hiding St
section
variable {X : Cx} {α : Type} [Enc α] {σ : L2.St} {s : S} {e : Expr} {p0 p2 pos pos2 : Pos}
theorem en_listRev {xs : List α} (hm : X.mg "list" = none) (hm2 : X.mg "reversed" = none) (ha : EvR X e σ s xs) (hc : X.calm = true := by rfl) (hg : Gl X "list" := by rfl) (hg2 : Gl X "reversed" := by rfl)
    (hs : starEach [e] X.env = (false, eval e X.env) :: starEach [] X.env := by rfl)
    (hs2 : starEach [.Call (.Name "reversed" p2) [e] [] pos2] X.env = (false, eval (.Call (.Name "reversed" p2) [e] [] pos2) X.env) :: starEach [] X.env := by rfl) : EvN X (.Call (.Name "list" p0) [.Call (.Name "reversed" p2) [e] [] pos2] [] pos) σ s xs.reverse := fun s1 k Q q =>
  we_of (pe_listRev hc hg hm hg2 hm2 pe_we hs hs2) (ha s1 k _ fun v s2 k2 r2 => by
    obtain ⟨p, vs, ev, h1, h2⟩ := r2
    exact ⟨p, vs, ev, h1, fun l hl => q l (s2.newO l _ hl) (k2.trans (Ex.newO hl)) (fr_back k2 hl) (own_new hl h2.rev)⟩)
end
end Dy

namespace Dy
open PySem PySem.Spec L2
open PyProof.Rows hiding St
open Enc (rep)
open EncA (repA)
section
variable {X : Cx} {σ : L2.St} {s : S} {a b c : Expr} {pos : Pos} {okA okB : V → List OA → Prop} {x : Bool}
theorem eg_if (h : EvT X c σ s x) (h1 : x = true → EvG X a σ s okA) (h2 : x = false → EvG X b σ s okB) : EvG X (.IfExp c a b pos) σ s (fun v L' => (x = true ∧ okA v L') ∨ (x = false ∧ okB v L')) := fun s1 k Q q =>
  we_of (pe_ifExp pt_wt pe_we pe_we) (h s1 k _ fun s2 k2 => by
    cases x with
    | true => exact iteT (h1 rfl s2 (k.trans k2) Q fun v s3 L' z i => q v s3 L' (.inl ⟨rfl, z⟩) (((Iv.tops (P0 := No) 0 s1).ex k2).add i))
    | false => exact iteF (h2 rfl s2 (k.trans k2) Q fun v s3 L' z i => q v s3 L' (.inr ⟨rfl, z⟩) (((Iv.tops (P0 := No) 0 s1).ex k2).add i)))
end
end Dy

set_option maxHeartbeats 1000000
namespace L2
open PySem PySem.Spec PyProof.Rows
def wAsM (K : PySem.W.Frag) (i : Nat) : List (Value × (Addr → Value → Option Addr → TS)) → WX → Ends → WX
  | [], Wout, _ => Wout
  | (c, ts) :: r, Wout, D => wAs K c i ts (wAsM K i r Wout D) D
inductive HdsAs (X : Cx) (i : Nat) (n : Str) : List ExceptHandler → List (Value × (Addr → Value → Option Addr → TS)) → Prop
  | nil : HdsAs X i n [] []
  | cons {x : Str} {c : Value} {ts : Addr → Value → Option Addr → TS} {b₀ : Stmt} {suite : List Stmt} {np pos' : Pos} {hds : List ExceptHandler} {l : List (Value × (Addr → Value → Option Addr → TS))} (hc : Names X x c)
      (hsu : ∀ (a : Addr) (oe : Obj) (cls : Value) (d : Option Addr) (pn : List (Addr × Obj)), Zc cls d oe → (∃ vs, oe.data = .fields vs) → PSs (X.suite a ((a, oe) :: pn)) (b₀ :: suite) (ts a cls d)) (r : HdsAs X i n hds l) :
      HdsAs X i n (.ExceptHandler (some (.Name x np)) (some n) (b₀ :: suite) pos' :: hds) ((c, ts) :: l)
section
variable {X : Cx} {n : Str} {i : Nat} {body : List Stmt} {h₀ : ExceptHandler} {hds : List ExceptHandler} {l : List (Value × (Addr → Value → Option Addr → TS))} {pos : Pos} {tb : WX → TS} {Wout : WX}
theorem ps_try_asN (hs : X.stack = X.env :: X.outer) (hf : X.env.frame = some X.env.locals) (hN : X.N.Nodup) (hi : X.N[i]? = some n) (hln : X.env.kindOf n = some .local) (tk : Takes X Wout)
    (hb : ∀ (W : WX) (pn : List (Addr × Obj)) (xe : Value → Shared → Prop), Takes (X.tr pn xe) W → PassesOwn (model X.prog X.w) X.A X.env xe → PSs (X.tr pn xe) body (tb W))
    (hh : HdsAs X i n (h₀ :: hds) l) :
    PS X (.Try body (h₀ :: hds) [] [] pos) (fun D σ H => tb (wAsM X.K i l Wout D) D σ H) := by
  refine ⟨fun pins s σ H D I h => ?_⟩
  have ok := I.ok
  have hfr : X.A.frames = some (X.env :: X.outer) := by rw [ok.frames, hs]
  have hloc : Loc X.env.scope n := .inl hln
  refine wpAny_Try_except ?_
  refine wpAny_mono ((hb (wAsM X.K i l Wout D) (X.pn ++ pins) (fun e s₁ => wpAny (model X.prog X.w) X.A (noteFrame e X.env) (fun _ s₂ => wpAny (model X.prog X.w) X.A (setFlight e none) (fun _ s₃ =>
    wpAny (model X.prog X.w) X.A (handleBy e X.env (h₀ :: hds)) (SP X pins D) X.xe s₃) X.xe s₂) X.xe s₁) (fun u s' xx => ?_) PassesOwn.looking).run [] s σ H D (I.toTry _) h) (fun f s1 hsp => ?_) (fun e s1 he => he)
  · -- the catch
    obtain ⟨a, B, sI, pins', σ', H', cls, d, rfl, J', nb, up, sky, na, os, ag, w⟩ := xx
    have J : Inv X pins σ' H' sI := J'.ofTry ok
    have sky' : Sky B (X.env :: X.outer) a (Zc cls d) X.env.locals s'.heap := by rw [← hs]; exact sky
    show wpAny (model X.prog X.w) X.A (noteFrame (.ref a) X.env) _ _ _
    refine Sky.land Zc.steady hfr hf sky' fun h3 fl3 up3 => ?_
    have J3 : Inv X pins σ' H' { s' with heap := h3 } := J.landed nb fl3.1 (up.trans up3) os ag
    obtain ⟨oe3, vs3, he3, hz3, hd3⟩ := fl3.there
    have notFr : ∀ {h : Heap} {o : Obj} {vs : Array Value}, h.FunFrames B (X.env :: X.outer) → h.get? a = some o → o.data = .fields vs → a ∉ frs (X.env :: X.outer) := fun {h o vs} ff e dd hm => by
      obtain ⟨_, o', e', hnf⟩ := ff.mem hm
      rw [e] at e'; cases e'
      exact hnf _ dd
    have nfr := notFr fl3.2.2.1 he3 hd3
    have nL : a ≠ X.env.locals := fun z => nfr (List.mem_filterMap.mpr ⟨X.env, List.mem_cons_self, by rw [hf, z]⟩)
    have nF : a ∉ X.fs := fun hm => by
      obtain ⟨e, he, q⟩ := List.mem_filterMap.mp hm
      exact nfr (List.mem_filterMap.mpr ⟨e, List.mem_cons_of_mem _ he, q⟩)
    have S3 := J3.suite he3 hd3 na nL nF
    have go : ∀ {hds' : List ExceptHandler} {l' : List (Value × (Addr → Value → Option Addr → TS))}, HdsAs X i n hds' l' → wAsM X.K i l' Wout D cls d σ' H' →
        wpAny (model X.prog X.w) X.A (handleBy (.ref a) X.env hds') (SP X pins D) X.xe { s' with heap := h3 } := by
      intro hds' l' hk
      induction hk with
      | nil =>
        intro w
        refine wpAny_handleBy_nil ?_
        obtain ⟨k1, k2, k3, oe, vs, T, oT, ts', he, hz, hd, h1, hr⟩ := id fl3
        unfold PySem.passOn
        refine wpAny_bind (wpAny_field he hd h1 ?_)
        rw [if_neg (show ¬ ((Value.ref T == Value.none) = true) from by simp)]
        have fin : wpAny (model X.prog X.w) X.A (setFlight (.ref a) X.env.frame) (fun _ s4 => wpAny (model X.prog X.w) X.A (throw (.ref a) : Sem Flow) (SP X pins D) X.xe s4) X.xe { s' with heap := h3 } := by
          rw [hf]
          refine HandSPX.setFlight_upZ fl3 fun h4 hh4 up4 => wpAny_throw (tk _ _ ?_)
          exact ⟨a, B, sI, pins, σ', H', cls, d, rfl, J, nb, (up.trans up3).trans up4, .inr (.inr (by rw [hs]; exact hh4)), na, os, ag, w⟩
        first
          | exact wpAny_bind (wpAny_pure (wpAny_bind fin))
          | exact wpAny_bind fin
      | @cons x c ts b₀ suite np pos' hds2 l2 hc hsu r ih =>
        intro w
        obtain ⟨b, hb1, hyes, hno⟩ := w
        refine wpAny_handleBy_cons (codeAny_handlers_test ?_) (by intro q; cases q)
        have LT : PySem.W.Looks (model X.prog X.w) h3 (typeOf (.ref a)) cls := fun A Q E s k q => wpAny_typeOf_ref (k _ _ he3) (by rw [hz3.1]; exact q)
        have LM := PySem.W.exm_one (M := model X.prog X.w) (J3.kIn) LT hb1
        have test : ∀ {Q : Value → Shared → Prop} {E : Value → Shared → Prop}, Q c { s' with heap := h3 } → wpAny (model X.prog X.w) (X.A.mark (some (.ref a))) (eval (.Name x np) X.env) Q E { s' with heap := h3 } := fun {Q E} q => by
          obtain ⟨hg, hdbg, hm | ⟨hm, hv, hnn⟩⟩ := hc
          · exact ld_glob (X := X.suite a ((a, oe3) :: (X.pn ++ pins))) S3 hg hm q hdbg
          · exact ld_blt (X := X.suite a ((a, oe3) :: (X.pn ++ pins))) S3 hg hm hv q hnn hdbg
        refine test (LM.here ?_)
        cases b with
        | true =>
          refine codeAny_handlers_suite_as ?_
          refine HandSPX.lands_againZ fl3 fun h4 fl4 up4 => ?_
          have J4 : Inv X pins σ' H' { s' with heap := h4 } := J.landed nb fl4.1 ((up.trans up3).trans up4) os ag
          obtain ⟨oe4, vs4, he4, hz4, hd4⟩ := fl4.there
          have S4 := J4.suite he4 hd4 na nL nF
          refine store_ok (X := X.suite a ((a, oe4) :: (X.pn ++ pins))) (v := .ref a) S4 hN hi hloc rfl (fun s5 S5 => ?_) (.inr hln)
          refine wpAny_mono ((hsu a oe4 cls d (X.pn ++ pins) hz4 ⟨_, hd4⟩).run [] s5 _ H' _ S5 (hyes rfl a na)) (fun f s6 hsp => ?_) (fun _ _ z => False.elim z)
          have end_ : ∀ {σ6 : St} {H6 : Hp} {Q : Shared → Prop}, Inv (X.suite a ((a, oe4) :: (X.pn ++ pins))) [] σ6 H6 s6 → (∀ s7, Inv X pins (σ6.set i none) H6 s7 → Q s7) →
              wpAny (model X.prog X.w) X.A (do bindName X.env n .none; unbindBehindTheSuite X.env n pos') (fun _ s7 => Q s7) X.xe s6 := fun {σ6 H6 Q} S6 hq => gone_ok (S6.unsuite ok) hN hi hln hq
          cases f with
          | next =>
            obtain ⟨σ6, H6, S6, q6⟩ := hsp
            exact end_ S6 fun s7 J7 => ⟨_, _, J7, q6⟩
          | brk =>
            obtain ⟨σ6, H6, S6, q6⟩ := hsp
            exact end_ S6 fun s7 J7 => ⟨_, _, J7, q6⟩
          | cont =>
            obtain ⟨σ6, H6, S6, q6⟩ := hsp
            exact end_ S6 fun s7 J7 => ⟨_, _, J7, q6⟩
          | ret u =>
            obtain ⟨v6, σ6, H6, S6, r6, q6⟩ := hsp
            exact end_ S6 fun s7 J7 => ⟨_, _, _, J7, r6, q6⟩
        | false => exact ih (hno rfl)
    exact go hh w
  · cases f with
    | next =>
      obtain ⟨σ', H', J', q⟩ := hsp
      exact wpAny_execs_nil ⟨σ', H', J'.ofTry ok, q⟩
    | brk =>
      obtain ⟨σ', H', J', q⟩ := hsp
      exact ⟨σ', H', J'.ofTry ok, q⟩
    | cont =>
      obtain ⟨σ', H', J', q⟩ := hsp
      exact ⟨σ', H', J'.ofTry ok, q⟩
    | ret u =>
      obtain ⟨v, σ', H', J', r, q⟩ := hsp
      exact ⟨v, σ', H', J'.ofTry ok, r, q⟩
end
end L2
namespace Dy
open PySem PySem.Spec L2
open PyProof.Rows hiding St
section
variable {X : Cx} {σ : L2.St} {s : S} {D : Ends} {rest : List Stmt}
theorem was_no {K : PySem.W.Frag} {c : Value} {i : Nat} {ts : Addr → Value → Option Addr → TS} {Wout : WX} {cls : Value} {d : Option Addr} {H : Hp} (h1 : PySem.W.exmOne K cls c = some false) (h2 : Wout cls d σ H) : wAs K c i ts Wout D cls d σ H := ⟨false, h1, fun z => (by cases z), fun _ => h2⟩
theorem do_tryAs2 (i : Nat) {x y n : Str} {c c' : Value} {body suite suite' : List Stmt} {b₀ b₁ : Stmt} {np np' pos pos' pos'' : Pos} {Wout : WX} (hN : X.N.Nodup) (hcN : Names X x c) (hcN' : Names X y c') (tk : Takes X Wout)
    (h : ∀ pn xe, Takes (X.tr pn xe) (wAs X.K c i (fun a cls d D σ H => ∀ (oe : Obj) (pn : List (Addr × Obj)), Zc cls d oe → (∃ vs, oe.data = .fields vs) → WSs (X.suite a ((a, oe) :: pn)) (b₀ :: suite) D σ H)
        (wAs X.K c' i (fun a cls d D σ H => ∀ (oe : Obj) (pn : List (Addr × Obj)), Zc cls d oe → (∃ vs, oe.data = .fields vs) → WSs (X.suite a ((a, oe) :: pn)) (b₁ :: suite') D σ H) Wout { D with nx := fun σ' H' => WSs X rest D σ' H' }) { D with nx := fun σ' H' => WSs X rest D σ' H' }) → PassesOwn (model X.prog X.w) X.A X.env xe →
      WSs (X.tr pn xe) body { D with nx := fun σ' H' => WSs X rest D σ' H' } σ s.H)
    (hs : X.stack = X.env :: X.outer := by rfl) (hf : X.env.frame = some X.env.locals := by rfl) (hi : X.N[i]? = some n := by rfl) (hln : X.env.kindOf n = some .local := by rfl) :
    WSs X (.Try body [.ExceptHandler (some (.Name x np)) (some n) (b₀ :: suite) pos', .ExceptHandler (some (.Name y np')) (some n) (b₁ :: suite') pos''] [] [] pos :: rest) D σ s.H :=
  do_cons (ps_try_asN (l := [(c, fun a cls d D σ H => ∀ (oe : Obj) (pn : List (Addr × Obj)), Zc cls d oe → (∃ vs, oe.data = .fields vs) → WSs (X.suite a ((a, oe) :: pn)) (b₀ :: suite) D σ H), (c', fun a cls d D σ H => ∀ (oe : Obj) (pn : List (Addr × Obj)), Zc cls d oe → (∃ vs, oe.data = .fields vs) → WSs (X.suite a ((a, oe) :: pn)) (b₁ :: suite') D σ H)])
    (tb := fun W D σ H => ∀ pn xe, Takes (X.tr pn xe) W → PassesOwn (model X.prog X.w) X.A X.env xe → WSs (X.tr pn xe) body D σ H)
    hs hf hN hi hln tk (fun W pn xe t po => pss_im fun D σ H hh => hh pn xe t po)
    (.cons hcN (fun a oe cls d pn hz hv => pss_im fun D σ H hh => hh oe pn hz hv) (.cons hcN' (fun a oe cls d pn hz hv => pss_im fun D σ H hh => hh oe pn hz hv) .nil))) h
end
end Dy

namespace Dy
open PySem PySem.Spec L2
open PyProof.Rows hiding St
open Enc (rep)
open EncA (repA)
structure HL4 (α β γ δ : Type) where
  a : α
  b : β
  c : γ
  d : δ
deriving DecidableEq
instance {α β γ δ : Type} [Enc α] [Enc β] [Enc γ] [Enc δ] : Enc (HL4 α β γ δ) := ⟨fun K F v x => ∃ p v1 v2 v3 v4, v = .ref p ∧ SqL K F p [v1, v2, v3, v4] ∧ rep K F v1 x.a ∧ rep K F v2 x.b ∧ rep K F v3 x.c ∧ rep K F v4 x.d, fun e h => by
  obtain ⟨p, v1, v2, v3, v4, rfl, h0, h1, h2, h3, h4⟩ := h
  exact ⟨p, v1, v2, v3, v4, rfl, sql_mono e h0, Enc.mono e h1, Enc.mono e h2, Enc.mono e h3, Enc.mono e h4⟩⟩
instance {α β γ δ : Type} [EqD α] [EqD β] [EqD γ] [EqD δ] : EqD (HL4 α β γ δ) := ⟨fun x => .list [EqD.toD x.a, EqD.toD x.b, EqD.toD x.c, EqD.toD x.d], fun h f => by
  obtain ⟨p, v1, v2, v3, v4, rfl, h0, h1, h2, h3, h4⟩ := h
  exact .lst (sql_mono f h0) (.cons (EqD.dp h1 f) (.cons (EqD.dp h2 f) (.cons (EqD.dp h3 f) (.cons (EqD.dp h4 f) .nil)))), fun x y => by
    obtain ⟨x1, x2, x3, x4⟩ := x
    obtain ⟨y1, y2, y3, y4⟩ := y
    show (PyData.eqv _ _ && (PyData.eqv _ _ && (PyData.eqv _ _ && (PyData.eqv _ _ && true)))) = true ↔ _
    rw [Bool.and_eq_true, Bool.and_eq_true, Bool.and_eq_true, Bool.and_eq_true, EqD.eqv, EqD.eqv, EqD.eqv, EqD.eqv]; simp⟩
section
variable {α β γ δ : Type} [Enc α] [Enc β] [Enc γ] [Enc δ] {X : Cx} {σ : L2.St} {s : S} {es : List Expr} {pos : Pos}
theorem ev_hl4 {x : α} {y : β} {z : γ} {w : δ} (h : EvA X es σ s (x, y, z, w, ())) : Ev X (.List es pos) σ s (⟨x, y, z, w⟩ : HL4 α β γ δ) := fun s1 k Q q =>
  we_of (pe_lst pa_wa) (h s1 k _ fun vs s2 k2 r2 => by
    obtain ⟨v1, _, rfl, r1, v2, _, rfl, r2, v3, _, rfl, r3, v4, _, rfl, r4, rfl⟩ := r2
    exact ⟨show _ ≤ 2 ^ 24 by simp, fun p hp => q _ (s2.newF p (.lst [v1, v2, v3, v4]) hp) (k2.trans (Ex.newF hp)) ⟨p, v1, v2, v3, v4, rfl, .inl (.inl upd_same), Enc.mono (Ex.newF hp).f r1, Enc.mono (Ex.newF hp).f r2, Enc.mono (Ex.newF hp).f r3, Enc.mono (Ex.newF hp).f r4⟩⟩)
end
end Dy
namespace Dy
open PySem PySem.Spec L2
open PyProof.Rows hiding St
open Enc (rep)
open EncA (repA)
section
variable {X : Cx} {σ : L2.St} {s s0 : S} {P0 : Addr → Prop} {L R0 : List OA} {e : Expr} {A O : Type} {pre : List V → A → List OA → List OA → Prop} {m : A → Option O} {ok : List V → A → O → V → List OA → Prop} {er : List V → A → O → Er → List OA → Prop} {Φ : List V → S → Prop} {x : A} {o : O}
theorem ex_callG {er' : Er → Prop} {W : WX} (c : Calls X e σ s (spI X.K pre m ok er) (L2.WE W σ) Φ) (iv : Iv X.K P0 s0 s L) (ro : Ro X.K P0 s0 R0) (rs : List (Nat ⊕ Nat))
    (hp : ∀ vs s2, Ex s s2 → Φ vs s2 → ∃ Lf, pre vs x Lf (rsel L R0 rs) ∧ (∀ A ∈ Lf, A.p X.K s2.F s2.H No) ∧ (∀ v L', ok vs x o v L' → False) ∧ (∀ e L', er vs x o e L' → er' e)) (hm : m x = some o)
    (hw : ∀ e cls d s', er' e → Ex s s' → ExR X.K s'.F e cls d → W cls d σ s'.H) : EvX X e σ s := fun s1 k1 Q =>
  c s1 k1 Q fun vs s2 k2 φ => by
    obtain ⟨Lf, h1, h2, h3, h4⟩ := hp vs s2 (k1.trans k2) φ
    obtain ⟨P1, g1, g2, g3, g4⟩ := call_in (iv.ex (k1.trans k2)) ro [] List.nodup_nil (fun k hk => by simp at hk) Lf h2 rs (fun i _ hk => by simp at hk)
    have hP : ∀ s' L', Iv X.K P1 s2 s' L' → Ex s2 s' := fun s' L' i => by
      have e1 : P1 = fun _ => False := funext fun a => propext ⟨fun z => g3 rfl a z, fun z => z.elim⟩
      subst e1
      exact i.exx
    exact ⟨s2, P1, _, _, x, o, rfl, h1, g1, g2, hm, fun v s' L' hok iv' => (h3 v L' hok).elim, fun e cls d s' L' z iv' r => hw e cls d s' (h4 e L' z) ((k1.trans k2).trans (hP s' L' iv')) r⟩
end
section
def DpRD {α : Type} [ToD α] {K : PySem.W.Frag} {F H : Hp} (f : Fle F H) : ∀ {vs : List V} {xs : List α}, Reps K F vs xs → DpAll K H vs (xs.map ToD.td)
  | [], [], _ => .nil
  | _ :: _, _ :: _, ⟨h, t⟩ => .cons (ToD.tdp h f) (DpRD f t)
  | [], _ :: _, h => h.elim
  | _ :: _, [], h => h.elim
instance {α : Type} [ToD α] : ToD (Tu α) := ⟨fun x => .tuple (x.l.map ToD.td), fun h f => by
  obtain ⟨p, vs, rfl, h1, h2⟩ := h
  exact .tup (sqt_mono f h1) (DpRD f h2)⟩
end
end Dy

namespace Dy
open PySem PySem.Spec L2
open PyProof.Rows hiding St
open Enc (rep)
open EncA (repA)
instance {α β : Type} [Enc α] [Enc β] : Enc (α ⊕ β) := ⟨fun K F v x => match x with
  | .inl y => rep K F v y
  | .inr y => rep K F v y, fun {K F F' v x} e h => by
  cases x with
  | inl y => exact Enc.mono (α := α) e h
  | inr y => exact Enc.mono (α := β) e h⟩
def sm {α β γ : Type} (x : α ⊕ β) (f : α → γ) (g : β → γ) : γ := match x with
  | .inl y => f y
  | .inr y => g y
theorem smL {α β γ : Type} {y : α} {f : α → γ} {g : β → γ} {r : γ} (h : sm (.inl y) f g = r) : f y = r := h
theorem smR {α β γ : Type} {y : β} {f : α → γ} {g : β → γ} {r : γ} (h : sm (.inr y) f g = r) : g y = r := h
end Dy

namespace Dy
open PySem PySem.Spec L2
open PyProof.Rows hiding St

section
variable {M : Model} {A : Around} {E : Value → Shared → Prop} {s : Shared} {env : Env}
def cEnd (M : Model) (A : Around) (E : Value → Shared → Prop) (use : Option (Value → Sem Unit)) (Q : Value → Shared → Prop) (acc : Value) (ce : Env) (r : Result) (t : Shared) : Prop := match r, use with
  | .ok _, none => ∃ m, t.heap.Ns ce.locals m ∧ ∀ g, Heap.SameBut ce.locals t.heap g → Q acc { t with heap := g }
  | .ok _, some u => wpAny M A (u acc) (fun _ t' => ∃ m, t'.heap.Ns ce.locals m ∧ ∀ g, Heap.SameBut ce.locals t'.heap g → Q .none { t' with heap := g }) E t
  | .error x, _ => ∃ m, t.heap.Ns ce.locals m ∧ ∀ g, Heap.SameBut ce.locals t.heap g → wpAny M A (passOn "comprehension.variables-let-go" x ce : Sem Value) (fun _ _ => False) E { t with heap := g }
theorem cEnd_err {use : Option (Value → Sem Unit)} {Q : Value → Shared → Prop} {acc : Value} {ce : Env} {x : Value} {t : Shared} (h : ∃ m, t.heap.Ns ce.locals m ∧ ∀ g, Heap.SameBut ce.locals t.heap g → wpAny M A (passOn "comprehension.variables-let-go" x ce : Sem Value) (fun _ _ => False) E { t with heap := g }) : cEnd M A E use Q acc ce (.error x) t := by
  cases use <;> exact h
theorem cEnd_errE {use : Option (Value → Sem Unit)} {Q : Value → Shared → Prop} {acc : Value} {ce : Env} {x : Value} {t : Shared} (h : cEnd M A E use Q acc ce (.error x) t) : ∃ m, t.heap.Ns ce.locals m ∧ ∀ g, Heap.SameBut ce.locals t.heap g → wpAny M A (passOn "comprehension.variables-let-go" x ce : Sem Value) (fun _ _ => False) E { t with heap := g } := by
  cases use <;> exact h
theorem comp_runs {e : Expr} {scope : Scope} {pos : Pos} {newAcc first : Sem Value} {c0 : Comprehension} {cs : List Comprehension} {cl : List (Str × Addr)} {use : Option (Value → Sem Unit)} {Q : Value → Shared → Prop}
    (h1 : clausesOf e = c0 :: cs) (h2 : ∀ x, foldedSetIterable c0.iter env x = pure x) (h3 : closureFor scope env = pure cl) (h4 : scope.kind = .function) (h5 : ∀ x ∈ scope.names, x.2 = .local → scope.names.lookup x.1 = some .local)
    (h : wpAny M A first (fun x t₁ => wpAny M A (pyIter x) (fun it t₂ => wpAny M A newAcc (fun acc t₃ => wpAny M A (newFunctionEnv scope env.globals cl [] env.qual none .none (some env)) (fun ce t₄ =>
      codeAny M A (.compStart e 0 it acc { ce with scope := relabel scope env }) (cEnd M A E use Q acc { ce with scope := relabel scope env }) t₄) E t₃) E t₂) E t₁) E s) :
    wpAny M A (comprehension e scope env pos newAcc false first use) Q E s := by
  unfold comprehension; rw [h3, h1]
  apply wpAny_bind
  apply wpAny_mono h _ (fun _ _ z => z)
  intro x t₁ k₁
  apply wpAny_bind; apply wpAny_standAt; apply wpAny_bind
  apply wpAny_of_eq (h2 x)
  apply wpAny_bind; apply wpAny_holding
  apply wpAny_mono k₁ _ (fun _ _ z => z)
  intro it t₂ k₂
  apply wpAny_standIf; apply wpAny_bind
  apply wpAny_mono k₂ _ (fun _ _ z => z)
  intro acc t₃ k₃
  apply wpAny_bind; apply wpAny_pure; apply wpAny_bind
  apply wpAny_mono k₃ _ (fun _ _ z => z)
  intro ce t₄ k₄
  dsimp only
  generalize hce : ({ ce with scope := relabel scope env } : Env) = ce' at k₄
  have hl : ce'.locals = ce.locals := by subst hce; rfl
  have hk : ce'.scope.kind = .function := by subst hce; exact h4
  have hv : ∀ x ∈ (scope.names.filter fun x => (x.2 == .local || x.2 == .cell) && x.1 != (".0" : Str)).reverse, x.2 = .local → Env.kindOf ce' x.1 = some .local := by
    intro x hx e
    subst hce
    exact lookup_relabel_local (h5 x (List.mem_filter.mp (List.mem_reverse.mp hx)).1 e)
  have hw : ∀ x ∈ (scope.names.filter fun x => (x.2 == .local || x.2 == .cell) && x.1 != (".0" : Str)).reverse.drop 1 ++ (scope.names.filter fun x => (x.2 == .local || x.2 == .cell) && x.1 != (".0" : Str)).reverse.take 1, x.2 = .local → Env.kindOf ce' x.1 = some .local := by
    intro x hx e
    exact (List.mem_append.mp hx).elim (fun z => hv x (List.mem_of_mem_drop z) e) fun z => hv x (List.mem_of_mem_take z) e
  apply wpAny_holding; apply wpAny_bind; apply wpAny_attempt; apply wpAny_holding
  subst hce
  refine wpAny_run (codeAny_mono k₄ ?_)
  intro r t₅ k₅
  rcases r with x | f
  · obtain ⟨m, n, k⟩ := cEnd_errE k₅
    refine wpAny_bind (wpAny_holding (wpAny_comp_letGo hk _ t₅ m hv n ?_))
    intro g m' _ sb
    exact wpAny_mono (k g sb) (fun _ _ z => z.elim) (fun _ _ z => z)
  · cases use with
    | none =>
      obtain ⟨m, n, k⟩ := k₅
      refine wpAny_bind (wpAny_holding (wpAny_comp_letGo hk _ t₅ m hv n ?_))
      intro g m' _ sb
      exact wpAny_pure (k g sb)
    | some u =>
      apply wpAny_bind; apply wpAny_rule; apply wpAny_bind; apply wpAny_holding
      refine wpAny_mono k₅ ?_ (fun _ _ z => z)
      intro _ t₆ k₆
      obtain ⟨m, n, k⟩ := k₆
      refine wpAny_bind (wpAny_comp_letGo hk _ t₆ m hw n ?_)
      intro g m' _ sb
      exact wpAny_pure (k g sb)
end
theorem note_same {x : Value} {e1 e2 : Env} (h : e1.frame = e2.frame) : noteFrame x e1 = noteFrame x e2 := by
  unfold noteFrame PySem.frameOf
  rw [h]
theorem blk_out {X : Cx} {W : WX} {s3 : Shared} {H3 : Hp} {σ : L2.St} {pins : List (Addr × Obj)} {scope : Scope} {ce : Env} {fp : List Addr} {use : Option (Value → Sem Unit)} {Qf : Value → Shared → Prop} {acc : Value} (tk : Takes X W)
    (hs : X.stack = X.env :: X.outer) (hf : X.env.frame = some X.env.locals) (I3 : Inv X pins σ H3 s3) (f3 : ∀ b ∈ fp, FpOk X pins H3 b ∧ b < s3.heap.objs.size) (cL : ce.locals = s3.heap.objs.size) (cf : ce.frame = X.env.frame) (pn : List (Addr × Obj)) (σ' : L2.St) :
    PassesAt (L2.CX X.prog X.w) ((X.blk s3 H3 scope ce fp).tr pn (notedBy (model X.prog X.w) X.A ce fun e t => cEnd (model X.prog X.w) X.A X.xe use Qf acc ce (.error e) t)) σ' (fun cls d H' => W cls d σ H') := by
  intro ps H s5 e s6 I5 c
  obtain ⟨a, B, H', cls, d, rfl, fl, hokB, ub, na, os, ag, w⟩ := c
  have hfr : X.A.frames = some (X.env :: X.outer) := I3.ok.frames.trans (by rw [hs])
  obtain ⟨m, hm, _⟩ := id I5.loc
  have hm : s5.heap.Ns s3.heap.objs.size m := by rw [← cL]; exact hm
  obtain ⟨oC, es, ep, hC, hCd, hCr⟩ := id hm
  have nC : H s3.heap.objs.size = none := by rw [← cL]; exact I5.free
  have fs : ∀ b ∈ frs X.stack, b < s3.heap.objs.size := fun b hb => by
    obtain ⟨_, o, z, _⟩ := I3.stack.mem hb
    exact Heap.lt_size z
  have nfC : s3.heap.objs.size ∉ frs X.stack := fun z => Nat.lt_irrefl _ (fs _ z)
  have BC : B.get? s3.heap.objs.size = some oC := ub.keep _ _ hC nC nfC
  have un : Un (frs X.stack) fp H3 H s3.heap s5.heap := I5.base
  show wpAny _ X.A (noteFrame (.ref a) ce) _ _ s6
  rw [note_same cf]
  have fl' : HandSPX.FlyingZ B (X.env :: X.outer) a (Zc cls d) s6.heap := by rw [← hs]; exact fl
  refine HandSPX.looks_onZ Zc.steady hfr hf fl' ?_
  intro h1 held up1
  refine cEnd_err ?_
  refine ⟨m, ?_, ?_⟩
  · rw [cL]
    exact ⟨oC, es, ep, held.1 _ _ BC, hCd, hCr⟩
  intro h2 sb
  rw [cL] at sb
  obtain ⟨k1, k2, k3, oe, vs, T, oT, ts, t1, t2, t3, t4, t5, t6, t7, t8, t9⟩ := held
  have aC : a ≠ s3.heap.objs.size := fun z => by rw [z, BC] at k2; cases k2
  have TC : T ≠ s3.heap.objs.size := fun z => by rw [z, BC] at t5; cases t5
  obtain ⟨B', b1, b2⟩ := restrict B fun b => decide (b ≠ s3.heap.objs.size)
  have b1' : ∀ b, b ≠ s3.heap.objs.size → B'.get? b = B.get? b := fun b hb => b1 b (by simpa using hb)
  have b2' : B'.get? s3.heap.objs.size = none := b2 _ (by simp)
  have low : ∀ b o, B'.get? b = some o → B.get? b = some o ∧ b ≠ s3.heap.objs.size := fun b o z => by
    by_cases q : b = s3.heap.objs.size
    · rw [q, b2'] at z; cases z
    · exact ⟨(b1' b q).symm.trans z, q⟩
  have gone : ∀ b, B.get? b = none → B'.get? b = none := fun b z => by
    cases q : B'.get? b with
    | none => rfl
    | some o => rw [(low b o q).1] at z; cases z
  have held2 : HandSPX.HeldZ B' (X.env :: X.outer) a (Zc cls d) X.env.locals h2 := by
    refine ⟨fun b o z => ?_, gone a k2, ?_, oe, vs, T, oT, ts, (sb.2 a aC).trans t1, t2, t3, t4, gone T t5, t6, (sb.2 T TC).trans t7, t8, t9⟩
    · obtain ⟨q1, q2⟩ := low b o z
      exact (sb.2 b q2).trans (k1 b o q1)
    · have all : ∀ l : List Env, (∀ b ∈ frs l, b ≠ s3.heap.objs.size) → h1.FunFrames B l → h2.FunFrames B' l := by
        intro l
        induction l with
        | nil => intro _ _; trivial
        | cons x r ih =>
          intro hne hh
          obtain ⟨f1, ⟨L, o, f2, f3, f4, f5⟩, f6⟩ := hh
          have hL : L ∈ frs (x :: r) := List.mem_filterMap.mpr ⟨x, List.mem_cons_self, f2⟩
          refine ⟨f1, ⟨L, o, f2, gone L f3, (sb.2 L (hne L hL)).trans f4, f5⟩, ih (fun b hb => hne b ?_) f6⟩
          obtain ⟨y, hy, q⟩ := List.mem_filterMap.mp hb
          exact List.mem_filterMap.mpr ⟨y, List.mem_cons_of_mem _ hy, q⟩
      exact all _ (fun b hb => Nat.ne_of_lt (fs b (by rw [hs]; exact hb))) k3
  show wpAny _ X.A (passOn "comprehension.variables-let-go" (.ref a) ce : Sem Value) _ X.xe { s6 with heap := h2 }
  unfold PySem.passOn
  refine wpAny_bind (wpAny_field ((sb.2 a aC).trans t1) t3 t4 ?_)
  have nn : (Value.ref T == Value.none) = false := by simp
  rw [nn, if_neg Bool.false_ne_true]
  refine wpAny_bind ?_
  rw [cf, hf]
  refine HandSPX.setFlight_onZ (s := { s6 with heap := h2 }) held2 ?_
  intro h3 held3 up3
  refine wpAny_throw (tk _ _ ?_)
  obtain ⟨G, g1, g2⟩ := restrict h3 fun b => (B'.get? b).isSome || decide (b ∈ frs X.stack)
  have st3 : B'.StaysIn h3 := held3.1
  have gB : ∀ b o, B'.get? b = some o → G.get? b = some o := fun b o z => (g1 b (by simp [z])).trans (st3 b o z)
  have gF : ∀ b, b ∈ frs X.stack → G.get? b = h3.get? b := fun b hb => g1 b (by simp [hb])
  have og : ∀ b o, G.get? b = some o → h3.get? b = some o ∧ ((B'.get? b).isSome = true ∨ b ∈ frs X.stack) := fun b o z => by
    cases q : ((B'.get? b).isSome || decide (b ∈ frs X.stack)) with
    | false => rw [g2 b q] at z; cases z
    | true => exact ⟨(g1 b q).symm.trans z, by simpa [Bool.or_eq_true] using q⟩
  have n3 : ∀ {b o}, s3.heap.get? b = some o → b ≠ s3.heap.objs.size := fun z => Nat.ne_of_lt (Heap.lt_size z)
  have nHC : H' s3.heap.objs.size = none := ub.free _ _ hC nC
  have slots : ∀ b ∈ frs X.stack, ∀ o, s3.heap.get? b = some o → H3 b = none → b ∉ fp → ∃ sl, G.get? b = some { o with slots := sl } := fun b hb o z hn hx => by
    obtain ⟨_, o', z', nf⟩ := I3.stack.mem hb
    rw [z] at z'; cases z'
    obtain ⟨l1, z1⟩ := un.slot b o z hn hb hx
    obtain ⟨l2, z2⟩ := ub.slot b _ z1 hb
    obtain ⟨l3, z3⟩ := up1 b _ z2 nf
    have z4 := (sb.2 b (n3 z)).trans z3
    obtain ⟨l5, z5⟩ := up3 b _ z4 nf
    exact ⟨l5, (gF b hb).trans z5⟩
  have u : Un (frs X.stack) fp H3 H' s3.heap G := by
    refine ⟨fun b o z hn hb hx => ?_, fun b o z hn hb hx => slots b hb o z hn hx, fun b o z hn hx => ?_, fun b o z hx => ?_, fun b xs z => ub.tups _ _ (un.tups _ _ z), fun b o xs z => ub.frzs _ _ _ (un.frzs _ _ _ z), fun b p z => ?_⟩
    · exact gB b o ((b1' b (n3 z)).trans (ub.keep b o (un.keep b o z hn hb hx) (un.free b o z hn hx) hb))
    · obtain ⟨o', z'⟩ := un.there b o z hx
      exact ub.free b o' z' (un.free b o z hn hx)
    · by_cases hb : b ∈ frs X.stack
      · obtain ⟨_, o', z', _⟩ := I3.stack.mem hb
        rw [z] at z'; cases z'
        obtain ⟨l, q⟩ := slots b hb o z (I3.stkFree b hb) hx
        exact ⟨_, q⟩
      · obtain ⟨o', z'⟩ := un.there b o z hx
        obtain ⟨o2, z2⟩ := ub.there b o' z' hb
        exact ⟨o2, gB b o2 ((b1' b (n3 z)).trans z2)⟩
    · obtain ⟨p1, q1⟩ := un.tbls b p z
      obtain ⟨p2, q2⟩ := ub.tbls b _ q1
      exact ⟨p1 ++ p2, by rw [q2, Array.append_assoc]⟩
  have hokG : HOk X.prog X.w H' G := fun b o q => (hokB b o q).stay (fun c v hc z => gB c v ((b1' c fun e => by
      rcases hc with r | r
      · rw [← r, e, nHC] at q; cases q
      · rw [e, nHC] at r; cases r).trans z)) (fun _ z => z) fun _ _ z => z
  have IG : Inv X pins σ H' { s6 with heap := G } := I3.call' (ch := fp) (by show s6.os = s3.os; rw [os]; exact I5.os) u hokG ag fun b hb => ⟨(f3 b hb).1.2.2.2.1, (f3 b hb).1.2.1, (f3 b hb).1.2.2.2.2.1, (f3 b hb).1.2.2.2.2.2⟩
  refine ⟨a, B', { s6 with heap := G }, pins, σ, H', cls, d, rfl, IG, fun b o z hb => ?_, Heap.UpToSlots.of_keeps fun b o z => (og b o z).1, .inr (.inr ?_), na, rfl, ag, w⟩
  · obtain ⟨z1, z2⟩ := og b o z
    rcases z2 with z2 | z2
    · obtain ⟨o', q⟩ := Option.isSome_iff_exists.mp z2
      rw [st3 b o' q] at z1; cases z1
      exact q
    · exact absurd z2 hb
  · rw [hs]; exact held3
abbrev BlkX (X : Cx) (scope : Scope) (s0 : Shared) (H0 : Hp) (C : Addr) (cl : List (Str × Addr)) (fp : List Addr) (pn : List (Addr × Obj)) (xe : Value → Shared → Prop) : Cx := (X.blk s0 H0 scope (compEnvC scope cl C X.env) fp).tr pn xe
theorem lcx_core {X : Cx} {W : WX} {pins : List (Addr × Obj)} {s : Shared} {σ : L2.St} {H : Hp} {Q : VK} {elt tg iter : Expr} {ifs : List Expr} {scope : Scope} {own : List (Str × Nat)} {pos pos' : Pos} {wi : TI} {g : TG} {tt : TT} {te : TE} {use : Option (Value → Sem Unit)} {Qf : Value → Shared → Prop}
    (hc : X.calm = true) (hN : X.N.Nodup) (tk : Takes X W) (hs0 : X.stack = X.env :: X.outer) (hf0 : X.env.frame = some X.env.locals) (I : Inv X pins σ H s) (hi : PI X tg iter wi) (ok : BlkOk X.N X.env.scope scope own)
    (hg : ∀ (s : Shared) (H : Hp) (C : Addr) (cl : List (Str × Addr)) (fp : List Addr), PG (X.blk s H scope (compEnvC scope cl C X.env) fp) tg g) (ht : ∀ (s : Shared) (H : Hp) (C : Addr) (cl : List (Str × Addr)) (fp : List Addr), PTs (X.blk s H scope (compEnvC scope cl C X.env) fp) ifs tt)
    (he : ∀ s0 H0 C cl fp pn xe, (∀ σ', PassesAt (L2.CX X.prog X.w) (BlkX X scope s0 H0 C cl fp pn xe) σ' (fun cls d H' => W cls d σ H')) → PE (BlkX X scope s0 H0 C cl fp pn xe) elt te) (hs : ∀ x, foldedSetIterable iter X.env x = pure x)
    (h : tLc wi g tt te (own.map (·.2)) σ H Q)
    (hRR : ∀ D ce s' m H', Inv X pins σ H' s' → Q (.ref D) H' → s'.heap.Ns ce.locals m → FpOk X pins H' ce.locals → cEnd (model X.prog X.w) X.A X.xe use Qf (.ref D) ce (.ok .next) s') :
    wpAny (model X.prog X.w) X.A (comprehension (.ListComp elt [⟨tg, iter, ifs, 0⟩] scope pos) scope X.env pos' (newList []) false (eval iter X.env) use) Qf X.xe s := by
  have hfree : ∀ y ∈ scope.names, y.2 = .free → ∃ c, X.env.cells.lookup y.1 = some c := by
    intro y hy e
    exact (ok.free y hy e).elim (fun k => I.ok.has _ (.inl k)) fun k => I.ok.has _ (.inr k)
  refine comp_runs (use := use) rfl hs (closure_ok hfree) ok.kind (fun y hy e => by rw [ok.uniq y hy, e]) ?_
  apply thn (hi.run pins s σ H _ I h)
  intro xv t1 hx
  apply thn hx
  rintro itv t2 ⟨it, fp, tn, J, H2, rfl, I2, T, st2, f2, q⟩
  refine wpAny_newObj_type (newEnv_comp ?_) (by show 0 ≤ sizeLine; decide)
  obtain ⟨D, hD⟩ : ∃ D, D = t2.heap.objs.size := ⟨_, rfl⟩
  rw [← hD]
  obtain ⟨W0, ⟨m0, w0⟩, turn⟩ := q D (I2.hok.fresh (Nat.le_of_eq hD.symm))
  generalize hs3 : ({ t2 with heap := t2.heap.push { cls := .type "list", data := .seq ([] : List Value).toArray } } : Shared) = s3
  have e3 : s3.heap = t2.heap.push { cls := .type "list", data := .seq ([] : List Value).toArray } := by rw [← hs3]
  have I3 : Inv X pins σ (upd H2 D (.lst [])) s3 := by
    subst hs3 hD
    exact I2.laid (t' := t2.toks) (fun b o z => Heap.get?_push_of_some _ z) (Nat.le_refl _) ⟨Nat.zero_le _, [], 0, .nil, Heap.get?_push_size _ rfl⟩
  have f3 : ∀ b ∈ fp, FpOk X pins (upd H2 D (.lst [])) b ∧ b < s3.heap.objs.size := by
    intro b hb
    obtain ⟨o, z, _⟩ := T.obj _ _ st2 b hb
    have lt := Heap.lt_size z
    refine ⟨⟨?_, (f2 b hb).2⟩, by rw [e3, Heap.size_push]; exact Nat.lt_succ_of_lt lt⟩
    rw [upd_ne (by rw [hD]; exact Nat.ne_of_lt lt)]
    exact (f2 b hb).1
  have st3 : tn 0 s3.heap := T.keep _ _ _ st2 fun b _ o z => by rw [e3]; exact Heap.get?_push_of_some _ z
  have I4 := block_start I3 ok hN f3
  show codeAny _ _ (.compStart (.ListComp elt [⟨tg, iter, ifs, 0⟩] scope pos) 0 (.ref it) (.ref D) (compEnvC scope (cellsFrom (s3.heap.objs.size + 1) scope.names (cloFrom X.env.cells scope.names [])) s3.heap.objs.size X.env)) (cEnd (model X.prog X.w) X.A X.xe use Qf (.ref D) (compEnvC scope (cellsFrom (s3.heap.objs.size + 1) scope.names (cloFrom X.env.cells scope.names [])) s3.heap.objs.size X.env)) { s3 with heap := pushCells (s3.heap.push { cls := .type "dict", data := .dict #[] }) scope.names }
  generalize cellsFrom (s3.heap.objs.size + 1) scope.names (cloFrom X.env.cells scope.names []) = cl at I4 ⊢
  have pg := hg s3 (upd H2 D (.lst [])) s3.heap.objs.size cl fp
  have pt := ht s3 (upd H2 D (.lst [])) s3.heap.objs.size cl fp
  have px := he s3 (upd H2 D (.lst [])) s3.heap.objs.size cl fp
  unfold BlkX at px
  have pas := fun pn σ' => blk_out (scope := scope) (ce := compEnvC scope cl s3.heap.objs.size X.env) (use := use) (Qf := Qf) (acc := .ref D) tk hs0 hf0 I3 f3 rfl rfl pn σ'
  have n3 : ∀ b ∈ fp, (upd H2 D (.lst [])) b = none := fun b hb => (f3 b hb).1.1
  have cL : (compEnvC scope cl s3.heap.objs.size X.env).locals = s3.heap.objs.size := rfl
  generalize hce : compEnvC scope cl s3.heap.objs.size X.env = ce at I4 pg pt px pas cL ⊢
  generalize upd H2 D (.lst []) = H3 at I3 I4 pg pt px pas w0 n3 f3
  generalize hs4 : ({ s3 with heap := pushCells (s3.heap.push { cls := .type "dict", data := .dict #[] }) scope.names } : Shared) = s4 at I4 ⊢
  have st4 : tn 0 s4.heap := T.keep _ _ _ st3 fun b _ o z => by rw [← hs4]; exact pushCells_keeps _ _ _ _ (Heap.get?_push_of_some _ z)
  have stat : ∀ {σ' : L2.St} {H' : Hp} {s' : Shared}, Inv (X.blk s3 H3 scope ce fp) [] σ' H' s' → (∀ b ∈ fp, H' b = none) → ∀ b ∈ fp, FpOk (X.blk s3 H3 scope ce fp) [] H' b := by
    intro σ' H' s' I' hn b hb
    exact ⟨hn b hb, (I'.ok.exf b hb).1, I'.ok.exfs b hb, .inl hb, fun x c z => (I'.ok.exf b hb).2 x c z, fun p hp => absurd (show p ∈ ([] : List (Addr × Obj)) ++ [] from hp) (by simp)⟩
  have loop : codeAny (model X.prog X.w) X.A (.compLoop (.ListComp elt [⟨tg, iter, ifs, 0⟩] scope pos) 0 (.ref it) (.ref D) ce) (cEnd (model X.prog X.w) X.A X.xe use Qf (.ref D) ce) s4 := by
    apply compLoop_any (fun n s' => ∃ i H', Inv (X.blk s3 H3 scope ce fp) [] (wipe σ (own.map (·.2))) H' s' ∧ tn i s'.heap ∧ (∀ b ∈ fp, H' b = none) ∧ W0 i n H') _ m0 ⟨0, H3, I4, st4, n3, w0⟩
    rintro n s5 ⟨i, H5, I5, st5, n5, w5⟩
    rcases turn i n H5 w5 with ⟨stop, qq⟩ | ⟨go, Nx, hNx, step⟩
    · apply thnF (T.done (X.blk s3 H3 scope ce fp) rfl rfl rfl hc i [] s5 _ H5 (fun _ _ => False) I5 (stat I5 n5) st5 stop)
      rintro r s6 ⟨rfl, I6⟩
      have I7 : Inv X pins σ H5 s6 := I3.call' (ch := fp) I6.os I6.base I6.hok I6.bare fun b hb => ⟨(f3 b hb).1.2.2.2.1, (f3 b hb).1.2.1, (f3 b hb).1.2.2.2.2.1, (f3 b hb).1.2.2.2.2.2⟩
      have nC : H5 ce.locals = none := I6.free
      obtain ⟨m, hn, _⟩ := I6.loc
      exact hRR D ce s6 m H5 I7 qq hn (I3.fpOk (by rw [cL]; exact Nat.le_refl _) nC)
    · apply thnF (T.item (X.blk s3 H3 scope ce fp) rfl rfl rfl hc i [] s5 _ H5 (fun _ _ => False) I5 (stat I5 n5) st5 go)
      rintro r s6 ⟨u, rfl, h6⟩
      apply thnF h6
      rintro _ s7 ⟨x, H7, I7, r7, y7, st7, n7⟩
      apply thnF (pg.run _ s7 _ H7 x u _ (I7.pinned (stat I7 n7) (T.obj _ _ st7)) r7 (step x H7 y7))
      rintro _ s8 ⟨σ8, H8, I8, hw8, q8⟩
      apply thnF (pt.run _ s8 σ8 H8 _ I8 q8)
      rintro b s9 ⟨H9, I9, q9⟩
      have fin : ∀ {s' : Shared} {H' : Hp}, Inv (X.blk s3 H3 scope ce fp) ([] ++ pinsAt fp s7.heap) σ8 H' s' → Nx H' → ∃ m, m < n ∧ ∃ i H', Inv (X.blk s3 H3 scope ce fp) [] (wipe σ (own.map (·.2))) H' s' ∧ tn i s'.heap ∧ (∀ b ∈ fp, H' b = none) ∧ W0 i m H' := by
        intro s' H' I' nx
        obtain ⟨m', hm, w'⟩ := hNx H' nx
        have pin' : ∀ b ∈ fp, ∀ o, s7.heap.get? b = some o → s'.heap.get? b = some o ∧ H' b = none := by
          intro b hb o z
          obtain ⟨z1, z2, _⟩ := I'.pin (b, o) (List.mem_append_right _ (List.mem_append_right _ (mem_pinsAt hb z)))
          exact ⟨z1, z2⟩
        refine ⟨m', hm, i + 1, H', (I'.unpinned (pins := [])).weak (by rw [← hw8, wipe_length]) ?_, T.keep _ _ _ st7 fun b hb o z => (pin' b hb o z).1, ?_, w'⟩
        · intro j v z
          rw [← hw8] at z
          exact (wipe_some z).1
        · intro b hb
          obtain ⟨o, z, _⟩ := T.obj _ _ st7 b hb
          exact (pin' b hb o z).2
      cases b with
      | false =>
        rw [if_neg Bool.false_ne_true] at q9 ⊢
        exact fin I9 q9
      | true =>
        rw [if_pos rfl] at q9 ⊢
        have pe := px _ _ (pas ((X.blk s3 H3 scope ce fp).pn ++ ([] ++ pinsAt fp s7.heap)))
        refine wpAny_mono (pe.run [] s9 σ8 H9 _ (I9.toTry _) q9) ?_ (fun _ _ z => z)
        rintro z s10 ⟨yv, H10, I10, r10, acc, hD10, hz10, nx⟩
        exact app_ok (X := X.blk s3 H3 scope ce fp) (I10.ofTry I9.ok) hD10 hz10 r10 fun s11 I11 => fin I11 nx
  exact codeAny_compStart_list loop (T.self X.A 0 _ _ _ st4 loop)
end Dy

namespace Dy
open PySem PySem.Spec L2
open PyProof.Rows hiding St
open Enc (rep)
open EncA (repA)

def mapR {α β : Type} (f : α → Option (Rz β)) : List α → Option (Rz (List β))
  | [] => some (.ok [])
  | x :: xs => match f x with
    | none => none
    | some (.er e) => some (.er e)
    | some (.ok y) => match mapR f xs with
      | none => none
      | some (.er e) => some (.er e)
      | some (.ok ys) => some (.ok (y :: ys))
def okO {β : Type} (m : Option (Rz β)) : Option β := match m with
  | some (.ok y) => some y
  | _ => none
theorem okO_some {β : Type} {m : Option (Rz β)} {y : β} (h : okO m = some y) : m = some (.ok y) := by
  match m with
  | none => cases h
  | some (.er e) => cases h
  | some (.ok z) => cases h; rfl
theorem mapR_ok {α β : Type} {f : α → Option (Rz β)} : ∀ {xs : List α} {ys : List β}, mapR f xs = some (.ok ys) → mapO (fun x => okO (f x)) xs = some ys
  | [], ys, h => by cases h; rfl
  | x :: xs, ys, h => by
    unfold mapR at h
    cases hx : f x with
    | none => rw [hx] at h; cases h
    | some r => cases r with
      | er e => rw [hx] at h; cases h
      | ok y =>
        rw [hx] at h
        dsimp only at h
        cases hr : mapR f xs with
        | none => rw [hr] at h; cases h
        | some q => cases q with
          | er e => rw [hr] at h; cases h
          | ok zs =>
            rw [hr] at h
            cases h
            have := mapR_ok hr
            unfold mapO at this ⊢
            unfold compO
            rw [Option.bind_some, if_pos rfl, hx]
            show Option.bind (some y) _ = _
            rw [Option.bind_some, this]
            rfl
def ErX (K : PySem.W.Frag) (s : S) (er : Er) : XK := fun cls d H' => ∃ s2 : S, s2.H = H' ∧ Ex s s2 ∧ ExR K s2.F er cls d
section
variable {X : Cx} {σ : L2.St} {s : S} {e : Expr} {es : List Expr} {p0 pos : Pos}
theorem evX_callP {A : Type} [EncA A] {ρ : Type} [Enc ρ] {m : A → Option (Rz ρ)} {n : Str} {k j : Nat} {x : A} {er : Er} {s0 : S} (C : Cal X.prog X.w X.K X.mg X.base (L2.CX X.prog X.w) k n (spR X.K m)) (px : ∀ σ', PassesAt (L2.CX X.prog X.w) X σ' (ErX X.K s0 er)) (k0 : Ex s0 s) (hr : Room j X.A) (hk : k ≤ j)
    (ha : EvA X (e :: es) σ s x) (h : m x = some (.er er)) (hg : Gl X n := by rfl)
    (hdb : (n == ("__debug__" : Str)) = false := by decide) (he : starEach (e :: es) X.env = (false, eval e X.env) :: starEach es X.env := by rfl) (hpl : (backTo pos (starEach es X.env)).any (·.1) = false := by rfl) : EvX X (.Call (.Name n p0) (e :: es) [] pos) σ s := fun s1 k1 Q => by
  obtain ⟨f, fd, ps, F, hm, kp, b⟩ := C.ex
  exact we_of (pe_callS (E := fun _ => ErX X.K s0 er) F (hr.mono hk) hg hm kp b px pa_wa hdb he hpl) (ha s1 k1 _ fun vs s2 k2 r2 => ⟨s2, x, .er er, rfl, r2, h, fun cls d s3 k3 r3 => ⟨s3, rfl, k0.trans ((k1.trans k2).trans k3), r3⟩⟩)
end
section
variable {α β : Type} [Enc α] [Enc β] {X : Cx} {σ : L2.St} {s : S} {elt tg iter c : Expr} {scope : Scope} {own : List (Str × Nat)} {pos : Pos} {W : WX}
abbrev teX (X : Cx) (scope : Scope) (elt : Expr) (s : S) (er : Er) : TE := fun σ H Q => ∀ s0 H0 C cl fp pn xe, (∀ σ', PassesAt (L2.CX X.prog X.w) (BlkX X scope s0 H0 C cl fp pn xe) σ' (ErX X.K s er)) → WE (BlkX X scope s0 H0 C cl fp pn xe) elt σ H Q
theorem comp_readX {xs : List α} {f : α → Option (Rz β)} {er : Er} {g : TG} {B : Hp → α → L2.St → L2.St → Prop} (hi : EvI X tg iter σ s xs) (T : Tgt (α := α) X.K g B) (hf : mapR f xs = some (.er er)) (hz : xs.length ≤ sizeLine)
    (hw : ∀ (F : Hp) (x : α) σ2, B F x (wipe σ (own.map (·.2))) σ2 → wipe σ2 (own.map (·.2)) = wipe σ (own.map (·.2)))
    (he : ∀ (x : α) (y : β) (s1 : S) (σ2 : L2.St), x ∈ xs → Ex s s1 → B s1.F x (wipe σ (own.map (·.2))) σ2 → f x = some (.ok y) → ∀ s0 H0 C cl fp pn xe, Ev (BlkX X scope s0 H0 C cl fp pn xe) elt σ2 s1 y)
    (hx : ∀ (x : α) (s1 : S) (σ2 : L2.St), x ∈ xs → Ex s s1 → B s1.F x (wipe σ (own.map (·.2))) σ2 → f x = some (.er er) → ∀ s0 H0 C cl fp pn xe, (∀ σ', PassesAt (L2.CX X.prog X.w) (BlkX X scope s0 H0 C cl fp pn xe) σ' (ErX X.K s er)) → EvX (BlkX X scope s0 H0 C cl fp pn xe) elt σ2 s1)
    (s1 : S) (k : Ex s s1) (Q : VK) : tLc (WI X tg iter) g tYes (teX X scope elt s er) (own.map (·.2)) σ s1.H Q := by
  refine hi s1 k _ fun J s2 k2 W => ?_
  intro D hD
  refine ⟨fun i m H => ∃ (u : S) (pre : List β) (vs : List V), u.H = H ∧ m = xs.length - i ∧ Ex s2 u ∧ u.F D = none ∧ u.H D = some (.lst vs) ∧ Reps X.K u.F vs pre ∧ vs.length = i ∧ mapR f (xs.drop i) = some (.er er), ⟨xs.length, s2.newO D (.lst []) hD, [], [], rfl, rfl, Ex.newO hD, (fF hD : s2.F D = none), upd_same, trivial, rfl, hf⟩, ?_⟩
  rintro i m H ⟨u, pre, vs, rfl, rfl, ku, n1, n2, n3, n4, h1⟩
  by_cases hi' : i < xs.length
  · right
    have hx' : xs[i]? = some xs[i] := List.getElem?_eq_getElem hi'
    obtain ⟨g1, g2⟩ := W.go i u xs[i] ku.f hx'
    refine ⟨g1, fun H' => ∃ m', m' < xs.length - i ∧ ∃ (u : S) (pre : List β) (vs : List V), u.H = H' ∧ m' = xs.length - (i + 1) ∧ Ex s2 u ∧ u.F D = none ∧ u.H D = some (.lst vs) ∧ Reps X.K u.F vs pre ∧ vs.length = i + 1 ∧ mapR f (xs.drop (i + 1)) = some (.er er), fun H' z => z, fun v H' hy => ?_⟩
    obtain ⟨u', rfl, ku', rv⟩ := g2 v H' hy
    refine T.run u' v xs[i] _ _ rv fun σ2 hB => ⟨hw _ _ _ hB, ?_⟩
    have mem : xs[i] ∈ xs := List.getElem_mem hi'
    have base : Ex s u' := (k.trans k2).trans (ku.trans ku')
    unfold tYes
    dsimp only
    rw [if_pos rfl]
    rw [List.drop_eq_getElem_cons hi'] at h1
    unfold mapR at h1
    intro s0 H0 C cl fp pn xe hp
    cases hfx : f xs[i] with
    | none => rw [hfx] at h1; cases h1
    | some r => cases r with
      | er e2 =>
        rw [hfx] at h1
        cases h1
        exact hx xs[i] u' σ2 mem base hB hfx s0 H0 C cl fp pn xe hp u' (Ex.refl u') _
      | ok y =>
        rw [hfx] at h1
        dsimp only at h1
        have h2 : mapR f (xs.drop (i + 1)) = some (.er er) := by
          cases hr : mapR f (xs.drop (i + 1)) with
          | none => rw [hr] at h1; cases h1
          | some q => cases q with
            | er e2 => rw [hr] at h1; cases h1; rfl
            | ok ys => rw [hr] at h1; cases h1
        refine he xs[i] y u' σ2 mem base hB hfx s0 H0 C cl fp pn xe u' (Ex.refl _) _ fun w u4 k4 r4 => ?_
        have k5 : Ex u u4 := ku'.trans k4
        have hD4 : u4.H D = some (.lst vs) := k5.h _ _ n2
        have hF4 : u4.F D = none := k5.n _ _ n2 n1
        exact ⟨vs, hD4, by omega, _, by omega, u4.put D (.lst (vs ++ [w])) hF4, pre ++ [y], vs ++ [w], rfl, rfl, (ku.trans k5).mu1 (Mx.put hF4) hD, hF4, upd_same, (n3.mono k5.f).snoc r4, by rw [List.length_append, n4]; rfl, h2⟩
  · rw [List.drop_eq_nil_of_le (by omega)] at h1
    cases h1
structure EvLX (X : Cx) (elt tg iter : Expr) (scope : Scope) (σ : L2.St) (s : S) : Prop where
  calm : X.calm = true
  nd : X.N.Nodup
  fs : ∀ x, foldedSetIterable iter X.env x = pure x
  st : X.stack = X.env :: X.outer
  fr : X.env.frame = some X.env.locals
  ex : ∃ (own : List (Str × Nat)) (g : TG) (W : WX) (er : Er), BlkOk X.N X.env.scope scope own ∧ (∀ s0 H0 C cl fp, PG (Blk X scope s0 H0 C cl fp) tg g) ∧ Takes X W ∧ (∀ s2, Ex s s2 → ∀ cls d, ExR X.K s2.F er cls d → W cls d σ s2.H) ∧
    ∀ s1, Ex s s1 → ∀ Q : VK, tLc (WI X tg iter) g tYes (teX X scope elt s er) (own.map (·.2)) σ s1.H Q
theorem EvLX.run {ps : Pos} {use : Option (Value → Sem Unit)} {Qf : Value → Shared → Prop} {pins : List (Addr × Obj)} {sh : Shared} {s1 : S} (h : EvLX X elt tg iter scope σ s) (k : Ex s s1) (I : Inv X pins σ s1.H sh) :
    wpAny (model X.prog X.w) X.A (comprehension (.ListComp elt [⟨tg, iter, [], 0⟩] scope pos) scope X.env ps (newList []) false (eval iter X.env) use) Qf X.xe sh := by
  obtain ⟨own, g, W, er, h1, h2, tk, hw, h4⟩ := h.ex
  have tk' : Takes X (fun cls d σ' H' => σ' = σ ∧ ErX X.K s er cls d H') := tk.imp fun cls d σ' H' z => by
    obtain ⟨rfl, s2, rfl, k2, r⟩ := z
    exact hw s2 k2 cls d r
  refine lcx_core (W := fun cls d σ' H' => σ' = σ ∧ ErX X.K s er cls d H') h.calm h.nd tk' h.st h.fr I pi_wi h1 h2 (fun _ _ _ _ _ => pts_nil) (te := teX X scope elt s er) (fun s0 H0 C cl fp pn xe hp => pe_im fun _ _ _ q => q s0 H0 C cl fp pn xe (fun σ' pins H s' e s'' i c => hp σ' pins H s' e s'' i ?_)) h.fs (h4 s1 k (fun _ _ => False)) (fun D ce s' m H' _ q => q.elim)
  obtain ⟨a, B, H', cls, d, c1, c2, c3, c4, c5, c6, c7, c8⟩ := c
  exact ⟨a, B, H', cls, d, c1, c2, c3, c4, c5, c6, c7, rfl, c8⟩
theorem EvLX.x (h : EvLX X elt tg iter scope σ s) : EvX X (.ListComp elt [⟨tg, iter, [], 0⟩] scope pos) σ s := fun s1 k Q => Hold.mk fun pins sh I => by
  rw [eval_ListComp]
  exact h.run k I
theorem do_setLX {n : Str} {py spos : Pos} {rest : List Stmt} {D : Ends} (h : EvLX X elt tg iter scope σ s) (hk : X.env.scope.kind = .function) (hy : X.env.scope.names.lookup n = some .local)
    (hl : (py.line == pos.line) = true := by rfl) (ha : (scope.names.any fun (m, k) => m == n && (k == .local || k == .cell)) = false := by decide +kernel) :
    WSs X (.Assign [.Name n py] (.ListComp elt [⟨tg, iter, [], 0⟩] scope pos) spos :: rest) D σ s.H := by
  refine do_cons (ts := fun D σ' H' => σ' = σ ∧ H' = s.H) ⟨fun pins sh σ' H' D' I z => ?_⟩ ⟨rfl, rfl⟩
  obtain ⟨rfl, rfl⟩ := z
  rw [exec_Assign_Name_used _ _ _ _ (sw_true hk hy hl ha)]
  refine wpAny_bind (wpAny_standAt (wpAny_bind ?_))
  exact wpAny_bind (h.run (Ex.refl s) I)
theorem en_compX {xs : List α} {f : α → Option (Rz β)} {er : Er} {j : Nat} {n : Str} {py : Pos} (hc : X.calm = true) (hN : X.N.Nodup) (st : X.stack = X.env :: X.outer) (fr : X.env.frame = some X.env.locals) (tk : Takes X W) (hi : EvI X (.Name n py) iter σ s xs) (ok : BlkOk X.N X.env.scope scope own) (hj : X.N[j]? = some n)
    (hjo : j ∈ own.map (·.2)) (hg : ∀ s0 H0 C cl fp, PG (Blk X scope s0 H0 C cl fp) (.Name n py) (gName j)) (hf : mapR f xs = some (.er er)) (hz : xs.length ≤ sizeLine) (hw : ∀ cls d s2, Ex s s2 → ExR X.K s2.F er cls d → W cls d σ s2.H)
    (he : ∀ (x : α) (y : β) (v : V) (s1 : S), x ∈ xs → Ex s s1 → rep X.K s1.F v x → f x = some (.ok y) → ∀ s0 H0 C cl fp pn xe, Ev (BlkX X scope s0 H0 C cl fp pn xe) elt ((wipe σ (own.map (·.2))).set j (some v)) s1 y)
    (hx : ∀ (x : α) (v : V) (s1 : S), x ∈ xs → Ex s s1 → rep X.K s1.F v x → f x = some (.er er) → ∀ s0 H0 C cl fp pn xe, (∀ σ', PassesAt (L2.CX X.prog X.w) (BlkX X scope s0 H0 C cl fp pn xe) σ' (ErX X.K s er)) → EvX (BlkX X scope s0 H0 C cl fp pn xe) elt ((wipe σ (own.map (·.2))).set j (some v)) s1)
    (hs : ∀ x, foldedSetIterable iter X.env x = pure x := by intro _; rfl) : EvLX X elt (.Name n py) iter scope σ s :=
  ⟨hc, hN, hs, st, fr, own, _, W, er, ok, hg, tk, fun s2 k cls d r => hw cls d s2 k r, fun s1 k Q => comp_readX hi tg_n hf hz (fun F x σ2 ⟨v, _, e⟩ => by rw [e, wipe_set hjo]; exact wipe_wipe fun _ z => z)
    (fun x y s1 σ2 hx' k ⟨v, r, e⟩ hfx => by subst e; exact he x y v s1 hx' k r hfx) (fun x s1 σ2 hx' k ⟨v, r, e⟩ hfx => by subst e; exact hx x v s1 hx' k r hfx) s1 k Q⟩
theorem evX_sum {p0 : Pos} (hm : X.mg "sum" = none) (ha : EvX X elt σ s) (hc : X.calm = true := by rfl) (hg : Gl X "sum" := by rfl) (he : starEach [elt] X.env = (false, eval elt X.env) :: starEach [] X.env := by rfl) (hpl : (backTo pos (starEach [] X.env)).any (·.1) = false := by rfl) : EvX X (.Call (.Name "sum" p0) [elt] [] pos) σ s := fun s1 k Q =>
  we_of (pe_callB (cr_sum hc) hg hm (by decide +kernel) (pa_cons pe_we pa_nil he) (by decide) (by decide) he hpl) (ha s1 k _)
end
section
variable {X : Cx} {σ : L2.St} {s : S} {a b : Expr} {es : List Expr} {pos : Pos}
theorem ew_and1 {x : Bool} (h : EvT X a σ s x) : EvW X (.BoolOp .And [a] pos) σ s x := fun s1 k Q q => ww_of (pw_and1 pt_wt) (h s1 k Q q)
theorem ew_or1 {x : Bool} (h : EvT X a σ s x) : EvW X (.BoolOp .Or [a] pos) σ s x := fun s1 k Q q => ww_of (pw_or1 pt_wt) (h s1 k Q q)
theorem ew_and {x y : Bool} (h : EvT X a σ s x) (h2 : x = true → EvW X (.BoolOp .And (b :: es) pos) σ s y) : EvW X (.BoolOp .And (a :: b :: es) pos) σ s (x && y) := fun s1 k Q q =>
  ww_of (pw_and pt_wt pw_ww) (h s1 k _ fun s2 k2 => by
    cases x with
    | true => exact iteT ((h2 rfl) s2 (k.trans k2) Q fun s3 k3 => q s3 (k2.trans k3))
    | false => exact iteF (q s2 k2))
theorem ew_or {x y : Bool} (h : EvT X a σ s x) (h2 : x = false → EvW X (.BoolOp .Or (b :: es) pos) σ s y) : EvW X (.BoolOp .Or (a :: b :: es) pos) σ s (x || y) := fun s1 k Q q =>
  ww_of (pw_or pt_wt pw_ww) (h s1 k _ fun s2 k2 => by
    cases x with
    | true => exact iteT (q s2 k2)
    | false => exact iteF ((h2 rfl) s2 (k.trans k2) Q fun s3 k3 => q s3 (k2.trans k3)))
end
end Dy

set_option maxHeartbeats 1000000
namespace L2
open PySem PySem.Spec PyProof.Rows
abbrev SuT := Addr → Value → Option Addr → TS
def wG (K : PySem.W.Frag) : List (Option Nat × Value × SuT) → WX → Ends → WX
  | [], Wout, _ => Wout
  | (some i, c, ts) :: r, Wout, D => wAs K c i ts (wG K r Wout D) D
  | (none, c, ts) :: r, Wout, D => wOnly K c ts (wG K r Wout D) D
inductive HdsG (X : Cx) : List ExceptHandler → List (Option Nat × Value × SuT) → Prop
  | nil : HdsG X [] []
  | as {x n : Str} {i : Nat} {c : Value} {ts : SuT} {b₀ : Stmt} {suite : List Stmt} {np pos' : Pos} {hds : List ExceptHandler} {l : List (Option Nat × Value × SuT)} (hi : X.N[i]? = some n) (hln : X.env.kindOf n = some .local) (hc : Names X x c)
      (hsu : ∀ (a : Addr) (oe : Obj) (cls : Value) (d : Option Addr) (pn : List (Addr × Obj)), Zc cls d oe → (∃ vs, oe.data = .fields vs) → PSs (X.suite a ((a, oe) :: pn)) (b₀ :: suite) (ts a cls d)) (r : HdsG X hds l) :
      HdsG X (.ExceptHandler (some (.Name x np)) (some n) (b₀ :: suite) pos' :: hds) ((some i, c, ts) :: l)
  | no {x : Str} {c : Value} {ts : SuT} {b₀ : Stmt} {suite : List Stmt} {np pos' : Pos} {hds : List ExceptHandler} {l : List (Option Nat × Value × SuT)} (hc : Names X x c)
      (hsu : ∀ (a : Addr) (oe : Obj) (cls : Value) (d : Option Addr) (pn : List (Addr × Obj)), Zc cls d oe → (∃ vs, oe.data = .fields vs) → PSs (X.suite a ((a, oe) :: pn)) (b₀ :: suite) (ts a cls d)) (r : HdsG X hds l) :
      HdsG X (.ExceptHandler (some (.Name x np)) none (b₀ :: suite) pos' :: hds) ((none, c, ts) :: l)
section
variable {X : Cx} {body : List Stmt} {h₀ : ExceptHandler} {hds : List ExceptHandler} {l : List (Option Nat × Value × SuT)} {pos : Pos} {tb : WX → TS} {Wout : WX}
theorem ps_tryG (hs : X.stack = X.env :: X.outer) (hf : X.env.frame = some X.env.locals) (hN : X.N.Nodup) (tk : Takes X Wout)
    (hb : ∀ (W : WX) (pn : List (Addr × Obj)) (xe : Value → Shared → Prop), Takes (X.tr pn xe) W → PassesOwn (model X.prog X.w) X.A X.env xe → PSs (X.tr pn xe) body (tb W))
    (hh : HdsG X (h₀ :: hds) l) :
    PS X (.Try body (h₀ :: hds) [] [] pos) (fun D σ H => tb (wG X.K l Wout D) D σ H) := by
  refine ⟨fun pins s σ H D I h => ?_⟩
  have ok := I.ok
  have hfr : X.A.frames = some (X.env :: X.outer) := by rw [ok.frames, hs]
  refine wpAny_Try_except ?_
  refine wpAny_mono ((hb (wG X.K l Wout D) (X.pn ++ pins) (fun e s₁ => wpAny (model X.prog X.w) X.A (noteFrame e X.env) (fun _ s₂ => wpAny (model X.prog X.w) X.A (setFlight e none) (fun _ s₃ =>
    wpAny (model X.prog X.w) X.A (handleBy e X.env (h₀ :: hds)) (SP X pins D) X.xe s₃) X.xe s₂) X.xe s₁) (fun u s' xx => ?_) PassesOwn.looking).run [] s σ H D (I.toTry _) h) (fun f s1 hsp => ?_) (fun e s1 he => he)
  · -- the catch
    obtain ⟨a, B, sI, pins', σ', H', cls, d, rfl, J', nb, up, sky, na, os, ag, w⟩ := xx
    have J : Inv X pins σ' H' sI := J'.ofTry ok
    have sky' : Sky B (X.env :: X.outer) a (Zc cls d) X.env.locals s'.heap := by rw [← hs]; exact sky
    show wpAny (model X.prog X.w) X.A (noteFrame (.ref a) X.env) _ _ _
    refine Sky.land Zc.steady hfr hf sky' fun h3 fl3 up3 => ?_
    have J3 : Inv X pins σ' H' { s' with heap := h3 } := J.landed nb fl3.1 (up.trans up3) os ag
    obtain ⟨oe3, vs3, he3, hz3, hd3⟩ := fl3.there
    have notFr : ∀ {h : Heap} {o : Obj} {vs : Array Value}, h.FunFrames B (X.env :: X.outer) → h.get? a = some o → o.data = .fields vs → a ∉ frs (X.env :: X.outer) := fun {h o vs} ff e dd hm => by
      obtain ⟨_, o', e', hnf⟩ := ff.mem hm
      rw [e] at e'; cases e'
      exact hnf _ dd
    have nfr := notFr fl3.2.2.1 he3 hd3
    have nL : a ≠ X.env.locals := fun z => nfr (List.mem_filterMap.mpr ⟨X.env, List.mem_cons_self, by rw [hf, z]⟩)
    have nF : a ∉ X.fs := fun hm => by
      obtain ⟨e, he, q⟩ := List.mem_filterMap.mp hm
      exact nfr (List.mem_filterMap.mpr ⟨e, List.mem_cons_of_mem _ he, q⟩)
    have S3 := J3.suite he3 hd3 na nL nF
    have go : ∀ {hds' : List ExceptHandler} {l' : List (Option Nat × Value × SuT)}, HdsG X hds' l' → wG X.K l' Wout D cls d σ' H' →
        wpAny (model X.prog X.w) X.A (handleBy (.ref a) X.env hds') (SP X pins D) X.xe { s' with heap := h3 } := by
      intro hds' l' hk
      induction hk with
      | nil =>
        intro w
        refine wpAny_handleBy_nil ?_
        obtain ⟨k1, k2, k3, oe, vs, T, oT, ts', he, hz, hd, h1, hr⟩ := id fl3
        unfold PySem.passOn
        refine wpAny_bind (wpAny_field he hd h1 ?_)
        rw [if_neg (show ¬ ((Value.ref T == Value.none) = true) from by simp)]
        have fin : wpAny (model X.prog X.w) X.A (setFlight (.ref a) X.env.frame) (fun _ s4 => wpAny (model X.prog X.w) X.A (throw (.ref a) : Sem Flow) (SP X pins D) X.xe s4) X.xe { s' with heap := h3 } := by
          rw [hf]
          refine HandSPX.setFlight_upZ fl3 fun h4 hh4 up4 => wpAny_throw (tk _ _ ?_)
          exact ⟨a, B, sI, pins, σ', H', cls, d, rfl, J, nb, (up.trans up3).trans up4, .inr (.inr (by rw [hs]; exact hh4)), na, os, ag, w⟩
        first
          | exact wpAny_bind (wpAny_pure (wpAny_bind fin))
          | exact wpAny_bind fin
      | @as x n i c ts b₀ suite np pos' hds2 l2 hi hln hc hsu r ih =>
        intro w
        have hloc : Loc X.env.scope n := .inl hln
        obtain ⟨b, hb1, hyes, hno⟩ := w
        refine wpAny_handleBy_cons (codeAny_handlers_test ?_) (by intro q; cases q)
        have LT : PySem.W.Looks (model X.prog X.w) h3 (typeOf (.ref a)) cls := fun A Q E s k q => wpAny_typeOf_ref (k _ _ he3) (by rw [hz3.1]; exact q)
        have LM := PySem.W.exm_one (M := model X.prog X.w) (J3.kIn) LT hb1
        have test : ∀ {Q : Value → Shared → Prop} {E : Value → Shared → Prop}, Q c { s' with heap := h3 } → wpAny (model X.prog X.w) (X.A.mark (some (.ref a))) (eval (.Name x np) X.env) Q E { s' with heap := h3 } := fun {Q E} q => by
          obtain ⟨hg, hdbg, hm | ⟨hm, hv, hnn⟩⟩ := hc
          · exact ld_glob (X := X.suite a ((a, oe3) :: (X.pn ++ pins))) S3 hg hm q hdbg
          · exact ld_blt (X := X.suite a ((a, oe3) :: (X.pn ++ pins))) S3 hg hm hv q hnn hdbg
        refine test (LM.here ?_)
        cases b with
        | true =>
          refine codeAny_handlers_suite_as ?_
          refine HandSPX.lands_againZ fl3 fun h4 fl4 up4 => ?_
          have J4 : Inv X pins σ' H' { s' with heap := h4 } := J.landed nb fl4.1 ((up.trans up3).trans up4) os ag
          obtain ⟨oe4, vs4, he4, hz4, hd4⟩ := fl4.there
          have S4 := J4.suite he4 hd4 na nL nF
          refine store_ok (X := X.suite a ((a, oe4) :: (X.pn ++ pins))) (v := .ref a) S4 hN hi hloc rfl (fun s5 S5 => ?_) (.inr hln)
          refine wpAny_mono ((hsu a oe4 cls d (X.pn ++ pins) hz4 ⟨_, hd4⟩).run [] s5 _ H' _ S5 (hyes rfl a na)) (fun f s6 hsp => ?_) (fun _ _ z => False.elim z)
          have end_ : ∀ {σ6 : St} {H6 : Hp} {Q : Shared → Prop}, Inv (X.suite a ((a, oe4) :: (X.pn ++ pins))) [] σ6 H6 s6 → (∀ s7, Inv X pins (σ6.set i none) H6 s7 → Q s7) →
              wpAny (model X.prog X.w) X.A (do bindName X.env n .none; unbindBehindTheSuite X.env n pos') (fun _ s7 => Q s7) X.xe s6 := fun {σ6 H6 Q} S6 hq => gone_ok (S6.unsuite ok) hN hi hln hq
          cases f with
          | next =>
            obtain ⟨σ6, H6, S6, q6⟩ := hsp
            exact end_ S6 fun s7 J7 => ⟨_, _, J7, q6⟩
          | brk =>
            obtain ⟨σ6, H6, S6, q6⟩ := hsp
            exact end_ S6 fun s7 J7 => ⟨_, _, J7, q6⟩
          | cont =>
            obtain ⟨σ6, H6, S6, q6⟩ := hsp
            exact end_ S6 fun s7 J7 => ⟨_, _, J7, q6⟩
          | ret u =>
            obtain ⟨v6, σ6, H6, S6, r6, q6⟩ := hsp
            exact end_ S6 fun s7 J7 => ⟨_, _, _, J7, r6, q6⟩
        | false => exact ih (hno rfl)
      | @no x c ts b₀ suite np pos' hds2 l2 hc hsu r ih =>
        intro w
        obtain ⟨b, hb1, hyes, hno⟩ := w
        refine wpAny_handleBy_cons (codeAny_handlers_test ?_) (by intro q; cases q)
        have LT : PySem.W.Looks (model X.prog X.w) h3 (typeOf (.ref a)) cls := fun A Q E s k q => wpAny_typeOf_ref (k _ _ he3) (by rw [hz3.1]; exact q)
        have LM := PySem.W.exm_one (M := model X.prog X.w) (J3.kIn) LT hb1
        have test : ∀ {Q : Value → Shared → Prop} {E : Value → Shared → Prop}, Q c { s' with heap := h3 } → wpAny (model X.prog X.w) (X.A.mark (some (.ref a))) (eval (.Name x np) X.env) Q E { s' with heap := h3 } := fun {Q E} q => by
          obtain ⟨hg, hdbg, hm | ⟨hm, hv, hnn⟩⟩ := hc
          · exact ld_glob (X := X.suite a ((a, oe3) :: (X.pn ++ pins))) S3 hg hm q hdbg
          · exact ld_blt (X := X.suite a ((a, oe3) :: (X.pn ++ pins))) S3 hg hm hv q hnn hdbg
        refine test (LM.here ?_)
        cases b with
        | true =>
          refine codeAny_handlers_suite (HandSPX.lands_againZ fl3 fun h4 fl4 up4 => ?_)
          have J4 : Inv X pins σ' H' { s' with heap := h4 } := J.landed nb fl4.1 ((up.trans up3).trans up4) os ag
          obtain ⟨oe4, vs4, he4, hz4, hd4⟩ := fl4.there
          have S4 := J4.suite he4 hd4 na nL nF
          apply wpAny_mono ((hsu a oe4 cls d (X.pn ++ pins) hz4 ⟨_, hd4⟩).run [] _ _ H' _ S4 (hyes rfl a na)) _ (fun _ _ z => False.elim z)
          intro f s6 hsp
          cases f with
          | ret u =>
            obtain ⟨v6, σ6, H6, S6, r6, q6⟩ := hsp
            exact ⟨_, _, _, S6.unsuite ok, r6, q6⟩
          | _ =>
            obtain ⟨σ6, H6, S6, q6⟩ := hsp
            exact ⟨_, _, S6.unsuite ok, q6⟩
        | false => exact ih (hno rfl)
    exact go hh w
  · cases f with
    | next =>
      obtain ⟨σ', H', J', q⟩ := hsp
      exact wpAny_execs_nil ⟨σ', H', J'.ofTry ok, q⟩
    | brk =>
      obtain ⟨σ', H', J', q⟩ := hsp
      exact ⟨σ', H', J'.ofTry ok, q⟩
    | cont =>
      obtain ⟨σ', H', J', q⟩ := hsp
      exact ⟨σ', H', J'.ofTry ok, q⟩
    | ret u =>
      obtain ⟨v, σ', H', J', r, q⟩ := hsp
      exact ⟨v, σ', H', J'.ofTry ok, r, q⟩
end
end L2
namespace Dy
open PySem PySem.Spec L2
open PyProof.Rows hiding St
section
variable {X : Cx} {σ : L2.St} {s : S} {D : Ends} {rest : List Stmt} {K : PySem.W.Frag} {c cls : Value} {i : Nat} {ts : SuT} {r : List (Option Nat × Value × SuT)} {Wout : WX} {d : Option Addr} {H : Hp}
theorem wg_as (h : wAs K c i ts (wG K r Wout D) D cls d σ H) : wG K ((some i, c, ts) :: r) Wout D cls d σ H := h
theorem wg_no (h : wOnly K c ts (wG K r Wout D) D cls d σ H) : wG K ((none, c, ts) :: r) Wout D cls d σ H := h
theorem won_of (h1 : PySem.W.exmOne K cls c = some true) (h2 : ∀ a, H a = none → ts a cls d D σ H) : wOnly K c ts Wout D cls d σ H := ⟨true, h1, fun _ => h2, fun z => (by cases z)⟩
theorem won_no (h1 : PySem.W.exmOne K cls c = some false) (h2 : Wout cls d σ H) : wOnly K c ts Wout D cls d σ H := ⟨false, h1, fun z => (by cases z), fun _ => h2⟩
abbrev suT (X : Cx) (ss : List Stmt) : SuT := fun a cls d D σ H => ∀ (oe : Obj) (pn : List (Addr × Obj)), Zc cls d oe → (∃ vs, oe.data = .fields vs) → WSs (X.suite a ((a, oe) :: pn)) ss D σ H
theorem hd_as {x n : Str} {i : Nat} {c : Value} {b₀ : Stmt} {suite : List Stmt} {np pos' : Pos} {hds : List ExceptHandler} {l : List (Option Nat × Value × SuT)} (i' : i = i) (hc : Names X x c) (r : HdsG X hds l) (hi : X.N[i]? = some n := by rfl) (hln : X.env.kindOf n = some .local := by rfl) :
    HdsG X (.ExceptHandler (some (.Name x np)) (some n) (b₀ :: suite) pos' :: hds) ((some i, c, suT X (b₀ :: suite)) :: l) := .as hi hln hc (fun a oe cls d pn hz hv => pss_im fun D σ H hh => hh oe pn hz hv) r
theorem hd_no {x : Str} {c : Value} {b₀ : Stmt} {suite : List Stmt} {np pos' : Pos} {hds : List ExceptHandler} {l : List (Option Nat × Value × SuT)} (hc : Names X x c) (r : HdsG X hds l) :
    HdsG X (.ExceptHandler (some (.Name x np)) none (b₀ :: suite) pos' :: hds) ((none, c, suT X (b₀ :: suite)) :: l) := .no hc (fun a oe cls d pn hz hv => pss_im fun D σ H hh => hh oe pn hz hv) r
theorem do_tryG {body : List Stmt} {h₀ : ExceptHandler} {hds : List ExceptHandler} {l : List (Option Nat × Value × SuT)} {pos : Pos} (hN : X.N.Nodup) (hh : HdsG X (h₀ :: hds) l) (tk : Takes X Wout)
    (h : ∀ pn xe, Takes (X.tr pn xe) (wG X.K l Wout { D with nx := fun σ' H' => WSs X rest D σ' H' }) → PassesOwn (model X.prog X.w) X.A X.env xe → WSs (X.tr pn xe) body { D with nx := fun σ' H' => WSs X rest D σ' H' } σ s.H)
    (hs : X.stack = X.env :: X.outer := by rfl) (hf : X.env.frame = some X.env.locals := by rfl) : WSs X (.Try body (h₀ :: hds) [] [] pos :: rest) D σ s.H :=
  do_cons (ps_tryG (tb := fun W D σ H => ∀ pn xe, Takes (X.tr pn xe) W → PassesOwn (model X.prog X.w) X.A X.env xe → WSs (X.tr pn xe) body D σ H) hs hf hN tk (fun W pn xe t po => pss_im fun D σ H hh => hh pn xe t po) hh) h
end
end Dy

namespace Dy
open PySem PySem.Spec L2
open PyProof.Rows hiding St
open Enc (rep)
open Flat (toV)
open EncA (repA)

section
variable {X : Cx} {σ : L2.St} {s t : S} {e a : Expr} {p1 pos : Pos} {α β : Type} [Enc α] [Enc β] {K : PySem.W.Frag}
theorem all_ex (k : Ex s t) : Ex s.all t.all := ⟨fun x o h => k.h x o h, k.h, fun x o h n => by
  have h1 : s.H x = some o := h
  have h2 : s.H x = none := n
  rw [h1] at h2; cases h2⟩
theorem asV {ε : Type} [Flat ε] {x : ε} (h : Ev X e σ s.all x) : Ev X e σ s x := fun s1 k Q q =>
  h s1.all (all_ex k) Q fun v t k2 r => q v (s1.backH t k2.h) (backH_ex k2) (Flat.iff.mpr (Flat.iff.mp r))
theorem asT {x : Bool} (h : EvT X e σ s.all x) : EvT X e σ s x := fun s1 k Q q =>
  h s1.all (all_ex k) Q fun t k2 => q (s1.backH t k2.h) (backH_ex k2)
theorem asB {x : Bool} (h : EvB X e σ s.all x) : EvB X e σ s x := ⟨asV h.v, asT h.t⟩
theorem asW {x : Bool} (h : EvW X e σ s.all x) : EvW X e σ s x := fun s1 k Q q =>
  h s1.all (all_ex k) Q fun t k2 => q (s1.backH t k2.h) (backH_ex k2)
theorem asC {x : Bool} (h : EvC X e σ s.all x) : EvC X e σ s x := ⟨asV h.v, asW h.w⟩
theorem all_v {v : V} {x : α} (h : rep K s.F v x) : rep K s.all.F v x := Enc.mono s.sub h
theorem eb_isRaw {p : Addr} {j} (ha : Ev X a σ s (Rw.mk (.ref p))) : EvB X (.Compare a [.Is] [.Constant .none j p1] pos) σ s false :=
  eb_cmp op_isN ha ev_non (fun v u s2 hv hu Q q => by
    refine ⟨hu, ?_⟩
    have e : v = V.ref p := hv
    rw [e]
    exact q) (nomark _)
theorem eb_notRaw {p : Addr} {j} (ha : Ev X a σ s (Rw.mk (.ref p))) : EvB X (.Compare a [.IsNot] [.Constant .none j p1] pos) σ s true :=
  eb_cmp op_notN ha ev_non (fun v u s2 hv hu Q q => by
    refine ⟨hu, ?_⟩
    have e : v = V.ref p := hv
    rw [e]
    exact q) (nomark _)
def unO {α : Type} : List (Option α) → Option (List α)
  | [] => some []
  | none :: _ => none
  | some x :: r => (unO r).map (x :: ·)
theorem unO_some {α : Type} : ∀ {xs : List (Option α)} {ys : List α}, unO xs = some ys → xs = ys.map some
  | [], ys, h => by cases h; rfl
  | none :: _, ys, h => by cases h
  | some x :: r, ys, h => by
    unfold unO at h
    cases hr : unO r with
    | none => rw [hr] at h; cases h
    | some zs =>
      rw [hr] at h
      cases h
      rw [List.map_cons, unO_some hr]
theorem unO_map {α : Type} : ∀ ys : List α, unO (ys.map some) = some ys
  | [] => rfl
  | y :: r => by
    show (unO (r.map some)).map (y :: ·) = _
    rw [unO_map r]; rfl
theorem reps_un {F : Hp} : ∀ {vs : List V} {ys : List α}, Reps K F vs (ys.map some) → Reps K F vs ys
  | [], [], _ => trivial
  | _ :: _, _ :: _, ⟨h, t⟩ => ⟨h, reps_un t⟩
  | [], _ :: _, h => h.elim
  | _ :: _, [], h => h.elim
theorem er_un {xs : List (Option α)} {ys : List α} (h : EvR X e σ s xs) (hu : unO xs = some ys) : EvR X e σ s ys := by
  obtain rfl := unO_some hu
  exact fun s1 k Q q => h s1 k Q fun v s2 k2 ⟨p, vs, e1, h1, h2⟩ => q v s2 k2 ⟨p, vs, e1, h1, reps_un h2⟩
theorem ev_un {xs : List (Option α)} {ys : List α} (h : Ev X e σ s xs) (hu : unO xs = some ys) : Ev X e σ s ys := by
  obtain rfl := unO_some hu
  exact fun s1 k Q q => h s1 k Q fun v s2 k2 ⟨p, vs, e1, h1, h2⟩ => q v s2 k2 ⟨p, vs, e1, h1, reps_un h2⟩
theorem en_un {xs : List (Option α)} {ys : List α} (h : EvN X e σ s xs) (hu : unO xs = some ys) : EvN X e σ s ys := by
  obtain rfl := unO_some hu
  exact fun s1 k Q q => h s1 k Q fun p s2 k2 n ⟨o1, vs, o2, o3⟩ => q p s2 k2 n ⟨o1, vs, o2, reps_un o3⟩
def isL {α β : Type} : α ⊕ β → Bool
  | .inl _ => true
  | .inr _ => false
theorem eb_isNG {j} {b : Bool} {ok : V → List OA → Prop} (h : EvG X a σ s ok) (hb : ∀ (v : V) (s2 : S) (L' : List OA), ok v L' → (∀ (i : Nat) (w : V) (x : Unit), L'[i]? = some (fz w x) → rep X.K s2.F w x) → (b = true ∧ v = .non) ∨ (b = false ∧ ∃ p, v = .ref p)) : EvB X (.Compare a [.Is] [.Constant .none j p1] pos) σ s b := by
  have key : ∀ (v : V) {s1 s2 : S} {L' : List OA}, ok v L' → Iv X.K No s1 s2 L' → decide (v = V.non) = b := fun v s1 s2 L' z i => by
    rcases hb v s2 L' z (fun k w x e => Iv.fz i k e) with ⟨rfl, rfl⟩ | ⟨rfl, p, rfl⟩ <;> rfl
  exact ⟨fun s1 k Q q => we_of (pe_cmpR op_isN pe_we pe_we (nomark _)) (h s1 k _ fun v s2 L' z i => ev_non s2 (Ex.refl _) _ fun u s3 k3 r3 => ⟨r3, by rw [key v z i]; exact q _ s3 ((Iv.exx i).trans k3) rfl⟩),
    fun s1 k Q q => wt_of (pt_cmpR op_isN pe_we pe_we (nomark _)) (h s1 k _ fun v s2 L' z i => ev_non s2 (Ex.refl _) _ fun u s3 k3 r3 => ⟨r3, by rw [key v z i]; exact ⟨b, rfl, q s3 ((Iv.exx i).trans k3)⟩⟩)⟩
theorem reps_so {F : Hp} : ∀ {vs : List V} {ys : List α}, Reps K F vs ys → Reps K F vs (ys.map some)
  | [], [], _ => trivial
  | _ :: _, _ :: _, ⟨h, t⟩ => ⟨h, reps_so t⟩
  | [], _ :: _, h => h.elim
  | _ :: _, [], h => h.elim
theorem er_so {ys : List α} (h : EvR X e σ s ys) : EvR X e σ s (ys.map some) := fun s1 k Q q => h s1 k Q fun v s2 k2 ⟨p, vs, e1, h1, h2⟩ => q v s2 k2 ⟨p, vs, e1, h1, reps_so h2⟩
theorem ev_so {ys : List α} (h : Ev X e σ s ys) : Ev X e σ s (ys.map some) := fun s1 k Q q => h s1 k Q fun v s2 k2 ⟨p, vs, e1, h1, h2⟩ => q v s2 k2 ⟨p, vs, e1, h1, reps_so h2⟩
theorem en_so {ys : List α} (h : EvN X e σ s ys) : EvN X e σ s (ys.map some) := fun s1 k Q q => h s1 k Q fun p s2 k2 n ⟨o1, vs, o2, o3⟩ => q p s2 k2 n ⟨o1, vs, o2, reps_so o3⟩
end
instance {α β γ δ : Type} [Enc α] [Enc β] [Enc γ] [Enc δ] : Arity (T4 α β γ δ) 4 := ⟨fun h => by
  obtain ⟨p, v0, v1, v2, v3, e, h, _⟩ := h
  exact ⟨p, _, e, h, rfl⟩⟩
theorem p4_0 {α β γ δ : Type} [Enc α] [Enc β] [Enc γ] [Enc δ] {K : PySem.W.Frag} {x : T4 α β γ δ} {F : Hp} {v : V} (h : rep K F v x) : ∃ p vs w, v = .ref p ∧ SqT K F p vs ∧ atI vs 0 = some w ∧ rep K F w x.a := by
  obtain ⟨p, v0, v1, v2, v3, rfl, h0, h1, h2, h3, h4⟩ := h
  exact ⟨p, _, v0, rfl, h0, rfl, h1⟩
theorem p4_1 {α β γ δ : Type} [Enc α] [Enc β] [Enc γ] [Enc δ] {K : PySem.W.Frag} {x : T4 α β γ δ} {F : Hp} {v : V} (h : rep K F v x) : ∃ p vs w, v = .ref p ∧ SqT K F p vs ∧ atI vs 1 = some w ∧ rep K F w x.b := by
  obtain ⟨p, v0, v1, v2, v3, rfl, h0, h1, h2, h3, h4⟩ := h
  exact ⟨p, _, v1, rfl, h0, rfl, h2⟩
theorem p4_2 {α β γ δ : Type} [Enc α] [Enc β] [Enc γ] [Enc δ] {K : PySem.W.Frag} {x : T4 α β γ δ} {F : Hp} {v : V} (h : rep K F v x) : ∃ p vs w, v = .ref p ∧ SqT K F p vs ∧ atI vs 2 = some w ∧ rep K F w x.c := by
  obtain ⟨p, v0, v1, v2, v3, rfl, h0, h1, h2, h3, h4⟩ := h
  exact ⟨p, _, v2, rfl, h0, rfl, h3⟩
theorem p4_3 {α β γ δ : Type} [Enc α] [Enc β] [Enc γ] [Enc δ] {K : PySem.W.Frag} {x : T4 α β γ δ} {F : Hp} {v : V} (h : rep K F v x) : ∃ p vs w, v = .ref p ∧ SqT K F p vs ∧ atI vs 3 = some w ∧ rep K F w x.d := by
  obtain ⟨p, v0, v1, v2, v3, rfl, h0, h1, h2, h3, h4⟩ := h
  exact ⟨p, _, v3, rfl, h0, rfl, h4⟩
instance {α β γ δ ε : Type} [Enc α] [Enc β] [Enc γ] [Enc δ] [Enc ε] : Arity (T5 α β γ δ ε) 5 := ⟨fun h => by
  obtain ⟨p, v0, v1, v2, v3, v4, e, h, _⟩ := h
  exact ⟨p, _, e, h, rfl⟩⟩
theorem p5_0 {α β γ δ ε : Type} [Enc α] [Enc β] [Enc γ] [Enc δ] [Enc ε] {K : PySem.W.Frag} {x : T5 α β γ δ ε} {F : Hp} {v : V} (h : rep K F v x) : ∃ p vs w, v = .ref p ∧ SqT K F p vs ∧ atI vs 0 = some w ∧ rep K F w x.a := by
  obtain ⟨p, v0, v1, v2, v3, v4, rfl, h0, h1, h2, h3, h4, h5⟩ := h
  exact ⟨p, _, v0, rfl, h0, rfl, h1⟩
theorem p5_1 {α β γ δ ε : Type} [Enc α] [Enc β] [Enc γ] [Enc δ] [Enc ε] {K : PySem.W.Frag} {x : T5 α β γ δ ε} {F : Hp} {v : V} (h : rep K F v x) : ∃ p vs w, v = .ref p ∧ SqT K F p vs ∧ atI vs 1 = some w ∧ rep K F w x.b := by
  obtain ⟨p, v0, v1, v2, v3, v4, rfl, h0, h1, h2, h3, h4, h5⟩ := h
  exact ⟨p, _, v1, rfl, h0, rfl, h2⟩
theorem p5_2 {α β γ δ ε : Type} [Enc α] [Enc β] [Enc γ] [Enc δ] [Enc ε] {K : PySem.W.Frag} {x : T5 α β γ δ ε} {F : Hp} {v : V} (h : rep K F v x) : ∃ p vs w, v = .ref p ∧ SqT K F p vs ∧ atI vs 2 = some w ∧ rep K F w x.c := by
  obtain ⟨p, v0, v1, v2, v3, v4, rfl, h0, h1, h2, h3, h4, h5⟩ := h
  exact ⟨p, _, v2, rfl, h0, rfl, h3⟩
theorem p5_3 {α β γ δ ε : Type} [Enc α] [Enc β] [Enc γ] [Enc δ] [Enc ε] {K : PySem.W.Frag} {x : T5 α β γ δ ε} {F : Hp} {v : V} (h : rep K F v x) : ∃ p vs w, v = .ref p ∧ SqT K F p vs ∧ atI vs 3 = some w ∧ rep K F w x.d := by
  obtain ⟨p, v0, v1, v2, v3, v4, rfl, h0, h1, h2, h3, h4, h5⟩ := h
  exact ⟨p, _, v3, rfl, h0, rfl, h4⟩
theorem p5_4 {α β γ δ ε : Type} [Enc α] [Enc β] [Enc γ] [Enc δ] [Enc ε] {K : PySem.W.Frag} {x : T5 α β γ δ ε} {F : Hp} {v : V} (h : rep K F v x) : ∃ p vs w, v = .ref p ∧ SqT K F p vs ∧ atI vs 4 = some w ∧ rep K F w x.e := by
  obtain ⟨p, v0, v1, v2, v3, v4, rfl, h0, h1, h2, h3, h4, h5⟩ := h
  exact ⟨p, _, v4, rfl, h0, rfl, h5⟩
section
variable {α β γ δ ε : Type} [Enc α] [Enc β] [Enc γ] [Enc δ] [Enc ε] {X : Cx} {σ : L2.St} {s : S} {e tg : Expr} {pos : Pos} {rest : List Stmt} {D : Ends}
theorem do_unp4 (i j l m : Nat) {x : T4 α β γ δ} (h : Ev X e σ s x) (k : ∀ v w u z s1, Ex s s1 → rep X.K s1.F v x.a → rep X.K s1.F w x.b → rep X.K s1.F u x.c → rep X.K s1.F z x.d → WSs X rest D ((((σ.set i (some v)).set j (some w)).set l (some u)).set m (some z)) s1.H)
    (hg : PG X tg (gTup X.K 4 (gCons (gName i) (gCons (gName j) (gCons (gName l) (gCons (gName m) gNil)))))) (hs : swapsWithSole [tg] e pos.line X.env = pure false := by rfl) (hw : swappedStores [tg] e X.env = pure none := by rfl)
    (h1 : (assignEach [tg] X.env).map (·.2) = [assign tg X.env] := by rfl) : WSs X (.Assign [tg] e pos :: rest) D σ s.H :=
  do_cons (ps_asg pe_we hg hs hw h1) (h s (Ex.refl _) _ fun v s1 k1 r => by
    obtain ⟨p, v1, v2, v3, v4, rfl, h0, h1, h2, h3, h4⟩ := r
    exact ⟨p, _, rfl, sqt_mono s1.sub h0, rfl, v1, _, rfl, v2, _, rfl, v3, _, rfl, v4, _, rfl, rfl, k v1 v2 v3 v4 s1 k1 h1 h2 h3 h4⟩)
theorem do_unp5 (i j l m n : Nat) {x : T5 α β γ δ ε} (h : Ev X e σ s x) (k : ∀ v w u z y s1, Ex s s1 → rep X.K s1.F v x.a → rep X.K s1.F w x.b → rep X.K s1.F u x.c → rep X.K s1.F z x.d → rep X.K s1.F y x.e → WSs X rest D (((((σ.set i (some v)).set j (some w)).set l (some u)).set m (some z)).set n (some y)) s1.H)
    (hg : PG X tg (gTup X.K 5 (gCons (gName i) (gCons (gName j) (gCons (gName l) (gCons (gName m) (gCons (gName n) gNil))))))) (hs : swapsWithSole [tg] e pos.line X.env = pure false := by rfl) (hw : swappedStores [tg] e X.env = pure none := by rfl)
    (h1 : (assignEach [tg] X.env).map (·.2) = [assign tg X.env] := by rfl) : WSs X (.Assign [tg] e pos :: rest) D σ s.H :=
  do_cons (ps_asg pe_we hg hs hw h1) (h s (Ex.refl _) _ fun v s1 k1 r => by
    obtain ⟨p, v1, v2, v3, v4, v5, rfl, h0, h1, h2, h3, h4, h5⟩ := r
    exact ⟨p, _, rfl, sqt_mono s1.sub h0, rfl, v1, _, rfl, v2, _, rfl, v3, _, rfl, v4, _, rfl, v5, _, rfl, rfl, k v1 v2 v3 v4 v5 s1 k1 h1 h2 h3 h4 h5⟩)
end
end Dy

namespace Dy
open PySem PySem.Spec L2
open PyProof.Rows hiding St
open Enc (rep)
open Flat (toV)
open EncA (repA)

structure PK where
  a : Int
  b : Int
instance : Enc PK := ⟨fun K F v x => ∃ p, v = .ref p ∧ F p = some (.tup [.int x.a, .int x.b]), fun e ⟨p, h1, h2⟩ => ⟨p, h1, e _ _ h2⟩⟩
def PK.pr (x : PK) : Int × Int := (x.a, x.b)
def PK.key (x : PK) : List Key := [.inl x.a, .inl x.b]
theorem PK.kinj (x y : Int × Int) : ([.inl x.1, .inl x.2] : List Key) = [.inl y.1, .inl y.2] ↔ x = y := by
  obtain ⟨a, b⟩ := x; obtain ⟨c, d⟩ := y
  simp
def kp (x : Int × Int) : List Key := [.inl x.1, .inl x.2]
theorem kp_dec (a b : Int × Int) : decide (kp a = kp b) = decide (a = b) := decide_eq_decide.mpr (PK.kinj a b)
theorem rep_pk {K : PySem.W.Frag} {F : Hp} {v : V} {x : PK} (h : rep K F v x) : rep K F v x.pr := by
  obtain ⟨p, h1, h2⟩ := h
  exact ⟨p, _, _, h1, .inl (.inl h2), rfl, rfl⟩
section
variable {α β : Type} [Enc α] [Enc β] {K : PySem.W.Frag} {F F' : Hp}
def TReps (K : PySem.W.Frag) (F : Hp) : List (List Key × V) → List ((Int × Int) × α) → Prop
  | [], [] => True
  | (k, v) :: r, (j, x) :: xs => k = kp j ∧ rep K F v x ∧ TReps K F r xs
  | _, _ => False
theorem TReps.mono (e : Fle F F') : ∀ {kv : List (List Key × V)} {xs : List ((Int × Int) × α)}, TReps K F kv xs → TReps K F' kv xs
  | [], [], _ => trivial
  | (_, _) :: _, (_, _) :: _, ⟨h1, h2, h3⟩ => ⟨h1, Enc.mono e h2, TReps.mono e h3⟩
  | [], _ :: _, h => h.elim
  | _ :: _, [], h => h.elim
theorem TReps.len : ∀ {kv : List (List Key × V)} {xs : List ((Int × Int) × α)}, TReps K F kv xs → kv.length = xs.length
  | [], [], _ => rfl
  | (_, _) :: _, (_, _) :: _, ⟨_, _, h3⟩ => by rw [List.length_cons, List.length_cons, TReps.len h3]
  | [], _ :: _, h => h.elim
  | _ :: _, [], h => h.elim
theorem TReps.val {k : Int × Int} : ∀ {kv : List (List Key × V)} {xs : List ((Int × Int) × α)}, TReps K F kv xs → (valV kv (kp k)).isSome = (dval xs k).isSome
  | [], [], _ => rfl
  | (j, v) :: r, (i, x) :: xs, ⟨e, h, t⟩ => by
    subst e
    unfold dval valV
    rw [List.find?_cons, List.find?_cons]
    dsimp only
    rw [kp_dec i k]
    cases decide (i = k) with
    | true => rfl
    | false => exact TReps.val (k := k) t
  | [], _ :: _, h => h.elim
  | _ :: _, [], h => h.elim
theorem TReps.any {k : Int × Int} : ∀ {kv : List (List Key × V)} {xs : List ((Int × Int) × α)}, TReps K F kv xs → (kv.any fun z => decide (z.1 = kp k)) = xs.any fun z => decide (z.1 = k)
  | [], [], _ => rfl
  | (j, v) :: r, (i, x) :: xs, ⟨e, h, t⟩ => by
    subst e
    rw [List.any_cons, List.any_cons, TReps.any (k := k) t, kp_dec i k]
  | [], _ :: _, h => h.elim
  | _ :: _, [], h => h.elim
theorem TReps.app : ∀ {kv kw : List (List Key × V)} {xs ys : List ((Int × Int) × α)}, TReps K F kv xs → TReps K F kw ys → TReps K F (kv ++ kw) (xs ++ ys)
  | [], _, [], _, _, h => h
  | _ :: _, _, _ :: _, _, ⟨e, h, t⟩, w => ⟨e, h, TReps.app t w⟩
  | [], _, _ :: _, _, h, _ => h.elim
  | _ :: _, _, [], _, h, _ => h.elim
theorem TReps.repl {k : Int × Int} {v : V} {y : α} (r : rep K F v y) : ∀ {kv : List (List Key × V)} {xs : List ((Int × Int) × α)}, TReps K F kv xs → TReps K F (kv.map fun z => if z.1 = kp k then (z.1, v) else z) (xs.map fun z => if z.1 = k then (z.1, y) else z)
  | [], [], _ => trivial
  | (j, u) :: kv, (i, x) :: xs, ⟨e, h, t⟩ => by
    subst e
    rw [List.map_cons, List.map_cons]
    dsimp only
    by_cases hh : i = k
    · rw [if_pos (show kp i = kp k by rw [hh]), if_pos hh]
      exact ⟨rfl, r, TReps.repl r t⟩
    · rw [if_neg (show ¬ kp i = kp k from fun z => hh ((PK.kinj i k).mp z)), if_neg hh]
      exact ⟨rfl, h, TReps.repl r t⟩
  | [], _ :: _, h => h.elim
  | _ :: _, [], h => h.elim
theorem TReps.put {k : Int × Int} {v : V} {y : α} {kv : List (List Key × V)} {xs : List ((Int × Int) × α)} (h : TReps K F kv xs) (r : rep K F v y) : TReps K F (putK kv (kp k) v) (dput xs k y) := by
  unfold putK dput
  rw [h.any (k := k)]
  split
  · exact h.repl r
  · exact h.app ⟨rfl, r, trivial⟩
end
def odT {α : Type} [Enc α] (p : Addr) (xs : List ((Int × Int) × α)) : OA := ⟨fun K F H P => (∀ a, P a ↔ a = p) ∧ ∃ kv, H p = some (.dT kv) ∧ TReps K F kv xs, fun e ⟨h0, vs, h1, h2⟩ => ⟨h0, vs, h1, h2.mono e⟩,
  fun e ⟨h0, vs, h1, h2⟩ => ⟨h0, vs, by rw [e p ((h0 p).mpr rfl)]; exact h1, h2⟩, fun ⟨h0, vs, h1, h2⟩ q => ⟨_, (congrArg _ ((h0 _).mp q)).trans h1⟩⟩
def OwnDT {α : Type} [Enc α] (K : PySem.W.Frag) (s : S) (p : Addr) (xs : List ((Int × Int) × α)) : Prop := s.F p = none ∧ ∃ kv, s.H p = some (.dT kv) ∧ TReps K s.F kv xs
section
variable {α β : Type} [Enc α] [Enc β] {K : PySem.W.Frag} {P0 : Addr → Prop} {s0 s s1 t : S} {L M R : List OA}
theorem OwnDT.ex {p : Addr} {xs : List ((Int × Int) × α)} (h : OwnDT K s p xs) (e : Ex s t) : OwnDT K t p xs := by
  obtain ⟨h0, kv, h1, h2⟩ := h
  exact ⟨e.n _ _ h1 h0, kv, e.h _ _ h1, h2.mono e.f⟩
theorem Iv.odT (h : Iv K P0 s0 s L) (i : Nat) {p : Addr} {xs : List ((Int × Int) × α)} (e : L[i]? = some (Dy.odT p xs) := by rfl) : OwnDT K s p xs := by
  obtain ⟨P, ⟨h0, kv, h1, h2⟩, h3⟩ := h.at i e
  exact ⟨h3 p ((h0 p).mpr rfl), kv, h1, h2⟩
theorem Iv.sdT (h : Iv K P0 s0 s L) (i : Nat) {p : Addr} {xs ys : List ((Int × Int) × α)} (e : Ex s s1) (n : s.H p = none) (o : OwnDT K s1 p xs) (q : ys = xs) : Iv K P0 s0 s1 (L.set i (Dy.odT p ys)) := by
  subst q
  obtain ⟨o1, vs, o2, o3⟩ := o
  exact h.put i e ⟨fun a => a = p, ⟨fun _ => Iff.rfl, vs, o2, o3⟩, fun a z => by rw [z]; exact ⟨o1, n⟩⟩
theorem Iv.mdT (h : Iv K P0 s0 s L) (i : Nat) {p : Addr} {xs : List ((Int × Int) × α)} {ys zs : List ((Int × Int) × β)} (m : Mx (· = p) s s1) (o : OwnDT K s1 p ys) (q : zs = ys) (hA : L[i]? = some (Dy.odT p xs) := by rfl) : Iv K P0 s0 s1 (L.set i (Dy.odT p zs)) := by
  subst q
  obtain ⟨o1, vs, o2, o3⟩ := o
  refine h.upd i hA fun P hP _ => ⟨P, ?_, ?_, ?_⟩
  · exact ⟨hP.1, vs, o2, o3⟩
  · intro a z
    rw [(hP.1 a).mp z]
    exact ⟨o1, .inl ((hP.1 p).mpr rfl)⟩
  · exact ⟨m.f, fun a o q n => m.h a o q fun z => n ((hP.1 a).mpr z), fun a o q _ z => m.n a o q z, m.d⟩
theorem ev_ivdT {p : Addr} {x : List ((Int × Int) × α)} (e : Ex s s1) (n : s.H p = none) (o : OwnDT K s1 p x) : Iv K No s s1 [Dy.odT p x] := (Iv.sdT (Iv.tops (K := K) (P0 := No) 1 s) 0 e n o rfl)
end
section
variable {α β : Type} [Enc α] [Enc β] {X : Cx} {σ : L2.St} {P0 : Addr → Prop} {s0 s t : S} {L : List OA} {e a b c o i : Expr} {es : List Expr} {pos p0 p1 p2 p3 : Pos} {D : Ends} {rest : List Stmt} {n : Str} {p : Addr}
theorem ev_pk {x y : Int} {n} (h : EvA X es σ s (x, y, ())) : Ev X (.Tuple es n pos) σ s (⟨x, y⟩ : PK) := fun s1 k Q q =>
  we_of (pe_tup pa_wa) (h s1 k _ fun vs s2 k2 r2 => by
    obtain ⟨v1, w1, rfl, r1, v2, w2, rfl, r3, rfl⟩ := r2
    cases (show v1 = V.int x from r1)
    cases (show v2 = V.int y from r3)
    exact ⟨show _ ≤ 2 ^ 24 by simp, fun p hp => q (.ref p) (s2.newF p (.tup [.int x, .int y]) hp) (k2.trans (Ex.newF hp)) ⟨p, rfl, upd_same⟩⟩)
theorem ev_pkr {x : PK} (h : Ev X e σ s x) : Ev X e σ s x.pr := fun s1 k Q q => h s1 k Q fun v s2 k2 r => q v s2 k2 (rep_pk r)
theorem dgetT_of {K : PySem.W.Frag} {k : PK} {xs : List ((Int × Int) × α)} {w : V} (r : OwnDT K s p xs) (hw : rep K s.F w k) : ∃ o, DGet s.H p w o ∧ o.isSome = (dval xs k.pr).isSome := by
  obtain ⟨_, kv, h1, h2⟩ := r
  obtain ⟨b, rfl, hb⟩ := hw
  refine ⟨valV kv (kp k.pr), .inr ⟨kv, kp k.pr, b, .inl h1, rfl, s.sub _ _ hb, rfl⟩, h2.val⟩
theorem ev_dtin {j : Nat} {k : PK} {xs : List ((Int × Int) × α)} (hr : Room j X.A) (hi : Ev X i σ s k) (ho : Ev X o σ s (Rw.mk (.ref p))) (r : OwnDT X.K s p xs) (h1 : behindInMarks .In o = false := by rfl) : EvB X (.Compare i [.In] [o] pos) σ s (dval xs k.pr).isSome :=
  ⟨fun s1 k1 Q q => we_of (pe_cmp (pc_din (hu1 hr) pe_we pe_we) h1) (hi s1 k1 _ fun u s2 k2 e2 => ho s2 (k1.trans k2) _ fun v s3 k3 e3 => by
    cases (show v = V.ref p from e3)
    obtain ⟨o', g1, g2⟩ := dgetT_of (r.ex ((k1.trans k2).trans k3)) (Enc.mono k3.f (e2 : rep _ _ u k))
    exact ⟨p, o', rfl, g1, by rw [g2]; exact q _ s3 (k2.trans k3) rfl⟩),
   fun s1 k1 Q q => wt_of (pt_cmp (pc_din (hu1 hr) pe_we pe_we) h1) (hi s1 k1 _ fun u s2 k2 e2 => ho s2 (k1.trans k2) _ fun v s3 k3 e3 => by
    cases (show v = V.ref p from e3)
    obtain ⟨o', g1, g2⟩ := dgetT_of (r.ex ((k1.trans k2).trans k3)) (Enc.mono k3.f (e2 : rep _ _ u k))
    exact ⟨p, o', rfl, g1, _, by rw [g2], q s3 (k2.trans k3)⟩)⟩
theorem ev_dtnotIn {j : Nat} {k : PK} {xs : List ((Int × Int) × α)} (hr : Room j X.A) (hi : Ev X i σ s k) (ho : Ev X o σ s (Rw.mk (.ref p))) (r : OwnDT X.K s p xs) (h1 : behindInMarks .NotIn o = false := by rfl) : EvB X (.Compare i [.NotIn] [o] pos) σ s (!(dval xs k.pr).isSome) :=
  ⟨fun s1 k1 Q q => we_of (pe_cmp (pc_dnotin (hu1 hr) pe_we pe_we) h1) (hi s1 k1 _ fun u s2 k2 e2 => ho s2 (k1.trans k2) _ fun v s3 k3 e3 => by
    cases (show v = V.ref p from e3)
    obtain ⟨o', g1, g2⟩ := dgetT_of (r.ex ((k1.trans k2).trans k3)) (Enc.mono k3.f (e2 : rep _ _ u k))
    exact ⟨p, o', rfl, g1, by rw [g2]; exact q _ s3 (k2.trans k3) rfl⟩),
   fun s1 k1 Q q => wt_of (pt_cmp (pc_dnotin (hu1 hr) pe_we pe_we) h1) (hi s1 k1 _ fun u s2 k2 e2 => ho s2 (k1.trans k2) _ fun v s3 k3 e3 => by
    cases (show v = V.ref p from e3)
    obtain ⟨o', g1, g2⟩ := dgetT_of (r.ex ((k1.trans k2).trans k3)) (Enc.mono k3.f (e2 : rep _ _ u k))
    exact ⟨p, o', rfl, g1, _, by rw [g2], q s3 (k2.trans k3)⟩)⟩
theorem ev_dtlen {xs : List ((Int × Int) × α)} (hm : X.mg "len" = none) (ho : Ev X o σ s (Rw.mk (.ref p))) (r : OwnDT X.K s p xs) (hg : Gl X "len" := by rfl) (he : starEach [o] X.env = (false, eval o X.env) :: starEach [] X.env := by rfl) (hpl : (backTo pos (starEach [] X.env)).any (·.1) = false := by rfl) : Ev X (.Call (.Name "len" p0) [o] [] pos) σ s (xs.length : Int) := fun s1 k1 Q q =>
  we_of (pe_callB call_len_dT hg hm boot_len (pa_cons pe_we pa_nil he) (he := he) (hpl := hpl)) (ho s1 k1 _ fun v s2 k2 e2 => by
    cases (show v = V.ref p from e2)
    obtain ⟨_, kv, h1, h2⟩ := r.ex (k1.trans k2)
    exact ⟨p, kv, rfl, h1, q _ s2 k2 (by rw [h2.len]; rfl)⟩)
def EvNT (X : Cx) (e : Expr) (σ : L2.St) (s : S) (xs : List ((Int × Int) × α)) : Prop := ∀ s1, Ex s s1 → ∀ Q : VK, (∀ p s2, Ex s1 s2 → s1.H p = none → OwnDT X.K s2 p xs → Q (.ref p) s2.H) → WE X e σ s1.H Q
theorem en_dtnew : EvNT X (.Dict [] [] pos) σ s ([] : List ((Int × Int) × α)) := fun s1 k1 Q q => we_of pe_dnewT fun p hp => q p (s1.newO p (.dT []) hp) (Ex.newO hp) hp ⟨(fF hp : s1.F p = none), [], upd_same, trivial⟩
theorem eg_newT {xs : List ((Int × Int) × α)} (h : EvNT X e σ s xs) : EvG X e σ s (fun v L' => ∃ p, v = .ref p ∧ L' = [odT p xs]) := fun s1 k Q q => h s1 k Q fun p s2 k2 n2 r => q _ s2 _ ⟨p, rfl, rfl⟩ (ev_ivdT k2 n2 r)
theorem do_dtput {j : Nat} {k : PK} {xs : List ((Int × Int) × α)} {y : α} (hr : Room j X.A) (ho : Ev X o σ s (Rw.mk (.ref p))) (r : OwnDT X.K s p xs) (hv : Ev X e σ s y) (hi : Ev X i σ s k) (hz : xs.length < sizeLine) (kk : ∀ s1, Mx (· = p) s s1 → OwnDT X.K s1 p (dput xs k.pr y) → WSs X rest D σ s1.H)
    (hs : swapsWith e (some (.Subscript o i p1)) pos.line X.env = pure false := by rfl) : WSs X (.Assign [.Subscript o i p1] e pos :: rest) D σ s.H :=
  do_cons (ps_dput (hu1 hr) pe_we pe_we pe_we hs) (hv s (Ex.refl _) _ fun v s1 k1 e1 => ho s1 k1 _ fun u s2 k2 e2 => hi s2 (k1.trans k2) _ fun w s3 k3 e3 => by
    cases (show u = V.ref p from e2)
    have kx := (k1.trans k2).trans k3
    obtain ⟨f0, kv, h1, h2⟩ := r.ex kx
    obtain ⟨b, rfl, hb⟩ := (e3 : rep _ _ w k)
    refine ⟨p, _, rfl, .inr ⟨kv, kp k.pr, b, h1, rfl, s3.sub _ _ hb, by rw [h2.len]; exact hz, rfl⟩, ?_⟩
    exact kk (s3.put p (.dT (putK kv (kp k.pr) v)) f0) (kx.mx.trans (Mx.put f0)) ⟨f0, _, upd_same, h2.put (Enc.mono (k2.trans k3).f e1)⟩)
end
end Dy

namespace Dy
open PySem PySem.Spec L2
open PyProof.Rows hiding St
open Enc (rep)
open Flat (toV)
open EncA (repA)

section
variable {X : Cx} {α β γ δ ε : Type} [Enc α] [Enc β] [Enc γ] [Enc δ] [Enc ε] {σ : L2.St} {s : S} {a : Expr} {lo hi : Option Expr} {p2 pos : Pos}
theorem ev_sl53 {x : T5 α β γ δ ε} (ha : Ev X a σ s x) (hh : EvO X hi σ s (some 3)) : Ev X (.Subscript a (.Slice none hi none p2) pos) σ s (⟨x.a, x.b, x.c⟩ : T3 α β γ) := fun s1 k Q q => by
  obtain ⟨tl, pl, ql⟩ := po_evo (eo_none (X := X) (σ := σ) (s := s))
  obtain ⟨th, ph, qh⟩ := po_evo hh
  refine we_of (pe_slice sl_tupA pe_we pl ph) (ha s1 k _ fun v s2 k2 r2 => ql s2 (k.trans k2) _ fun s3 k3 => qh s3 ((k.trans k2).trans k3) _ fun s4 k4 => ?_)
  obtain ⟨p, v1, v2, v3, v4, v5, rfl, h0, h1, h2, h3, _, _⟩ := Enc.mono (α := T5 α β γ δ ε) (k3.trans k4).f r2
  have kk := (k2.trans k3).trans k4
  refine ⟨p, _, rfl, sqt_mono s4.sub h0, fun hw => ?_, fun _ l hl => q _ (s4.newF l _ hl) (kk.trans (Ex.newF hl)) ⟨l, v1, v2, v3, rfl, tup_new hl, Enc.mono (Ex.newF hl).f h1, Enc.mono (Ex.newF hl).f h2, Enc.mono (Ex.newF hl).f h3⟩⟩
  exact absurd hw (show ¬ (HT.sIx 5 0 none = 0 ∧ HT.sIx 5 5 (some 3) = 5) by decide)
theorem ev_sl52 {x : T5 α β γ δ ε} (ha : Ev X a σ s x) (hh : EvO X hi σ s (some 2)) : Ev X (.Subscript a (.Slice none hi none p2) pos) σ s (x.a, x.b) := fun s1 k Q q => by
  obtain ⟨tl, pl, ql⟩ := po_evo (eo_none (X := X) (σ := σ) (s := s))
  obtain ⟨th, ph, qh⟩ := po_evo hh
  refine we_of (pe_slice sl_tupA pe_we pl ph) (ha s1 k _ fun v s2 k2 r2 => ql s2 (k.trans k2) _ fun s3 k3 => qh s3 ((k.trans k2).trans k3) _ fun s4 k4 => ?_)
  obtain ⟨p, v1, v2, v3, v4, v5, rfl, h0, h1, h2, h3, _, _⟩ := Enc.mono (α := T5 α β γ δ ε) (k3.trans k4).f r2
  have kk := (k2.trans k3).trans k4
  refine ⟨p, _, rfl, sqt_mono s4.sub h0, fun hw => ?_, fun _ l hl => q _ (s4.newF l _ hl) (kk.trans (Ex.newF hl)) ⟨l, v1, v2, rfl, tup_new hl, Enc.mono (Ex.newF hl).f h1, Enc.mono (Ex.newF hl).f h2⟩⟩
  exact absurd hw (show ¬ (HT.sIx 5 0 none = 0 ∧ HT.sIx 5 5 (some 2) = 5) by decide)
theorem ev_sl5t {p : Addr} {v1 v2 v3 v4 v5 : V} (ha : Ev X a σ s (Rw.mk (.ref p))) (hp : s.H p = some (.tup [v1, v2, v3, v4, v5])) (hl : EvO X lo σ s (some 2)) : Ev X (.Subscript a (.Slice lo none none p2) pos) σ s (⟨[Rw.mk v3, Rw.mk v4, Rw.mk v5]⟩ : Tu Rw) := fun s1 k Q q => by
  obtain ⟨tl, pl, ql⟩ := po_evo hl
  obtain ⟨th, ph, qh⟩ := po_evo (eo_none (X := X) (σ := σ) (s := s))
  refine we_of (pe_slice sl_tupA pe_we pl ph) (ha s1 k _ fun v s2 k2 r2 => ql s2 (k.trans k2) _ fun s3 k3 => qh s3 ((k.trans k2).trans k3) _ fun s4 k4 => ?_)
  cases (show v = V.ref p from r2)
  have kk := (k2.trans k3).trans k4
  refine ⟨p, _, rfl, .inl (.inl ((k.trans kk).h _ _ hp)), fun hw => ?_, fun _ l hl => q _ (s4.newF l _ hl) (kk.trans (Ex.newF hl)) ⟨l, [v3, v4, v5], rfl, tup_new hl, rfl, rfl, rfl, trivial⟩⟩
  exact absurd hw (show ¬ (HT.sIx 5 0 (some 2) = 0 ∧ HT.sIx 5 5 none = 5) by decide)
end
section
variable {X : Cx} {α β γ : Type} [Enc α] [Enc β] [Enc γ] {P0 : Addr → Prop} {s0 s : S} {L : List OA} {σ : L2.St} {D : Ends} {rest : List Stmt}
theorem do_app3 {p p3 p4 p5 : Addr} {v1 v2 : V} {xs3 : List α} {xs4 : List β} {xs5 : List γ} {y3 : α} {y4 : β} {y5 : γ} {k i3 i4 i5 : Nat} {nt : Str} {a e : Expr} {lo : Option Expr} {q1 q2 q3 q4 q5 q6 q7 q8 : Pos}
    (iv : Iv X.K P0 s0 s L) (hp0 : PassesOwn (model X.prog X.w) X.A X.env X.xe) (hc : X.calm = true) (ha : Ev X a σ s (Rw.mk (.ref p))) (ht : s.H p = some (.tup [v1, v2, .ref p3, .ref p4, .ref p5])) (hl : EvO X lo σ s (some 2))
    (hg : PG X (.Name nt q1) (gName k)) (h3 : L[i3]? = some (ol p3 xs3)) (h4 : L[i4]? = some (ol p4 xs4)) (h5 : L[i5]? = some (ol p5 xs5)) (d34 : i3 ≠ i4) (d35 : i3 ≠ i5) (d45 : i4 ≠ i5)
    (he : ∀ w t, Ev X e (σ.set k (some w)) t y3) (he4 : ∀ w t, Ev X e (σ.set k (some w)) t y4) (he5 : ∀ w t, Ev X e (σ.set k (some w)) t y5) (z3 : xs3.length < sizeLine) (z4 : xs4.length < sizeLine) (z5 : xs5.length < sizeLine)
    (kk : ∀ s1, Fle s.F s1.F → Iv X.K P0 s0 s1 (((L.set i3 (ol p3 (xs3 ++ [y3]))).set i4 (ol p4 (xs4 ++ [y4]))).set i5 (ol p5 (xs5 ++ [y5]))) → WSs X rest D (σ.set k (some (.ref p5))) s1.H)
    (hk : k < σ.length) (hN : X.N[k]? = some nt := by rfl) (hv : Vis X.env.scope nt := by first | exact Or.inl rfl | exact Or.inr (Or.inl rfl) | exact Or.inr (Or.inr rfl)) (hd : (nt == ("__debug__" : Str)) = false := by decide) (hcd : (nt == ("__classdict__" : Str)) = false := by decide)
    (hbase : attributeBase (.Name nt q4) "append" X.env (eval (.Name nt q4) X.env) = eval (.Name nt q4) X.env := by rfl)
    (hfew : ((backTo q6 (starEach [e] X.env)).all (fun x => !x.1) && (backToKw q6 (keywordEach [] X.env)).all (fun x => x.1.isSome) && decide (([e] : List Expr).length + ([] : List Keyword).length + (if ([] : List Keyword).isEmpty then 0 else 1) < 30)) = true := by rfl)
    (hline : (q5.endLine == q6.line) = true := by rfl) (hs : starEach [e] X.env = (false, eval e X.env) :: starEach [] X.env := by rfl) (hplain : (backTo q6 (starEach [] X.env)).any (·.1) = false := by rfl)
    (hsw : swapsWith (.Call (.Attribute (.Name nt q4) "append" q5) [e] [] q6) none q7.line X.env = pure false := by rfl)
    (hsf : ∀ x, foldedSetIterable (.Subscript a (.Slice lo none none q2) q3) X.env x = pure x := by intro _; rfl) :
    WSs X (.For (.Name nt q1) (.Subscript a (.Slice lo none none q2) q3) [.Expr (.Call (.Attribute (.Name nt q4) "append" q5) [e] [] q6) q7] [] q8 :: rest) D σ s.H := by
  have hat : ∀ v : V, (σ.set k (some v))[k]? = some (some v) := fun v => by rw [List.getElem?_set_self hk]
  refine do_for_core hp0 hc (ei_tup (ev_sl5t ha ht hl)) hg tg_n (fun i σ' t => match i with
    | 0 => σ' = σ ∧ Fle s.F t.F ∧ Iv X.K P0 s0 t L
    | 1 => σ' = σ.set k (some (.ref p3)) ∧ Fle s.F t.F ∧ Iv X.K P0 s0 t (L.set i3 (ol p3 (xs3 ++ [y3])))
    | 2 => σ' = σ.set k (some (.ref p4)) ∧ Fle s.F t.F ∧ Iv X.K P0 s0 t ((L.set i3 (ol p3 (xs3 ++ [y3]))).set i4 (ol p4 (xs4 ++ [y4])))
    | _ => σ' = σ.set k (some (.ref p5)) ∧ Fle s.F t.F ∧ Iv X.K P0 s0 t (((L.set i3 (ol p3 (xs3 ++ [y3]))).set i4 (ol p4 (xs4 ++ [y4]))).set i5 (ol p5 (xs5 ++ [y5]))))
    (fun s1 k1 => ⟨rfl, k1.f, iv.ex k1⟩) (fun s1 k1 i x σ' σ2 t t' hx fl hR kt hB => ?_) (fun s1 k1 σ' t fl hR => ?_) hsf
  · obtain ⟨w, rw_, rfl⟩ := hB
    match i, hx with
    | 0, hx =>
      obtain rfl : Rw.mk (.ref p3) = x := Option.some.inj hx
      cases (show w = V.ref p3 from rw_)
      obtain ⟨rfl, f0, iv0⟩ := hR
      have iv1 := iv0.ex kt
      exact do_appendP (raw_var k (hat _) hN hv hd hcd) (iv1.ol i3 h3) (he _ _) z3 (fun s2 m2 o2 => do_nil ⟨s2, rfl, m2.f, rfl, f0.trans (kt.f.trans m2.f), iv1.ml i3 m2 o2 rfl h3⟩) hbase hfew hline hs hplain hsw
    | 1, hx =>
      obtain rfl : Rw.mk (.ref p4) = x := Option.some.inj hx
      cases (show w = V.ref p4 from rw_)
      obtain ⟨rfl, f0, iv0⟩ := hR
      have iv1 := iv0.ex kt
      have h4' : (L.set i3 (ol p3 (xs3 ++ [y3])))[i4]? = some (ol p4 xs4) := by rw [List.getElem?_set_ne d34]; exact h4
      rw [List.set_set]
      exact do_appendP (raw_var k (hat _) hN hv hd hcd) (iv1.ol i4 h4') (he4 _ _) z4 (fun s2 m2 o2 => do_nil ⟨s2, rfl, m2.f, rfl, f0.trans (kt.f.trans m2.f), iv1.ml i4 m2 o2 rfl h4'⟩) hbase hfew hline hs hplain hsw
    | 2, hx =>
      obtain rfl : Rw.mk (.ref p5) = x := Option.some.inj hx
      cases (show w = V.ref p5 from rw_)
      obtain ⟨rfl, f0, iv0⟩ := hR
      have iv1 := iv0.ex kt
      have h5' : ((L.set i3 (ol p3 (xs3 ++ [y3]))).set i4 (ol p4 (xs4 ++ [y4])))[i5]? = some (ol p5 xs5) := by rw [List.getElem?_set_ne d45, List.getElem?_set_ne d35]; exact h5
      rw [List.set_set]
      exact do_appendP (raw_var k (hat _) hN hv hd hcd) (iv1.ol i5 h5') (he5 _ _) z5 (fun s2 m2 o2 => do_nil ⟨s2, rfl, m2.f, rfl, f0.trans (kt.f.trans m2.f), iv1.ml i5 m2 o2 rfl h5'⟩) hbase hfew hline hs hplain hsw
  · obtain ⟨rfl, f0, iv0⟩ := hR
    exact kk t f0 iv0
end
end Dy

namespace Dy
open PySem PySem.Spec L2
open PyProof.Rows hiding St
open Enc (rep)
open Flat (toV)
open EncA (repA)

section
variable {X : Cx} {α : Type} [Enc α] {σ : L2.St} {s : S} {o e : Expr} {D : Ends} {rest : List Stmt} {p1 p2 p3 : Pos}
theorem do_appendN {xs : List α} {x : α} (ho : EvN X o σ s xs) (he : Ev X e σ s x) (hz : xs.length < sizeLine)
    (k : ∀ s1, Ex s s1 → WSs X rest D σ s1.H)
    (hbase : attributeBase o "append" X.env (eval o X.env) = eval o X.env := by rfl)
    (hfew : ((backTo p2 (starEach [e] X.env)).all (fun x => !x.1) && (backToKw p2 (keywordEach [] X.env)).all (fun x => x.1.isSome) && decide (([e] : List Expr).length + ([] : List Keyword).length + (if ([] : List Keyword).isEmpty then 0 else 1) < 30)) = true := by rfl)
    (hline : (p1.endLine == p2.line) = true := by rfl) (hs : starEach [e] X.env = (false, eval e X.env) :: starEach [] X.env := by rfl) (hplain : (backTo p2 (starEach [] X.env)).any (·.1) = false := by rfl)
    (hsw : swapsWith (.Call (.Attribute o "append" p1) [e] [] p2) none p3.line X.env = pure false := by rfl) :
    WSs X (.Expr (.Call (.Attribute o "append" p1) [e] [] p2) p3 :: rest) D σ s.H :=
  do_cons (ps_expr (pe_bm PySem.F.plainAttrs_list PySem.F.slot_list_append PySem.F.type_list_append mt_append pe_we (pa_cons pe_we pa_nil hs) hbase hfew hline hs hplain) hsw) (ho s (Ex.refl _) _ fun p s1 k1 n1 r => by
    obtain ⟨f1, vs, h2, h3⟩ := id r
    refine ⟨.inl ⟨rfl, vs, .inl (.inl h2)⟩, he s1 k1 _ fun v s2 k2 r2 => ?_⟩
    obtain ⟨f2, ws, g2, g3⟩ := r.ex k2
    refine ⟨p, ws, v, rfl, rfl, g2, by rw [g3.len]; exact hz, ?_⟩
    have kx := k1.trans k2
    refine k (s2.put p (.lst (ws ++ [v])) f2) ⟨kx.f, fun a u q => ?_, fun a u q n => kx.n a u q n⟩
    by_cases ea : a = p
    · subst ea; rw [n1] at q; cases q
    · show upd s2.H p _ a = _
      rw [upd_ne ea]; exact kx.h _ _ q)
end
end Dy

namespace Dy
open PySem PySem.Spec L2
open PyProof.Rows hiding St

def cl (x : Str) : List Nat := x.cps.toList
theorem cl_ext {x y : Str} (h : cl x = cl y) : x = y := by
  cases x; cases y
  congr 1
  exact Array.toList_inj.mp h
theorem cl_app (x y : Str) : cl (x ++ y) = cl x ++ cl y := by
  show (x.cps ++ y.cps).toList = _
  exact Array.toList_append
theorem cl_len (x : Str) : (cl x).length = x.length := Array.length_toList
theorem app_uniq {c : Nat} : ∀ {a b x y : List Nat}, c ∉ a → c ∉ b → a ++ c :: x = b ++ c :: y → a = b ∧ x = y
  | [], [], _, _, _, _, e => ⟨rfl, (List.cons.inj e).2⟩
  | [], b :: r, _, _, _, hb, e => absurd (List.mem_cons.mpr (.inl (List.cons.inj e).1)) hb
  | a :: r, [], _, _, ha, _, e => absurd (List.mem_cons.mpr (.inl (List.cons.inj e).1.symm)) ha
  | a :: r, b :: q, x, y, ha, hb, e => by
    obtain ⟨h1, h2⟩ := List.cons.inj e
    obtain ⟨h3, h4⟩ := app_uniq (fun h => ha (List.mem_cons_of_mem _ h)) (fun h => hb (List.mem_cons_of_mem _ h)) h2
    exact ⟨by rw [h1, h3], h4⟩
theorem join_cons2 (sep a b : Str) (r : List Str) : cl (Str.join sep (a :: b :: r)) = cl a ++ (cl sep ++ cl (Str.join sep (b :: r))) := by
  show cl (a ++ sep ++ Str.join sep (b :: r)) = _
  rw [cl_app, cl_app, List.append_assoc]
theorem parse_uniq {c : Nat} : ∀ {as bs : List Str}, as ≠ [] → bs ≠ [] → (∀ a ∈ as, c ∉ cl a) → (∀ b ∈ bs, c ∉ cl b) → Str.join ⟨#[c]⟩ as = Str.join ⟨#[c]⟩ bs → as = bs
  | [], _, h, _, _, _, _ => absurd rfl h
  | _, [], _, h, _, _, _ => absurd rfl h
  | [a], [b], _, _, _, _, e => by rw [show a = b from e]
  | [a], b :: b2 :: r, _, _, ha, _, e => by
    have h1 := join_cons2 ⟨#[c]⟩ b b2 r
    rw [← e] at h1
    have : c ∈ cl a := by
      have h1 : cl a = _ := h1
      rw [h1]
      exact List.mem_append_right _ (List.mem_append_left _ (List.mem_singleton.mpr rfl))
    exact absurd this (ha a List.mem_cons_self)
  | a :: a2 :: r, [b], _, _, _, hb, e => by
    have h1 := join_cons2 ⟨#[c]⟩ a a2 r
    rw [e] at h1
    have : c ∈ cl b := by
      have h1 : cl b = _ := h1
      rw [h1]
      exact List.mem_append_right _ (List.mem_append_left _ (List.mem_singleton.mpr rfl))
    exact absurd this (hb b List.mem_cons_self)
  | a :: a2 :: r, b :: b2 :: q, _, _, ha, hb, e => by
    have h1 := congrArg cl e
    rw [join_cons2, join_cons2] at h1
    obtain ⟨h2, h3⟩ := app_uniq (c := c) (ha a List.mem_cons_self) (hb b List.mem_cons_self) h1
    rw [cl_ext h2, parse_uniq (as := a2 :: r) (bs := b2 :: q) (by simp) (by simp) (fun x hx => ha x (List.mem_cons_of_mem _ hx)) (fun x hx => hb x (List.mem_cons_of_mem _ hx)) (cl_ext h3)]
theorem split_ne (x y : Str) : Txt.split x y ≠ [] := fun e => by
  have := PyProof.Rows.split_pos x y
  rw [e] at this
  exact absurd this (by decide)
theorem split_join {sep : Str} {c : Nat} (hs : sep = ⟨#[c]⟩) {as : List Str} (h0 : as ≠ []) (h : ∀ a ∈ as, c ∉ cl a) : Txt.split (Txt.join sep as) sep = as := by
  subst hs
  refine parse_uniq (c := c) (split_ne _ _) h0 (fun p hp => StrLaws.split_free _ _ p hp) h ?_
  rw [StrLaws.join_split]
  show Builtin.Str.glued _ _ = _
  rw [StrLaws.glued_eq_join]
theorem split_free' {sep : Str} {c : Nat} (hs : sep = ⟨#[c]⟩) (x : Str) : ∀ p ∈ Txt.split x sep, c ∉ cl p := by
  subst hs
  exact fun p hp => StrLaws.split_free _ _ p hp
theorem split_none {sep : Str} {c : Nat} (hs : sep = ⟨#[c]⟩) {x : Str} (h : c ∉ cl x) : Txt.split x sep = [x] := by
  have := split_join hs (as := [x]) (by simp) (fun a ha => by rw [List.mem_singleton.mp ha]; exact h)
  exact this
theorem split_sum {x sep : Str} (hy : 1 ≤ sep.length) : ((Txt.split x sep).map (·.length)).sum + (Txt.split x sep).length ≤ x.length + 1 := PyProof.Rows.split_weight x sep hy
theorem join_le (sep : Str) (ys : List Str) : (Txt.join sep ys).length ≤ (ys.map (·.length)).sum + ys.length * sep.length := by
  show (Builtin.Str.glued sep ys).length ≤ _
  rw [StrLaws.glued_eq_join]
  exact StrLaws.join_length_le sep ys
def isFig (c : Nat) : Bool := decide (48 ≤ c ∧ c ≤ 57)
def numOf (x : Str) : Option Nat := if 1 ≤ x.length ∧ x.length ≤ 60 ∧ (cl x).all isFig = true ∧ ((cl x).head? = some 48 → x.length = 1) then some (NumText.digitsVal (cl x)) else none
theorem strI_cl (n : Nat) : cl (strI (n : Int)) = TL.numL n := TL.tl_num n
theorem numL_lead : ∀ n : Nat, (TL.numL n).head? = some 48 → TL.numL n = [48] := fun n => by
  induction n using Nat.strongRecOn with
  | _ n ih =>
    intro h
    by_cases h1 : n < 10
    · rw [TL.numL_lt h1] at h ⊢
      have := Option.some.inj h
      rw [this]
    · rw [TL.numL_step (by omega)] at h
      obtain ⟨c, r, e⟩ := List.exists_cons_of_ne_nil (TL.numL_ne (n / 10))
      rw [e] at h
      have h2 : (TL.numL (n / 10)).head? = some 48 := by rw [e]; exact h
      have h3 := ih (n / 10) (by omega) h2
      have h4 := TL.numL_val (n / 10)
      rw [h3] at h4
      have : (0 : Nat) = n / 10 := h4
      omega
theorem numOf_str {n : Nat} (h : n < 10 ^ 60) : numOf (strI (n : Int)) = some n := by
  unfold numOf
  have hl := TL.numL_len (n := n) (k := 60) (by decide) h
  have hlen : (strI (n : Int)).length = (TL.numL n).length := by rw [← cl_len, strI_cl]
  have hne : 1 ≤ (TL.numL n).length := List.length_pos_iff.mpr (TL.numL_ne n)
  rw [if_pos, strI_cl, TL.numL_val]
  refine ⟨by omega, by omega, ?_, fun h2 => ?_⟩
  · rw [strI_cl, List.all_eq_true]
    exact fun c hc => decide_eq_true (TL.numL_digits n c hc)
  · rw [strI_cl] at h2
    rw [hlen, numL_lead n h2]; rfl
theorem strI_free {n c : Nat} (h : c < 48 ∨ 57 < c) : c ∉ cl (strI (n : Int)) := by
  rw [strI_cl]
  exact TL.numL_free h
theorem strI_len {n : Nat} {k : Nat} (hk : 0 < k) (h : n < 10 ^ k) : (strI (n : Int)).length ≤ k := by
  rw [← cl_len, strI_cl]
  exact TL.numL_len hk h
end Dy

namespace Dy
open PySem PySem.Spec L2
open PyProof.Rows hiding St
open Enc (rep)
open EncA (repA)
def unR {α β : Type} : List (α ⊕ β) → Option (List β)
  | [] => some []
  | .inl _ :: _ => none
  | .inr x :: r => (unR r).map (x :: ·)
theorem unR_some {α β : Type} : ∀ {xs : List (α ⊕ β)} {ys : List β}, unR xs = some ys → xs = ys.map .inr
  | [], ys, h => by cases h; rfl
  | .inl _ :: _, ys, h => by cases h
  | .inr x :: r, ys, h => by
    unfold unR at h
    cases hr : unR r with
    | none => rw [hr] at h; cases h
    | some zs =>
      rw [hr] at h
      cases h
      rw [List.map_cons, unR_some hr]
theorem unR_map {α β : Type} : ∀ ys : List β, unR (ys.map (Sum.inr : β → α ⊕ β)) = some ys
  | [] => rfl
  | y :: r => by
    show (unR (r.map Sum.inr)).map (y :: ·) = _
    rw [unR_map r]; rfl
instance {α : Type} [EqD α] : EqD (Option (List α)) := ⟨fun x => match x with | none => .none | some l => EqD.toD l, fun {K F H v x} h f => by
  cases x with
  | none => rw [show v = V.non from h]; exact .non
  | some l => exact EqD.dp (α := List α) h f, fun x y => by
  cases x with
  | none => cases y with
    | none => exact ⟨fun _ => rfl, fun _ => rfl⟩
    | some m => exact ⟨fun h => (by cases (show false = true from h)), fun h => by cases h⟩
  | some l => cases y with
    | none => exact ⟨fun h => (by cases (show false = true from h)), fun h => by cases h⟩
    | some m => exact (EqD.eqv l m).trans ⟨fun h => by rw [h], fun h => Option.some.inj h⟩⟩
instance {α : Type} {n : Nat} [Shp α n] : Shp (Option (List α)) (n + 1) := ⟨fun x => by
  cases x with
  | none => exact ⟨by show PyData.canLay0 .none = true; unfold PyData.canLay0; rfl, by show PyData.depth .none ≤ n + 1; unfold PyData.depth; omega⟩
  | some l => exact Shp.ok (α := List α) l⟩
section
variable {X : Cx} {σ : L2.St} {s : S} {e : Expr} {α β : Type} [Enc α] [Enc β] {K : PySem.W.Frag}
theorem reps_unR {F : Hp} : ∀ {vs : List V} {ys : List β}, Reps K F vs (ys.map (Sum.inr : β → α ⊕ β)) → Reps K F vs ys
  | [], [], _ => trivial
  | _ :: _, _ :: _, ⟨h, t⟩ => ⟨h, reps_unR t⟩
  | [], _ :: _, h => h.elim
  | _ :: _, [], h => h.elim
theorem er_unR {xs : List (α ⊕ β)} {ys : List β} (h : EvR X e σ s xs) (hu : unR xs = some ys) : EvR X e σ s ys := by
  obtain rfl := unR_some hu
  exact fun s1 k Q q => h s1 k Q fun v s2 k2 ⟨p, vs, e1, h1, h2⟩ => q v s2 k2 ⟨p, vs, e1, h1, reps_unR h2⟩
theorem ev_unR {xs : List (α ⊕ β)} {ys : List β} (h : Ev X e σ s xs) (hu : unR xs = some ys) : Ev X e σ s ys := by
  obtain rfl := unR_some hu
  exact fun s1 k Q q => h s1 k Q fun v s2 k2 ⟨p, vs, e1, h1, h2⟩ => q v s2 k2 ⟨p, vs, e1, h1, reps_unR h2⟩
end
end Dy

namespace Dy
open PySem PySem.Spec L2
open PyProof.Rows hiding St
open Enc (rep)
open EncA (repA)
structure LL where
  p : Addr
  q : List Addr
def Cols {α : Type} [Enc α] (K : PySem.W.Frag) (F H : Hp) (qs : List Addr) (xss : List (List α)) : Prop := qs.length = xss.length ∧ ∀ (i : Nat) (q : Addr) (xs : List α), qs[i]? = some q → xss[i]? = some xs → ∃ vs, H q = some (.lst vs) ∧ Reps K F vs xs
def oll {α : Type} [Enc α] (l : LL) (xss : List (List α)) : OA := ⟨fun K F H P => l.q.Nodup ∧ l.p ∉ l.q ∧ (∀ a, P a ↔ (a = l.p ∨ a ∈ l.q)) ∧ H l.p = some (.lst (l.q.map .ref)) ∧ Cols K F H l.q xss,
  fun e ⟨h0, h1, h2, h3, h4, h5⟩ => ⟨h0, h1, h2, h3, h4, fun i q xs a b => by
    obtain ⟨vs, g1, g2⟩ := h5 i q xs a b
    exact ⟨vs, g1, g2.mono e⟩⟩,
  fun e ⟨h0, h1, h2, h3, h4, h5⟩ => ⟨h0, h1, h2, by rw [e _ ((h2 _).mpr (.inl rfl))]; exact h3, h4, fun i q xs a b => by
    obtain ⟨vs, g1, g2⟩ := h5 i q xs a b
    exact ⟨vs, by rw [e q ((h2 q).mpr (.inr (List.mem_of_getElem? a)))]; exact g1, g2⟩⟩,
  fun ⟨h0, h1, h2, h3, h4, h5⟩ q => by
    rcases (h2 _).mp q with rfl | hq
    · exact ⟨_, h3⟩
    · obtain ⟨i, hi⟩ := List.mem_iff_getElem?.mp hq
      have hl : i < xss.length := by rw [← h4]; exact (List.getElem?_eq_some_iff.mp hi).1
      obtain ⟨vs, g1, _⟩ := h5 i _ _ hi (List.getElem?_eq_getElem hl)
      exact ⟨_, g1⟩⟩
structure OwnLL {α : Type} [Enc α] (K : PySem.W.Frag) (s : S) (l : LL) (xss : List (List α)) : Prop where
  nd : l.q.Nodup
  np : l.p ∉ l.q
  fp : s.F l.p = none
  fq : ∀ q ∈ l.q, s.F q = none
  hp : s.H l.p = some (.lst (l.q.map .ref))
  c : Cols K s.F s.H l.q xss
section
variable {α τ : Type} [Enc α] [Enc τ] {K : PySem.W.Frag} {P0 : Addr → Prop} {s0 s s1 t : S} {L : List OA} {l : LL} {xss zss : List (List α)} {xs ys : List α} {i : Nat} {q : Addr}
theorem OwnLL.len (h : OwnLL K s l xss) : l.q.length = xss.length := h.c.1
theorem OwnLL.ref (h : OwnLL K s l xss) (hi : i < xss.length) : ∃ q, l.q[i]? = some q := ⟨l.q[i]'(by rw [h.len]; exact hi), List.getElem?_eq_getElem _⟩
theorem OwnLL.row (h : OwnLL K s l xss) (hq : l.q[i]? = some q) (hx : xss[i]? = some xs) : Own K s q xs := by
  obtain ⟨vs, h1, h2⟩ := h.c.2 i q xs hq hx
  exact ⟨h.fq q (List.mem_of_getElem? hq), vs, h1, h2⟩
theorem OwnLL.ex (h : OwnLL K s l xss) (e : Ex s t) : OwnLL K t l xss := by
  refine ⟨h.nd, h.np, e.n _ _ h.hp h.fp, fun q hq => ?_, e.h _ _ h.hp, h.c.1, fun i q xs a b => ?_⟩
  · obtain ⟨i, hi⟩ := List.mem_iff_getElem?.mp hq
    have hl : i < xss.length := by rw [← h.len]; exact (List.getElem?_eq_some_iff.mp hi).1
    obtain ⟨vs, g1, _⟩ := h.c.2 i _ _ hi (List.getElem?_eq_getElem hl)
    exact e.n _ _ g1 (h.fq q hq)
  · obtain ⟨vs, g1, g2⟩ := h.c.2 i q xs a b
    exact ⟨vs, e.h _ _ g1, g2.mono e.f⟩
theorem Iv.oll (h : Iv K P0 s0 s L) (k : Nat) (e : L[k]? = some (Dy.oll l xss) := by rfl) : OwnLL K s l xss := by
  obtain ⟨P, ⟨h0, h1, h2, h3, h4⟩, h5⟩ := h.at k e
  exact ⟨h0, h1, h5 _ ((h2 _).mpr (.inl rfl)), fun q hq => h5 _ ((h2 _).mpr (.inr hq)), h3, h4⟩
theorem Iv.mll (h : Iv K P0 s0 s L) (k : Nat) (m : Mx (· = q) s s1) (hq : l.q[i]? = some q) (o : Own K s1 q ys) (e : zss = xss.set i ys) (hA : L[k]? = some (Dy.oll l xss) := by rfl) : Iv K P0 s0 s1 (L.set k (Dy.oll l zss)) := by
  subst e
  refine h.upd k hA fun P hP hF => ⟨P, ?_, fun a z => ⟨?_, .inl z⟩, ?_⟩
  · obtain ⟨h0, h1, h2, h3, h4, h5⟩ := hP
    have mq : q ∈ l.q := List.mem_of_getElem? hq
    have ne : l.p ≠ q := fun z => h1 (by rw [z]; exact mq)
    refine ⟨h0, h1, h2, m.h _ _ h3 ne, by rw [List.length_set]; exact h4, fun j r zs a b => ?_⟩
    by_cases e : i = j
    · subst e
      rw [hq] at a
      cases a
      have hl : i < xss.length := by rw [← h4]; exact (List.getElem?_eq_some_iff.mp hq).1
      rw [List.getElem?_set_self hl] at b
      cases b
      obtain ⟨_, vs, g1, g2⟩ := o
      exact ⟨vs, g1, g2⟩
    · rw [List.getElem?_set_ne e] at b
      obtain ⟨vs, g1, g2⟩ := h5 j r zs a b
      have hn : r ≠ q := fun z => by
        obtain ⟨hi, ei⟩ := List.getElem?_eq_some_iff.mp hq
        obtain ⟨hj, ej⟩ := List.getElem?_eq_some_iff.mp a
        exact e ((List.getElem_inj h0).mp (ei.trans (z.symm.trans ej.symm)))
      exact ⟨vs, m.h _ _ g1 hn, g2.mono m.f⟩
  · obtain ⟨u, hu⟩ := (Dy.oll l xss).dom hP z
    exact m.n _ _ hu (hF a z)
  · exact ⟨m.f, fun a o z n => m.h a o z fun e => n (by rw [e]; exact (hP.2.2.1 q).mpr (.inr (List.mem_of_getElem? hq))), fun a o z _ w => m.n a o z w, m.d⟩
theorem Iv.frzP {A : OA} {γ : Type} [Enc γ] {v : V} {x : γ} (h : Iv K P0 s0 s L) (k : Nat) (hA : L[k]? = some A)
    (st : ∀ P, A.p K s.F s.H P → (∀ a, P a → s.F a = none) → ∃ s' : S, s'.H = s.H ∧ Fle s.F s'.F ∧ (∀ a, ¬ P a → s'.F a = s.F a) ∧ rep K s'.F v x) :
    ∃ s' : S, s'.H = s.H ∧ Fle s.F s'.F ∧ Iv K P0 s0 s' (L.set k (Dy.fz v x)) := by
  obtain ⟨φ, g1, g2, g3⟩ := h.o
  obtain ⟨s', h1, h2, h3, h4⟩ := st (φ k) (g1 k _ hA) fun a q => (g3 k a q).1
  refine ⟨s', h1, h2, ?_⟩
  have hi : k < L.length := (List.getElem?_eq_some_iff.mp hA).1
  refine ⟨⟨h.m.f.trans h2, fun a o q n => by rw [h1]; exact h.m.h a o q n, fun a o q np n => ?_, fun a o q => by rw [h1]; exact h.m.d a o q⟩, fun j a => if j = k then False else φ j a, fun j B hB => ?_, fun j m a q r => ?_, fun j a q => ?_⟩
  · have ne : ¬ φ k a := fun z => by
      rcases (g3 k a z).2.1 with w | w
      · exact np w
      · rw [w] at q; cases q
    rw [h3 a ne]
    exact h.m.n a o q np n
  · by_cases e : j = k
    · subst e
      rw [List.getElem?_set_self hi] at hB
      cases hB
      exact ⟨h4, fun a => by simp⟩
    · rw [List.getElem?_set_ne (Ne.symm e)] at hB
      simp only [e, if_false]
      rw [h1]
      exact B.mono h2 (g1 j B hB)
  · by_cases e : j = k
    · simp only [e, if_true] at q
    · by_cases e2 : m = k
      · simp only [e2, if_true] at r
      · simp only [e, if_false] at q
        simp only [e2, if_false] at r
        exact g2 _ _ _ q r
  · by_cases e : j = k
    · simp only [e, if_true] at q
    · simp only [e, if_false] at q
      obtain ⟨z1, z2, z3⟩ := g3 j a q
      have ne : ¬ φ k a := fun z => e (g2 _ _ _ q z)
      exact ⟨by rw [h3 a ne]; exact z1, z2, by rw [List.length_set]; exact z3⟩
theorem reps_of {γ : Type} [Enc γ] {F : Hp} : ∀ {vs : List V} {xs : List γ}, vs.length = xs.length → (∀ (i : Nat) (v : V) (x : γ), vs[i]? = some v → xs[i]? = some x → rep K F v x) → Reps K F vs xs
  | [], [], _, _ => trivial
  | v :: vs, x :: xs, h, k => ⟨k 0 v x rfl rfl, reps_of (Nat.succ.inj h) fun i v x a b => k (i + 1) v x (by simpa using a) (by simpa using b)⟩
  | [], _ :: _, h, _ => by simp at h
  | _ :: _, [], h, _ => by simp at h
theorem Iv.frzLL (h : Iv K P0 s0 s L) (k : Nat) (hA : L[k]? = some (Dy.oll l xss)) : ∃ s' : S, s'.H = s.H ∧ Fle s.F s'.F ∧ Iv K P0 s0 s' (L.set k (Dy.fz (.ref l.p) xss)) := by
  refine h.frzP k hA fun P ⟨h0, h1, h2, h3, h4, h5⟩ hF => ?_
  have dc : ∀ a, Decidable (a = l.p ∨ a ∈ l.q) := fun a => inferInstance
  have f : Fle s.F (fun a => if a = l.p ∨ a ∈ l.q then s.H a else s.F a) := fun a o z => by
    show (if a = l.p ∨ a ∈ l.q then s.H a else s.F a) = _
    by_cases c : a = l.p ∨ a ∈ l.q
    · rw [hF a ((h2 a).mpr c)] at z; cases z
    · rw [if_neg c]; exact z
  refine ⟨⟨fun a => if a = l.p ∨ a ∈ l.q then s.H a else s.F a, s.H, fun a o z => ?_⟩, rfl, f, fun a n => ?_, ?_⟩
  · by_cases c : a = l.p ∨ a ∈ l.q
    · rw [if_pos c] at z; exact z
    · rw [if_neg c] at z; exact s.sub a o z
  · exact if_neg fun c => n ((h2 a).mpr c)
  · refine ⟨l.p, l.q.map .ref, rfl, .inl (.inl ?_), reps_of (by rw [List.length_map]; exact h4) fun i v x a b => ?_⟩
    · show (if l.p = l.p ∨ l.p ∈ l.q then s.H l.p else s.F l.p) = _
      rw [if_pos (.inl rfl)]; exact h3
    · rw [List.getElem?_map] at a
      obtain ⟨q, hq, rfl⟩ := Option.map_eq_some_iff.mp a
      obtain ⟨vs, g1, g2⟩ := h5 i q x hq b
      refine ⟨q, vs, rfl, .inl (.inl ?_), g2.mono f⟩
      show (if q = l.p ∨ q ∈ l.q then s.H q else s.F q) = _
      rw [if_pos (.inr (List.mem_of_getElem? hq))]; exact g1
theorem iv_ll (e : Ex s s1) (h1 : s.H l.p = none) (h2 : ∀ a ∈ l.q, s.H a = none) (o : OwnLL K s1 l xss) : Iv K No s s1 [Dy.oll l xss] :=
  Iv.put (L := [top]) (Iv.tops (P0 := No) 1 s) 0 e ⟨fun a => a = l.p ∨ a ∈ l.q, ⟨o.nd, o.np, fun _ => Iff.rfl, o.hp, o.c⟩, fun a z => by
    rcases z with rfl | z
    · exact ⟨o.fp, h1⟩
    · exact ⟨o.fq a z, h2 a z⟩⟩
@[reducible] def encIx (l : LL) : Enc Nat := ⟨fun K F v i => ∃ q, l.q[i]? = some q ∧ v = .ref q, fun e h => h⟩
theorem Iv.rll {R : List OA} (h : Iv K P0 s0 s L) (r : Ro K P0 s0 R) (k : Nat) (e : R[k]? = some (Dy.oll l xss) := by rfl) : s.H l.p = some (.lst (l.q.map .ref)) ∧ Cols K s.F s.H l.q xss := by
  obtain ⟨P, h0, h1, h2, h3, h4⟩ := h.ro r k e
  exact ⟨h3, h4⟩
end
section
variable {α τ : Type} [Enc α] [Enc τ] {X : Cx} {σ : L2.St} {P0 : Addr → Prop} {s0 s s1 t : S} {L : List OA} {l : LL} {xss yss : List (List α)} {xs : List α} {e a b c o i elt tg iter : Expr} {ifs : List Expr} {scope : Scope} {own : List (Str × Nat)} {pos p0 p1 : Pos} {D : Ends} {rest : List Stmt}
def RdLL (K : PySem.W.Frag) (s : S) (l : LL) (xss : List (List α)) : Prop := s.H l.p = some (.lst (l.q.map .ref)) ∧ Cols K s.F s.H l.q xss
theorem OwnLL.r {K : PySem.W.Frag} (h : OwnLL K s l xss) : RdLL K s l xss := ⟨h.hp, h.c⟩
theorem RdLL.ex {K : PySem.W.Frag} (h : RdLL K s l xss) (e : Ex s t) : RdLL K t l xss := ⟨e.h _ _ h.1, h.2.1, fun i q xs a b => by
  obtain ⟨vs, g1, g2⟩ := h.2.2 i q xs a b
  exact ⟨vs, e.h _ _ g1, g2.mono e.f⟩⟩
theorem atI_ix {β : Type} {xs : List β} {z : Int} {x : β} (h : atI xs z = some x) : ∃ j, ixN xs.length z = some j ∧ xs[j]? = some x := by
  unfold atI at h
  cases hj : ixN xs.length z with
  | none => rw [hj] at h; cases h
  | some j => rw [hj] at h; exact ⟨j, rfl, h⟩
theorem er_llix {z : Int} (ho : Ev X o σ s (Rw.mk (.ref l.p))) (r : RdLL X.K s l xss) (hi : Ev X i σ s z) (hx : atI xss z = some xs) (hp : PlainIx i := by intro _ _; rfl) : EvR X (.Subscript o i pos) σ s xs := fun s1 k Q q =>
  we_of (pe_ix ix_list pe_we pe_we hp) (ho s1 k _ fun v s2 k2 e2 => hi s2 (k.trans k2) _ fun u s3 k3 r3 => by
    cases (show v = V.ref l.p from e2)
    have h := r.ex ((k.trans k2).trans k3)
    obtain ⟨j, h1, h2⟩ := atI_ix hx
    have hl : j < l.q.length := by rw [h.2.1]; exact (List.getElem?_eq_some_iff.mp h2).1
    have hq : l.q[j]? = some l.q[j] := List.getElem?_eq_getElem hl
    obtain ⟨vs, g1, g2⟩ := h.2.2 j _ _ hq h2
    refine ⟨l.p, _, z, .ref l.q[j], rfl, r3, .inl (.inl h.1), ?_, q _ s3 (k2.trans k3) ⟨l.q[j], vs, rfl, .inl (.inl g1), g2⟩⟩
    unfold atI
    rw [List.length_map, h.2.1, h1]
    show (l.q.map V.ref)[j]? = _
    rw [List.getElem?_map, hq]; rfl)
theorem raw_llix {z : Int} {j : Nat} {q : Addr} (ho : Ev X o σ s (Rw.mk (.ref l.p))) (r : RdLL X.K s l xss) (hi : Ev X i σ s z) (hj : ixN xss.length z = some j) (hq : l.q[j]? = some q) (hp : PlainIx i := by intro _ _; rfl) : Ev X (.Subscript o i pos) σ s (Rw.mk (.ref q)) := fun s1 k Q qq =>
  we_of (pe_ix ix_list pe_we pe_we hp) (ho s1 k _ fun v s2 k2 e2 => hi s2 (k.trans k2) _ fun u s3 k3 r3 => by
    cases (show v = V.ref l.p from e2)
    have h := r.ex ((k.trans k2).trans k3)
    refine ⟨l.p, _, z, .ref q, rfl, r3, .inl (.inl h.1), ?_, qq _ s3 (k2.trans k3) rfl⟩
    unfold atI
    rw [List.length_map, h.2.1, hj]
    show (l.q.map V.ref)[j]? = _
    rw [List.getElem?_map, hq]; rfl)
theorem ev_llen (hm : X.mg "len" = none) (ho : Ev X o σ s (Rw.mk (.ref l.p))) (r : RdLL X.K s l xss) (hg : Gl X "len" := by rfl) (he : starEach [o] X.env = (false, eval o X.env) :: starEach [] X.env := by rfl) (hpl : (backTo pos (starEach [] X.env)).any (·.1) = false := by rfl) : Ev X (.Call (.Name "len" p0) [o] [] pos) σ s (xss.length : Int) := fun s1 k Q q =>
  we_of (pe_callB call_len_seq hg hm boot_len (pa_cons pe_we pa_nil he) (he := he) (hpl := hpl)) (ho s1 k _ fun u s2 k2 e2 => by
    cases (show u = V.ref l.p from e2)
    have h := r.ex (k.trans k2)
    exact ⟨l.p, _, rfl, .inl (.inl (.inl h.1)), q _ s2 k2 (by rw [List.length_map, h.2.1]; rfl)⟩)
def GLL (l : LL) : S → Prop := fun t => t.H l.p = some (.lst (l.q.map .ref))
theorem ei_ll (h : Ev X e σ s (Rw.mk (.ref l.p))) (r : RdLL X.K s l xss) : @EvIG Nat (encIx l) X tg e σ s (GLL l) (List.range xss.length) := fun s1 k R q =>
  wi_of (pi_list pe_we) (h s1 k _ fun v s2 k2 e2 => by
    cases (show v = V.ref l.p from e2)
    have h0 := r.ex (k.trans k2)
    letI := encIx l
    have w : @WalkG Nat (encIx l) X.K (GLL l) (Itl X.K l.p) (List.range xss.length) := ⟨fun j t x ht hx => by
      obtain ⟨hj, ej⟩ := List.getElem?_eq_some_iff.mp hx
      rw [List.length_range] at hj
      rw [List.getElem_range] at ej
      subst ej
      have hl : j < l.q.length := by rw [h0.2.1]; exact hj
      have hv : (l.q.map V.ref)[j]? = some (V.ref l.q[j]) := by rw [List.getElem?_map, List.getElem?_eq_getElem hl]; rfl
      refine ⟨⟨_, _, .inl (.inl ht), hv⟩, fun w H' ⟨e1, hy⟩ => ⟨t, e1.symm, Ex.refl _, ?_⟩⟩
      have := hy _ (.inl (.inl ht))
      rw [hv] at this
      cases this
      exact ⟨_, List.getElem?_eq_getElem hl, rfl⟩, fun j t ht hi => ⟨_, .inl (.inl ht), by rw [List.length_map, h0.2.1]; rw [List.length_range] at hi; exact hi⟩⟩
    exact ⟨l.p, rfl, ⟨_, .inl (.inl h0.1)⟩, q _ s2 k2 w⟩)
theorem do_frzLL {ss : List Stmt} (h : Iv X.K P0 s0 s L) (k : Nat) (hA : L[k]? = some (Dy.oll l xss)) (kk : ∀ s', Fle s.F s'.F → Iv X.K P0 s0 s' (L.set k (Dy.fz (.ref l.p) xss)) → WSs X ss D σ s'.H) : WSs X ss D σ s.H := by
  obtain ⟨s', h1, h2, h3⟩ := h.frzLL k hA
  rw [← h1]
  exact kk s' h2 h3
theorem comp_readLL {xs : List τ} {f : τ → Option (List α)} {g : TG} {B : Hp → τ → St → St → Prop} (hi : EvI X tg iter σ s xs) (T : Tgt (α := τ) X.K g B) (hf : mapO f xs = some yss) (hz : yss.length ≤ sizeLine)
    (hw : ∀ (F : Hp) (x : τ) σ2, B F x (wipe σ (own.map (·.2))) σ2 → wipe σ2 (own.map (·.2)) = wipe σ (own.map (·.2)))
    (he : ∀ (x : τ) (y : List α) (s1 : S) (σ2 : St), x ∈ xs → Ex s s1 → B s1.F x (wipe σ (own.map (·.2))) σ2 → f x = some y → ∀ s0 H0 C cl fp, EvN (Blk X scope s0 H0 C cl fp) elt σ2 s1 y)
    (s1 : S) (k : Ex s s1) (Q : VK) (q : ∀ (l : LL) s2, Ex s1 s2 → s1.H l.p = none → (∀ a ∈ l.q, s1.H a = none) → OwnLL X.K s2 l yss → Q (.ref l.p) s2.H) : tLc (WI X tg iter) g tYes (fun σ H Q => ∀ s0 H0 C cl fp, WE (Blk X scope s0 H0 C cl fp) elt σ H Q) (own.map (·.2)) σ s1.H Q := by
  refine hi s1 k _ fun J s2 k2 W => ?_
  intro D hD
  refine ⟨fun i m H => ∃ (u : S) (pre : List (List α)) (qs : List Addr), u.H = H ∧ m = xs.length - i ∧ Ex s2 u ∧ OwnLL X.K u ⟨D, qs⟩ pre ∧ (∀ a ∈ qs, s2.H a = none) ∧ (∃ suf, mapO f (xs.drop i) = some suf ∧ pre ++ suf = yss), ⟨xs.length, s2.newO D (.lst []) hD, [], [], rfl, rfl, Ex.newO hD, ⟨List.nodup_nil, by simp, (fF hD : s2.F D = none), by simp, upd_same, rfl, fun i q xs a b => by simp at a⟩, by simp, yss, hf, rfl⟩, ?_⟩
  rintro i m H ⟨u, pre, qs, rfl, rfl, ku, n1, n4, suf, h1, h2⟩
  by_cases hi' : i < xs.length
  · right
    have hx : xs[i]? = some xs[i] := List.getElem?_eq_getElem hi'
    obtain ⟨g1, g2⟩ := W.go i u xs[i] ku.f hx
    refine ⟨g1, fun H' => ∃ m', m' < xs.length - i ∧ ∃ (u : S) (pre : List (List α)) (qs : List Addr), u.H = H' ∧ m' = xs.length - (i + 1) ∧ Ex s2 u ∧ OwnLL X.K u ⟨D, qs⟩ pre ∧ (∀ a ∈ qs, s2.H a = none) ∧ (∃ suf, mapO f (xs.drop (i + 1)) = some suf ∧ pre ++ suf = yss), fun H' z => z, fun v H' hy => ?_⟩
    obtain ⟨u', rfl, ku', rv⟩ := g2 v H' hy
    refine T.run u' v xs[i] _ _ rv fun σ2 hB => ⟨hw _ _ _ hB, ?_⟩
    have mem : xs[i] ∈ xs := List.getElem_mem hi'
    have base : Ex s u' := (k.trans k2).trans (ku.trans ku')
    unfold tYes
    dsimp only
    rw [if_pos rfl]
    rw [List.drop_eq_getElem_cons hi'] at h1
    unfold mapO compO at h1
    rw [Option.bind_some, if_pos rfl] at h1
    have hlt : xs.length - (i + 1) < xs.length - i := by omega
    cases hfx : f xs[i] with
    | none => rw [hfx] at h1; cases h1
    | some y =>
      rw [hfx, Option.bind_some] at h1
      cases hr : compO (fun _ => some true) f (xs.drop (i + 1)) with
      | none => rw [hr] at h1; cases h1
      | some suf' =>
        rw [hr] at h1
        cases h1
        intro s0 H0 C cl fp
        refine he xs[i] y u' σ2 mem base hB hfx s0 H0 C cl fp u' (Ex.refl _) _ fun p u4 k4 n5 o4 => ?_
        have k5 : Ex u u4 := ku'.trans k4
        have o5 := n1.ex k5
        have hD4 : u4.H D = some (.lst (qs.map .ref)) := o5.hp
        have hF4 : u4.F D = none := o5.fp
        have hlen : (qs.map V.ref).length < sizeLine := by
          have e1 := n1.len
          have e2 : yss.length = pre.length + (suf'.length + 1) := by rw [← h2, List.length_append, List.length_cons]
          have e3 : qs.length = pre.length := e1
          rw [List.length_map]
          omega
        have pn : ∀ {a : Addr} {o : HO}, u.H a = some o → a ≠ p := fun z e => by
          rw [e] at z
          rw [ku'.h _ _ z] at n5; cases n5
        have nq : p ∉ qs := fun z => by
          obtain ⟨j, hj⟩ := List.mem_iff_getElem?.mp z
          have hl : j < pre.length := by rw [← n1.len]; exact (List.getElem?_eq_some_iff.mp hj).1
          obtain ⟨_, vs, g, _⟩ := n1.row hj (List.getElem?_eq_getElem hl)
          exact pn g rfl
        have nD : D ≠ p := pn n1.hp
        obtain ⟨of, vs4, oh, orp⟩ := o4
        have hput : ∀ a, a ≠ D → (u4.put D (.lst (qs.map .ref ++ [.ref p])) hF4).H a = u4.H a := fun a z => upd_ne z
        refine ⟨_, hD4, hlen, _, hlt, u4.put D (.lst (qs.map .ref ++ [.ref p])) hF4, pre ++ [y], qs ++ [p], rfl, rfl, (ku.trans k5).mu1 (Mx.put hF4) hD, ⟨?_, ?_, hF4, ?_, ?_, ?_, ?_⟩, ?_, suf', hr, by rw [List.append_assoc]; exact h2⟩
        · rw [List.nodup_append]
          exact ⟨n1.nd, by simp, fun a ha b hb => by
            rw [List.mem_singleton] at hb
            subst hb
            exact fun e => nq (e ▸ ha)⟩
        · intro z
          rcases List.mem_append.mp z with z | z
          · exact n1.np z
          · exact nD (List.mem_singleton.mp z)
        · intro a z
          rcases List.mem_append.mp z with z | z
          · exact o5.fq a z
          · rw [List.mem_singleton.mp z]; exact of
        · show upd u4.H D _ D = _
          rw [upd_same, List.map_append]; rfl
        · show (qs ++ [p]).length = _
          rw [List.length_append, List.length_append]
          have e3 : qs.length = pre.length := n1.len
          rw [e3]; rfl
        · intro j r zs ha hb
          have e3 : qs.length = pre.length := n1.len
          by_cases hj : j < qs.length
          · rw [List.getElem?_append_left hj] at ha
            rw [List.getElem?_append_left (by omega)] at hb
            obtain ⟨vs, g1, g2⟩ := o5.c.2 j r zs ha hb
            have : r ≠ D := fun z => n1.np (by rw [← z]; exact List.mem_of_getElem? ha)
            exact ⟨vs, (hput r this).trans g1, g2⟩
          · rw [List.getElem?_append_right (by omega)] at ha hb
            have hj2 : j - qs.length = 0 := by
              have := (List.getElem?_eq_some_iff.mp ha).1
              simp at this; omega
            rw [hj2] at ha
            rw [← e3, hj2] at hb
            cases ha; cases hb
            exact ⟨vs4, (hput p (Ne.symm nD)).trans oh, orp⟩
        · intro a z
          rcases List.mem_append.mp z with z | z
          · exact n4 a z
          · rw [List.mem_singleton.mp z]
            exact fr_back (ku.trans ku') n5
  · left
    have hd : xs.drop i = [] := List.drop_eq_nil_of_le (by omega)
    rw [hd] at h1
    cases h1
    rw [List.append_nil] at h2
    subst h2
    exact ⟨W.stop i u ku.f (by omega), q ⟨D, qs⟩ u (k2.trans ku) (fr_back k2 hD) (fun a z => fr_back k2 (n4 a z)) n1⟩
structure EvLL (X : Cx) (elt tg iter : Expr) (ifs : List Expr) (scope : Scope) (σ : St) (s : S) (yss : List (List α)) : Prop where
  calm : X.calm = true
  nd : X.N.Nodup
  fs : ∀ x, foldedSetIterable iter X.env x = pure x
  ex : ∃ (own : List (Str × Nat)) (g : TG) (tt : TT), BlkOk X.N X.env.scope scope own ∧ (∀ s0 H0 C cl fp, PG (Blk X scope s0 H0 C cl fp) tg g) ∧ (∀ s0 H0 C cl fp, PTs (Blk X scope s0 H0 C cl fp) ifs tt) ∧
    ∀ s1, Ex s s1 → ∀ Q : VK, (∀ (l : LL) s2, Ex s1 s2 → s1.H l.p = none → (∀ a ∈ l.q, s1.H a = none) → OwnLL X.K s2 l yss → Q (.ref l.p) s2.H) → tLc (WI X tg iter) g tt (fun σ H Q => ∀ s0 H0 C cl fp, WE (Blk X scope s0 H0 C cl fp) elt σ H Q) (own.map (·.2)) σ s1.H Q
theorem en_compLL {xs : List τ} {f : τ → Option (List α)} {j : Nat} {n : Str} {py : Pos} (hc : X.calm = true) (hN : X.N.Nodup) (hi : EvI X (.Name n py) iter σ s xs) (ok : BlkOk X.N X.env.scope scope own) (hj : X.N[j]? = some n)
    (hjo : j ∈ own.map (·.2)) (hg : ∀ s0 H0 C cl fp, PG (Blk X scope s0 H0 C cl fp) (.Name n py) (gName j)) (hf : mapO f xs = some yss) (hz : yss.length ≤ sizeLine)
    (he : ∀ (x : τ) (y : List α) (v : V) (s1 : S), x ∈ xs → Ex s s1 → rep X.K s1.F v x → f x = some y → ∀ s0 H0 C cl fp, EvN (Blk X scope s0 H0 C cl fp) elt ((wipe σ (own.map (·.2))).set j (some v)) s1 y)
    (hs : ∀ x, foldedSetIterable iter X.env x = pure x := by intro _; rfl) : EvLL X elt (.Name n py) iter [] scope σ s yss :=
  ⟨hc, hN, hs, own, _, _, ok, hg, fun _ _ _ _ _ => pts_nil, fun s1 k Q q => comp_readLL hi tg_n hf hz (fun F x σ2 ⟨v, _, e⟩ => by rw [e, wipe_set hjo]; exact wipe_wipe fun _ z => z)
    (fun x y s1 σ2 hx k ⟨v, r, e⟩ hfx => by subst e; exact he x y v s1 hx k r hfx) s1 k Q q⟩
theorem eg_LL (h : EvLL X elt tg iter ifs scope σ s yss) : EvG X (.ListComp elt [⟨tg, iter, ifs, 0⟩] scope pos) σ s (fun v L' => ∃ l : LL, v = .ref l.p ∧ L' = [oll l yss]) := fun s1 k Q q => by
  obtain ⟨own, g, tt, h1, h2, h3, h4⟩ := h.ex
  exact we_of (pe_lc h.calm h.nd pi_wi h1 h2 h3 (fun s0 H0 C cl fp => pe_im fun _ _ _ h => h s0 H0 C cl fp) h.fs) (h4 s1 k Q fun l s2 k2 n1 n2 o => q _ s2 _ ⟨l, rfl, rfl⟩ (iv_ll k2 n1 n2 o))
theorem do_setLL (i : Nat) {n : Str} {py : Pos} {spos : Pos} (h : EvLL X elt tg iter ifs scope σ s yss) (k : ∀ v s1 L', (∃ l : LL, v = V.ref l.p ∧ L' = [oll l yss]) → Iv X.K No s s1 L' → WSs X rest D (σ.set i (some v)) s1.H) (hk : X.env.scope.kind = .function) (hy : X.env.scope.names.lookup n = some .local)
    (hl : (py.line == pos.line) = true := by rfl) (ha : (scope.names.any fun (m, k) => m == n && (k == .local || k == .cell)) = false := by decide +kernel) (hi : X.N[i]? = some n := by rfl) :
    WSs X (.Assign [.Name n py] (.ListComp elt [⟨tg, iter, ifs, 0⟩] scope pos) spos :: rest) D σ s.H := by
  obtain ⟨own, g, tt, h1, h2, h3, h4⟩ := h.ex
  exact ws_of (pss_cons (ps_setLc (te := fun σ H Q => ∀ s0 H0 C cl fp, WE (Blk X scope s0 H0 C cl fp) elt σ H Q) h.calm h.nd hi hy (sw_true hk hy hl ha) pi_wi h1 h2 h3 (fun s0 H0 C cl fp => pe_im fun _ _ _ h => h s0 H0 C cl fp) h.fs) pss_ws) (h4 s (Ex.refl _) (fun x H1 => WSs X rest D (σ.set i (some x)) H1) fun l s2 k2 n1 n2 o => k _ s2 _ ⟨l, rfl, rfl⟩ (iv_ll k2 n1 n2 o))
end
end Dy

namespace Dy
open PySem PySem.Spec L2
open PyProof.Rows hiding St
open Enc (rep)
open EncA (repA)
instance : Flat (Option Bool) := ⟨fun x => match x with | none => .non | some i => .bl i, fun {K F v x} => by cases x <;> exact Iff.rfl, fun x => by cases x <;> rfl, fun x y => by
  cases x with
  | none => cases y with
    | none => exact ⟨fun _ => rfl, fun _ => rfl⟩
    | some b => cases b <;> exact ⟨fun h => (by cases h), fun h => (by cases h)⟩
  | some a => cases y with
    | none => cases a <;> exact ⟨fun h => (by cases h), fun h => (by cases h)⟩
    | some b => cases a <;> cases b <;> first | exact ⟨fun _ => rfl, fun _ => rfl⟩ | exact ⟨fun h => (by cases h), fun h => (by cases h)⟩⟩
section
variable {α β : Type} [Enc α] [Enc β] {X : Cx} {σ : L2.St} {s : S} {a b : Expr} {px py pt pos : Pos} {rest : List Stmt} {D : Ends}
theorem do_par2 (i j : Nat) {n m : Str} {x : α} {y : β} {kt k2 pt2} (h : EvA X [a, b] σ s (x, y, ())) (hN : X.N.Nodup) (hij : i ≠ j) (k : ∀ v w s1, Ex s s1 → rep X.K s1.F v x → rep X.K s1.F w y → WSs X rest D ((σ.set i (some v)).set j (some w)) s1.H)
    (hc : X.calm = true := by rfl) (hi : X.N[i]? = some n := by rfl) (hj : X.N[j]? = some m := by rfl) (hx : X.env.scope.names.lookup n = some .local := by rfl) (hy : X.env.scope.names.lookup m = some .local := by rfl)
    (hw : swappedStores [.Tuple [.Name n px, .Name m py] kt pt] (.Tuple [a, b] k2 pt2) X.env = pure (some [n, m]) := by rfl)
    (hs : swapsWithSole [.Tuple [.Name n px, .Name m py] kt pt] (.Tuple [a, b] k2 pt2) pos.line X.env = pure false := by rfl) :
    WSs X (.Assign [.Tuple [.Name n px, .Name m py] kt pt] (.Tuple [a, b] k2 pt2) pos :: rest) D σ s.H :=
  do_cons (ps_par hc hN hi hj hij hx hy pa_wa hw hs) (h s (Ex.refl _) _ fun vs s1 k1 r => by
    obtain ⟨v, _, rfl, r1, w, _, rfl, r2, rfl⟩ := r
    exact ⟨v, w, rfl, k v w s1 k1 r1 r2⟩)
end
end Dy

namespace Dy
open PySem PySem.Spec L2 PyProof.Rows

def ddS (xs : List Str) : List Str := xs.foldl (fun m x => if x ∈ m then m else m ++ [x]) []
theorem ddS_snoc (xs : List Str) (x : Str) : ddS (xs ++ [x]) = if x ∈ ddS xs then ddS xs else ddS xs ++ [x] := by
  unfold ddS
  rw [List.foldl_append]; rfl
theorem ddS_inv (xs : List Str) : (∀ x, x ∈ ddS xs ↔ x ∈ xs) ∧ (ddS xs).length ≤ xs.length ∧ ((ddS xs).length = xs.length ↔ xs.Nodup) := by
  obtain ⟨n, hn⟩ : ∃ n, n = xs.length := ⟨_, rfl⟩
  induction n generalizing xs with
  | zero =>
    obtain rfl := List.length_eq_zero_iff.mp hn.symm
    simp [ddS]
  | succ n ih =>
    obtain ⟨ys, y, rfl⟩ : ∃ ys y, xs = ys ++ [y] := ⟨xs.dropLast, xs.getLast (fun z => by rw [z] at hn; cases hn), (List.dropLast_concat_getLast _).symm⟩
    rw [List.length_append, List.length_singleton] at hn
    obtain ⟨h1, h2, h3⟩ := ih ys (by omega)
    rw [ddS_snoc]
    by_cases hm : y ∈ ddS ys
    · rw [if_pos hm]
      refine ⟨fun x => ?_, by rw [List.length_append]; omega, fun e => ?_, fun e => ?_⟩
      · rw [List.mem_append, List.mem_singleton, h1]
        exact ⟨.inl, fun z => z.elim id fun z => by rw [z]; exact (h1 y).mp hm⟩
      · rw [List.length_append, List.length_singleton] at e; omega
      · exact absurd rfl ((List.nodup_append.mp e).2.2 y ((h1 y).mp hm) y (List.mem_singleton.mpr rfl))
    · rw [if_neg hm]
      refine ⟨fun x => by rw [List.mem_append, List.mem_append, h1], by rw [List.length_append, List.length_append]; exact Nat.add_le_add_right h2 _, fun e => ?_, fun e => ?_⟩
      · rw [List.length_append, List.length_append] at e
        refine List.nodup_append.mpr ⟨h3.mp (Nat.add_right_cancel e), by simp, fun a ha b hb z => ?_⟩
        rw [List.mem_singleton.mp hb] at z
        exact hm ((h1 y).mpr (z ▸ ha))
      · rw [List.length_append, List.length_append, h3.mpr (List.nodup_append.mp e).1]
section
variable {prog : Program} {w : World} {A : Around} {R : Result → Shared → Prop} {it : Addr} {fp wr : List Addr} {G : Array GenState → Array GenState → Prop} {n : Nat} {P : Nat → Value → Prop} {St : Nat → Shared → Prop}
theorem loopD (W : WalksS prog w A.in1 it fp wr G n P St) (D : Addr) (hD : D ∉ fp) (xs : List Str) (hn : xs.length = n) (hb : n + 1 < scanBound) (hv : ∀ i v, P i v → ∃ t, v = .str (xs.getD i Str.empty) t) : ∀ (d i : Nat) (s : Shared), i + d = n → St i s →
    s.heap.SetOf (PySem.strKind prog w) D (fun y => decide (y ∈ ddS (xs.take i))) (ddS (xs.take i)).length →
    (∀ t, Moved (D :: wr) G s t → t.heap.SetOf (PySem.strKind prog w) D (fun y => decide (y ∈ ddS xs)) (ddS xs).length → R (.ok (.ret .none)) t) → codeAny (model prog w) A (.builtin "set.update.loop" ⟨[.ref D, .ref it], []⟩) R s := by
  have nw : D ∉ wr := fun z => hD (W.sub _ z)
  have up : ∀ b ∈ wr, b ∈ D :: wr := fun b z => List.mem_cons_of_mem _ z
  have mv : ∀ {s t : Shared} {f : Str → Bool} {m : Nat}, Moved wr G s t → s.heap.SetOf (PySem.strKind prog w) D f m → t.heap.SetOf (PySem.strKind prog w) D f m := fun {s t f m} k ⟨o, es, ep, tb, h1, h2⟩ => ⟨o, es, ep, tb, k.heap D _ nw h1, h2⟩
  intro d
  induction d with
  | zero =>
    intro i s e hst hS hR; obtain rfl : i = n := by omega
    refine codeAny_builtin PyProof.Rows.F.entry_set_update_loop ?_; rw [Around.under_plainId PyProof.Rows.F.plain_set_update_loop _]
    show wpAny _ A.in1 (pyNext (.ref it) >>= _) _ _ s
    refine wpAny_bind (W.done s _ _ hst fun t k => ?_); show wpAny _ A.in1 (ret Value.none) _ _ t
    have := mv k hS
    rw [List.take_of_length_le (by omega)] at this
    exact wpAny_pure (hR t (k.mono up) this)
  | succ d ih =>
    intro i s e hst hS hR; have lt : i < n := by omega
    refine codeAny_builtin PyProof.Rows.F.entry_set_update_loop ?_; rw [Around.under_plainId PyProof.Rows.F.plain_set_update_loop _]
    show wpAny _ A.in1 (pyNext (.ref it) >>= _) _ _ s
    refine wpAny_bind (W.item i s _ _ lt hst fun v t hP st' k => ?_); obtain ⟨tk, rfl⟩ := hv i v hP
    have hT := mv k hS
    have hl := (ddS_inv (xs.take i)).2.1
    rw [List.length_take] at hl
    show wpAny _ A.in1 (holding [Value.str (xs.getD i Str.empty) tk] (setAdd D (.str (xs.getD i Str.empty) tk)) >>= _) _ _ t
    refine wpAny_bind (wpAny_holding ?_); unfold setAdd
    refine wpAny_holding (wpAny_bind ((PySem.strKind prog w).pyHash (k := xs.getD i Str.empty) (strKind_is _ _ _ _) ?_))
    refine wpAny_setAddHashed_of (knd := PySem.strKind prog w) (s := { t with toks := t.toks + 1 }) (strKind_is _ _ _ _) rfl hT (by omega) fun h' sb hU => ?_
    have hx : xs[i]? = some (xs.getD i Str.empty) := by rw [List.getD_eq_getElem?_getD, List.getElem?_eq_getElem (by omega)]; rfl
    have e2 : xs.take (i + 1) = xs.take i ++ [xs.getD i Str.empty] := by rw [List.take_add_one, hx]; rfl
    generalize xs.getD i Str.empty = x at *
    have hN : h'.SetOf (PySem.strKind prog w) D (fun y => decide (y ∈ ddS (xs.take (i + 1)))) (ddS (xs.take (i + 1))).length := by
      rw [e2, ddS_snoc]
      refine SetOf_congr hU (fun y => ?_) ?_
      · by_cases hm : x ∈ ddS (xs.take i)
        · rw [if_pos hm]
          by_cases ey : y = x
          · rw [ey, decide_eq_true hm]; rfl
          · rw [decide_eq_false ey, Bool.or_false]
        · rw [if_neg hm, Bool.eq_iff_iff, Bool.or_eq_true, decide_eq_true_iff, decide_eq_true_iff, decide_eq_true_iff, List.mem_append, List.mem_singleton]
      · by_cases hm : x ∈ ddS (xs.take i)
        · rw [if_pos hm, if_pos (decide_eq_true hm)]
        · rw [if_neg hm, if_neg (by rw [decide_eq_true_iff]; exact hm), List.length_append]; rfl
    refine wpAny_pure ⟨plainId_quiet PyProof.Rows.F.plain_set_update_loop _, ih (i + 1) _ (by omega) (W.frame _ t _ _ st' (Nat.le_succ _) fun b z o q => (sb.2 b (fun u : b = D => hD (by rw [← u]; exact z))).trans q) hN fun u ku hu => ?_⟩
    exact hR u (Moved.trans W.gtrans ((k.mono up).then_heap (Nat.le_succ _) fun b o z q => (sb.2 b (fun u : b = D => z (by rw [u]; exact List.mem_cons_self))).trans q) ku) hu
end
section
variable {prog : Program} {w : World} {A : Around} {E : Value → Shared → Prop} {s : Shared}
set_option maxHeartbeats 4000000 in
theorem call_setD {l : Addr} {its : Array Value} {xs : List Str} {Q : Value → Shared → Prop} (hh : A.handled = none) (hl : s.heap.IsList l its) (hi : StrsAre its.toList xs) (hb : xs.length + 1 < scanBound)
    (q : ∀ (h' : Heap) (tk : Nat), h'.SetOf (PySem.strKind prog w) s.heap.objs.size (fun y => decide (y ∈ ddS xs)) (ddS xs).length → (∀ b o, b < s.heap.objs.size → s.heap.get? b = some o → h'.get? b = some o) → Q (.ref s.heap.objs.size) { s with heap := h', toks := tk }) : wpAny (model prog w) A (call (.type "set") [.ref l]) Q E s := by
  obtain ⟨c0, tl0, mro⟩ := PySem.F.called_set.mro; have made := PySem.F.called_set.made; have sub := PySem.F.called_set.sub
  refine wpAny_call (codeAny_of_tree ?_); show wpAny _ _ (callAny (.type "set") _) _ _ _
  refine wpAny_pure ⟨Code.quiet_builtin _ (by decide +kernel), codeAny_builtin PySem.F.entry_type_call ?_⟩; rw [Around.under_plain (weight_type_call_type "set" [.ref l] []) rfl]
  have k1 := PySem.F.called_set.notType; have k2 := PySem.F.called_set.canCreate; have k3 := PySem.F.typeCall_set_1 (.ref l)
  repeat (any_goals (first | assumption | wp_step))
  refine codeAny_mono (code_set_new_1 (.ref l) (E := E) (Q₁ := fun ob t => ∃ led : Bool, ob = .ref s.heap.objs.size ∧ t = { s with heap := s.heap.push { cls := .type "set", dict := none, data := .set #[] 0 (.fresh 0 0 led) } }) fun led => ⟨led, rfl, rfl⟩) fun r t hr => ?_
  rcases r with e | fl
  · exact hr
  cases fl with
  | ret ob =>
    obtain ⟨led, rfl, rfl⟩ := hr
    obtain ⟨so, hso⟩ : ∃ so : Obj, so = { cls := .type "set", dict := none, data := .set #[] 0 (.fresh 0 0 led) } := ⟨_, rfl⟩
    rw [← hso]
    have gS : (s.heap.push so).get? s.heap.objs.size = some so := Heap.get?_push_size _ (by rw [hso]; rfl)
    have gT : Shared.TypeIs { s with heap := s.heap.push so } (.ref s.heap.objs.size) "set" := ⟨_, gS, by rw [hso]⟩
    have k4 := PySem.F.called_set.init.lookup; have k5 := PySem.F.called_set.init.bind (.ref s.heap.objs.size)
    repeat (any_goals (first | assumption | wp_step))
    refine codeAny_mono (codeAny_call_builtin (R := wants (fun r u => r = .none ∧ ∃ h' tk, u = { s with heap := h', toks := tk } ∧ h'.SetOf (PySem.strKind prog w) s.heap.objs.size (fun y => decide (y ∈ ddS xs)) (ddS xs).length ∧ (∀ b o, b < s.heap.objs.size → s.heap.get? b = some o → h'.get? b = some o)) E) PySem.F.called_set.init.plain PySem.F.entry_set_init (check_set_init_1 gT ?_)) fun r2 u hu => ?_
    · obtain ⟨⟨c1, c2, c3, c4⟩, hol, hcl, nl, hdl⟩ := hl
      simp only at hcl hdl; subst hcl; subst hdl
      have hol2 := Heap.get?_push_of_some so hol
      have hsls := PySem.F.sub_list_set; have hslf := PySem.F.sub_list_frozenset; have hne : (Value.type "list" == Value.type "dict") = false := by decide
      have hl1 : (s.heap.push so).IsList l its := ⟨_, hol2, rfl, nl, rfl⟩
      have ll : l < s.heap.objs.size := Heap.lt_size hol
      unfold Builtin.«set.__init__» noKeywords Builtin.Frozenset.updateFrom
      subst hso
      generalize hPI : pyIter = PI; wp_walk; subst hPI
      refine wpAny_pyIter_list hl1 ?_; refine wpAny_bind (wpAny_runValue ?_)
      have hh3 : A.in1.in1.in1.handled = none := by simp [hh]
      have n1 : l ≠ s.heap.objs.size + 1 := Nat.ne_of_lt (Nat.lt_succ_of_lt ll)
      have n2 : s.heap.objs.size ∉ [s.heap.objs.size + 1, l] := fun z => (List.mem_cons.mp z).elim (fun z => absurd z (Nat.ne_of_lt (Nat.lt_succ_self _))) fun z => absurd (List.mem_singleton.mp z) (Nat.ne_of_gt ll)
      have hz : xs.length = its.size := by rw [← StrsAre.len_eq hi, Array.length_toList]
      rw [← Heap.size_push] at n1 n2
      refine loopD ((Walks.list hh3 _ l n1 its).toS) s.heap.objs.size n2 xs hz (by omega) (fun i v hv => SS.strs_at hi i v (by rw [Array.getElem?_toList]; exact hv)) its.size 0 _ (by omega) ⟨⟨_, Heap.get?_push_size _ rfl, rfl, rfl⟩, (hl1.push _)⟩ ?h0 ?h1
      case h0 =>
        refine PyProof.Rows.SetOf_congr ((PyProof.Rows.setObjOf_fresh (knd := PySem.strKind prog w) led).setOf (Heap.get?_push_of_some _ gS) (by unfold scanBound; omega)) (fun y => ?_) rfl
        rw [List.take_zero]; rfl
      case h1 =>
        rintro ⟨h', g', d', tk', os'⟩ hm hS'
        obtain rfl : g' = s.gens := hm.gens
        obtain rfl : d' = s.drawn := hm.drawn
        obtain rfl : os' = s.os := hm.os
        show wpAny _ _ _ _ _ _
        refine wpAny_pure ?_; show wpAny _ _ (ret Value.none) _ _ _
        refine wpAny_pure ⟨rfl, h', tk', rfl, hS', fun b o lb eb => hm.heap b o ?_ (Heap.get?_push_of_some _ (Heap.get?_push_of_some _ eb))⟩
        exact fun z => (List.mem_cons.mp z).elim (fun z => absurd z (Nat.ne_of_lt lb)) fun z => absurd ((List.mem_singleton.mp z).trans (Heap.size_push _ _)) (Nat.ne_of_lt (Nat.lt_succ_of_lt lb))
    · rcases r2 with e | fl2
      · exact hu
      cases fl2 with
      | ret r =>
        obtain ⟨rfl, h', tk, rfl, hS', hk'⟩ := hu
        repeat (any_goals (first | assumption | wp_step))
        exact q _ _ hS' hk'
      | _ => exact hu.elim
  | _ => exact hr.elim
end
section
variable {X : Cx} {a : Expr} {ta : TE} {p p2 q pos : Pos}
def tDszS (K : PySem.W.Frag) (ta : TE) : TE := fun σ H Q => ta σ H fun x H1 => ∃ (l : Addr) (xs : List Str), x = .ref l ∧ SqL K H1 l (xs.map V.str) ∧ xs.length ≤ 4000 ∧ Q (.int (ddS xs).length) H1
theorem pe_dszS (hg : Gl X "len") (hm : X.mg "len" = none) (hg2 : Gl X "set") (hm2 : X.mg "set" = none) (ha : PE X a ta) (hc : X.calm = true := by rfl)
    (na : starEach [a] X.env = (false, eval a X.env) :: starEach [] X.env := by rfl) : PE X (.Call (.Name "len" p) [.Call (.Name "set" p2) [a] [] q] [] pos) (tDszS X.K ta) := by
  refine ⟨fun pins s σ H Q I h => ?_⟩
  refine Call_ (ld_blt I hg hm boot_len (PyProof.Rows.callWith_builtin1 (PyProof.Rows.args_cons (Call_ (ld_blt I hg2 hm2 boot_set (PyProof.Rows.callWith_type1 (PyProof.Rows.args_cons (thn (ha.run pins s σ H _ I h) fun v s1 ⟨x, H1, I1, r1, l, xs, e, hq, hl, q1⟩ => PyProof.Rows.args_nil ?_) na) na rfl))) rfl) rfl rfl))
  subst e; cases r1
  obtain ⟨its, r, pl, hz⟩ := I1.list hq
  refine call_setD (I1.ok.hd hc) pl.isList (by simpa using strsAre_of r) (by unfold scanBound; omega) fun h' tk hS hk => PyProof.Rows.args_nil ?_
  obtain ⟨o, es, ep, t, ho, hex, hd, _, _, _, hf, hn⟩ := hS
  have I2 : Inv X pins σ H1 { s1 with heap := h', toks := tk } := I1.kept fun b o e => hk b o (Heap.lt_size e) e
  have := (ddS_inv xs).2.1
  exact call_len_set ho hex hd hf (by rw [hn] <;> omega) ⟨.int (ddS xs).length, H1, I2.tok _, ⟨_, by rw [hn]⟩, q1⟩
variable {σ : L2.St} {s : S}
theorem ev_dszS {xs : List Str} (hm : X.mg "len" = none) (hm2 : X.mg "set" = none) (ha : EvR X a σ s xs) (hz : xs.length ≤ 4000) (hc : X.calm = true := by rfl) (hg : Gl X "len" := by rfl) (hg2 : Gl X "set" := by rfl) (na : starEach [a] X.env = (false, eval a X.env) :: starEach [] X.env := by rfl) :
    Ev X (.Call (.Name "len" p) [.Call (.Name "set" p2) [a] [] q] [] pos) σ s (((ddS xs).length : Nat) : Int) := fun s1 k Q qq =>
  we_of (pe_dszS hg hm hg2 hm2 pe_we hc na) (ha s1 k _ fun v s2 k2 r2 => by
    obtain ⟨p, vs, rfl, h1, h2⟩ := r2
    obtain rfl := h2.flat
    exact ⟨p, xs, rfl, h1, hz, qq _ s2 k2 rfl⟩)
end
end Dy

namespace Dy
open PySem PySem.Spec L2
open PyProof.Rows hiding St
open Enc (rep)
open EncA (repA)
theorem EvG.evLL {α : Type} [Enc α] {X : Cx} {e : Expr} {σ : L2.St} {s : S} {ok : V → List OA → Prop} {xss : List (List α)} (h : EvG X e σ s ok) (hok : ∀ v L', ok v L' → ∃ w : LL, v = .ref w.p ∧ L' = [oll w xss]) : Ev X e σ s xss := fun s1 k Q q => h s1 k Q fun v s2 L' z iv => by
  obtain ⟨w, rfl, rfl⟩ := hok v L' z
  obtain ⟨s', h1, h2, h3⟩ := iv.frzLL 0 rfl
  have := q _ s' (Iv.exx h3) (Iv.fz (x := xss) h3 0)
  rw [h1] at this
  exact this
def WSt (X : Cx) (st : Stmt) : TS := fun D σ H => Hold (∀ (pins : List (Addr × Obj)) (s : Shared), Inv X pins σ H s → wpAny (model X.prog X.w) X.A (exec st X.env) (SP X pins D) X.xe s)
theorem ps_wst {X : Cx} {st : Stmt} : PS X st (WSt X st) := ⟨fun pins s _ _ _ I h => Hold.run h pins s I⟩
theorem wst_of {X : Cx} {st : Stmt} {t : TS} {D : Ends} {σ : L2.St} {H : Hp} (h : PS X st t) (q : t D σ H) : WSt X st D σ H := Hold.mk fun pins s I => h.run pins s σ H D I q
section
variable {α β κ : Type} [Enc α] [Enc β] [DKey κ] [DecidableEq κ] {X : Cx} {σ : L2.St} {P0 : Addr → Prop} {s0 s : S} {L : List OA} {elt tg iter : Expr} {ifs : List Expr} {scope : Scope} {pos : Pos} {p : Addr}
theorem do_setLK (j : Nat) {ys : List β} {n : Str} {py : Pos} {rest : List Stmt} {D : Ends} {spos : Pos} {xs : List (κ × α)} (iv : Iv X.K P0 s0 s L) (i : Nat) (hA : L[i]? = some (Dy.od p xs))
    (h : ∀ (ob : Obj) (kv : List (Key × V)) (s1 : S), Iv X.K P0 s0 s1 (L.set i (Dy.odl p ob kv xs)) → EvL X elt tg iter ifs scope σ s1 ys) (k : ∀ p s1, Ex s s1 → s.H p = none → Own X.K s1 p ys → WSs X rest D (σ.set j (some (.ref p))) s1.H)
    (hk : X.env.scope.kind = .function) (hy : X.env.scope.names.lookup n = some .local)
    (hl : (py.line == pos.line) = true := by rfl) (ha : (scope.names.any fun (m, k) => m == n && (k == .local || k == .cell)) = false := by decide +kernel) (hi : X.N[j]? = some n := by rfl) :
    WSs X (.Assign [.Name n py] (.ListComp elt [⟨tg, iter, ifs, 0⟩] scope pos) spos :: rest) D σ s.H := by
  obtain ⟨hf, kv, h1, h2⟩ := iv.od i hA
  refine do_cons (ps_lock ps_wst) ⟨p, .dK kv, h1, trivial, fun ob => ?_⟩
  obtain ⟨hf1, kx⟩ := lk_ex (ob := ob) hf h1 (Ex.refl s)
  have hv := h ob kv (s.put p (.frz ob (.dK kv)) hf) (iv.lock i ob hA hf h1 h2)
  obtain ⟨own, g, tt, g1, g2, g3, g4⟩ := hv.ex
  refine wst_of (ps_setLc (te := fun σ H Q => ∀ s0 H0 C cl fp, WE (Blk X scope s0 H0 C cl fp) elt σ H Q) hv.calm hv.nd hi hy (sw_true hk hy hl ha) pi_wi g1 g2 g3 (fun s0 H0 C cl fp => pe_im fun _ _ _ h => h s0 H0 C cl fp) hv.fs)
    (g4 _ kx (fun x H1 => H1 p = some (.frz ob (.dK kv)) ∧ WSs X rest D (σ.set j (some x)) (upd H1 p (.dK kv))) fun p2 s2 k2 n2 o2 => ?_)
  obtain ⟨hf2, e1, k3⟩ := lk_back hf1 h1 k2
  refine ⟨e1, ?_⟩
  have ne : p2 ≠ p := fun z => by
    have : upd s.H p (.frz ob (.dK kv)) p2 = none := n2
    rw [z, upd_same] at this; cases this
  have n2' : s.H p2 = none := by
    have : upd s.H p (.frz ob (.dK kv)) p2 = none := n2
    rw [upd_ne ne] at this; exact this
  obtain ⟨o1, vs, o3, o4⟩ := o2
  exact k p2 (s2.put p (.dK kv) hf2) k3 n2' ⟨o1, vs, (upd_ne ne).trans o3, o4⟩
end
end Dy

namespace Dy
open PySem PySem.Spec L2
open PyProof.Rows hiding St
open Enc (rep)
open EncA (repA)
theorem ev_upperS {X : Cx} {a : Expr} {σ : L2.St} {s : S} {x : Str} {p1 pos : Pos} (ha : Ev X a σ s x) (h : x.length ≤ 5592405) (hbase : attributeBase a "upper" X.env (eval a X.env) = eval a X.env := by rfl) (hline : (p1.endLine == pos.line) = true := by rfl) :
    Ev X (.Call (.Attribute a "upper" p1) [] [] pos) σ s (Txt.upper x) := fun s1 k Q q =>
  we_of (pe_upper pe_we hbase hline) (ha s1 k _ fun v s2 k2 r2 => ⟨⟨x, r2⟩, x, r2, rfl, h, q _ s2 k2 rfl⟩)
section
variable {X : Cx} {σ : L2.St} {s : S} {D : Ends} {rest A B : List Stmt} {a b : Expr} {pos p2 : Pos}
theorem do_ifNotX (h : EvX X a σ s) : WSs X (.If (.Compare a [.IsNot] [b] p2) A B pos :: rest) D σ s.H :=
  do_cons (ps_if (pt_cmpR op_notBl pe_we pe_we (nomark _)) pss_ws pss_ws) (h s (Ex.refl _) _)
end
section
variable {X : Cx} {σ : St} {s : S} {D : Ends} {rest : List Stmt} {W : WX} {e : Expr}
theorem do_raiseS {c f : Str} {fd : FuncData} {ps : List Str} {k j : Nat} {i : Str} {p pos pos' : Pos} (T : PayF X.K c f) (gC : X.mg c = some (.ref (He.ga X.K c))) (F1 : FnOk X.prog X.w X.K X.mg X.base CX0 k (He.fAd X.K (c, some "__init__")) fd ps (spInit X.K f)) (hb : Binds X.K fd ps [])
    (tk : Takes X W) (hr : Room j X.A) (hk : k + 1 ≤ j) (ha : Ev X e σ s i) (h : ∀ d s1, Ex s s1 → s1.F d = some (.xd [(f, V.str i)]) → W (.ref (He.ga X.K c)) (some d) σ s1.H)
    (hc : X.calm = true := by rfl) (hg : Gl X c := by rfl) (hdb : (c == ("__debug__" : Str)) = false := by decide) (he : starEach [e] X.env = (false, eval e X.env) :: starEach [] X.env := by rfl) (hpl : (backTo pos (starEach [] X.env)).any (·.1) = false := by rfl) :
    WSs X (.Raise (some (.Call (.Name c p) [e] [] pos)) none pos' :: rest) D σ s.H :=
  do_cons (ps_raise hc tk (pmk_oex T.o T.i T.t F1 (hr.mono hk) hb .nil pass0 hg gC (pa_cons pe_we pa_nil he) hdb he hpl)) (ha s (Ex.refl _) _ fun v s2 k2 r2 => by
    obtain rfl : v = V.str i := r2
    refine ⟨by simp, fun a hna => ⟨a, He.ga X.K c, V.str i, rfl, upd_same, T.o, T.n, fun dx h1 h2 => ?_⟩⟩
    have hdx : s2.H dx = none := by rw [upd_ne h2] at h1; exact h1
    refine ⟨rfl, dx, _, upd_same, by rw [upd_ne h2, upd_same], hdx, ?_⟩
    have eH : upd (del (upd (upd (upd s2.H a (exo a (He.ga X.K c) none)) dx (exd dx [(f, V.str i)])) a (exo a (He.ga X.K c) (some dx))) a) dx (.xd [(f, V.str i)]) = (s2.newF dx (.xd [(f, V.str i)]) hdx).H := by
      funext b
      show _ = upd s2.H dx (.xd [(f, V.str i)]) b
      by_cases hb1 : b = dx
      · subst hb1; rw [upd_same, upd_same]
      · rw [upd_ne hb1, upd_ne hb1]
        by_cases hb2 : b = a
        · subst hb2; rw [del_same, hna]
        · rw [del_ne hb2, upd_ne hb2, upd_ne hb1, upd_ne hb2]
    rw [eH]
    exact h dx _ (k2.trans (Ex.newF hdx)) upd_same)
end
end Dy

namespace Dy
open PySem PySem.Spec L2
open PyProof.Rows hiding St
open Enc (rep)
open EncA (repA)
section
variable {X : Cx} {CX : CXT} {k j : Nat} {o : Expr} {apos pos : Pos} {σ : L2.St} {s : S} {m : Str} {A O : Type} {pre : List V → A → List OA → List OA → Prop} {mm : A → Option O} {ok : List V → A → O → V → List OA → Prop} {er : List V → A → O → Er → List OA → Prop} {x : A} {o' : O} {okv ok' : V → List OA → Prop}
theorem eg_newMeth0 {E : L2.St → XK} {c : Str} (h : EvG X o σ s okv) (C : CalM X.prog X.w X.K X.mg X.base CX k c m (spI X.K pre mm ok er)) (hc : Cls X.K (He.ga X.K c)) (hx : ∀ σ, PassesAt CX X σ (E σ)) (hr : Room j X.A) (hk : k ≤ j)
    (hv : ∀ v Lr, okv v Lr → ∃ (p : Addr) (fs : List (Str × V)) (rs : List (Nat ⊕ Nat)), v = .ref p ∧ Lr[0]? = some (cell p c fs) ∧ fs.lookup m = none ∧ pre [.ref p] x [] (rsel Lr [] rs) ∧ (∀ v L', ok [.ref p] x o' v L' → ok' v L') ∧ (∀ e L', er [.ref p] x o' e L' → False)) (hm : mm x = some o')
    {pl : Sem Bool} (ht : eval (.Call (.Attribute o m apos) [] [] pos) X.env = (do
      let ov ← eval o X.env
      standAt apos.atName
      let (f, first) ← holding [ov] (getMethod ov m pl)
      callWith pos f first (backTo pos (starEach [] X.env)) (backToKw pos (keywordEach [] X.env))) := by rfl) : EvG X (.Call (.Attribute o m apos) [] [] pos) σ s ok' := fun s1 k1 Q q => by
  obtain ⟨f, fd, ps, F, hmm, b⟩ := C.ex
  refine we_of (pe_methX0 (E := E) (pl := pl) pe_we hc hmm F (hr.mono hk) b hx ht) (h s1 k1 _ fun v s2 Lr z iv => ?_)
  obtain ⟨p, fs, rs, rfl, e0, hl, h1, h3, h4⟩ := hv v Lr z
  obtain ⟨dx, hd⟩ := iv.cell 0 e0
  have k2 : Ex s1 s2 := Iv.exx iv
  refine ⟨p, dx, fs, rfl, hd, hl, ?_⟩
  obtain ⟨P1, g1, g2, g3, g4⟩ := call_in iv (ro0 : Ro X.K No s1 []) [] List.nodup_nil (fun k hk => by cases hk) [] (fun A hA => by cases hA) rs (fun i _ z => by cases z)
  have e0 : P1 = No := by
    funext a
    exact propext ⟨fun z => (g3 rfl a z).elim, fun z => z.elim⟩
  subst e0
  exact ⟨s2, No, [], _, x, o', rfl, h1, g1, g2, hm, fun v s' L' hok iv' => q v s' L' (h3 v L' hok) ⟨k2.z.trans iv'.m, by
    obtain ⟨φ, f1, f2, f3⟩ := iv'.o
    exact ⟨φ, f1, f2, fun i a z => ⟨(f3 i a z).1, (f3 i a z).2.1.elim (fun z => z.elim) (fun z => .inr (fr_back k2 z)), (f3 i a z).2.2⟩⟩⟩, fun e cls d s' L' z _ _ => (h4 e L' z).elim⟩
end
end Dy

namespace Dy
open PySem PySem.Spec L2
open PyProof.Rows hiding St
open Enc (rep)
open EncA (repA)
section
variable {α : Type} [Enc α] {X : Cx} {σ : L2.St} {s : S} {D : Ends} {rest : List Stmt} {o : Expr} {p1 p2 p3 : Pos} {p : Addr}
theorem do_popP {xs : List α} (ho : Ev X o σ s (Rw.mk (.ref p))) (r : Own X.K s p xs) (hne : 0 < xs.length)
    (k : ∀ s1, Mx (· = p) s s1 → Own X.K s1 p xs.dropLast → WSs X rest D σ s1.H)
    (hbase : attributeBase o "pop" X.env (eval o X.env) = eval o X.env := by rfl) (hline : (p1.endLine == p2.line) = true := by rfl)
    (hsw : swapsWith (.Call (.Attribute o "pop" p1) [] [] p2) none p3.line X.env = pure false := by rfl) :
    WSs X (.Expr (.Call (.Attribute o "pop" p1) [] [] p2) p3 :: rest) D σ s.H :=
  do_cons (ps_expr (pe_bm0 PySem.F.plainAttrs_list PySem.F.slot_list_pop PySem.F.type_list_pop mt_pop pe_we hbase hline) hsw) (ho s (Ex.refl _) _ fun w s1 k1 e1 => by
    cases (show w = V.ref p from e1)
    obtain ⟨f1, vs, h2, h3⟩ := r.ex k1
    have hl := h3.len
    have hg : vs[vs.length - 1]? = some (vs[vs.length - 1]'(by omega)) := List.getElem?_eq_getElem _
    refine ⟨.inl ⟨rfl, vs, .inl (.inl h2)⟩, p, vs, _, rfl, rfl, h2, hg, k (s1.put p (.lst vs.dropLast) f1) (k1.mx.trans (Mx.put f1)) ⟨f1, vs.dropLast, upd_same, ?_⟩⟩
    refine reps_of (by rw [List.length_dropLast, List.length_dropLast, hl]) fun i v x a b => ?_
    rw [List.getElem?_dropLast] at a b
    split at a
    · split at b
      · obtain ⟨u, h4, h5⟩ := h3.get b
        rw [a] at h4
        cases h4
        exact h5
      · cases b
    · cases a)
end
end Dy

namespace Dy
open PySem PySem.Spec L2
open PyProof.Rows hiding St
open Enc (rep)
open EncA (repA)
section
variable {X : Cx} {CX : CXT} {k j : Nat} {e : Expr} {es : List Expr} {p0 pos : Pos} {σ : L2.St} {s : S} {n : Str} {A O : Type} {pre : List V → A → List OA → List OA → Prop} {mm : A → Option O} {ok : List V → A → O → V → List OA → Prop} {er : List V → A → O → Er → List OA → Prop} {x : A} {o' : O} {okA : List V → List OA → Prop} {ok' : V → List OA → Prop}
theorem range_getD (L : List OA) : (List.range L.length).map (fun k => L.getD k top) = L := by
  apply List.ext_getElem?
  intro i
  rw [List.getElem?_map]
  by_cases hi : i < L.length
  · rw [List.getElem?_range hi]
    simp [List.getD_eq_getElem?_getD, List.getElem?_eq_getElem hi]
  · rw [List.getElem?_eq_none (by rw [List.length_range]; omega), List.getElem?_eq_none (by omega)]; rfl
theorem eg_callGs {E : L2.St → XK} (C : Cal X.prog X.w X.K X.mg X.base CX k n (spI X.K pre mm ok er)) (hx : ∀ σ, PassesAt CX X σ (E σ)) (hr : Room j X.A) (hk : k ≤ j) (ha : EvGs X (e :: es) σ s okA)
    (hp : ∀ vs L1, okA vs L1 → pre vs x L1 [] ∧ (∀ v L', ok vs x o' v L' → ok' v L') ∧ (∀ e L', er vs x o' e L' → False)) (hm : mm x = some o') (hg : Gl X n := by rfl)
    (hdb : (n == ("__debug__" : Str)) = false := by decide) (he : starEach (e :: es) X.env = (false, eval e X.env) :: starEach es X.env := by rfl) (hpl : (backTo pos (starEach es X.env)).any (·.1) = false := by rfl) :
    ∀ s1, Ex s s1 → ∀ Q : VK, (∀ v s2 s3 L1 L', Iv X.K No s1 s2 L1 → ok' v L' → Iv X.K No s1 s3 (rem L1 (List.range L1.length) ++ L') → Q v s3.H) → WE X (.Call (.Name n p0) (e :: es) [] pos) σ s1.H Q := fun s1 k1 Q q => by
  obtain ⟨f, fd, ps, F, hmm, kp, b⟩ := C.ex
  refine we_of (pe_callS (E := E) F (hr.mono hk) hg hmm kp b hx pa_wa hdb he hpl) (ha s1 k1 _ fun vs s2 L1 z iv => ?_)
  obtain ⟨h1, h3, h4⟩ := hp vs L1 z
  obtain ⟨P1, g1, g2, g3, g4⟩ := call_in iv (ro0 : Ro X.K No s1 []) (List.range L1.length) List.nodup_range (fun k hk => List.mem_range.mp hk) [] (fun A hA => by cases hA) [] (fun i z => by cases z)
  rw [range_getD, List.append_nil] at g1
  exact ⟨s2, P1, L1, [], x, o', rfl, h1, g1, g2, hm, fun v s' L' hok iv' => q v s2 s' L1 L' iv (h3 v L' hok) (g4 s' L' iv'), fun e cls d s' L' z _ _ => (h4 e L' z).elim⟩
theorem Iv.dropL {K : PySem.W.Frag} {P0 : Addr → Prop} {s0 s : S} {T L' : List OA} (h : Iv K P0 s0 s (T ++ L')) : Iv K P0 s0 s L' := h.sel (M := L') ((List.range L'.length).map fun i => some (T.length + i)) (by
    have e1 : ((List.range L'.length).map fun i => some (T.length + i)).filterMap id = (List.range L'.length).map fun i => T.length + i := by
      rw [List.filterMap_map]
      exact (List.filterMap_eq_map (f := fun i => T.length + i)) ▸ rfl
    rw [e1]
    exact List.pairwise_map.mpr (List.Pairwise.imp (fun {a b} h e => h (by omega)) List.nodup_range)) (by
    unfold pick
    apply List.ext_getElem?
    intro i
    rw [List.map_map, List.getElem?_map]
    by_cases hi : i < L'.length
    · rw [List.getElem?_range hi]
      simp [List.getD_eq_getElem?_getD, List.getElem?_append_right, List.getElem?_eq_getElem hi]
    · rw [List.getElem?_eq_none (by rw [List.length_range]; omega), List.getElem?_eq_none (by omega)]; rfl)
theorem eg_callGs' {E : L2.St → XK} (C : Cal X.prog X.w X.K X.mg X.base CX k n (spI X.K pre mm ok er)) (hx : ∀ σ, PassesAt CX X σ (E σ)) (hr : Room j X.A) (hk : k ≤ j) (ha : EvGs X (e :: es) σ s okA)
    (hp : ∀ vs L1, okA vs L1 → pre vs x L1 [] ∧ (∀ v L', ok vs x o' v L' → ok' v L') ∧ (∀ e L', er vs x o' e L' → False)) (hm : mm x = some o') (hg : Gl X n := by rfl)
    (hdb : (n == ("__debug__" : Str)) = false := by decide) (he : starEach (e :: es) X.env = (false, eval e X.env) :: starEach es X.env := by rfl) (hpl : (backTo pos (starEach es X.env)).any (·.1) = false := by rfl) :
    EvG X (.Call (.Name n p0) (e :: es) [] pos) σ s ok' := fun s1 k1 Q q =>
  eg_callGs C hx hr hk ha hp hm hg hdb he hpl s1 k1 Q fun v s2 s3 L1 L' _ hok iv => q v s3 L' hok iv.dropL
end
end Dy

namespace Dy
open PySem PySem.Spec L2
open PyProof.Rows hiding St
open Enc (rep)
open EncA (repA)
def mrg (A B : OA) : OA := ⟨fun K F H P => ∃ P1 P2, A.p K F H P1 ∧ B.p K F H P2 ∧ (∀ a, P1 a → ¬ P2 a) ∧ ∀ a, P a ↔ (P1 a ∨ P2 a),
  fun e ⟨P1, P2, h1, h2, h3, h4⟩ => ⟨P1, P2, A.mono e h1, B.mono e h2, h3, h4⟩,
  fun e ⟨P1, P2, h1, h2, h3, h4⟩ => ⟨P1, P2, A.loc (fun a z => e a ((h4 a).mpr (.inl z))) h1, B.loc (fun a z => e a ((h4 a).mpr (.inr z))) h2, h3, h4⟩,
  fun ⟨P1, P2, h1, h2, h3, h4⟩ z => by
    rcases (h4 _).mp z with z | z
    · exact A.dom h1 z
    · exact B.dom h2 z⟩
section
variable {α : Type} [Enc α] {K : PySem.W.Frag} {P0 : Addr → Prop} {s0 s s1 t : S} {L : List OA} {l : LL} {xss zss : List (List α)} {xs : List α} {q : Addr}
theorem Iv.merge (h : Iv K P0 s0 s L) (i j : Nat) {A B : OA} (hij : i ≠ j) (hA : L[i]? = some A) (hB : L[j]? = some B) : Iv K P0 s0 s ((L.set i (mrg A B)).set j top) := by
  obtain ⟨φ, h1, h2, h3⟩ := h.o
  have hi : i < L.length := (List.getElem?_eq_some_iff.mp hA).1
  have hj : j < L.length := (List.getElem?_eq_some_iff.mp hB).1
  refine ⟨h.m, fun k a => if k = j then False else if k = i then φ i a ∨ φ j a else φ k a, fun k C hC => ?_, fun k m a => ?_, fun k a => ?_⟩
  · by_cases e : k = j
    · subst e
      rw [List.getElem?_set_self (by rw [List.length_set]; exact hj)] at hC
      cases hC
      intro a
      simp
    · rw [List.getElem?_set_ne (Ne.symm e)] at hC
      by_cases e2 : k = i
      · subst e2
        rw [List.getElem?_set_self hi] at hC
        cases hC
        refine ⟨φ k, φ j, h1 k A hA, h1 j B hB, fun a z w => hij (h2 _ _ _ z w), fun a => ?_⟩
        simp [e]
      · rw [List.getElem?_set_ne (Ne.symm e2)] at hC
        have := h1 k C hC
        simpa [e, e2] using this
  · intro z w
    by_cases e : k = j
    · simp [e] at z
    by_cases e' : m = j
    · simp [e'] at w
    by_cases e2 : k = i <;> by_cases e3 : m = i
    · rw [e2, e3]
    · exfalso
      simp only [e, e', e2, e3, if_true, if_false, hij] at z w
      rcases z with z | z
      · exact e3 (h2 _ _ _ w z)
      · exact e' (h2 _ _ _ w z)
    · exfalso
      simp only [e, e', e2, e3, if_true, if_false, hij] at z w
      rcases w with w | w
      · exact e2 (h2 _ _ _ z w)
      · exact e (h2 _ _ _ z w)
    · simp only [e, e', e2, e3, if_false] at z w
      exact h2 _ _ _ z w
  · intro z
    rw [List.length_set, List.length_set]
    by_cases e : k = j
    · simp [e] at z
    by_cases e2 : k = i
    · simp only [e, e2, if_true, if_false, hij] at z
      rcases z with z | z
      · exact ⟨(h3 i a z).1, (h3 i a z).2.1, by omega⟩
      · exact ⟨(h3 j a z).1, (h3 j a z).2.1, by omega⟩
    · simp only [e, e2, if_false] at z
      exact h3 k a z
theorem RdLL.row (h : RdLL K s l xss) {i : Nat} (hq : l.q[i]? = some q) (hx : xss[i]? = some xs) : RepR K s (.ref q) xs := by
  obtain ⟨vs, g1, g2⟩ := h.2.2 i q xs hq hx
  exact ⟨q, vs, rfl, .inl (.inl g1), g2⟩
def rws (qs : List Addr) : List Rw := qs.map fun q => Rw.mk (.ref q)
theorem rws_reps {F : Hp} : ∀ qs : List Addr, Reps K F (qs.map V.ref) (rws qs)
  | [] => trivial
  | q :: r => ⟨rfl, rws_reps r⟩
theorem OwnLL.rw (h : OwnLL K s l xss) : Own K s l.p (rws l.q) := ⟨h.fp, _, h.hp, rws_reps _⟩
theorem own_rws {p : Addr} {qs : List Addr} (h : Own K s p (rws qs)) : s.H p = some (.lst (qs.map .ref)) := by
  obtain ⟨_, vs, h1, h2⟩ := h
  rw [h1, rw_reps h2]
  unfold rws
  rw [List.map_map]; rfl
theorem Iv.pll (h : Iv K P0 s0 s L) (k : Nat) (m : Mx (· = l.p) s s1) (o : Own K s1 l.p (rws l.q).dropLast) (e : zss = xss.dropLast) (hA : L[k]? = some (Dy.oll l xss) := by rfl) : Iv K P0 s0 s1 (L.set k (Dy.oll ⟨l.p, l.q.dropLast⟩ zss)) := by
  subst e
  refine h.upd k hA fun P hP hF => ⟨fun a => a = l.p ∨ a ∈ l.q.dropLast, ?_, fun a z => ?_, ?_⟩
  · obtain ⟨h0, h1, h2, h3, h4, h5⟩ := hP
    have e1 : (rws l.q).dropLast = rws l.q.dropLast := by unfold rws; rw [List.map_dropLast]
    rw [e1] at o
    refine ⟨h0.sublist (List.dropLast_sublist _), fun z => h1 ((List.dropLast_sublist _).subset z), fun a => Iff.rfl, own_rws o, by rw [List.length_dropLast, List.length_dropLast, h4], fun j r zs a b => ?_⟩
    rw [List.getElem?_dropLast] at a b
    split at a
    · split at b
      · obtain ⟨vs, g1, g2⟩ := h5 j r zs a b
        exact ⟨vs, m.h _ _ g1 (fun z => h1 (by rw [← z]; exact List.mem_of_getElem? a)), g2.mono m.f⟩
      · cases b
    · cases a
  · have : P a := (hP.2.2.1 a).mpr (z.imp id fun z => (List.dropLast_sublist _).subset z)
    refine ⟨?_, .inl this⟩
    obtain ⟨u, hu⟩ := (Dy.oll l xss).dom hP this
    exact m.n _ _ hu (hF a this)
  · exact ⟨m.f, fun a o z n => m.h a o z fun e => n (by rw [e]; exact (hP.2.2.1 _).mpr (.inl rfl)), fun a o z _ w => m.n a o z w, m.d⟩
theorem Iv.all (h : Iv K P0 s0 s L) (k j : Nat) (m : Mx (· = l.p) s s1) (o : Own K s1 l.p (rws l.q ++ [Rw.mk (.ref q)])) (e : zss = xss ++ [xs]) (hkj : k ≠ j := by decide) (hA : L[k]? = some (Dy.oll l xss) := by rfl) (hB : L[j]? = some (Dy.ol q xs) := by rfl) : Iv K P0 s0 s1 ((L.set k (Dy.oll ⟨l.p, l.q ++ [q]⟩ zss)).set j top) := by
  subst e
  have h' := h.merge k j hkj hA hB
  have hk : k < L.length := (List.getElem?_eq_some_iff.mp hA).1
  have := h'.upd (s1 := s1) (A' := Dy.oll ⟨l.p, l.q ++ [q]⟩ (xss ++ [xs])) k (A := mrg (Dy.oll l xss) (Dy.ol q xs)) (by rw [List.getElem?_set_ne (Ne.symm hkj), List.getElem?_set_self hk]) fun P hP hF => by
    obtain ⟨P1, P2, ⟨h0, h1, h2, h3, h4, h5⟩, ⟨g0, vs, g1, g2⟩, hd, hu⟩ := hP
    have hq : q ∉ l.q := fun z => hd q ((h2 q).mpr (.inr z)) ((g0 q).mpr rfl)
    have hp : q ≠ l.p := fun z => hd q ((h2 q).mpr (.inl z)) ((g0 q).mpr rfl)
    have e1 : rws l.q ++ [Rw.mk (.ref q)] = rws (l.q ++ [q]) := by unfold rws; rw [List.map_append]; rfl
    rw [e1] at o
    refine ⟨P, ⟨?_, ?_, fun a => ?_, own_rws o, ?_, fun j r zs a b => ?_⟩, fun a z => ⟨?_, .inl z⟩, ?_⟩
    · rw [List.nodup_append]
      exact ⟨h0, by simp, fun a ha b hb e => hq (by rw [← List.mem_singleton.mp hb, ← e]; exact ha)⟩
    · intro z
      rcases List.mem_append.mp z with z | z
      · exact h1 z
      · exact hp (List.mem_singleton.mp z).symm
    · rw [hu, h2, g0, List.mem_append, List.mem_singleton, or_assoc]
    · rw [List.length_append, List.length_append, h4]; rfl
    · show ∃ vs, s1.H r = _ ∧ _
      have a : (l.q ++ [q])[j]? = some r := a
      by_cases c : j < l.q.length
      · rw [List.getElem?_append_left c] at a
        rw [List.getElem?_append_left (by rw [← h4]; exact c)] at b
        obtain ⟨ws, w1, w2⟩ := h5 j r zs a b
        exact ⟨ws, m.h _ _ w1 (fun z => h1 (by rw [← z]; exact List.mem_of_getElem? a)), w2.mono m.f⟩
      · have hl := (List.getElem?_eq_some_iff.mp a).1
        rw [List.length_append, List.length_singleton] at hl
        have ej : j = l.q.length := by omega
        subst ej
        rw [List.getElem?_append_right (Nat.le_refl _), Nat.sub_self] at a
        rw [h4, List.getElem?_append_right (Nat.le_refl _), Nat.sub_self] at b
        cases a; cases b
        exact ⟨vs, m.h _ _ g1 hp, g2.mono m.f⟩
    · obtain ⟨u, hu2⟩ := (mrg (Dy.oll l xss) (Dy.ol q xs)).dom ⟨P1, P2, ⟨h0, h1, h2, h3, h4, h5⟩, ⟨g0, vs, g1, g2⟩, hd, hu⟩ z
      exact m.n _ _ hu2 (hF a z)
    · exact ⟨m.f, fun a o z n => m.h a o z fun e => n (by rw [e]; exact (hu _).mpr (.inl ((h2 _).mpr (.inl rfl)))), fun a o z _ w => m.n a o z w, m.d⟩
  rw [List.set_comm _ _ hkj, List.set_set] at this
  rw [List.set_comm _ _ hkj]
  exact this
end
section
variable {α : Type} [Enc α] {X : Cx} {σ : L2.St} {s : S} {D : Ends} {rest : List Stmt} {o : Expr} {p1 p2 p3 : Pos} {p : Addr}
theorem do_reverseP {xs : List α} (ho : Ev X o σ s (Rw.mk (.ref p))) (r : Own X.K s p xs)
    (k : ∀ s1, Mx (· = p) s s1 → Own X.K s1 p xs.reverse → WSs X rest D σ s1.H)
    (hbase : attributeBase o "reverse" X.env (eval o X.env) = eval o X.env := by rfl) (hline : (p1.endLine == p2.line) = true := by rfl)
    (hsw : swapsWith (.Call (.Attribute o "reverse" p1) [] [] p2) none p3.line X.env = pure false := by rfl) :
    WSs X (.Expr (.Call (.Attribute o "reverse" p1) [] [] p2) p3 :: rest) D σ s.H :=
  do_cons (ps_expr (pe_bm0 PySem.F.plainAttrs_list PySem.F.slot_list_reverse PySem.F.type_list_reverse mt_reverse pe_we hbase hline) hsw) (ho s (Ex.refl _) _ fun w s1 k1 e1 => by
    cases (show w = V.ref p from e1)
    obtain ⟨f1, vs, h2, h3⟩ := r.ex k1
    exact ⟨.inl ⟨rfl, vs, .inl (.inl h2)⟩, p, vs, rfl, rfl, h2, k (s1.put p (.lst vs.reverse) f1) (k1.mx.trans (Mx.put f1)) ⟨f1, _, upd_same, h3.rev⟩⟩)
end
end Dy

namespace Dy
open PySem PySem.Spec L2
open PyProof.Rows hiding St
open Enc (rep)
open EncA (repA)
section
variable {α τ β : Type} [Enc α] [Enc τ] [Enc β] {X : Cx} {σ : L2.St} {P0 : Addr → Prop} {s0 s s1 t : S} {L : List OA} {l : LL} {xss : List (List β)} {yss : List (List α)} {xs : List α} {e a b c o i elt tg iter : Expr} {ifs : List Expr} {scope : Scope} {own : List (Str × Nat)} {pos p0 p1 : Pos} {D : Ends} {rest : List Stmt}
theorem comp_readLLG {xs : List τ} {f : τ → Option (List α)} {g : TG} {B : Hp → τ → St → St → Prop} {G : S → Prop} (hi : EvIG X tg iter σ s G xs) (hG : ∀ t, Ex s t → G t) (T : Tgt (α := τ) X.K g B) (hf : mapO f xs = some yss) (hz : yss.length ≤ sizeLine)
    (hw : ∀ (F : Hp) (x : τ) σ2, B F x (wipe σ (own.map (·.2))) σ2 → wipe σ2 (own.map (·.2)) = wipe σ (own.map (·.2)))
    (he : ∀ (x : τ) (y : List α) (s1 : S) (σ2 : St), x ∈ xs → Ex s s1 → B s1.F x (wipe σ (own.map (·.2))) σ2 → f x = some y → ∀ s0 H0 C cl fp, EvN (Blk X scope s0 H0 C cl fp) elt σ2 s1 y)
    (s1 : S) (k : Ex s s1) (Q : VK) (q : ∀ (l : LL) s2, Ex s1 s2 → s1.H l.p = none → (∀ a ∈ l.q, s1.H a = none) → OwnLL X.K s2 l yss → Q (.ref l.p) s2.H) : tLc (WI X tg iter) g tYes (fun σ H Q => ∀ s0 H0 C cl fp, WE (Blk X scope s0 H0 C cl fp) elt σ H Q) (own.map (·.2)) σ s1.H Q := by
  refine hi s1 k _ fun J s2 k2 W => ?_
  intro D hD
  refine ⟨fun i m H => ∃ (u : S) (pre : List (List α)) (qs : List Addr), u.H = H ∧ m = xs.length - i ∧ Ex s2 u ∧ OwnLL X.K u ⟨D, qs⟩ pre ∧ (∀ a ∈ qs, s2.H a = none) ∧ (∃ suf, mapO f (xs.drop i) = some suf ∧ pre ++ suf = yss), ⟨xs.length, s2.newO D (.lst []) hD, [], [], rfl, rfl, Ex.newO hD, ⟨List.nodup_nil, by simp, (fF hD : s2.F D = none), by simp, upd_same, rfl, fun i q xs a b => by simp at a⟩, by simp, yss, hf, rfl⟩, ?_⟩
  rintro i m H ⟨u, pre, qs, rfl, rfl, ku, n1, n4, suf, h1, h2⟩
  by_cases hi' : i < xs.length
  · right
    have hx : xs[i]? = some xs[i] := List.getElem?_eq_getElem hi'
    obtain ⟨g1, g2⟩ := W.go i u xs[i] (hG u ((k.trans k2).trans ku)) hx
    refine ⟨g1, fun H' => ∃ m', m' < xs.length - i ∧ ∃ (u : S) (pre : List (List α)) (qs : List Addr), u.H = H' ∧ m' = xs.length - (i + 1) ∧ Ex s2 u ∧ OwnLL X.K u ⟨D, qs⟩ pre ∧ (∀ a ∈ qs, s2.H a = none) ∧ (∃ suf, mapO f (xs.drop (i + 1)) = some suf ∧ pre ++ suf = yss), fun H' z => z, fun v H' hy => ?_⟩
    obtain ⟨u', rfl, ku', rv⟩ := g2 v H' hy
    refine T.run u' v xs[i] _ _ rv fun σ2 hB => ⟨hw _ _ _ hB, ?_⟩
    have mem : xs[i] ∈ xs := List.getElem_mem hi'
    have base : Ex s u' := (k.trans k2).trans (ku.trans ku')
    unfold tYes
    dsimp only
    rw [if_pos rfl]
    rw [List.drop_eq_getElem_cons hi'] at h1
    unfold mapO compO at h1
    rw [Option.bind_some, if_pos rfl] at h1
    have hlt : xs.length - (i + 1) < xs.length - i := by omega
    cases hfx : f xs[i] with
    | none => rw [hfx] at h1; cases h1
    | some y =>
      rw [hfx, Option.bind_some] at h1
      cases hr : compO (fun _ => some true) f (xs.drop (i + 1)) with
      | none => rw [hr] at h1; cases h1
      | some suf' =>
        rw [hr] at h1
        cases h1
        intro s0 H0 C cl fp
        refine he xs[i] y u' σ2 mem base hB hfx s0 H0 C cl fp u' (Ex.refl _) _ fun p u4 k4 n5 o4 => ?_
        have k5 : Ex u u4 := ku'.trans k4
        have o5 := n1.ex k5
        have hD4 : u4.H D = some (.lst (qs.map .ref)) := o5.hp
        have hF4 : u4.F D = none := o5.fp
        have hlen : (qs.map V.ref).length < sizeLine := by
          have e1 := n1.len
          have e2 : yss.length = pre.length + (suf'.length + 1) := by rw [← h2, List.length_append, List.length_cons]
          have e3 : qs.length = pre.length := e1
          rw [List.length_map]
          omega
        have pn : ∀ {a : Addr} {o : HO}, u.H a = some o → a ≠ p := fun z e => by
          rw [e] at z
          rw [ku'.h _ _ z] at n5; cases n5
        have nq : p ∉ qs := fun z => by
          obtain ⟨j, hj⟩ := List.mem_iff_getElem?.mp z
          have hl : j < pre.length := by rw [← n1.len]; exact (List.getElem?_eq_some_iff.mp hj).1
          obtain ⟨_, vs, g, _⟩ := n1.row hj (List.getElem?_eq_getElem hl)
          exact pn g rfl
        have nD : D ≠ p := pn n1.hp
        obtain ⟨of, vs4, oh, orp⟩ := o4
        have hput : ∀ a, a ≠ D → (u4.put D (.lst (qs.map .ref ++ [.ref p])) hF4).H a = u4.H a := fun a z => upd_ne z
        refine ⟨_, hD4, hlen, _, hlt, u4.put D (.lst (qs.map .ref ++ [.ref p])) hF4, pre ++ [y], qs ++ [p], rfl, rfl, (ku.trans k5).mu1 (Mx.put hF4) hD, ⟨?_, ?_, hF4, ?_, ?_, ?_, ?_⟩, ?_, suf', hr, by rw [List.append_assoc]; exact h2⟩
        · rw [List.nodup_append]
          exact ⟨n1.nd, by simp, fun a ha b hb => by
            rw [List.mem_singleton] at hb
            subst hb
            exact fun e => nq (e ▸ ha)⟩
        · intro z
          rcases List.mem_append.mp z with z | z
          · exact n1.np z
          · exact nD (List.mem_singleton.mp z)
        · intro a z
          rcases List.mem_append.mp z with z | z
          · exact o5.fq a z
          · rw [List.mem_singleton.mp z]; exact of
        · show upd u4.H D _ D = _
          rw [upd_same, List.map_append]; rfl
        · show (qs ++ [p]).length = _
          rw [List.length_append, List.length_append]
          have e3 : qs.length = pre.length := n1.len
          rw [e3]; rfl
        · intro j r zs ha hb
          have e3 : qs.length = pre.length := n1.len
          by_cases hj : j < qs.length
          · rw [List.getElem?_append_left hj] at ha
            rw [List.getElem?_append_left (by omega)] at hb
            obtain ⟨vs, g1, g2⟩ := o5.c.2 j r zs ha hb
            have : r ≠ D := fun z => n1.np (by rw [← z]; exact List.mem_of_getElem? ha)
            exact ⟨vs, (hput r this).trans g1, g2⟩
          · rw [List.getElem?_append_right (by omega)] at ha hb
            have hj2 : j - qs.length = 0 := by
              have := (List.getElem?_eq_some_iff.mp ha).1
              simp at this; omega
            rw [hj2] at ha
            rw [← e3, hj2] at hb
            cases ha; cases hb
            exact ⟨vs4, (hput p (Ne.symm nD)).trans oh, orp⟩
        · intro a z
          rcases List.mem_append.mp z with z | z
          · exact n4 a z
          · rw [List.mem_singleton.mp z]
            exact fr_back (ku.trans ku') n5
  · left
    have hd : xs.drop i = [] := List.drop_eq_nil_of_le (by omega)
    rw [hd] at h1
    cases h1
    rw [List.append_nil] at h2
    subst h2
    exact ⟨W.stop i u (hG u ((k.trans k2).trans ku)) (by omega), q ⟨D, qs⟩ u (k2.trans ku) (fr_back k2 hD) (fun a z => fr_back k2 (n4 a z)) n1⟩
theorem en_compLLr {f : Nat → Option (List α)} {j : Nat} {n : Str} {py : Pos} (hc : X.calm = true) (hN : X.N.Nodup) (ho : Ev X iter σ s (Rw.mk (.ref l.p))) (r : RdLL X.K s l xss) (ok : BlkOk X.N X.env.scope scope own) (hj : X.N[j]? = some n)
    (hjo : j ∈ own.map (·.2)) (hg : ∀ s0 H0 C cl fp, PG (Blk X scope s0 H0 C cl fp) (.Name n py) (gName j)) (hf : mapO f (List.range xss.length) = some yss) (hz : yss.length ≤ sizeLine)
    (he : ∀ (x : Nat) (y : List α) (q : Addr) (s1 : S), l.q[x]? = some q → Ex s s1 → f x = some y → ∀ s0 H0 C cl fp, EvN (Blk X scope s0 H0 C cl fp) elt ((wipe σ (own.map (·.2))).set j (some (.ref q))) s1 y)
    (hs : ∀ x, foldedSetIterable iter X.env x = pure x := by intro _; rfl) : EvLL X elt (.Name n py) iter [] scope σ s yss := by
  letI := encIx l
  exact ⟨hc, hN, hs, own, _, _, ok, hg, fun _ _ _ _ _ => pts_nil, fun s1 k Q q => comp_readLLG (τ := Nat) (ei_ll ho r) (fun t e => (r.ex e).1) (tg_n (α := Nat)) hf hz (fun F x σ2 ⟨v, _, e⟩ => by rw [e, wipe_set hjo]; exact wipe_wipe fun _ z => z)
    (fun x y s1 σ2 hx k ⟨v, r, e⟩ hfx => by
      subst e
      obtain ⟨q, hq, rfl⟩ := r
      exact he x y q s1 hq k hfx) s1 k Q q⟩
theorem repH_ll {K : PySem.W.Frag} (h : RdLL K s l xss) (e : Ex s t) : rep K t.H (.ref l.p) xss := by
  have h := h.ex e
  refine ⟨l.p, l.q.map .ref, rfl, .inl (.inl h.1), reps_of (by rw [List.length_map]; exact h.2.1) fun i v x a b => ?_⟩
  rw [List.getElem?_map] at a
  obtain ⟨q, hq, rfl⟩ := Option.map_eq_some_iff.mp a
  obtain ⟨vs, g1, g2⟩ := h.2.2 i q x hq b
  exact ⟨q, vs, rfl, .inl (.inl g1), g2.mono t.sub⟩
end
section
variable {X : Cx} {σ : L2.St} {s t : S} {α : Type} {a b : Expr} {pos : Pos}
theorem eb_cmpH {op : CmpOp} {r : R2} {v0 : V} {β : Type} [Enc α] [Enc β] {x : α} {y : β} {z : Bool} (ho : OpR X (compareOp op) r) (ha : Ev X a σ s (Rw.mk v0)) (hx : ∀ t, Ex s t → rep X.K t.H v0 x) (hb : Ev X b σ s y)
    (hr : ∀ (v u : V) (s2 : S), rep X.K s2.H v x → rep X.K s2.F u y → ∀ Q : VK, Q (.bl z) s2.H → r v u s2.H Q) (hm : behindInMarks op b = false) : EvB X (.Compare a [op] [b] pos) σ s z :=
  ⟨fun s1 k Q q => we_of (pe_cmpR ho pe_we pe_we hm) (ha s1 k _ fun v s2 k2 r2 => hb s2 (k.trans k2) _ fun u s3 k3 r3 => hr v u s3 (by cases (show v = v0 from r2); exact hx s3 ((k.trans k2).trans k3)) r3 Q (q _ s3 (k2.trans k3) rfl)),
   fun s1 k Q q => wt_of (pt_cmpR ho pe_we pe_we hm) (ha s1 k _ fun v s2 k2 r2 => hb s2 (k.trans k2) _ fun u s3 k3 r3 => hr v u s3 (by cases (show v = v0 from r2); exact hx s3 ((k.trans k2).trans k3)) r3 _ ⟨z, rfl, q s3 (k2.trans k3)⟩)⟩
theorem eb_neH [EqD α] [DecidableEq α] {x y : α} {v0 : V} {j : Nat} (hr : Room j X.A) (ha : Ev X a σ s (Rw.mk v0)) (hx : ∀ t, Ex s t → rep X.K t.H v0 x) (hb : Ev X b σ s y) (h1 : shp x) (h2 : shp y) : EvB X (.Compare a [.NotEq] [b] pos) σ s (!decide (x = y)) :=
  eb_cmpH (op_neD (hu64 hr)) ha hx hb (fun v u s2 hv hu Q q => ⟨_, _, EqD.dp hv (Fle.refl _), EqD.dp hu s2.sub, h1, h2, by rw [eqv_dec]; exact q⟩) (nomark _)
theorem eb_eqH [EqD α] [DecidableEq α] {x y : α} {v0 : V} {j : Nat} (hr : Room j X.A) (ha : Ev X a σ s (Rw.mk v0)) (hx : ∀ t, Ex s t → rep X.K t.H v0 x) (hb : Ev X b σ s y) (h1 : shp x) (h2 : shp y) : EvB X (.Compare a [.Eq] [b] pos) σ s (decide (x = y)) :=
  eb_cmpH (op_eqD (hu64 hr)) ha hx hb (fun v u s2 hv hu Q q => ⟨_, _, EqD.dp hv (Fle.refl _), EqD.dp hu s2.sub, h1, h2, by rw [eqv_dec]; exact q⟩) (nomark _)
end
section
variable {X : Cx} {σ : L2.St} {s t : S} {α : Type} [Enc α] {a b o : Expr} {pos : Pos} {l : LL} {xss : List (List α)} {D : Ends} {rest : List Stmt} {p1 p2 p3 : Pos}
theorem rws_len {K : PySem.W.Frag} (h : OwnLL K s l xss) : (rws l.q).length = xss.length := by
  unfold rws
  rw [List.length_map]; exact h.len
theorem do_popLL (ho : Ev X o σ s (Rw.mk (.ref l.p))) (r : OwnLL X.K s l xss) (hne : 0 < xss.length)
    (k : ∀ s1, Mx (· = l.p) s s1 → Own X.K s1 l.p (rws l.q).dropLast → WSs X rest D σ s1.H)
    (hbase : attributeBase o "pop" X.env (eval o X.env) = eval o X.env := by rfl) (hline : (p1.endLine == p2.line) = true := by rfl)
    (hsw : swapsWith (.Call (.Attribute o "pop" p1) [] [] p2) none p3.line X.env = pure false := by rfl) :
    WSs X (.Expr (.Call (.Attribute o "pop" p1) [] [] p2) p3 :: rest) D σ s.H :=
  do_popP ho r.rw (by rw [rws_len r]; exact hne) k hbase hline hsw
theorem do_appendLL {q : Addr} {e : Expr} (ho : Ev X o σ s (Rw.mk (.ref l.p))) (r : OwnLL X.K s l xss) (he : Ev X e σ s (Rw.mk (.ref q))) (hz : xss.length < sizeLine)
    (k : ∀ s1, Mx (· = l.p) s s1 → Own X.K s1 l.p (rws l.q ++ [Rw.mk (.ref q)]) → WSs X rest D σ s1.H)
    (hbase : attributeBase o "append" X.env (eval o X.env) = eval o X.env := by rfl)
    (hfew : ((backTo p2 (starEach [e] X.env)).all (fun x => !x.1) && (backToKw p2 (keywordEach [] X.env)).all (fun x => x.1.isSome) && decide (([e] : List Expr).length + ([] : List Keyword).length + (if ([] : List Keyword).isEmpty then 0 else 1) < 30)) = true := by rfl)
    (hline : (p1.endLine == p2.line) = true := by rfl) (hs : starEach [e] X.env = (false, eval e X.env) :: starEach [] X.env := by rfl) (hplain : (backTo p2 (starEach [] X.env)).any (·.1) = false := by rfl)
    (hsw : swapsWith (.Call (.Attribute o "append" p1) [e] [] p2) none p3.line X.env = pure false := by rfl) :
    WSs X (.Expr (.Call (.Attribute o "append" p1) [e] [] p2) p3 :: rest) D σ s.H :=
  do_appendP ho r.rw he (by rw [rws_len r]; exact hz) k hbase hfew hline hs hplain hsw
end
end Dy

set_option maxHeartbeats 4000000
namespace K13
open PySem PySem.Spec L2 Dy
open PyProof.Rows hiding St
open Enc (rep)
open Flat (toV)
open EncA (repA)
def topS (i : Nat) : Stmt := PySem.Challenge.pw_deskpairs_k13_times_told.main.body.getD i (.Pass ⟨0, 0, 0, 0⟩)
def clsS (i j : Nat) : Stmt := match PySem.Challenge.pw_deskpairs_k13_times_told.main.body.getD i (.Pass ⟨0, 0, 0, 0⟩) with | .ClassDef _ _ _ body _ _ _ _ _ _ _ => body.getD j (.Pass ⟨0, 0, 0, 0⟩) | _ => .Pass ⟨0, 0, 0, 0⟩
def c_LETTERS : Str := ("abcdefghijklmnopqrstuvwxyz" : Str)
structure R_Times where
  my_names : (List Str)
  my_rows : (List (List Int))
structure R_Times_0 where

structure R_Times_1 where
  my_names : (List Str)
def tab : ETab := ⟨["NoInstrument"], [("NoInstrument", "name")], [(("NoInstrument", "NoInstrument"), true), (("NoInstrument", "NoLine"), false), (("NoInstrument", "NoName"), false), (("NoInstrument", "NoTimes"), false)], [(("NoInstrument", "PairsError"), true)]⟩
abbrev s_l_many : Stmt := topS 20
abbrev N_l_many : List Str := ["_law_cell"]
theorem sc_l_many : FnScope N_l_many ["_law_cell"] (defScope s_l_many) := ⟨rfl, rfl, rfl, by decide +kernel, rfl, by decide +kernel, by decide +kernel⟩
noncomputable def m_l_many (cell1 : Int) : Option Int :=
 (bnd (atI ([((1 : Int) + ((cell1 / (8 : Int)) % (5 : Int))), (12 : Int)] : List Int) (if (decide ((cell1 % (8 : Int)) = (3 : Int))) = true then (1 : Int) else 0)) fun at5 => (some at5))
noncomputable abbrev a_l_many : Int × Unit → Option Int := fun a => m_l_many a.1
theorem ok_l_many {P : Program} {w : World} {K : PySem.W.Frag} {mg : Str → Option Value} {base : Heap} {f : Addr} {fd : FuncData} (F : FunP K "_law_many" s_l_many f fd) (hmg : mg "_law_many" = some (.ref f)) (z_int : mg "int" = none) : Cal P w K mg base CX0 1 "_law_many" (sp K a_l_many) := by
  refine mk_cal (k := 0) F hmg (F.bindsN fun _ _ _ _ _ _ us hl => match us, hl with | [_], _ => rfl) sc_l_many len1 ?_
  rintro cdv A' outer sh0 H0 X0 hr s0 vs ⟨cell1, _⟩ r0 Q ⟨v2, _, rfl, r3, rfl⟩ hm hQ
  unfold a_l_many m_l_many at hm
  dsimp only at hm
  have iv4 : Iv K (fun _ => False) s0 s0 [fz v2 (cell1 : Int)] := (Iv.sf (Iv.tops (K := K) (P0 := (fun _ => False)) 1 s0) 0 (Ex.refl s0) r3 rfl)
  obtain ⟨at5, h_at5, hm⟩ := bndE hm
  obtain rfl := Option.some.inj hm
  exact do_ret (ev_ix (EvN.r (en_list (xs := ([((1 : Int) + ((cell1 / (8 : Int)) % (5 : Int))), (12 : Int)] : List Int)) (ee_cons (ev_add ev_int (ev_mod (ev_div (ev_var 0 rfl (Iv.fz (x := (cell1 : Int)) iv4 0)) ev_int ⟨by decide, by decide +kernel⟩) ev_int (by decide))) (ee_cons ev_int ee_nil)) (by simp [sizeLine]))) (ev_intB z_int (EvB.v (eb_eq (ev_mod (ev_var 0 rfl (Iv.fz (x := (cell1 : Int)) iv4 0)) ev_int (by decide)) ev_int))) h_at5) fun v6 s7 e8 r9 => hQ _ _ (Ex.trans (Iv.exx iv4) e8) r9
abbrev s_l_row : Stmt := topS 16
abbrev N_l_row : List Str := ["_law_cell", "_law_many_here", "_law_count", "_law_found", "_law_number", "_law_k", "_law_mixed"]
theorem sc_l_row : FnScope N_l_row ["_law_cell", "_law_many_here", "_law_count"] (defScope s_l_row) := ⟨rfl, rfl, rfl, by decide +kernel, rfl, by decide +kernel, by decide +kernel⟩
noncomputable def m_l_row (cell10 : Int) (many_here13 : Int) (count16 : Int) : Option (List Int) :=
 (lt (([] : List Int) : (List Int)) fun found20 =>
 (lt ((cell10 / (2 : Int)) : Int) fun number28 =>
 (chk (RgB count16) (bnd (foldO (fun (b38 : ((List Int) × Int)) (x40 : Int) =>
 (bnd (if (decide ((cell10 % (2 : Int)) = (0 : Int))) = true then
 (chk (0 < many_here13) (chk ((b38.1).length < sizeLine) (lt ((b38.1 ++ [(b38.2 % many_here13)]) : (List Int)) fun found138 =>
 (chk (DivOk many_here13) (lt ((b38.2 / many_here13) : Int) fun number146 =>
 (some (found138, number146)))))))
 else
 (chk (MulOk x40 x40) (lt (((((cell10 % (1000003 : Int)) + (1 : Int)) * ((x40 * x40) + (48271 : Int))) % (65537 : Int)) : Int) fun mixed163 =>
 (chk (0 < many_here13) (chk ((b38.1).length < sizeLine) (lt ((b38.1 ++ [((((mixed163 * mixed163) + ((30269 : Int) * x40)) % (65521 : Int)) % many_here13)]) : (List Int)) fun found180 =>
 (some (found180, b38.2))))))) : Option (((List Int) × Int))) fun b121 =>
 (some (b121.1, b121.2)))) (found20, number28) (rng 0 count16)) fun o36 =>
 (some o36.1)))))
noncomputable abbrev a_l_row : Int × Int × Int × Unit → Option (List Int) := fun a => m_l_row a.1 a.2.1 a.2.2.1
theorem ok_l_row {P : Program} {w : World} {K : PySem.W.Frag} {mg : Str → Option Value} {base : Heap} {f : Addr} {fd : FuncData} (F : FunP K "_law_row" s_l_row f fd) (hmg : mg "_law_row" = some (.ref f)) (z_range : mg "range" = none) : Cal P w K mg base CX0 1 "_law_row" (spN K a_l_row) := by
  refine mk_calN (k := 0) F hmg (F.bindsN fun _ _ _ _ _ _ us hl => match us, hl with | [_, _, _], _ => rfl) sc_l_row len3 ?_
  rintro cdv A' outer sh0 H0 X0 hr s0 vs ⟨cell10, many_here13, count16, _⟩ r0 Q ⟨v11, _, rfl, r12, v14, _, rfl, r15, v17, _, rfl, r18, rfl⟩ hm hQ
  unfold a_l_row m_l_row at hm
  dsimp only at hm
  have iv19 : Iv K (fun _ => False) s0 s0 [fz v11 (cell10 : Int), fz v14 (many_here13 : Int), fz v17 (count16 : Int), top, top, top, top] := (Iv.sf (Iv.sf (Iv.sf (Iv.tops (K := K) (P0 := (fun _ => False)) 7 s0) 0 (Ex.refl s0) r12 rfl) 1 (Ex.refl s0) r15 rfl) 2 (Ex.refl s0) r18 rfl)
  refine do_setN 3 (en_list (xs := ([] : List Int)) ee_nil (by simp [sizeLine])) (fun p24 s22 e23 n25 o26 => ?_) sc_l_row.nd
  obtain ⟨found20, q21, hm⟩ := ltE hm
  have iv27 := Iv.sl iv19 3 e23 n25 o26 q21
  refine do_set 4 (ev_div (ev_var 0 rfl (Iv.fz (x := (cell10 : Int)) iv27 0)) ev_int ⟨by decide, by decide +kernel⟩) (fun v32 s30 e31 r33 => ?_) sc_l_row.nd
  obtain ⟨number28, q29, hm⟩ := ltE hm
  have iv34 := Iv.sf iv27 4 e31 r33 q29
  obtain ⟨hc35, hm⟩ := chkE hm
  obtain ⟨o36, ho37, hm⟩ := bndE hm
  refine do_forO (υ := ((List Int) × Int)) PassesOwn.never rfl (ei_range1 z_range (ev_var 2 rfl (Iv.fz (x := (count16 : Int)) iv34 2)) hc35) (pg_name (i := 5) sc_l_row.nd rfl (by first | exact Or.inl rfl | exact Or.inr rfl)) tg_n ho37 (fun (b38 : ((List Int) × Int)) (σ' : L2.St) (t' : S) => ∃ (v_number : V) (y_mixed : Option V) (y_k : Option V), σ' = [some v11, some v14, some v17, some (.ref p24), some v_number, y_k, y_mixed] ∧ Iv K (fun _ => False) s0 t' [fz v11 (cell10 : Int), fz v14 (many_here13 : Int), fz v17 (count16 : Int), ol p24 (b38.1 : (List Int)), fz v_number (b38.2 : Int), top, top]) (fun s202 k203 => by have iv204 := Iv.ex iv34 k203; exact ⟨v32, _, _, rfl, Iv.sel iv204 [some 0, some 1, some 2, some 3, some 4, none, none] (by decide +kernel) (by kernel_rfl)⟩) (fun s41 k42 x40 b38 b39 σ51 σ52 t49 t50 hx43 hm44 fl45 hR46 k47 hB48 => ?_) (fun s196 k197 σ198 t199 fl200 hR201 => ?_)
  · have hf53 := Fle.trans k42.f fl45
    obtain ⟨v54, y55, y56, rfl, iv57⟩ := hR46
    obtain ⟨v58, r59, rfl⟩ := hB48
    have iv60 := Iv.ex iv57 k47
    have iv61 := Iv.sf iv60 5 (Ex.refl t50) r59 rfl
    have fl62 := Fle.trans (Fle.refl t50.F) (Ex.refl t50).f
    obtain ⟨b121, hj122, hm44⟩ := bndE hm44
    refine do_if (EvB.t (eb_eq (ev_mod (ev_var 0 rfl (Iv.fz (x := (cell10 : Int)) iv61 0)) ev_int (by decide)) ev_int)) (fun (σ' : L2.St) (t' : S) => Fle t50.F t'.F ∧ ∃ (v_number : V) (y_mixed : Option V), σ' = [some v11, some v14, some v17, some (.ref p24), some v_number, some v58, y_mixed] ∧ Iv K (fun _ => False) s0 t' [fz v11 (cell10 : Int), fz v14 (many_here13 : Int), fz v17 (count16 : Int), ol p24 (b121.1 : (List Int)), fz v_number (b121.2 : Int), fz v58 (x40 : Int), top]) (fun hb123 s124 e125 => ?_) (fun hb155 s156 e157 => ?_) (fun σ187 s188 hM189 => ?_)
    · have hm126 := iteE1 hj122 hb123
      have iv127 := Iv.ex iv61 e125
      have fl128 := Fle.trans (Fle.refl t50.F) e125.f
      have fl129 := Fle.trans (Fle.refl t50.F) e125.f
      obtain ⟨hc140, hm126⟩ := chkE hm126
      obtain ⟨hc141, hm126⟩ := chkE hm126
      refine do_append 3 rfl (Iv.ol (xs := (b38.1 : (List Int))) iv127 3) (ev_mod (ev_var 4 rfl (Iv.fz (x := (b38.2 : Int)) iv127 4)) (ev_var 1 rfl (Iv.fz (x := (many_here13 : Int)) iv127 1)) hc140) hc141 (fun s135 m136 o137 => ?_)
      obtain ⟨found138, q139, hm126⟩ := ltE hm126
      have iv142 := Iv.ml iv127 3 m136 o137 q139
      have fl143 := Fle.trans fl128 m136.f
      have fl144 := Fle.trans fl129 m136.f
      obtain ⟨hc145, hm126⟩ := chkE hm126
      refine do_set 4 (ev_div (ev_var 4 rfl (Iv.fz (x := (b38.2 : Int)) iv142 4)) (ev_var 1 rfl (Iv.fz (x := (many_here13 : Int)) iv142 1)) hc145) (fun v150 s148 e149 r151 => ?_) sc_l_row.nd
      obtain ⟨number146, q147, hm126⟩ := ltE hm126
      have iv152 := Iv.sf iv142 4 e149 r151 q147
      have fl153 := Fle.trans fl143 e149.f
      have fl154 := Fle.trans fl144 e149.f
      obtain rfl := Option.some.inj hm126
      exact do_nil ⟨s148, rfl, fl154, ⟨v150, _, rfl, Iv.sel iv152 [some 0, some 1, some 2, some 3, some 4, some 5, none] (by decide +kernel) (by kernel_rfl)⟩⟩
    · have hm158 := iteE2 hj122 hb155
      have iv159 := Iv.ex iv61 e157
      have fl160 := Fle.trans (Fle.refl t50.F) e157.f
      have fl161 := Fle.trans (Fle.refl t50.F) e157.f
      obtain ⟨hc162, hm158⟩ := chkE hm158
      refine do_set 6 (ev_mod (ev_mul (ev_add (ev_mod (ev_var 0 rfl (Iv.fz (x := (cell10 : Int)) iv159 0)) ev_int (by decide)) ev_int) (ev_add (ev_mul (ev_var 5 rfl (Iv.fz (x := (x40 : Int)) iv159 5)) (ev_var 5 rfl (Iv.fz (x := (x40 : Int)) iv159 5)) hc162) ev_int) (Or.inl (Or.inl ⟨by omega, by omega⟩))) ev_int (by decide)) (fun v167 s165 e166 r168 => ?_) sc_l_row.nd
      obtain ⟨mixed163, q164, hm158⟩ := ltE hm158
      have iv169 := Iv.sf iv159 6 e166 r168 q164
      have fl170 := Fle.trans fl160 e166.f
      have fl171 := Fle.trans fl161 e166.f
      obtain ⟨hc182, hm158⟩ := chkE hm158
      obtain ⟨hc183, hm158⟩ := chkE hm158
      refine do_append 3 rfl (Iv.ol (xs := (b38.1 : (List Int))) iv169 3) (ev_mod (ev_mod (ev_add (ev_mul (ev_var 6 rfl (Iv.fz (x := (mixed163 : Int)) iv169 6)) (ev_var 6 rfl (Iv.fz (x := (mixed163 : Int)) iv169 6)) (Or.inl (Or.inl ⟨by omega, by omega⟩))) (ev_mul ev_int (ev_var 5 rfl (Iv.fz (x := (x40 : Int)) iv169 5)) (Or.inl (Or.inl ⟨by omega, by omega⟩)))) ev_int (by decide)) (ev_var 1 rfl (Iv.fz (x := (many_here13 : Int)) iv169 1)) hc182) hc183 (fun s177 m178 o179 => ?_)
      obtain ⟨found180, q181, hm158⟩ := ltE hm158
      have iv184 := Iv.ml iv169 3 m178 o179 q181
      have fl185 := Fle.trans fl170 m178.f
      have fl186 := Fle.trans fl171 m178.f
      obtain rfl := Option.some.inj hm158
      exact do_nil ⟨s177, rfl, fl186, ⟨v54, _, rfl, Iv.sel iv184 [some 0, some 1, some 2, some 3, some 4, some 5, none] (by decide +kernel) (by kernel_rfl)⟩⟩
    · obtain ⟨hf190, hR191⟩ := hM189
      obtain ⟨v192, y193, rfl, iv194⟩ := hR191
      have fl195 := Fle.trans (Fle.refl t50.F) hf190
      obtain rfl := Option.some.inj hm44
      exact do_nil ⟨s188, rfl, fl195, ⟨v192, _, _, rfl, Iv.sel iv194 [some 0, some 1, some 2, some 3, some 4, none, none] (by decide +kernel) (by kernel_rfl)⟩⟩
  · have hf205 := Fle.trans k197.f fl200
    obtain ⟨v206, y207, y208, rfl, iv209⟩ := hR201
    obtain rfl := Option.some.inj hm
    exact do_retO 3 rfl (hQ _ _ (Iv.exx iv209) (Iv.fresh iv209 3) (Iv.ol (xs := (o36.1 : (List Int))) iv209 3))
abbrev s_l_names : Stmt := topS 17
abbrev N_l_names : List Str := ["_law_cell", "_law_many_here", "_law_letters", "_law_longer", "_law_names_here", "_law_k"]
theorem sc_l_names : FnScope N_l_names ["_law_cell", "_law_many_here"] (defScope s_l_names) := ⟨rfl, rfl, rfl, by decide +kernel, rfl, by decide +kernel, by decide +kernel⟩
noncomputable def m_l_names (cell210 : Int) (many_here213 : Int) : Option (List Str) :=
 (lt (("abcdefghijklmnopqrstuvwxyz" : Str) : Str) fun letters217 =>
 (bnd (m_l_row (cell210 / (3 : Int)) (10 : Int) many_here213) fun row224 => (lt (row224 : (List Int)) fun longer225 =>
 (lt (([] : List Str) : (List Str)) fun names_here232 =>
 (chk (RgB many_here213) (bnd (foldO (fun (b243 : (List Str)) (x245 : Int) =>
 (bnd (if ((decide ((cell210 % (3 : Int)) = (0 : Int))) && (decide (x245 < (10 : Int)))) = true then
 (chk (RepS ("q" : Str) (x245 + (1 : Int))) (chk ((b243).length < sizeLine) (lt ((b243 ++ [(replS ("q" : Str) (x245 + (1 : Int)))]) : (List Str)) fun names_here408 =>
 (some names_here408))))
 else
 (bnd (if (decide ((cell210 % (3 : Int)) = (0 : Int))) = true then
 (bnd (sgn letters217 x245) fun at489 => (chk ((b243).length < sizeLine) (lt ((b243 ++ [at489]) : (List Str)) fun names_here487 =>
 (some names_here487))))
 else
 (bnd (sgn letters217 (((cell210 / (3 : Int)) + ((5 : Int) * x245)) % (26 : Int))) fun at513 => (bnd (atI longer225 x245) fun at514 => (chk (RepS ("q" : Str) (at514 % (10 : Int))) (chk ((at513).length + ((replS ("q" : Str) (at514 % (10 : Int)))).length ≤ sizeLine) (chk ((b243).length < sizeLine) (lt ((b243 ++ [(at513 ++ (replS ("q" : Str) (at514 % (10 : Int))))]) : (List Str)) fun names_here511 =>
 (some names_here511))))))) : Option ((List Str))) fun b469 =>
 (some b469)) : Option ((List Str))) fun b391 =>
 (some b391))) names_here232 (rng 0 many_here213)) fun o241 =>
 (bnd (if (decide ((cell210 % (2 : Int)) = (1 : Int))) = true then
 (lt ((o241).reverse : (List Str)) fun names_here586 =>
 (some names_here586))
 else
 (some o241) : Option ((List Str))) fun b570 =>
 (some b570))))))))
noncomputable abbrev a_l_names : Int × Int × Unit → Option (List Str) := fun a => m_l_names a.1 a.2.1
theorem ok_l_names {P : Program} {w : World} {K : PySem.W.Frag} {mg : Str → Option Value} {base : Heap} {f : Addr} {fd : FuncData} (F : FunP K "_law_names" s_l_names f fd) (hmg : mg "_law_names" = some (.ref f)) (C_l_row : Cal P w K mg base CX0 1 "_law_row" (spN K a_l_row)) (z_range : mg "range" = none) : Cal P w K mg base CX0 2 "_law_names" (spN K a_l_names) := by
  refine mk_calN (k := 1) F hmg (F.bindsN fun _ _ _ _ _ _ us hl => match us, hl with | [_, _], _ => rfl) sc_l_names len2 ?_
  rintro cdv A' outer sh0 H0 X0 hr s0 vs ⟨cell210, many_here213, _⟩ r0 Q ⟨v211, _, rfl, r212, v214, _, rfl, r215, rfl⟩ hm hQ
  unfold a_l_names m_l_names at hm
  dsimp only at hm
  have iv216 : Iv K (fun _ => False) s0 s0 [fz v211 (cell210 : Int), fz v214 (many_here213 : Int), top, top, top, top] := (Iv.sf (Iv.sf (Iv.tops (K := K) (P0 := (fun _ => False)) 6 s0) 0 (Ex.refl s0) r212 rfl) 1 (Ex.refl s0) r215 rfl)
  refine do_set 2 ev_str (fun v221 s219 e220 r222 => ?_) sc_l_names.nd
  obtain ⟨letters217, q218, hm⟩ := ltE hm
  have iv223 := Iv.sf iv216 2 e220 r222 q218
  obtain ⟨row224, h_row224, hm⟩ := bndE hm
  refine do_set 3 (EvN.ev (en_call C_l_row hr (by decide) (ea_cons (ev_div (ev_var 0 rfl (Iv.fz (x := (cell210 : Int)) iv223 0)) ev_int ⟨by decide, by decide +kernel⟩) (ea_cons ev_int (ea_cons (ev_var 1 rfl (Iv.fz (x := (many_here213 : Int)) iv223 1)) ea_nil))) h_row224)) (fun v229 s227 e228 r230 => ?_) sc_l_names.nd
  obtain ⟨longer225, q226, hm⟩ := ltE hm
  have iv231 := Iv.sf iv223 3 e228 r230 q226
  refine do_setN 4 (en_list (xs := ([] : List Str)) ee_nil (by simp [sizeLine])) (fun p236 s234 e235 n237 o238 => ?_) sc_l_names.nd
  obtain ⟨names_here232, q233, hm⟩ := ltE hm
  have iv239 := Iv.sl iv231 4 e235 n237 o238 q233
  obtain ⟨hc240, hm⟩ := chkE hm
  obtain ⟨o241, ho242, hm⟩ := bndE hm
  refine do_forO (υ := (List Str)) PassesOwn.never rfl (ei_range1 z_range (ev_var 1 rfl (Iv.fz (x := (many_here213 : Int)) iv239 1)) hc240) (pg_name (i := 5) sc_l_names.nd rfl (by first | exact Or.inl rfl | exact Or.inr rfl)) tg_n ho242 (fun (b243 : (List Str)) (σ' : L2.St) (t' : S) => ∃ (y_k : Option V), σ' = [some v211, some v214, some v221, some v229, some (.ref p236), y_k] ∧ Iv K (fun _ => False) s0 t' [fz v211 (cell210 : Int), fz v214 (many_here213 : Int), fz v221 (letters217 : Str), fz v229 (longer225 : (List Int)), ol p236 (b243 : (List Str)), top]) (fun s543 k544 => by have iv545 := Iv.ex iv239 k544; exact ⟨_, rfl, Iv.sel iv545 [some 0, some 1, some 2, some 3, some 4, none] (by decide +kernel) (by kernel_rfl)⟩) (fun s246 k247 x245 b243 b244 σ256 σ257 t254 t255 hx248 hm249 fl250 hR251 k252 hB253 => ?_) (fun s537 k538 σ539 t540 fl541 hR542 => ?_)
  · have hf258 := Fle.trans k247.f fl250
    obtain ⟨y259, rfl, iv260⟩ := hR251
    obtain ⟨v261, r262, rfl⟩ := hB253
    have iv263 := Iv.ex iv260 k252
    have iv264 := Iv.sf iv263 5 (Ex.refl t255) r262 rfl
    have fl265 := Fle.trans (Fle.refl t255.F) (Ex.refl t255).f
    obtain ⟨b391, hj392, hm249⟩ := bndE hm249
    refine do_if (EvW.tt (EvC.w (ec_and (eb_eq (ev_mod (ev_var 0 rfl (Iv.fz (x := (cell210 : Int)) iv264 0)) ev_int (by decide)) ev_int) fun _ => (ec_and1 (eb_lt (ev_var 5 rfl (Iv.fz (x := (x245 : Int)) iv264 5)) ev_int))))) (fun (σ' : L2.St) (t' : S) => Fle t255.F t'.F ∧ σ' = [some v211, some v214, some v221, some v229, some (.ref p236), some v261] ∧ Iv K (fun _ => False) s0 t' [fz v211 (cell210 : Int), fz v214 (many_here213 : Int), fz v221 (letters217 : Str), fz v229 (longer225 : (List Int)), ol p236 (b391 : (List Str)), fz v261 (x245 : Int)]) (fun hb393 s394 e395 => ?_) (fun hb415 s416 e417 => ?_) (fun σ530 s531 hM532 => ?_)
    · have hm396 := iteE1 hj392 hb393
      have iv397 := Iv.ex iv264 e395
      have fl398 := Fle.trans (Fle.refl t255.F) e395.f
      have fl399 := Fle.trans (Fle.refl t255.F) e395.f
      obtain ⟨hc410, hm396⟩ := chkE hm396
      obtain ⟨hc411, hm396⟩ := chkE hm396
      refine do_append 4 rfl (Iv.ol (xs := (b243 : (List Str))) iv397 4) (ev_repS ev_str (ev_add (ev_var 5 rfl (Iv.fz (x := (x245 : Int)) iv397 5)) ev_int) hc410) hc411 (fun s405 m406 o407 => ?_)
      obtain ⟨names_here408, q409, hm396⟩ := ltE hm396
      have iv412 := Iv.ml iv397 4 m406 o407 q409
      have fl413 := Fle.trans fl398 m406.f
      have fl414 := Fle.trans fl399 m406.f
      obtain rfl := Option.some.inj hm396
      exact do_nil ⟨s405, rfl, fl414, ⟨rfl, Iv.sel iv412 [some 0, some 1, some 2, some 3, some 4, some 5] (by decide +kernel) (by kernel_rfl)⟩⟩
    · have hm418 := iteE2 hj392 hb415
      have iv419 := Iv.ex iv264 e417
      have fl420 := Fle.trans (Fle.refl t255.F) e417.f
      have fl421 := Fle.trans (Fle.refl t255.F) e417.f
      obtain ⟨b469, hj470, hm418⟩ := bndE hm418
      refine do_if (EvB.t (eb_eq (ev_mod (ev_var 0 rfl (Iv.fz (x := (cell210 : Int)) iv419 0)) ev_int (by decide)) ev_int)) (fun (σ' : L2.St) (t' : S) => Fle s416.F t'.F ∧ σ' = [some v211, some v214, some v221, some v229, some (.ref p236), some v261] ∧ Iv K (fun _ => False) s0 t' [fz v211 (cell210 : Int), fz v214 (many_here213 : Int), fz v221 (letters217 : Str), fz v229 (longer225 : (List Int)), ol p236 (b469 : (List Str)), fz v261 (x245 : Int)]) (fun hb471 s472 e473 => ?_) (fun hb495 s496 e497 => ?_) (fun σ522 s523 hM524 => ?_)
      · have hm474 := iteE1 hj470 hb471
        have iv475 := Iv.ex iv419 e473
        have fl476 := Fle.trans fl420 e473.f
        have fl477 := Fle.trans fl421 e473.f
        have fl478 := Fle.trans (Fle.refl s416.F) e473.f
        obtain ⟨at489, h_at489, hm474⟩ := bndE hm474
        obtain ⟨hc490, hm474⟩ := chkE hm474
        refine do_append 4 rfl (Iv.ol (xs := (b243 : (List Str))) iv475 4) (ev_ixS (ev_var 2 rfl (Iv.fz (x := (letters217 : Str)) iv475 2)) (ev_var 5 rfl (Iv.fz (x := (x245 : Int)) iv475 5)) h_at489) hc490 (fun s484 m485 o486 => ?_)
        obtain ⟨names_here487, q488, hm474⟩ := ltE hm474
        have iv491 := Iv.ml iv475 4 m485 o486 q488
        have fl492 := Fle.trans fl476 m485.f
        have fl493 := Fle.trans fl477 m485.f
        have fl494 := Fle.trans fl478 m485.f
        obtain rfl := Option.some.inj hm474
        exact do_nil ⟨s484, rfl, fl494, ⟨rfl, Iv.sel iv491 [some 0, some 1, some 2, some 3, some 4, some 5] (by decide +kernel) (by kernel_rfl)⟩⟩
      · have hm498 := iteE2 hj470 hb495
        have iv499 := Iv.ex iv419 e497
        have fl500 := Fle.trans fl420 e497.f
        have fl501 := Fle.trans fl421 e497.f
        have fl502 := Fle.trans (Fle.refl s416.F) e497.f
        obtain ⟨at513, h_at513, hm498⟩ := bndE hm498
        obtain ⟨at514, h_at514, hm498⟩ := bndE hm498
        obtain ⟨hc515, hm498⟩ := chkE hm498
        obtain ⟨hc516, hm498⟩ := chkE hm498
        obtain ⟨hc517, hm498⟩ := chkE hm498
        refine do_append 4 rfl (Iv.ol (xs := (b243 : (List Str))) iv499 4) (ev_adds (ev_ixS (ev_var 2 rfl (Iv.fz (x := (letters217 : Str)) iv499 2)) (ev_mod (ev_add (ev_div (ev_var 0 rfl (Iv.fz (x := (cell210 : Int)) iv499 0)) ev_int ⟨by decide, by decide +kernel⟩) (ev_mul ev_int (ev_var 5 rfl (Iv.fz (x := (x245 : Int)) iv499 5)) (Or.inl (Or.inl ⟨by omega, by omega⟩)))) ev_int (by decide)) h_at513) (ev_repS ev_str (ev_mod (ev_ix (Ev.r (ev_var 3 rfl (Iv.fz (x := (longer225 : (List Int))) iv499 3))) (ev_var 5 rfl (Iv.fz (x := (x245 : Int)) iv499 5)) h_at514) ev_int (by decide)) hc515) hc516) hc517 (fun s508 m509 o510 => ?_)
        obtain ⟨names_here511, q512, hm498⟩ := ltE hm498
        have iv518 := Iv.ml iv499 4 m509 o510 q512
        have fl519 := Fle.trans fl500 m509.f
        have fl520 := Fle.trans fl501 m509.f
        have fl521 := Fle.trans fl502 m509.f
        obtain rfl := Option.some.inj hm498
        exact do_nil ⟨s508, rfl, fl521, ⟨rfl, Iv.sel iv518 [some 0, some 1, some 2, some 3, some 4, some 5] (by decide +kernel) (by kernel_rfl)⟩⟩
      · obtain ⟨hf525, hR526⟩ := hM524
        obtain ⟨rfl, iv527⟩ := hR526
        have fl528 := Fle.trans fl420 hf525
        have fl529 := Fle.trans fl421 hf525
        obtain rfl := Option.some.inj hm418
        exact do_nil ⟨s523, rfl, fl529, ⟨rfl, Iv.sel iv527 [some 0, some 1, some 2, some 3, some 4, some 5] (by decide +kernel) (by kernel_rfl)⟩⟩
    · obtain ⟨hf533, hR534⟩ := hM532
      obtain ⟨rfl, iv535⟩ := hR534
      have fl536 := Fle.trans (Fle.refl t255.F) hf533
      obtain rfl := Option.some.inj hm249
      exact do_nil ⟨s531, rfl, fl536, ⟨_, rfl, Iv.sel iv535 [some 0, some 1, some 2, some 3, some 4, none] (by decide +kernel) (by kernel_rfl)⟩⟩
  · have hf546 := Fle.trans k538.f fl541
    obtain ⟨y547, rfl, iv548⟩ := hR542
    obtain ⟨b570, hj571, hm⟩ := bndE hm
    refine do_if (EvB.t (eb_eq (ev_mod (ev_var 0 rfl (Iv.fz (x := (cell210 : Int)) iv548 0)) ev_int (by decide)) ev_int)) (fun (σ' : L2.St) (t' : S) => Fle t540.F t'.F ∧ σ' = [some v211, some v214, some v221, some v229, some (.ref p236), y547] ∧ Iv K (fun _ => False) s0 t' [fz v211 (cell210 : Int), fz v214 (many_here213 : Int), fz v221 (letters217 : Str), fz v229 (longer225 : (List Int)), ol p236 (b570 : (List Str)), top]) (fun hb572 s573 e574 => ?_) (fun hb590 s591 e592 => ?_) (fun σ596 s597 hM598 => ?_)
    · have hm575 := iteE1 hj571 hb572
      have iv576 := Iv.ex iv548 e574
      have fl577 := Fle.trans (Fle.refl t540.F) e574.f
      refine do_reverse 4 rfl (Iv.ol (xs := (o241 : (List Str))) iv576 4) (fun s583 m584 o585 => ?_)
      obtain ⟨names_here586, q587, hm575⟩ := ltE hm575
      have iv588 := Iv.ml iv576 4 m584 o585 q587
      have fl589 := Fle.trans fl577 m584.f
      obtain rfl := Option.some.inj hm575
      exact do_nil ⟨s583, rfl, fl589, ⟨rfl, Iv.sel iv588 [some 0, some 1, some 2, some 3, some 4, none] (by decide +kernel) (by kernel_rfl)⟩⟩
    · have hm593 := iteE2 hj571 hb590
      have iv594 := Iv.ex iv548 e592
      have fl595 := Fle.trans (Fle.refl t540.F) e592.f
      obtain rfl := Option.some.inj hm593
      exact do_nil ⟨s591, rfl, fl595, ⟨rfl, Iv.sel iv594 [some 0, some 1, some 2, some 3, some 4, none] (by decide +kernel) (by kernel_rfl)⟩⟩
    · obtain ⟨hf599, hR600⟩ := hM598
      obtain ⟨rfl, iv601⟩ := hR600
      obtain rfl := Option.some.inj hm
      exact do_retO 4 rfl (hQ _ _ (Iv.exx iv601) (Iv.fresh iv601 4) (Iv.ol (xs := (b570 : (List Str))) iv601 4))
abbrev s_l_closed : Stmt := topS 18
def pre_l_closed : List V → (List (List Int)) × Unit → List OA → List OA → Prop := fun vs x L R => ∃ (a_law_rows_here : LL), vs = [(.ref a_law_rows_here.p)] ∧ L = [oll a_law_rows_here (x.1 : (List (List Int)))] ∧ R = []
def ok_l_closed : List V → (List (List Int)) × Unit → ((List (List Int))) → V → List OA → Prop := fun vs x r v L' => ∃ (a_law_rows_here : LL), vs = [(.ref a_law_rows_here.p)] ∧ (∃ (bres : LL), v = (.ref bres.p) ∧ L' = [oll bres (r : (List (List Int)))])
abbrev N_l_closed : List Str := ["_law_rows_here", "_law_middle", "_law_one", "_law_other", "_law_way"]
theorem sc_l_closed : FnScope N_l_closed ["_law_rows_here"] (defScope s_l_closed) := ⟨rfl, rfl, rfl, by decide +kernel, rfl, by decide +kernel, by decide +kernel⟩
noncomputable def m_l_closed (rows_here602 : (List (List Int))) : Option ((List (List Int))) :=
 (chk (RgB ((rows_here602).length : Int)) (bnd (foldO (fun (b608 : (List (List Int))) (x610 : Int) =>
 (bnd (foldO (fun (b636 : (List (List Int))) (x638 : Nat) =>
 (chk (RgB ((b636).length : Int)) (bnd (foldO (fun (b668 : (List (List Int))) (x670 : Int) =>
 (bnd ((b668)[x638]?) fun row692 => (bnd (atI row692 x610) fun at693 => (bnd (atI b668 x610) fun row694 => (bnd (atI row694 x670) fun at695 => (lt ((at693 + at695) : Int) fun way696 =>
 (bnd ((b668)[x638]?) fun row704 => (bnd (atI row704 x670) fun at705 => (bnd ((b668)[x638]?) fun row706 => (bnd (ixN (row706).length x670) fun j707 => (lt (((b668).set x638 ((row706).set j707 (min at705 way696))) : (List (List Int))) fun ll711 =>
 (some ll711)))))))))))) b636 (rng 0 ((b636).length : Int))) fun o666 =>
 (some o666)))) b608 (List.range (b608).length)) fun o634 =>
 (some o634))) rows_here602 (rng 0 ((rows_here602).length : Int))) fun o606 =>
 (some o606)))
noncomputable abbrev a_l_closed : (List (List Int)) × Unit → Option ((List (List Int))) := fun x => m_l_closed x.1
theorem ok_l_closed_fn {P : Program} {w : World} {K : PySem.W.Frag} {mg : Str → Option Value} {base : Heap} {f : Addr} {fd : FuncData} (F : FunM K "_law_closed" "_law_closed" s_l_closed f fd) (z_range : mg "range" = none) (z_len : mg "len" = none) (z_min : mg "min" = none) : FnOk P w K mg base CX0 1 f fd ["_law_rows_here"] (spI K pre_l_closed a_l_closed ok_l_closed noEr) := by
  refine mk_I (k := 0) F sc_l_closed (fun vs a L R h => by obtain ⟨_, rfl, _⟩ := h; rfl) ?_
  rintro cdv A' outer sh0 H0 X0 hr s0 P0 L0 R0 vs ⟨rows_here602, _⟩ o0 Q ⟨a_law_rows_here, rfl, rfl, rfl⟩ iv603 ro hm hQ
  unfold a_l_closed m_l_closed at hm
  dsimp only at hm
  have iv604 : Iv K P0 s0 s0 [oll a_law_rows_here (rows_here602 : (List (List Int))), top, top, top, top] := Iv.sel iv603 [some 0, none, none, none, none] (by decide +kernel) (by kernel_rfl)
  obtain ⟨hc605, hm⟩ := chkE hm
  obtain ⟨o606, ho607, hm⟩ := bndE hm
  refine do_forO (υ := (List (List Int))) PassesOwn.never rfl (ei_range1 z_range (ev_llen z_len (raw_var 0 rfl) (OwnLL.r (Iv.oll (xss := (rows_here602 : (List (List Int)))) iv604 0))) hc605) (pg_name (i := 1) sc_l_closed.nd rfl (by first | exact Or.inl rfl | exact Or.inr rfl)) tg_n ho607 (fun (b608 : (List (List Int))) (σ' : L2.St) (t' : S) => ∃ (y_one : Option V) (y_other : Option V) (y_way : Option V) (y_middle : Option V), σ' = [some (.ref a_law_rows_here.p), y_middle, y_one, y_other, y_way] ∧ Iv K P0 s0 t' [oll a_law_rows_here (b608 : (List (List Int))), top, top, top, top]) (fun s748 k749 => by have iv750 := Iv.ex iv604 k749; exact ⟨_, _, _, _, rfl, Iv.sel iv750 [some 0, none, none, none, none] (by decide +kernel) (by kernel_rfl)⟩) (fun s611 k612 x610 b608 b609 σ621 σ622 t619 t620 hx613 hm614 fl615 hR616 k617 hB618 => ?_) (fun s742 k743 σ744 t745 fl746 hR747 => ?_)
  · have hf623 := Fle.trans k612.f fl615
    obtain ⟨y624, y625, y626, y627, rfl, iv628⟩ := hR616
    obtain ⟨v629, r630, rfl⟩ := hB618
    have iv631 := Iv.ex iv628 k617
    have iv632 := Iv.sf iv631 1 (Ex.refl t620) r630 rfl
    have fl633 := Fle.trans (Fle.refl t620.F) (Ex.refl t620).f
    obtain ⟨o634, ho635, hm614⟩ := bndE hm614
    letI := encIx a_law_rows_here
    refine do_forG PassesOwn.never rfl (pg_name (i := 2) sc_l_closed.nd rfl (by first | exact Or.inl rfl | exact Or.inr rfl)) (for_readO (τ := Nat) (υ := (List (List Int))) (ei_ll (raw_var 0 rfl) (OwnLL.r (Iv.oll (xss := (b608 : (List (List Int)))) iv632 0))) (tg_n (α := Nat)) ho635 (fun (b636 : (List (List Int))) (σ' : L2.St) (t' : S) => Fle t620.F t'.F ∧ ∃ (y_other : Option V) (y_way : Option V) (y_one : Option V), σ' = [some (.ref a_law_rows_here.p), some v629, y_one, y_other, y_way] ∧ Iv K P0 s0 t' [oll a_law_rows_here (b636 : (List (List Int))), fz v629 (x610 : Int), top, top, top]) (fun b636 σ' t' hR => by obtain ⟨f649, hR648⟩ := hR; obtain ⟨y650, y651, y652, rfl, iv653⟩ := hR648; exact ((Iv.oll (xss := (b636 : (List (List Int)))) iv653 0)).hp) (fun s733 k734 => by have iv735 := Iv.ex iv632 k734; exact ⟨k734.f, ⟨_, _, _, rfl, Iv.sel iv735 [some 0, some 1, none, none, none] (by decide +kernel) (by kernel_rfl)⟩⟩) (fun x638 b636 b637 σ646 σ647 t644 t645 hx639 hm640 hR641 k642 hB643 => ?_) (fun σ730 t731 hR732 => ?_))
    · obtain ⟨fl654, hR641'⟩ := hR641
      obtain ⟨y655, y656, y657, rfl, iv658⟩ := hR641'
      obtain ⟨v659, r660, rfl⟩ := hB643
      obtain ⟨qq661, hq662, rfl⟩ := r660
      have iv663 := Iv.ex iv658 k642
      have fl664 := Fle.trans fl654 k642.f
      obtain ⟨hc665, hm640⟩ := chkE hm640
      obtain ⟨o666, ho667, hm640⟩ := bndE hm640
      refine do_forO (υ := (List (List Int))) PassesOwn.never rfl (ei_range1 z_range (ev_llen z_len (raw_var 0 rfl) (OwnLL.r (Iv.oll (xss := (b636 : (List (List Int)))) iv663 0))) hc665) (pg_name (i := 3) sc_l_closed.nd rfl (by first | exact Or.inl rfl | exact Or.inr rfl)) tg_n ho667 (fun (b668 : (List (List Int))) (σ' : L2.St) (t' : S) => ∃ (y_way : Option V) (y_other : Option V), σ' = [some (.ref a_law_rows_here.p), some v629, some (.ref qq661), y_other, y_way] ∧ Iv K P0 s0 t' [oll a_law_rows_here (b668 : (List (List Int))), fz v629 (x610 : Int), top, top, top]) (fun s721 k722 => by have iv723 := Iv.ex iv663 k722; have fl724 := Fle.trans fl664 k722.f; exact ⟨_, _, rfl, Iv.sel iv723 [some 0, some 1, some 2, none, none] (by decide +kernel) (by kernel_rfl)⟩) (fun s671 k672 x670 b668 b669 σ681 σ682 t679 t680 hx673 hm674 fl675 hR676 k677 hB678 => ?_) (fun s715 k716 σ717 t718 fl719 hR720 => ?_)
      · have hf683 := Fle.trans k672.f fl675
        obtain ⟨y684, y685, rfl, iv686⟩ := hR676
        obtain ⟨v687, r688, rfl⟩ := hB678
        have iv689 := Iv.ex iv686 k677
        have iv690 := Iv.sf iv689 3 (Ex.refl t680) r688 rfl
        have fl691 := Fle.trans (Fle.refl t680.F) (Ex.refl t680).f
        obtain ⟨row692, h_row692, hm674⟩ := bndE hm674
        obtain ⟨at693, h_at693, hm674⟩ := bndE hm674
        obtain ⟨row694, h_row694, hm674⟩ := bndE hm674
        obtain ⟨at695, h_at695, hm674⟩ := bndE hm674
        refine do_set 4 (ev_add (ev_ix (er_raw (xs := (row692 : (List Int))) (raw_var 2 rfl) (Own.r (OwnLL.row (Iv.oll (xss := (b668 : (List (List Int)))) iv690 0) hq662 h_row692))) (ev_var 1 rfl (Iv.fz (x := (x610 : Int)) iv690 1)) h_at693) (ev_ix (er_llix (raw_var 0 rfl) (OwnLL.r (Iv.oll (xss := (b668 : (List (List Int)))) iv690 0)) (ev_var 1 rfl (Iv.fz (x := (x610 : Int)) iv690 1)) h_row694) (ev_var 3 rfl (Iv.fz (x := (x670 : Int)) iv690 3)) h_at695)) (fun v700 s698 e699 r701 => ?_) sc_l_closed.nd
        obtain ⟨way696, q697, hm674⟩ := ltE hm674
        have iv702 := Iv.sf iv690 4 e699 r701 q697
        have fl703 := Fle.trans (Fle.refl t680.F) e699.f
        obtain ⟨row704, h_row704, hm674⟩ := bndE hm674
        obtain ⟨at705, h_at705, hm674⟩ := bndE hm674
        obtain ⟨row706, h_row706, hm674⟩ := bndE hm674
        obtain ⟨j707, h_j707, hm674⟩ := bndE hm674
        refine do_setItemP (raw_var 2 rfl) (OwnLL.row (Iv.oll (xss := (b668 : (List (List Int)))) iv702 0) hq662 h_row706) (ev_min2 z_min (ev_ix (er_raw (xs := (row704 : (List Int))) (raw_var 2 rfl) (Own.r (OwnLL.row (Iv.oll (xss := (b668 : (List (List Int)))) iv702 0) hq662 h_row704))) (ev_var 3 rfl (Iv.fz (x := (x670 : Int)) iv702 3)) h_at705) (ev_var 4 rfl (Iv.fz (x := (way696 : Int)) iv702 4))) (ev_var 3 rfl (Iv.fz (x := (x670 : Int)) iv702 3)) h_j707 (fun s708 m709 o710 => ?_)
        obtain ⟨ll711, q712, hm674⟩ := ltE hm674
        have iv713 := Iv.mll iv702 0 m709 hq662 o710 q712
        have fl714 := Fle.trans fl703 m709.f
        obtain rfl := Option.some.inj hm674
        exact do_nil ⟨s708, rfl, fl714, ⟨_, _, rfl, Iv.sel iv713 [some 0, some 1, some 2, none, none] (by decide +kernel) (by kernel_rfl)⟩⟩
      · have hf725 := Fle.trans k716.f fl719
        obtain ⟨y726, y727, rfl, iv728⟩ := hR720
        have fl729 := Fle.trans fl664 hf725
        obtain rfl := Option.some.inj hm640
        exact do_nil ⟨t718, rfl, fl729, ⟨_, _, _, rfl, Iv.sel iv728 [some 0, some 1, none, none, none] (by decide +kernel) (by kernel_rfl)⟩⟩
    · obtain ⟨fl736, hR732'⟩ := hR732
      obtain ⟨y737, y738, y739, rfl, iv740⟩ := hR732'
      have fl741 := Fle.trans (Fle.refl t620.F) fl736
      obtain rfl := Option.some.inj hm614
      exact do_nil ⟨t731, rfl, fl741, ⟨_, _, _, _, rfl, Iv.sel iv740 [some 0, none, none, none, none] (by decide +kernel) (by kernel_rfl)⟩⟩
  · have hf751 := Fle.trans k743.f fl746
    obtain ⟨y752, y753, y754, y755, rfl, iv756⟩ := hR747
    obtain rfl := Option.some.inj hm
    refine do_retK (ek_of (eg_raw (raw_var 0 rfl)) iv756) (fun v760 s758 z => ?_)
    obtain ⟨L759, ⟨rfl, rfl⟩, _, iv757⟩ := z
    exact hQ _ _ _ ⟨a_law_rows_here, rfl, a_law_rows_here, rfl, rfl⟩ (Iv.sel iv757 [some 0] (by decide +kernel) (by kernel_rfl))
abbrev s_l_rows : Stmt := topS 19
def pre_l_rows : List V → Int × Int × Unit → List OA → List OA → Prop := fun vs x L R => ∃ (a_law_cell : V) (a_law_many_here : V), vs = [a_law_cell, a_law_many_here] ∧ L = [fz a_law_cell (x.1 : Int), fz a_law_many_here (x.2.1 : Int)] ∧ R = []
def ok_l_rows : List V → Int × Int × Unit → ((List (List Int))) → V → List OA → Prop := fun vs x r v L' => ∃ (a_law_cell : V) (a_law_many_here : V), vs = [a_law_cell, a_law_many_here] ∧ (∃ (bres : LL), v = (.ref bres.p) ∧ L' = [oll bres (r : (List (List Int)))])
abbrev N_l_rows : List Str := ["_law_cell", "_law_many_here", "_law_some", "_law_rows_here", "_law_k"]
theorem sc_l_rows : FnScope N_l_rows ["_law_cell", "_law_many_here"] (defScope s_l_rows) := ⟨rfl, rfl, rfl, by decide +kernel, rfl, by decide +kernel, by decide +kernel⟩
noncomputable def m_l_rows (cell761 : Int) (many_here762 : Int) : Option ((List (List Int))) :=
 (bnd (atI ([(6 : Int), (30 : Int), ((10 : Int) ^ ((59 : Int)).toNat)] : List Int) (cell761 % (3 : Int))) fun at767 => (chk (MulOk many_here762 many_here762) (bnd (m_l_row (cell761 / (3 : Int)) at767 (many_here762 * many_here762)) fun row769 => (lt (row769 : (List Int)) fun some770 =>
 (chk (RgB many_here762) (bnd (mapO (fun (x778 : Int) => (chk (MulOk many_here762 x778) (chk (MulOk many_here762 x778) (some (cut some770 (some (many_here762 * x778)) (some ((many_here762 * x778) + many_here762))))))) (rng 0 many_here762)) fun ys793 => (chk ((ys793).length ≤ sizeLine) (chk (RgB many_here762) (bnd (foldO (fun (b806 : (List (List Int))) (x808 : Int) =>
 (bnd (ixN (b806).length x808) fun i829 => (bnd ((b806)[i829]?) fun row830 => (bnd (ixN (row830).length x808) fun j831 => (lt (((b806).set i829 ((row830).set j831 (0 : Int))) : (List (List Int))) fun ll837 =>
 (some ll837)))))) ys793 (rng 0 many_here762)) fun o804 =>
 (bnd (a_l_closed (o804, ())) fun closed853 => (some closed853)))))))))))
noncomputable abbrev a_l_rows : Int × Int × Unit → Option ((List (List Int))) := fun x => m_l_rows x.1 x.2.1
theorem ok_l_rows_fn {P : Program} {w : World} {K : PySem.W.Frag} {mg : Str → Option Value} {base : Heap} {f : Addr} {fd : FuncData} (F : FunM K "_law_rows" "_law_rows" s_l_rows f fd) (C_l_row : Cal P w K mg base CX0 1 "_law_row" (spN K a_l_row)) (C_l_closed : Cal P w K mg base CX0 1 "_law_closed" (spI K pre_l_closed a_l_closed ok_l_closed noEr)) (z_range : mg "range" = none) : FnOk P w K mg base CX0 2 f fd ["_law_cell", "_law_many_here"] (spI K pre_l_rows a_l_rows ok_l_rows noEr) := by
  refine mk_I (k := 1) F sc_l_rows (fun vs a L R h => by obtain ⟨_, _, rfl, _⟩ := h; rfl) ?_
  rintro cdv A' outer sh0 H0 X0 hr s0 P0 L0 R0 vs ⟨cell761, many_here762, _⟩ o0 Q ⟨a_law_cell, a_law_many_here, rfl, rfl, rfl⟩ iv763 ro hm hQ
  unfold a_l_rows m_l_rows at hm
  dsimp only at hm
  have iv764 : Iv K P0 s0 s0 [fz a_law_cell (cell761 : Int), fz a_law_many_here (many_here762 : Int), top, top, top] := Iv.sel iv763 [some 0, some 1, none, none, none] (by decide +kernel) (by kernel_rfl)
  obtain ⟨at767, h_at767, hm⟩ := bndE hm
  obtain ⟨hc768, hm⟩ := chkE hm
  obtain ⟨row769, h_row769, hm⟩ := bndE hm
  refine do_set 2 (EvN.ev (en_call C_l_row hr (by decide) (ea_cons (ev_div (ev_var 0 rfl (Iv.fz (x := (cell761 : Int)) iv764 0)) ev_int ⟨by decide, by decide +kernel⟩) (ea_cons (ev_ix (EvN.r (en_list (xs := ([(6 : Int), (30 : Int), ((10 : Int) ^ ((59 : Int)).toNat)] : List Int)) (ee_cons ev_int (ee_cons ev_int (ee_cons (ev_pow ev_int ev_int ⟨by decide, by decide, by decide⟩) ee_nil))) (by simp [sizeLine]))) (ev_mod (ev_var 0 rfl (Iv.fz (x := (cell761 : Int)) iv764 0)) ev_int (by decide)) h_at767) (ea_cons (ev_mul (ev_var 1 rfl (Iv.fz (x := (many_here762 : Int)) iv764 1)) (ev_var 1 rfl (Iv.fz (x := (many_here762 : Int)) iv764 1)) hc768) ea_nil))) h_row769)) (fun v774 s772 e773 r775 => ?_) sc_l_rows.nd
  obtain ⟨some770, q771, hm⟩ := ltE hm
  have iv776 := Iv.sf iv764 2 e773 r775 q771
  obtain ⟨hc777, hm⟩ := chkE hm
  obtain ⟨ys793, h_ys793, hm⟩ := bndE hm
  obtain ⟨hc794, hm⟩ := chkE hm
  refine do_setLL 3 (en_compLL (own := [("_law_k", 4)]) (j := 4) (f := fun (x778 : Int) => (chk (MulOk many_here762 x778) (chk (MulOk many_here762 x778) (some (cut some770 (some (many_here762 * x778)) (some ((many_here762 * x778) + many_here762))))))) rfl sc_l_rows.nd (ei_range1 z_range (ev_var 1 rfl (Iv.fz (x := (many_here762 : Int)) iv776 1)) hc777) (blkOk_by (own := [("_law_k", 4)]) (N := N_l_rows) (sc := defScope s_l_rows) (by decide +kernel)) rfl (by decide) (fun _ _ _ _ _ => pg_name (i := 4) sc_l_rows.nd rfl (by first | exact Or.inl rfl | exact Or.inr rfl)) h_ys793 hc794 (fun x778 y779 v784 s780 hx782 e781 r785 hf783 _ _ _ _ _ => by have z787 := Enc.mono e781.f (Iv.fz (v := a_law_many_here) (x := (many_here762 : Int)) iv776 1); have z788 := Enc.mono e781.f (Iv.fz (v := v774) (x := (some770 : (List Int))) iv776 2); obtain ⟨hc791, hf783⟩ := chkE hf783; obtain ⟨hc792, hf783⟩ := chkE hf783; obtain rfl := Option.some.inj hf783; exact (en_slice (Ev.r (ev_var 2 rfl z788)) (eo_some (ev_mul (ev_var 1 rfl z787) (ev_var 4 rfl r785) hc791)) (eo_some (ev_add (ev_mul (ev_var 1 rfl z787) (ev_var 4 rfl r785) hc792) (ev_var 1 rfl z787)))))) (fun v796 s797 L798 z801 iv799 => ?_) rfl rfl
  obtain ⟨p795, rfl, rfl⟩ := z801
  have iv800 := Iv.add iv776 iv799
  have iv802 : Iv K P0 s0 s797 [fz a_law_cell (cell761 : Int), fz a_law_many_here (many_here762 : Int), fz v774 (some770 : (List Int)), oll p795 (ys793 : (List (List Int))), top] := Iv.sel iv800 [some 0, some 1, some 2, some 5, none] (by decide +kernel) (by kernel_rfl)
  obtain ⟨hc803, hm⟩ := chkE hm
  obtain ⟨o804, ho805, hm⟩ := bndE hm
  refine do_forO (υ := (List (List Int))) PassesOwn.never rfl (ei_range1 z_range (ev_var 1 rfl (Iv.fz (x := (many_here762 : Int)) iv802 1)) hc803) (pg_name (i := 4) sc_l_rows.nd rfl (by first | exact Or.inl rfl | exact Or.inr rfl)) tg_n ho805 (fun (b806 : (List (List Int))) (σ' : L2.St) (t' : S) => ∃ (y_k : Option V), σ' = [some a_law_cell, some a_law_many_here, some v774, some (.ref p795.p), y_k] ∧ Iv K P0 s0 t' [fz a_law_cell (cell761 : Int), fz a_law_many_here (many_here762 : Int), fz v774 (some770 : (List Int)), oll p795 (b806 : (List (List Int))), top]) (fun s847 k848 => by have iv849 := Iv.ex iv802 k848; exact ⟨_, rfl, Iv.sel iv849 [some 0, some 1, some 2, some 3, none] (by decide +kernel) (by kernel_rfl)⟩) (fun s809 k810 x808 b806 b807 σ819 σ820 t817 t818 hx811 hm812 fl813 hR814 k815 hB816 => ?_) (fun s841 k842 σ843 t844 fl845 hR846 => ?_)
  · have hf821 := Fle.trans k810.f fl813
    obtain ⟨y822, rfl, iv823⟩ := hR814
    obtain ⟨v824, r825, rfl⟩ := hB816
    have iv826 := Iv.ex iv823 k815
    have iv827 := Iv.sf iv826 4 (Ex.refl t818) r825 rfl
    have fl828 := Fle.trans (Fle.refl t818.F) (Ex.refl t818).f
    obtain ⟨i829, h_i829, hm812⟩ := bndE hm812
    obtain ⟨row830, h_row830, hm812⟩ := bndE hm812
    obtain ⟨j831, h_j831, hm812⟩ := bndE hm812
    obtain ⟨qq832, hq833⟩ := OwnLL.ref (Iv.oll (xss := (b806 : (List (List Int)))) iv827 3) (List.getElem?_eq_some_iff.mp h_row830).1
    refine do_setItemP (raw_llix (raw_var 3 rfl) (OwnLL.r (Iv.oll (xss := (b806 : (List (List Int)))) iv827 3)) (ev_var 4 rfl (Iv.fz (x := (x808 : Int)) iv827 4)) h_i829 hq833) (OwnLL.row (Iv.oll (xss := (b806 : (List (List Int)))) iv827 3) hq833 h_row830) ev_int (ev_var 4 rfl (Iv.fz (x := (x808 : Int)) iv827 4)) h_j831 (fun s834 m835 o836 => ?_)
    obtain ⟨ll837, q838, hm812⟩ := ltE hm812
    have iv839 := Iv.mll iv827 3 m835 hq833 o836 q838
    have fl840 := Fle.trans (Fle.refl t818.F) m835.f
    obtain rfl := Option.some.inj hm812
    exact do_nil ⟨s834, rfl, fl840, ⟨_, rfl, Iv.sel iv839 [some 0, some 1, some 2, some 3, none] (by decide +kernel) (by kernel_rfl)⟩⟩
  · have hf850 := Fle.trans k842.f fl845
    obtain ⟨y851, rfl, iv852⟩ := hR846
    obtain ⟨closed853, h_closed853, hm⟩ := bndE hm
    obtain rfl := Option.some.inj hm
    refine do_retK (ek_call (ok' := (fun v L' => ∃ (w854 : LL), v = (.ref w854.p) ∧ L' = [oll w854 (closed853 : (List (List Int)))])) (ca_fn (E := fun _ _ _ _ => False) C_l_closed pass00 hr (by decide) (ea_cons (raw_var 3 rfl) ea_nil)) iv852 ro0 [3] (by decide) (by simp) [] (by simp) (fun vs s2 k2 r2 => by obtain ⟨_, _, rfl, rfl, rfl⟩ := r2; exact ⟨[], ⟨(p795), rfl, rfl, rfl⟩, all_nil, (fun v L' z => by obtain ⟨_, e, z⟩ := z; exact z), (fun e L' z => z.elim)⟩) h_closed853) (fun v858 s856 z => ?_)
    obtain ⟨L857, ⟨w854, rfl, rfl⟩, _, iv855⟩ := z
    have iv859 : Iv K P0 s0 s856 [fz a_law_cell (cell761 : Int), fz a_law_many_here (many_here762 : Int), fz v774 (some770 : (List Int)), top, top, oll w854 (closed853 : (List (List Int)))] := Iv.sel iv855 [some 0, some 1, some 2, none, none, some 5] (by decide +kernel) (by kernel_rfl)
    exact hQ _ _ _ ⟨a_law_cell, a_law_many_here, rfl, w854, rfl, rfl⟩ (Iv.sel iv859 [some 5] (by decide +kernel) (by kernel_rfl))
abbrev s_is_square : Stmt := topS 11
def pre_is_square : List V → (List Str) × (List (List Int)) × Unit → List OA → List OA → Prop := fun vs x L R => ∃ (anames : Addr) (arows : LL), vs = [(.ref anames), (.ref arows.p)] ∧ L = [] ∧ R = [ol anames (x.1 : (List Str)), oll arows (x.2.1 : (List (List Int)))]
def ok_is_square : List V → (List Str) × (List (List Int)) × Unit → (Bool) → V → List OA → Prop := fun vs x r v L' => ∃ (anames : Addr) (arows : LL), vs = [(.ref anames), (.ref arows.p)] ∧ (∃ (bres : V), v = bres ∧ L' = [fz bres (r : Bool)])
abbrev N_is_square : List Str := ["names", "rows", "row", "k"]
theorem sc_is_square : FnScope N_is_square ["names", "rows"] (defScope s_is_square) := ⟨rfl, rfl, rfl, by decide +kernel, rfl, by decide +kernel, by decide +kernel⟩
noncomputable def m_is_square (names860 : (List Str)) (rows861 : (List (List Int))) : Option (Bool) :=
 (if (!decide (((rows861).length : Int) = ((names860).length : Int))) = true then
 (some false)
 else
 (bnd (foldF (ρ := (Bool)) (fun (b881 : Unit) (x883 : Nat) =>
 (bnd ((rows861)[x883]?) fun row914 => (bnd (orO (!decide (((row914).length : Int) = ((names860).length : Int))) (bnd ((rows861)[x883]?) fun row916 => (bnd (minL row916) fun min917 => (some (decide (min917 < (0 : Int))))))) fun c918 => (if c918 = true then
 (some (Fl.rt false))
 else
 (some (Fl.nx ())))))) () (List.range (rows861).length)) fun o879 =>
 (Fl.go o879 (fun b943 => (chk (RgB ((names860).length : Int)) (bnd (mapO (fun (x966 : Int) => (bnd (atI rows861 x966) fun row978 => (bnd (atI row978 x966) fun at979 => (some (decide (at979 = (0 : Int))))))) (rng 0 ((names860).length : Int))) fun ys980 => (chk ((ys980).length ≤ sizeLine) (some ((ys980).all id)))))) (fun rr => (some rr)))))
noncomputable abbrev a_is_square : (List Str) × (List (List Int)) × Unit → Option (Bool) := fun x => m_is_square x.1 x.2.1
theorem ok_is_square_fn {P : Program} {w : World} {K : PySem.W.Frag} {mg : Str → Option Value} {base : Heap} {f : Addr} {fd : FuncData} (F : FunM K "is_square" "is_square" s_is_square f fd) (z_len : mg "len" = none) (z_min : mg "min" = none) (z_all : mg "all" = none) (z_range : mg "range" = none) : FnOk P w K mg base CX0 1 f fd ["names", "rows"] (spI K pre_is_square a_is_square ok_is_square noEr) := by
  refine mk_I (k := 0) F sc_is_square (fun vs a L R h => by obtain ⟨_, _, rfl, _⟩ := h; rfl) ?_
  rintro cdv A' outer sh0 H0 X0 hr s0 P0 L0 R0 vs ⟨names860, rows861, _⟩ o0 Q ⟨anames, arows, rfl, rfl, rfl⟩ iv862 ro hm hQ
  unfold a_is_square m_is_square at hm
  dsimp only at hm
  have iv863 : Iv K P0 s0 s0 [top, top, top, top] := Iv.sel iv862 [none, none, none, none] (by decide +kernel) (by kernel_rfl)
  refine do_ifR (EvB.t (eb_ne (ev_llen z_len (raw_var 1 rfl) (Iv.rll (xss := (rows861 : (List (List Int)))) iv863 ro 1)) (ev_len z_len (er_raw (xs := (names860 : (List Str))) (raw_var 0 rfl) (Iv.rol (xs := (names860 : (List Str))) iv863 ro 0))))) (fun hb864 s865 e866 => ?_) (fun hb874 s875 e876 => ?_)
  · have hm867 := iteE1 hm hb864
    have iv868 := Iv.ex iv863 e866
    obtain rfl := Option.some.inj hm867
    refine do_retK (ek_of (eg_ev ev_bl) iv868) (fun v869 s871 z => ?_)
    obtain ⟨L872, rfl, _, iv870⟩ := z
    exact hQ _ _ _ ⟨anames, arows, rfl, v869, rfl, rfl⟩ (Iv.sel iv870 [some 4] (by decide +kernel) (by kernel_rfl))
  · have hm877 := iteE2 hm hb874
    have iv878 := Iv.ex iv863 e876
    obtain ⟨o879, ho880, hm877⟩ := bndE hm877
    letI := encIx arows
    refine do_forG PassesOwn.never rfl (pg_name (i := 2) sc_is_square.nd rfl (by first | exact Or.inl rfl | exact Or.inr rfl)) (for_readF (τ := Nat) (ρ := (Bool)) (υ := Unit) (ei_ll (raw_var 1 rfl) (Iv.rll (xss := (rows861 : (List (List Int)))) iv878 ro 1)) (tg_n (α := Nat)) ho880 (fun (b881 : Unit) (σ' : L2.St) (t' : S) => Fle s875.F t'.F ∧ ∃ (y_row : Option V), σ' = [some (.ref anames), some (.ref arows.p), y_row, none] ∧ Iv K P0 s0 t' [top, top, top, top]) (fun b881 σ' t' hR => by obtain ⟨f894, hR893⟩ := hR; obtain ⟨y895, rfl, iv896⟩ := hR893; exact ((Iv.rll (xss := (rows861 : (List (List Int)))) iv896 ro 1)).1) (fun s940 k941 => by have iv942 := Iv.ex iv878 k941; exact ⟨k941.f, ⟨_, rfl, Iv.sel iv942 [none, none, none, none] (by decide +kernel) (by kernel_rfl)⟩⟩) (fun x883 b881 q906 σ891 σ892 t889 t890 hx884 hm885 hq907 hR886 k887 hB888 => ?_) (fun b943 σ937 t938 ho944 hR939 => ?_))
    · obtain ⟨fl897, hR886'⟩ := hR886
      obtain ⟨y898, rfl, iv899⟩ := hR886'
      obtain ⟨v900, r901, rfl⟩ := hB888
      obtain ⟨qq902, hq903, rfl⟩ := r901
      have iv904 := Iv.ex iv899 k887
      have fl905 := Fle.trans fl897 k887.f
      obtain ⟨row914, h_row914, hm885⟩ := bndE hm885
      obtain ⟨c918, h_c918, hm885⟩ := bndE hm885
      refine do_ifR (EvW.tt (EvC.w (by skip; exact ec_orO (eb_ne (ev_len z_len (er_raw (xs := (row914 : (List Int))) (raw_var 2 rfl) (RdLL.row (Iv.rll (xss := (rows861 : (List (List Int)))) iv904 ro 1) hq903 h_row914))) (ev_len z_len (er_raw (xs := (names860 : (List Str))) (raw_var 0 rfl) (Iv.rol (xs := (names860 : (List Str))) iv904 ro 0)))) (fun hb919 => (fun hz => (by obtain ⟨row916, h_row916, hz⟩ := bndE hz; obtain ⟨min917, h_min917, hz⟩ := bndE hz; obtain rfl := Option.some.inj hz; exact (ec_or1 (eb_lt (ev_min z_min (er_raw (xs := (row916 : (List Int))) (raw_var 2 rfl) (RdLL.row (Iv.rll (xss := (rows861 : (List (List Int)))) iv904 ro 1) hq903 h_row916)) h_min917) ev_int)))) ((orE h_c918).1 hb919)) (orE h_c918).2))) (fun hb920 s921 e922 => ?_) (fun hb931 s932 e933 => ?_)
      · have hm923 := iteE1 hm885 hb920
        have iv924 := Iv.ex iv904 e922
        have fl925 := Fle.trans fl905 e922.f
        obtain rfl := Option.some.inj hm923
        obtain rfl := hq907 _ rfl
        obtain rfl := Option.some.inj hm877
        refine do_retK (ek_of (eg_ev ev_bl) iv924) (fun v926 s928 z => ?_)
        obtain ⟨L929, rfl, _, iv927⟩ := z
        exact hQ _ _ _ ⟨anames, arows, rfl, v926, rfl, rfl⟩ (Iv.sel iv927 [some 4] (by decide +kernel) (by kernel_rfl))
      · have hm934 := iteE2 hm885 hb931
        have iv935 := Iv.ex iv904 e933
        have fl936 := Fle.trans fl905 e933.f
        obtain rfl := Option.some.inj hm934
        exact do_nil ⟨s932, rfl, _, rfl, fl936, ⟨_, rfl, Iv.sel iv935 [none, none, none, none] (by decide +kernel) (by kernel_rfl)⟩⟩
    · subst ho944
      replace hm877 := goN hm877
      obtain ⟨fl945, hR939'⟩ := hR939
      obtain ⟨y946, rfl, iv947⟩ := hR939'
      obtain ⟨hc965, hm877⟩ := chkE hm877
      obtain ⟨ys980, h_ys980, hm877⟩ := bndE hm877
      obtain ⟨hc981, hm877⟩ := chkE hm877
      obtain rfl := Option.some.inj hm877
      refine do_retK (ek_of (eg_ev (ev_all z_all (EvN.r (EvL.n (en_comp0 (own := [("k", 3)]) (j := 3) (f := fun (x966 : Int) => (bnd (atI rows861 x966) fun row978 => (bnd (atI row978 x966) fun at979 => (some (decide (at979 = (0 : Int))))))) rfl sc_is_square.nd (ei_range1 z_range (ev_len z_len (er_raw (xs := (names860 : (List Str))) (raw_var 0 rfl) (Iv.rol (xs := (names860 : (List Str))) iv947 ro 0))) hc965) (blkOk_by (own := [("k", 3)]) (N := N_is_square) (sc := defScope s_is_square) (by decide +kernel)) rfl (by decide) (fun _ _ _ _ _ => pg_name (i := 3) sc_is_square.nd rfl (by first | exact Or.inl rfl | exact Or.inr rfl)) h_ys980 hc981 (fun x966 y967 v974 s968 hx970 e969 r975 hf971 _ _ _ _ _ => by have z973 := RdLL.ex (l := arows) (xss := (rows861 : (List (List Int)))) (Iv.rll (xss := (rows861 : (List (List Int)))) iv947 ro 1) e969; obtain ⟨row978, h_row978, hf971⟩ := bndE hf971; obtain ⟨at979, h_at979, hf971⟩ := bndE hf971; obtain rfl := Option.some.inj hf971; exact (EvB.v (eb_eq (ev_ix (er_llix (raw_var 1 rfl) z973 (ev_var 3 rfl r975) h_row978) (ev_var 3 rfl r975) h_at979) ev_int)))))))) iv947) (fun v982 s984 z => ?_)
      obtain ⟨L985, rfl, _, iv983⟩ := z
      exact hQ _ _ _ ⟨anames, arows, rfl, v982, rfl, rfl⟩ (Iv.sel iv983 [some 4] (by decide +kernel) (by kernel_rfl))
abbrev s_is_straight : Stmt := topS 12
def pre_is_straight : List V → (List (List Int)) × Unit → List OA → List OA → Prop := fun vs x L R => ∃ (arows : LL), vs = [(.ref arows.p)] ∧ L = [] ∧ R = [oll arows (x.1 : (List (List Int)))]
def ok_is_straight : List V → (List (List Int)) × Unit → (Bool) → V → List OA → Prop := fun vs x r v L' => ∃ (arows : LL), vs = [(.ref arows.p)] ∧ (∃ (bres : V), v = bres ∧ L' = [fz bres (r : Bool)])
abbrev N_is_straight : List Str := ["rows", "one", "middle", "other"]
theorem sc_is_straight : FnScope N_is_straight ["rows"] (defScope s_is_straight) := ⟨rfl, rfl, rfl, by decide +kernel, rfl, by decide +kernel, by decide +kernel⟩
noncomputable def m_is_straight (rows987 : (List (List Int))) : Option (Bool) :=
 (bnd (foldF (ρ := (Bool)) (fun (b992 : Unit) (x994 : Nat) =>
 (chk (RgB ((rows987).length : Int)) (bnd (foldF (ρ := (Bool)) (fun (b1026 : Unit) (x1028 : Int) =>
 (chk (RgB ((rows987).length : Int)) (bnd (foldF (ρ := (Bool)) (fun (b1055 : Unit) (x1057 : Int) =>
 (bnd ((rows987)[x994]?) fun row1080 => (bnd (atI row1080 x1057) fun at1081 => (bnd ((rows987)[x994]?) fun row1082 => (bnd (atI row1082 x1028) fun at1083 => (bnd (atI rows987 x1028) fun row1084 => (bnd (atI row1084 x1057) fun at1085 => (if (decide ((at1083 + at1085) < at1081)) = true then
 (some (Fl.rt false))
 else
 (some (Fl.nx ())))))))))) () (rng 0 ((rows987).length : Int))) fun o1053 =>
 (Fl.go o1053 (fun b1113 => (some (Fl.nx ()))) (fun rr => (some (Fl.rt rr))))))) () (rng 0 ((rows987).length : Int))) fun o1024 =>
 (Fl.go o1024 (fun b1129 => (some (Fl.nx ()))) (fun rr => (some (Fl.rt rr))))))) () (List.range (rows987).length)) fun o990 =>
 (Fl.go o990 (fun b1142 => (some true)) (fun rr => (some rr))))
noncomputable abbrev a_is_straight : (List (List Int)) × Unit → Option (Bool) := fun x => m_is_straight x.1
theorem ok_is_straight_fn {P : Program} {w : World} {K : PySem.W.Frag} {mg : Str → Option Value} {base : Heap} {f : Addr} {fd : FuncData} (F : FunM K "is_straight" "is_straight" s_is_straight f fd) (z_range : mg "range" = none) (z_len : mg "len" = none) : FnOk P w K mg base CX0 1 f fd ["rows"] (spI K pre_is_straight a_is_straight ok_is_straight noEr) := by
  refine mk_I (k := 0) F sc_is_straight (fun vs a L R h => by obtain ⟨_, rfl, _⟩ := h; rfl) ?_
  rintro cdv A' outer sh0 H0 X0 hr s0 P0 L0 R0 vs ⟨rows987, _⟩ o0 Q ⟨arows, rfl, rfl, rfl⟩ iv988 ro hm hQ
  unfold a_is_straight m_is_straight at hm
  dsimp only at hm
  have iv989 : Iv K P0 s0 s0 [top, top, top, top] := Iv.sel iv988 [none, none, none, none] (by decide +kernel) (by kernel_rfl)
  obtain ⟨o990, ho991, hm⟩ := bndE hm
  letI := encIx arows
  refine do_forG PassesOwn.never rfl (pg_name (i := 1) sc_is_straight.nd rfl (by first | exact Or.inl rfl | exact Or.inr rfl)) (for_readF (τ := Nat) (ρ := (Bool)) (υ := Unit) (ei_ll (raw_var 0 rfl) (Iv.rll (xss := (rows987 : (List (List Int)))) iv989 ro 0)) (tg_n (α := Nat)) ho991 (fun (b992 : Unit) (σ' : L2.St) (t' : S) => Fle s0.F t'.F ∧ ∃ (y_middle : Option V) (y_other : Option V) (y_one : Option V), σ' = [some (.ref arows.p), y_one, y_middle, y_other] ∧ Iv K P0 s0 t' [top, top, top, top]) (fun b992 σ' t' hR => by obtain ⟨f1005, hR1004⟩ := hR; obtain ⟨y1006, y1007, y1008, rfl, iv1009⟩ := hR1004; exact ((Iv.rll (xss := (rows987 : (List (List Int)))) iv1009 ro 0)).1) (fun s1139 k1140 => by have iv1141 := Iv.ex iv989 k1140; exact ⟨k1140.f, ⟨_, _, _, rfl, Iv.sel iv1141 [none, none, none, none] (by decide +kernel) (by kernel_rfl)⟩⟩) (fun x994 b992 q1021 σ1002 σ1003 t1000 t1001 hx995 hm996 hq1022 hR997 k998 hB999 => ?_) (fun b1142 σ1136 t1137 ho1143 hR1138 => ?_))
  · obtain ⟨fl1010, hR997'⟩ := hR997
    obtain ⟨y1011, y1012, y1013, rfl, iv1014⟩ := hR997'
    obtain ⟨v1015, r1016, rfl⟩ := hB999
    obtain ⟨qq1017, hq1018, rfl⟩ := r1016
    have iv1019 := Iv.ex iv1014 k998
    have fl1020 := Fle.trans fl1010 k998.f
    obtain ⟨hc1023, hm996⟩ := chkE hm996
    obtain ⟨o1024, ho1025, hm996⟩ := bndE hm996
    refine do_forF (ρ := (Bool)) (υ := Unit) PassesOwn.never rfl (ei_range1 z_range (ev_llen z_len (raw_var 0 rfl) (Iv.rll (xss := (rows987 : (List (List Int)))) iv1019 ro 0)) hc1023) (pg_name (i := 2) sc_is_straight.nd rfl (by first | exact Or.inl rfl | exact Or.inr rfl)) tg_n ho1025 (fun (b1026 : Unit) (σ' : L2.St) (t' : S) => ∃ (y_other : Option V) (y_middle : Option V), σ' = [some (.ref arows.p), some (.ref qq1017), y_middle, y_other] ∧ Iv K P0 s0 t' [top, top, top, top]) (fun s1125 k1126 => by have iv1127 := Iv.ex iv1019 k1126; have fl1128 := Fle.trans fl1020 k1126.f; exact ⟨_, _, rfl, Iv.sel iv1127 [none, some 1, none, none] (by decide +kernel) (by kernel_rfl)⟩) (fun s1029 k1030 x1028 b1026 q1050 σ1039 σ1040 t1037 t1038 hx1031 hm1032 hq1051 fl1033 hR1034 k1035 hB1036 => ?_) (fun s1119 k1120 b1129 σ1121 t1122 ho1130 fl1123 hR1124 => ?_)
    · have hf1041 := Fle.trans k1030.f fl1033
      obtain ⟨y1042, y1043, rfl, iv1044⟩ := hR1034
      obtain ⟨v1045, r1046, rfl⟩ := hB1036
      have iv1047 := Iv.ex iv1044 k1035
      have iv1048 := Iv.sf iv1047 2 (Ex.refl t1038) r1046 rfl
      have fl1049 := Fle.trans (Fle.refl t1038.F) (Ex.refl t1038).f
      obtain ⟨hc1052, hm1032⟩ := chkE hm1032
      obtain ⟨o1053, ho1054, hm1032⟩ := bndE hm1032
      refine do_forF (ρ := (Bool)) (υ := Unit) PassesOwn.never rfl (ei_range1 z_range (ev_llen z_len (raw_var 0 rfl) (Iv.rll (xss := (rows987 : (List (List Int)))) iv1048 ro 0)) hc1052) (pg_name (i := 3) sc_is_straight.nd rfl (by first | exact Or.inl rfl | exact Or.inr rfl)) tg_n ho1054 (fun (b1055 : Unit) (σ' : L2.St) (t' : S) => ∃ (y_other : Option V), σ' = [some (.ref arows.p), some (.ref qq1017), some v1045, y_other] ∧ Iv K P0 s0 t' [top, top, fz v1045 (x1028 : Int), top]) (fun s1109 k1110 => by have iv1111 := Iv.ex iv1048 k1110; have fl1112 := Fle.trans (Fle.refl t1038.F) k1110.f; exact ⟨_, rfl, Iv.sel iv1111 [none, some 1, some 2, none] (by decide +kernel) (by kernel_rfl)⟩) (fun s1058 k1059 x1057 b1055 q1078 σ1068 σ1069 t1066 t1067 hx1060 hm1061 hq1079 fl1062 hR1063 k1064 hB1065 => ?_) (fun s1103 k1104 b1113 σ1105 t1106 ho1114 fl1107 hR1108 => ?_)
      · have hf1070 := Fle.trans k1059.f fl1062
        obtain ⟨y1071, rfl, iv1072⟩ := hR1063
        obtain ⟨v1073, r1074, rfl⟩ := hB1065
        have iv1075 := Iv.ex iv1072 k1064
        have iv1076 := Iv.sf iv1075 3 (Ex.refl t1067) r1074 rfl
        have fl1077 := Fle.trans (Fle.refl t1067.F) (Ex.refl t1067).f
        obtain ⟨row1080, h_row1080, hm1061⟩ := bndE hm1061
        obtain ⟨at1081, h_at1081, hm1061⟩ := bndE hm1061
        obtain ⟨row1082, h_row1082, hm1061⟩ := bndE hm1061
        obtain ⟨at1083, h_at1083, hm1061⟩ := bndE hm1061
        obtain ⟨row1084, h_row1084, hm1061⟩ := bndE hm1061
        obtain ⟨at1085, h_at1085, hm1061⟩ := bndE hm1061
        refine do_ifR (EvB.t (eb_gt (ev_ix (er_raw (xs := (row1080 : (List Int))) (raw_var 1 rfl) (RdLL.row (Iv.rll (xss := (rows987 : (List (List Int)))) iv1076 ro 0) hq1018 h_row1080)) (ev_var 3 rfl (Iv.fz (x := (x1057 : Int)) iv1076 3)) h_at1081) (ev_add (ev_ix (er_raw (xs := (row1082 : (List Int))) (raw_var 1 rfl) (RdLL.row (Iv.rll (xss := (rows987 : (List (List Int)))) iv1076 ro 0) hq1018 h_row1082)) (ev_var 2 rfl (Iv.fz (x := (x1028 : Int)) iv1076 2)) h_at1083) (ev_ix (er_llix (raw_var 0 rfl) (Iv.rll (xss := (rows987 : (List (List Int)))) iv1076 ro 0) (ev_var 2 rfl (Iv.fz (x := (x1028 : Int)) iv1076 2)) h_row1084) (ev_var 3 rfl (Iv.fz (x := (x1057 : Int)) iv1076 3)) h_at1085)))) (fun hb1086 s1087 e1088 => ?_) (fun hb1097 s1098 e1099 => ?_)
        · have hm1089 := iteE1 hm1061 hb1086
          have iv1090 := Iv.ex iv1076 e1088
          have fl1091 := Fle.trans (Fle.refl t1067.F) e1088.f
          obtain rfl := Option.some.inj hm1089
          obtain rfl := hq1079 _ rfl
          obtain rfl := Option.some.inj hm1032
          obtain rfl := hq1051 _ rfl
          obtain rfl := Option.some.inj hm996
          obtain rfl := hq1022 _ rfl
          obtain rfl := Option.some.inj hm
          refine do_retK (ek_of (eg_ev ev_bl) iv1090) (fun v1092 s1094 z => ?_)
          obtain ⟨L1095, rfl, _, iv1093⟩ := z
          exact hQ _ _ _ ⟨arows, rfl, v1092, rfl, rfl⟩ (Iv.sel iv1093 [some 4] (by decide +kernel) (by kernel_rfl))
        · have hm1100 := iteE2 hm1061 hb1097
          have iv1101 := Iv.ex iv1076 e1099
          have fl1102 := Fle.trans (Fle.refl t1067.F) e1099.f
          obtain rfl := Option.some.inj hm1100
          exact do_nil ⟨s1098, rfl, _, rfl, fl1102, ⟨_, rfl, Iv.sel iv1101 [none, some 1, some 2, none] (by decide +kernel) (by kernel_rfl)⟩⟩
      · subst ho1114
        replace hm1032 := goN hm1032
        have hf1115 := Fle.trans k1104.f fl1107
        obtain ⟨y1116, rfl, iv1117⟩ := hR1108
        have fl1118 := Fle.trans (Fle.refl t1038.F) hf1115
        obtain rfl := Option.some.inj hm1032
        exact do_nil ⟨t1106, rfl, _, rfl, fl1118, ⟨_, _, rfl, Iv.sel iv1117 [none, some 1, none, none] (by decide +kernel) (by kernel_rfl)⟩⟩
    · subst ho1130
      replace hm996 := goN hm996
      have hf1131 := Fle.trans k1120.f fl1123
      obtain ⟨y1132, y1133, rfl, iv1134⟩ := hR1124
      have fl1135 := Fle.trans fl1020 hf1131
      obtain rfl := Option.some.inj hm996
      exact do_nil ⟨t1122, rfl, _, rfl, fl1135, ⟨_, _, _, rfl, Iv.sel iv1134 [none, none, none, none] (by decide +kernel) (by kernel_rfl)⟩⟩
  · subst ho1143
    replace hm := goN hm
    obtain ⟨fl1144, hR1138'⟩ := hR1138
    obtain ⟨y1145, y1146, y1147, rfl, iv1148⟩ := hR1138'
    obtain rfl := Option.some.inj hm
    refine do_retK (ek_of (eg_ev ev_bl) iv1148) (fun v1149 s1151 z => ?_)
    obtain ⟨L1152, rfl, _, iv1150⟩ := z
    exact hQ _ _ _ ⟨arows, rfl, v1149, rfl, rfl⟩ (Iv.sel iv1150 [some 4] (by decide +kernel) (by kernel_rfl))
abbrev s_is_made_of : Stmt := topS 8
abbrev N_is_made_of : List Str := ["text", "signs", "most", "sign"]
theorem sc_is_made_of : FnScope N_is_made_of ["text", "signs", "most"] (defScope s_is_made_of) := ⟨rfl, rfl, rfl, by decide +kernel, rfl, by decide +kernel, by decide +kernel⟩
noncomputable def m_is_made_of (text1154 : Str) (signs1157 : Str) (most1160 : Int) : Option Bool :=
 (chk ((text1154).length ≤ sizeLine) (if ((decide (((text1154).length : Int) < (1 : Int))) || (decide (most1160 < ((text1154).length : Int)))) = true then
 (some false)
 else
 (bnd (foldF (ρ := Bool) (fun (b1184 : Unit) (x1186 : Str) =>
 (if (!inS x1186 signs1157) = true then
 (some (Fl.rt false))
 else
 (some (Fl.nx ())))) () (chars text1154)) fun o1182 =>
 (Fl.go o1182 (fun b1234 => (some true)) (fun rr => (some rr))))))
noncomputable abbrev a_is_made_of : Str × Str × Int × Unit → Option Bool := fun a => m_is_made_of a.1 a.2.1 a.2.2.1
theorem ok_is_made_of {P : Program} {w : World} {K : PySem.W.Frag} {mg : Str → Option Value} {base : Heap} {f : Addr} {fd : FuncData} (F : FunP K "is_made_of" s_is_made_of f fd) (hmg : mg "is_made_of" = some (.ref f)) (z_len : mg "len" = none) : Cal P w K mg base CX0 1 "is_made_of" (sp K a_is_made_of) := by
  refine mk_cal (k := 0) F hmg (F.bindsN fun _ _ _ _ _ _ us hl => match us, hl with | [_, _, _], _ => rfl) sc_is_made_of len3 ?_
  rintro cdv A' outer sh0 H0 X0 hr s0 vs ⟨text1154, signs1157, most1160, _⟩ r0 Q ⟨v1155, _, rfl, r1156, v1158, _, rfl, r1159, v1161, _, rfl, r1162, rfl⟩ hm hQ
  unfold a_is_made_of m_is_made_of at hm
  dsimp only at hm
  have iv1163 : Iv K (fun _ => False) s0 s0 [fz v1155 (text1154 : Str), fz v1158 (signs1157 : Str), fz v1161 (most1160 : Int), top] := (Iv.sf (Iv.sf (Iv.sf (Iv.tops (K := K) (P0 := (fun _ => False)) 4 s0) 0 (Ex.refl s0) r1156 rfl) 1 (Ex.refl s0) r1159 rfl) 2 (Ex.refl s0) r1162 rfl)
  obtain ⟨hc1166, hm⟩ := chkE hm
  refine do_ifR (EvW.tt (EvC.w (ec_or (eb_lt (ev_lenS z_len hc1166 (ev_var 0 rfl (Iv.fz (x := (text1154 : Str)) iv1163 0))) ev_int) fun _ => (ec_or1 (eb_gt (ev_lenS z_len hc1166 (ev_var 0 rfl (Iv.fz (x := (text1154 : Str)) iv1163 0))) (ev_var 2 rfl (Iv.fz (x := (most1160 : Int)) iv1163 2))))))) (fun hb1168 s1169 e1170 => ?_) (fun hb1177 s1178 e1179 => ?_)
  · have hm1171 := iteE1 hm hb1168
    have iv1172 := Iv.ex iv1163 e1170
    obtain rfl := Option.some.inj hm1171
    exact do_ret ev_bl fun v1173 s1174 e1175 r1176 => hQ _ _ (Ex.trans (Iv.exx iv1172) e1175) r1176
  · have hm1180 := iteE2 hm hb1177
    have iv1181 := Iv.ex iv1163 e1179
    obtain ⟨o1182, ho1183, hm1180⟩ := bndE hm1180
    refine do_forF (ρ := Bool) (υ := Unit) PassesOwn.never rfl (ei_str (ev_var 0 rfl (Iv.fz (x := (text1154 : Str)) iv1181 0))) (pg_name (i := 3) sc_is_made_of.nd rfl (by first | exact Or.inl rfl | exact Or.inr rfl)) tg_n ho1183 (fun (b1184 : Unit) (σ' : L2.St) (t' : S) => ∃ (y_sign : Option V), σ' = [some v1155, some v1158, some v1161, y_sign] ∧ Iv K (fun _ => False) s0 t' [fz v1155 (text1154 : Str), fz v1158 (signs1157 : Str), fz v1161 (most1160 : Int), top]) (fun s1231 k1232 => by have iv1233 := Iv.ex iv1181 k1232; exact ⟨_, rfl, Iv.sel iv1233 [some 0, some 1, some 2, none] (by decide +kernel) (by kernel_rfl)⟩) (fun s1187 k1188 x1186 b1184 q1207 σ1197 σ1198 t1195 t1196 hx1189 hm1190 hq1208 fl1191 hR1192 k1193 hB1194 => ?_) (fun s1225 k1226 b1234 σ1227 t1228 ho1235 fl1229 hR1230 => ?_)
    · have hf1199 := Fle.trans k1188.f fl1191
      obtain ⟨y1200, rfl, iv1201⟩ := hR1192
      obtain ⟨v1202, r1203, rfl⟩ := hB1194
      have iv1204 := Iv.ex iv1201 k1193
      have iv1205 := Iv.sf iv1204 3 (Ex.refl t1196) r1203 rfl
      have fl1206 := Fle.trans (Fle.refl t1196.F) (Ex.refl t1196).f
      refine do_ifR (EvB.t (eb_notInS (ev_var 3 rfl (Iv.fz (x := (x1186 : Str)) iv1205 3)) (ev_var 1 rfl (Iv.fz (x := (signs1157 : Str)) iv1205 1)))) (fun hb1209 s1210 e1211 => ?_) (fun hb1219 s1220 e1221 => ?_)
      · have hm1212 := iteE1 hm1190 hb1209
        have iv1213 := Iv.ex iv1205 e1211
        have fl1214 := Fle.trans (Fle.refl t1196.F) e1211.f
        obtain rfl := Option.some.inj hm1212
        obtain rfl := hq1208 _ rfl
        obtain rfl := Option.some.inj hm1180
        exact do_ret ev_bl fun v1215 s1216 e1217 r1218 => hQ _ _ (Ex.trans (Iv.exx iv1213) e1217) r1218
      · have hm1222 := iteE2 hm1190 hb1219
        have iv1223 := Iv.ex iv1205 e1221
        have fl1224 := Fle.trans (Fle.refl t1196.F) e1221.f
        obtain rfl := Option.some.inj hm1222
        exact do_nil ⟨s1220, rfl, _, rfl, fl1224, ⟨_, rfl, Iv.sel iv1223 [some 0, some 1, some 2, none] (by decide +kernel) (by kernel_rfl)⟩⟩
    · subst ho1235
      replace hm1180 := goN hm1180
      have hf1236 := Fle.trans k1226.f fl1229
      obtain ⟨y1237, rfl, iv1238⟩ := hR1230
      obtain rfl := Option.some.inj hm1180
      exact do_ret ev_bl fun v1239 s1240 e1241 r1242 => hQ _ _ (Ex.trans (Iv.exx iv1238) e1241) r1242
abbrev s_is_name : Stmt := topS 9
abbrev N_is_name : List Str := ["text"]
theorem sc_is_name : FnScope N_is_name ["text"] (defScope s_is_name) := ⟨rfl, rfl, rfl, by decide +kernel, rfl, by decide +kernel, by decide +kernel⟩
noncomputable def m_is_name (text1243 : Str) : Option Bool :=
 (bnd (m_is_made_of text1243 c_LETTERS (10 : Int)) fun is_made_of1248 => (some is_made_of1248))
noncomputable abbrev a_is_name : Str × Unit → Option Bool := fun a => m_is_name a.1
theorem ok_is_name {P : Program} {w : World} {K : PySem.W.Frag} {mg : Str → Option Value} {base : Heap} {f : Addr} {fd : FuncData} (F : FunP K "is_name" s_is_name f fd) (hmg : mg "is_name" = some (.ref f)) (C_is_made_of : Cal P w K mg base CX0 1 "is_made_of" (sp K a_is_made_of)) (G_LETTERS : ∃ v u, mg "LETTERS" = some u ∧ RelV v u ∧ ∀ F, rep K F v c_LETTERS) : Cal P w K mg base CX0 2 "is_name" (sp K a_is_name) := by
  refine mk_cal (k := 1) F hmg (F.bindsN fun _ _ _ _ _ _ us hl => match us, hl with | [_], _ => rfl) sc_is_name len1 ?_
  rintro cdv A' outer sh0 H0 X0 hr s0 vs ⟨text1243, _⟩ r0 Q ⟨v1244, _, rfl, r1245, rfl⟩ hm hQ
  unfold a_is_name m_is_name at hm
  dsimp only at hm
  have iv1246 : Iv K (fun _ => False) s0 s0 [fz v1244 (text1243 : Str)] := (Iv.sf (Iv.tops (K := K) (P0 := (fun _ => False)) 1 s0) 0 (Ex.refl s0) r1245 rfl)
  obtain ⟨is_made_of1248, h_is_made_of1248, hm⟩ := bndE hm
  obtain rfl := Option.some.inj hm
  exact do_ret (ev_call C_is_made_of hr (by decide) (ea_cons (ev_var 0 rfl (Iv.fz (x := (text1243 : Str)) iv1246 0)) (ea_cons (ev_glob G_LETTERS) (ea_cons ev_int ea_nil))) h_is_made_of1248) fun v1249 s1250 e1251 r1252 => hQ _ _ (Ex.trans (Iv.exx iv1246) e1251) r1252
abbrev s_Times_init : Stmt := clsS 13 0
def pre_Times_init : List V → (List Str) × (List (List Int)) × Unit → List OA → List OA → Prop := fun vs x L R => ∃ (aself : Addr) (anames : Addr) (arows : LL), vs = [(.ref aself), (.ref anames), (.ref arows.p)] ∧ L = [cell aself "Times" []] ∧ R = [ol anames (x.1 : (List Str)), oll arows (x.2.1 : (List (List Int)))]
def ok_Times_init : List V → (List Str) × (List (List Int)) × Unit → (R_Times) → V → List OA → Prop := fun vs x r v L' => ∃ (aself : Addr) (anames : Addr) (arows : LL), vs = [(.ref aself), (.ref anames), (.ref arows.p)] ∧ (∃ (bself_my_names : V) (bself_my_rows : V), v = .non ∧ L' = [cell aself "Times" [("my_names", bself_my_names), ("my_rows", bself_my_rows)], fz bself_my_names (r.my_names : (List Str)), fz bself_my_rows (r.my_rows : (List (List Int)))])
abbrev N_Times_init : List Str := ["self", "names", "rows", "row", "one"]
theorem sc_Times_init : FnScope N_Times_init ["self", "names", "rows"] (defScope s_Times_init) := ⟨rfl, rfl, rfl, by decide +kernel, rfl, by decide +kernel, by decide +kernel⟩
noncomputable def m_Times_init (names1253 : (List Str)) (rows1254 : (List (List Int))) : Option (R_Times) :=
 (bnd (orO (decide (((names1253).length : Int) < (1 : Int))) (orO (decide ((12 : Int) < ((names1253).length : Int))) (chk ((names1253).length ≤ 4000) (some (!decide ((((ddS names1253).length : Nat) : Int) = ((names1253).length : Int))))))) fun c1261 => (if c1261 = true then
 none
 else
 (bnd (mapO (fun (x1319 : Str) => (bnd (m_is_name x1319) fun is_name1331 => (some is_name1331))) names1253) fun ys1332 => (chk ((ys1332).length ≤ sizeLine) (if (!((ys1332).all id)) = true then
 none
 else
 (bnd (a_is_square (names1253, rows1254, ())) fun is_square1351 => (bnd (orO (!is_square1351) (bnd (a_is_straight (rows1254, ())) fun is_straight1355 => (some (!is_straight1355)))) fun c1356 => (if c1356 = true then
 none
 else
 (bnd (mapO (fun (x1374 : Nat) => (bnd ((rows1254)[x1374]?) fun row1386 => (some row1386))) (List.range (rows1254).length)) fun ys1387 => (chk ((ys1387).length ≤ sizeLine) (some (⟨names1253, ys1387⟩ : R_Times))))))))))))
noncomputable abbrev a_Times_init : (List Str) × (List (List Int)) × Unit → Option (R_Times) := fun x => m_Times_init x.1 x.2.1
theorem ok_Times_init_fn {P : Program} {w : World} {K : PySem.W.Frag} {mg : Str → Option Value} {base : Heap} {f : Addr} {fd : FuncData} (F : FunM K "__init__" "Times.__init__" s_Times_init f fd) (C_is_name : Cal P w K mg base CX0 2 "is_name" (sp K a_is_name)) (C_is_square : Cal P w K mg base CX0 1 "is_square" (spI K pre_is_square a_is_square ok_is_square noEr)) (C_is_straight : Cal P w K mg base CX0 1 "is_straight" (spI K pre_is_straight a_is_straight ok_is_straight noEr)) (z_len : mg "len" = none) (z_set : mg "set" = none) (z_all : mg "all" = none) (z_list : mg "list" = none) (CL_Times : ClsF K "Times" ["my_names", "my_rows"] ["__init__", "names", "time"]) : FnOk P w K mg base CX0 3 f fd ["self", "names", "rows"] (spI K pre_Times_init a_Times_init ok_Times_init noEr) := by
  refine mk_I (k := 2) F sc_Times_init (fun vs a L R h => by obtain ⟨_, _, _, rfl, _⟩ := h; rfl) ?_
  rintro cdv A' outer sh0 H0 X0 hr s0 P0 L0 R0 vs ⟨names1253, rows1254, _⟩ o0 Q ⟨aself, anames, arows, rfl, rfl, rfl⟩ iv1255 ro hm hQ
  unfold a_Times_init m_Times_init at hm
  dsimp only at hm
  have iv1256 : Iv K P0 s0 s0 [cell aself "Times" [], top, top, top, top, top, top] := Iv.sel iv1255 [some 0, none, none, none, none, none, none] (by decide +kernel) (by kernel_rfl)
  obtain ⟨c1261, h_c1261, hm⟩ := bndE hm
  refine do_ifR (EvW.tt (EvC.w (by skip; exact ec_orO (eb_lt (ev_len z_len (er_raw (xs := (names1253 : (List Str))) (raw_var 1 rfl) (Iv.rol (xs := (names1253 : (List Str))) iv1256 ro 0))) ev_int) (fun hb1262 => (fun hz => (by skip; exact ec_orO (eb_gt (ev_len z_len (er_raw (xs := (names1253 : (List Str))) (raw_var 1 rfl) (Iv.rol (xs := (names1253 : (List Str))) iv1256 ro 0))) ev_int) (fun hb1263 => (fun hz => (by obtain ⟨hc1260, hz⟩ := chkE hz; obtain rfl := Option.some.inj hz; exact (ec_or1 (eb_ne (ev_dszS z_len z_set (er_raw (xs := (names1253 : (List Str))) (raw_var 1 rfl) (Iv.rol (xs := (names1253 : (List Str))) iv1256 ro 0)) hc1260) (ev_len z_len (er_raw (xs := (names1253 : (List Str))) (raw_var 1 rfl) (Iv.rol (xs := (names1253 : (List Str))) iv1256 ro 0))))))) ((orE hz).1 hb1263)) (orE hz).2)) ((orE h_c1261).1 hb1262)) (orE h_c1261).2))) (fun hb1264 s1265 e1266 => ?_) (fun hb1269 s1270 e1271 => ?_)
  · have hm1267 := iteE1 hm hb1264
    have iv1268 := Iv.ex iv1256 e1266
    exact absurd hm1267 (by intro z; cases z)
  · have hm1272 := iteE2 hm hb1269
    have iv1273 := Iv.ex iv1256 e1271
    obtain ⟨ys1332, h_ys1332, hm1272⟩ := bndE hm1272
    obtain ⟨hc1333, hm1272⟩ := chkE hm1272
    refine do_ifR (EvB.t (eb_not (eb_v (ev_all z_all (EvN.r (EvL.n (en_comp0G (own := [("one", 4)]) (j := 4) (f := fun (x1319 : Str) => (bnd (m_is_name x1319) fun is_name1331 => (some is_name1331))) (fun _ _ e h => GL.ex h e) (Iv.rol (xs := (names1253 : (List Str))) iv1273 ro 0) rfl sc_Times_init.nd (ei_rawL (xs := (names1253 : (List Str))) (raw_var 1 rfl) (Iv.rol (xs := (names1253 : (List Str))) iv1273 ro 0)) (blkOk_by (own := [("one", 4)]) (N := N_Times_init) (sc := defScope s_Times_init) (by decide +kernel)) rfl (by decide) (fun _ _ _ _ _ => pg_name (i := 4) sc_Times_init.nd rfl (by first | exact Or.inl rfl | exact Or.inr rfl)) h_ys1332 hc1333 (fun x1319 y1320 v1328 s1321 hx1323 e1322 r1329 hf1324 _ _ _ _ _ => by obtain ⟨is_name1331, h_is_name1331, hf1324⟩ := bndE hf1324; obtain rfl := Option.some.inj hf1324; exact (ev_call C_is_name hr (by decide) (ea_cons (ev_var 4 rfl r1329) ea_nil) h_is_name1331))))))))) (fun hb1334 s1335 e1336 => ?_) (fun hb1339 s1340 e1341 => ?_)
    · have hm1337 := iteE1 hm1272 hb1334
      have iv1338 := Iv.ex iv1273 e1336
      exact absurd hm1337 (by intro z; cases z)
    · have hm1342 := iteE2 hm1272 hb1339
      have iv1343 := Iv.ex iv1273 e1341
      obtain ⟨is_square1351, h_is_square1351, hm1342⟩ := bndE hm1342
      obtain ⟨c1356, h_c1356, hm1342⟩ := bndE hm1342
      refine do_ifR (EvW.tt (EvC.w (by skip; exact ec_orO (eb_not (eb_v (ev_of_eg (eg_call (ok' := (fun v L' => ∃ (bres : V), v = bres ∧ L' = [fz bres (is_square1351 : Bool)])) (ca_fn (E := fun _ _ _ _ => False) C_is_square pass00 hr (by decide) (ea_cons (raw_var 1 rfl) (ea_cons (raw_var 2 rfl) ea_nil))) iv1343 ro [.inr 0, .inr 1] (fun vs s2 k2 r2 => by obtain ⟨_, _, rfl, rfl, _, _, rfl, rfl, rfl⟩ := r2; exact ⟨[], ⟨(anames), (arows), rfl, rfl, rfl⟩, all_nil, (fun v L' z => by obtain ⟨_, _, e, z⟩ := z; (first | cases e | (have e1 := (List.cons.inj e).1; cases e1) | skip); exact z), (fun e L' z => z.elim)⟩) h_is_square1351) (fun v L' z => by obtain ⟨_, rfl, rfl⟩ := z; exact ⟨[], rfl⟩)))) (fun hb1357 => (fun hz => (by obtain ⟨is_straight1355, h_is_straight1355, hz⟩ := bndE hz; obtain rfl := Option.some.inj hz; exact (ec_or1 (eb_not (eb_v (ev_of_eg (eg_call (ok' := (fun v L' => ∃ (bres : V), v = bres ∧ L' = [fz bres (is_straight1355 : Bool)])) (ca_fn (E := fun _ _ _ _ => False) C_is_straight pass00 hr (by decide) (ea_cons (raw_var 2 rfl) ea_nil)) iv1343 ro [.inr 1] (fun vs s2 k2 r2 => by obtain ⟨_, _, rfl, rfl, rfl⟩ := r2; exact ⟨[], ⟨(arows), rfl, rfl, rfl⟩, all_nil, (fun v L' z => by obtain ⟨_, e, z⟩ := z; (first | cases e | (have e1 := (List.cons.inj e).1; cases e1) | skip); exact z), (fun e L' z => z.elim)⟩) h_is_straight1355) (fun v L' z => by obtain ⟨_, rfl, rfl⟩ := z; exact ⟨[], rfl⟩))))))) ((orE h_c1356).1 hb1357)) (orE h_c1356).2))) (fun hb1358 s1359 e1360 => ?_) (fun hb1363 s1364 e1365 => ?_)
      · have hm1361 := iteE1 hm1342 hb1358
        have iv1362 := Iv.ex iv1343 e1360
        exact absurd hm1361 (by intro z; cases z)
      · have hm1366 := iteE2 hm1342 hb1363
        have iv1367 := Iv.ex iv1343 e1365
        refine do_fldG iv1367 0 rfl (raw_var 0 rfl) (eg_ev (EvN.ev (en_copy z_list (er_raw (xs := (names1253 : (List Str))) (raw_var 1 rfl) (Iv.rol (xs := (names1253 : (List Str))) iv1367 ro 0))))) CL_Times.cl (CL_Times.na "my_names" (by simp)) (by simp) (fun v1368 s1369 L1370 z1372 hf_iv1371 iv1371 => ?_)
        obtain rfl := z1372
        have iv1373 : Iv K P0 s0 s1369 [cell aself "Times" [("my_names", v1368)], top, top, top, top, fz v1368 (names1253 : (List Str)), top] := Iv.sel iv1371 [some 0, none, none, none, none, some 7, none] (by decide +kernel) (by kernel_rfl)
        obtain ⟨ys1387, h_ys1387, hm1366⟩ := bndE hm1366
        obtain ⟨hc1388, hm1366⟩ := chkE hm1366
        refine do_fldG iv1373 0 rfl (raw_var 0 rfl) (eg_ev (EvG.evLL (eg_LL (en_compLLr (own := [("row", 3)]) (j := 3) (f := fun (x1374 : Nat) => (bnd ((rows1254)[x1374]?) fun row1386 => (some row1386))) rfl sc_Times_init.nd (raw_var 2 rfl) (Iv.rll (xss := (rows1254 : (List (List Int)))) iv1373 ro 1) (blkOk_by (own := [("row", 3)]) (N := N_Times_init) (sc := defScope s_Times_init) (by decide +kernel)) rfl (by decide) (fun _ _ _ _ _ => pg_name (i := 3) sc_Times_init.nd rfl (by first | exact Or.inl rfl | exact Or.inr rfl)) h_ys1387 hc1388 (fun x1374 y1375 qq1380 s1376 hq1378 e1377 hf1379 _ _ _ _ _ => by have z1384 := RdLL.ex (l := arows) (xss := (rows1254 : (List (List Int)))) (Iv.rll (xss := (rows1254 : (List (List Int)))) iv1373 ro 1) e1377; obtain ⟨row1386, h_row1386, hf1379⟩ := bndE hf1379; obtain rfl := Option.some.inj hf1379; exact (en_copy z_list (er_raw (xs := (row1386 : (List Int))) (raw_var 3 rfl) (RdLL.row z1384 hq1378 h_row1386)))))) (fun v L' z => z))) CL_Times.cl (CL_Times.na "my_rows" (by simp)) (by simp) (fun v1389 s1390 L1391 z1393 hf_iv1392 iv1392 => ?_)
        obtain rfl := z1393
        have iv1394 : Iv K P0 s0 s1390 [cell aself "Times" [("my_names", v1368), ("my_rows", v1389)], top, top, top, top, fz v1368 (names1253 : (List Str)), fz v1389 (ys1387 : (List (List Int)))] := Iv.sel iv1392 [some 0, none, none, none, none, some 5, some 7] (by decide +kernel) (by kernel_rfl)
        obtain rfl := Option.some.inj hm1366
        exact do_nil (hQ _ _ _ ⟨aself, anames, arows, rfl, v1368, v1389, rfl, rfl⟩ (Iv.sel iv1394 [some 0, some 5, some 6] (by decide +kernel) (by kernel_rfl)))
abbrev s_Times_names : Stmt := clsS 13 1
def pre_Times_names : List V → R_Times × Unit → List OA → List OA → Prop := fun vs x L R => ∃ (aself : Addr) (aself_my_names : V) (aself_my_rows : V), vs = [(.ref aself)] ∧ L = [] ∧ R = [cell aself "Times" [("my_names", aself_my_names), ("my_rows", aself_my_rows)], fz aself_my_names (x.1.my_names : (List Str)), fz aself_my_rows (x.1.my_rows : (List (List Int)))]
def ok_Times_names : List V → R_Times × Unit → ((List Str)) → V → List OA → Prop := fun vs x r v L' => ∃ (aself : Addr) (aself_my_names : V) (aself_my_rows : V), vs = [(.ref aself)] ∧ (∃ (bres : Addr), v = (.ref bres) ∧ L' = [ol bres (r : (List Str))])
abbrev N_Times_names : List Str := ["self"]
theorem sc_Times_names : FnScope N_Times_names ["self"] (defScope s_Times_names) := ⟨rfl, rfl, rfl, by decide +kernel, rfl, by decide +kernel, by decide +kernel⟩
noncomputable def m_Times_names (self1395 : R_Times) : Option ((List Str)) :=
 (some self1395.my_names)
noncomputable abbrev a_Times_names : R_Times × Unit → Option ((List Str)) := fun x => m_Times_names x.1
theorem ok_Times_names_fn {P : Program} {w : World} {K : PySem.W.Frag} {mg : Str → Option Value} {base : Heap} {f : Addr} {fd : FuncData} (F : FunM K "names" "Times.names" s_Times_names f fd) (z_list : mg "list" = none) (CL_Times : ClsF K "Times" ["my_names", "my_rows"] ["__init__", "names", "time"]) : FnOk P w K mg base CX0 1 f fd ["self"] (spI K pre_Times_names a_Times_names ok_Times_names noEr) := by
  refine mk_I (k := 0) F sc_Times_names (fun vs a L R h => by obtain ⟨_, _, _, rfl, _⟩ := h; rfl) ?_
  rintro cdv A' outer sh0 H0 X0 hr s0 P0 L0 R0 vs ⟨self1395, _⟩ o0 Q ⟨aself, aself_my_names, aself_my_rows, rfl, rfl, rfl⟩ iv1396 ro hm hQ
  unfold a_Times_names m_Times_names at hm
  dsimp only at hm
  have iv1397 : Iv K P0 s0 s0 [top, top, top] := Iv.sel iv1396 [none, none, none] (by decide +kernel) (by kernel_rfl)
  obtain rfl := Option.some.inj hm
  refine do_retK (ek_of (eg_new (en_copy z_list (Ev.r (ev_raw (x := (self1395.my_names : (List Str))) (raw_fld (raw_var 0 rfl) (Iv.rcell iv1397 ro 0) rfl CL_Times.cl (CL_Times.na "my_names" (by simp))) (Iv.rfz (x := (self1395.my_names : (List Str))) iv1397 ro 1))))) iv1397) (fun v1402 s1400 z => ?_)
  obtain ⟨L1401, ⟨p1398, rfl, rfl⟩, _, iv1399⟩ := z
  exact hQ _ _ _ ⟨aself, aself_my_names, aself_my_rows, rfl, p1398, rfl, rfl⟩ (Iv.sel iv1399 [some 3] (by decide +kernel) (by kernel_rfl))
abbrev s_Times_time : Stmt := clsS 13 2
def pre_Times_time : List V → R_Times × Str × Str × Unit → List OA → List OA → Prop := fun vs x L R => ∃ (aself : Addr) (aself_my_names : V) (aself_my_rows : V) (aone : V) (aother : V), vs = [(.ref aself), aone, aother] ∧ L = [fz aone (x.2.1 : Str), fz aother (x.2.2.1 : Str)] ∧ R = [cell aself "Times" [("my_names", aself_my_names), ("my_rows", aself_my_rows)], fz aself_my_names (x.1.my_names : (List Str)), fz aself_my_rows (x.1.my_rows : (List (List Int)))]
def ok_Times_time : List V → R_Times × Str × Str × Unit → Rz (Int) → V → List OA → Prop := fun vs x o v L' => ∃ (aself : Addr) (aself_my_names : V) (aself_my_rows : V) (aone : V) (aother : V), vs = [(.ref aself), aone, aother] ∧ ∃ r : (Int), o = Rz.ok r ∧ (∃ (bres : V), v = bres ∧ L' = [fz bres (r : Int)])
def er_Times_time : List V → R_Times × Str × Str × Unit → Rz (Int) → Er → List OA → Prop := fun vs x o e L' => ∃ (aself : Addr) (aself_my_names : V) (aself_my_rows : V) (aone : V) (aother : V), vs = [(.ref aself), aone, aother] ∧ o = Rz.er e ∧ L' = []
abbrev N_Times_time : List Str := ["self", "one", "other", "name"]
theorem sc_Times_time : FnScope N_Times_time ["self", "one", "other"] (defScope s_Times_time) := ⟨rfl, rfl, rfl, by decide +kernel, rfl, by decide +kernel, by decide +kernel⟩
noncomputable def m_Times_time (self1403 : R_Times) (one1404 : Str) (other1405 : Str) : Option (Rz (Int)) :=
 (bnd (foldF (ρ := (Rz (Int))) (fun (b1410 : Unit) (x1412 : Str) =>
 (if (!decide (x1412 ∈ self1403.my_names)) = true then
 (some (Fl.rt (Rz.er (Er.ps "NoInstrument" "name" x1412))))
 else
 (some (Fl.nx ())))) () ((⟨[one1404, other1405]⟩ : Tu Str)).l) fun o1408 =>
 (Fl.go o1408 (fun b1460 => (bnd (ixOf one1404 self1403.my_names) fun ix1465 => (bnd (atI self1403.my_rows (ix1465 : Int)) fun at1466 => (bnd (ixOf other1405 self1403.my_names) fun ix1467 => (bnd (atI at1466 (ix1467 : Int)) fun at1468 => (some (Rz.ok at1468))))))) (fun rr => (some rr))))
noncomputable abbrev a_Times_time : R_Times × Str × Str × Unit → Option (Rz (Int)) := fun x => m_Times_time x.1 x.2.1 x.2.2.1
theorem ok_Times_time_fn {P : Program} {w : World} {K : PySem.W.Frag} {mg : Str → Option Value} {base : Heap} {f : Addr} {fd : FuncData} (F : FunM K "time" "Times.time" s_Times_time f fd) (N_NoInstrument : mg "NoInstrument" = some (.ref (He.ga K "NoInstrument"))) (P_NoInstrument : PayF K "NoInstrument" "name") (I_NoInstrument : InitOk P w K mg base "NoInstrument" "name") (CL_Times : ClsF K "Times" ["my_names", "my_rows"] ["__init__", "names", "time"]) : FnOk P w K mg base (L2.CX P w) 3 f fd ["self", "one", "other"] (spI K pre_Times_time a_Times_time ok_Times_time er_Times_time) := by
  refine mk_IX (k := 2) F sc_Times_time (fun vs a L R h => by obtain ⟨_, _, _, _, _, rfl, _⟩ := h; rfl) ?_
  rintro cdv A' outer sh0 H0 X0 hr s0 P0 L0 R0 vs ⟨self1403, one1404, other1405, _⟩ o0 Q ⟨aself, aself_my_names, aself_my_rows, aone, aother, rfl, rfl, rfl⟩ iv1406 ro hm hQ hE
  unfold a_Times_time m_Times_time at hm
  dsimp only at hm
  have iv1407 : Iv K P0 s0 s0 [top, fz aone (one1404 : Str), fz aother (other1405 : Str), top, top, top] := Iv.sel iv1406 [none, some 0, some 1, none, none, none] (by decide +kernel) (by kernel_rfl)
  obtain ⟨o1408, ho1409, hm⟩ := bndE hm
  refine do_forF (ρ := (Rz (Int))) (υ := Unit) (passes_of rfl) rfl (ei_tup (ev_tu (xs := ([one1404, other1405] : List Str)) (ee_cons (ev_var 1 rfl (Iv.fz (x := (one1404 : Str)) iv1407 1)) (ee_cons (ev_var 2 rfl (Iv.fz (x := (other1405 : Str)) iv1407 2)) ee_nil)) (by simp [sizeLine]))) (pg_name (i := 3) sc_Times_time.nd rfl (by first | exact Or.inl rfl | exact Or.inr rfl)) tg_n ho1409 (fun (b1410 : Unit) (σ' : L2.St) (t' : S) => ∃ (y_name : Option V), σ' = [some (.ref aself), some aone, some aother, y_name] ∧ Iv K P0 s0 t' [top, fz aone (one1404 : Str), fz aother (other1405 : Str), top, top, top]) (fun s1457 k1458 => by have iv1459 := Iv.ex iv1407 k1458; exact ⟨_, rfl, Iv.sel iv1459 [none, some 1, some 2, none, none, none] (by decide +kernel) (by kernel_rfl)⟩) (fun s1413 k1414 x1412 b1410 q1433 σ1423 σ1424 t1421 t1422 hx1415 hm1416 hq1434 fl1417 hR1418 k1419 hB1420 => ?_) (fun s1451 k1452 b1460 σ1453 t1454 ho1461 fl1455 hR1456 => ?_)
  · have hf1425 := Fle.trans k1414.f fl1417
    obtain ⟨y1426, rfl, iv1427⟩ := hR1418
    obtain ⟨v1428, r1429, rfl⟩ := hB1420
    have iv1430 := Iv.ex iv1427 k1419
    have iv1431 := Iv.sf iv1430 3 (Ex.refl t1422) r1429 rfl
    have fl1432 := Fle.trans (Fle.refl t1422.F) (Ex.refl t1422).f
    refine do_ifR (EvB.t (eb_notIn (ev_var 3 rfl (Iv.fz (x := (x1412 : Str)) iv1431 3)) (Ev.r (ev_raw (x := (self1403.my_names : (List Str))) (raw_fld (raw_var 0 rfl) (Iv.rcell iv1431 ro 0) rfl CL_Times.cl (CL_Times.na "my_names" (by simp))) (Iv.rfz (x := (self1403.my_names : (List Str))) iv1431 ro 1))))) (fun hb1435 s1436 e1437 => ?_) (fun hb1445 s1446 e1447 => ?_)
    · have hm1438 := iteE1 hm1416 hb1435
      have iv1439 := Iv.ex iv1431 e1437
      have fl1440 := Fle.trans (Fle.refl t1422.F) e1437.f
      obtain rfl := Option.some.inj hm1438
      obtain rfl := hq1434 _ rfl
      obtain rfl := Option.some.inj hm
      obtain ⟨fd1441, ps1442, F1443, B1444⟩ := I_NoInstrument
      exact do_raiseS P_NoInstrument N_NoInstrument F1443 B1444 (takes_of rfl rfl rfl rfl) hr (by decide) (ev_var 3 rfl (Iv.fz (x := (x1412 : Str)) iv1439 3)) (fun d s1 k1 z => hE _ _ _ _ _ ⟨aself, aself_my_names, aself_my_rows, aone, aother, rfl, rfl, rfl⟩ (Iv.sel (Iv.ex iv1439 k1) [] (by decide +kernel) (by kernel_rfl)) ⟨rfl, d, rfl, z⟩)
    · have hm1448 := iteE2 hm1416 hb1445
      have iv1449 := Iv.ex iv1431 e1447
      have fl1450 := Fle.trans (Fle.refl t1422.F) e1447.f
      obtain rfl := Option.some.inj hm1448
      exact do_nil ⟨s1446, rfl, _, rfl, fl1450, ⟨_, rfl, Iv.sel iv1449 [none, some 1, some 2, none, none, none] (by decide +kernel) (by kernel_rfl)⟩⟩
  · subst ho1461
    replace hm := goN hm
    have hf1462 := Fle.trans k1452.f fl1455
    obtain ⟨y1463, rfl, iv1464⟩ := hR1456
    obtain ⟨ix1465, h_ix1465, hm⟩ := bndE hm
    obtain ⟨at1466, h_at1466, hm⟩ := bndE hm
    obtain ⟨ix1467, h_ix1467, hm⟩ := bndE hm
    obtain ⟨at1468, h_at1468, hm⟩ := bndE hm
    obtain rfl := Option.some.inj hm
    refine do_retK (ek_of (eg_ev (ev_ix (Ev.r (ev_ix (Ev.r (ev_raw (x := (self1403.my_rows : (List (List Int)))) (raw_fld (raw_var 0 rfl) (Iv.rcell iv1464 ro 0) rfl CL_Times.cl (CL_Times.na "my_rows" (by simp))) (Iv.rfz (x := (self1403.my_rows : (List (List Int)))) iv1464 ro 2))) (ev_index (Ev.r (ev_raw (x := (self1403.my_names : (List Str))) (raw_fld (raw_var 0 rfl) (Iv.rcell iv1464 ro 0) rfl CL_Times.cl (CL_Times.na "my_names" (by simp))) (Iv.rfz (x := (self1403.my_names : (List Str))) iv1464 ro 1))) (ev_var 1 rfl (Iv.fz (x := (one1404 : Str)) iv1464 1)) h_ix1465) h_at1466)) (ev_index (Ev.r (ev_raw (x := (self1403.my_names : (List Str))) (raw_fld (raw_var 0 rfl) (Iv.rcell iv1464 ro 0) rfl CL_Times.cl (CL_Times.na "my_names" (by simp))) (Iv.rfz (x := (self1403.my_names : (List Str))) iv1464 ro 1))) (ev_var 2 rfl (Iv.fz (x := (other1405 : Str)) iv1464 2)) h_ix1467) h_at1468)) iv1464) (fun v1469 s1471 z => ?_)
    obtain ⟨L1472, rfl, _, iv1470⟩ := z
    exact hQ _ _ _ ⟨aself, aself_my_names, aself_my_rows, aone, aother, rfl, _, rfl, v1469, rfl, rfl⟩ (Iv.sel iv1470 [some 6] (by decide +kernel) (by kernel_rfl))
abbrev s_l_right : Stmt := topS 21
def pre_l_right : List V → R_Times × (List Str) × (List (List Int)) × Unit → List OA → List OA → Prop := fun vs x L R => ∃ (a_law_times : Addr) (a_law_times_my_names : V) (a_law_times_my_rows : V) (a_law_names_here : V) (a_law_rows_here : V), vs = [(.ref a_law_times), a_law_names_here, a_law_rows_here] ∧ L = [fz a_law_names_here (x.2.1 : (List Str)), fz a_law_rows_here (x.2.2.1 : (List (List Int)))] ∧ R = [cell a_law_times "Times" [("my_names", a_law_times_my_names), ("my_rows", a_law_times_my_rows)], fz a_law_times_my_names (x.1.my_names : (List Str)), fz a_law_times_my_rows (x.1.my_rows : (List (List Int)))]
def ok_l_right : List V → R_Times × (List Str) × (List (List Int)) × Unit → (Bool) → V → List OA → Prop := fun vs x r v L' => ∃ (a_law_times : Addr) (a_law_times_my_names : V) (a_law_times_my_rows : V) (a_law_names_here : V) (a_law_rows_here : V), vs = [(.ref a_law_times), a_law_names_here, a_law_rows_here] ∧ (∃ (bres : V), v = bres ∧ L' = [fz bres (r : Bool)])
abbrev N_l_right : List Str := ["_law_times", "_law_names_here", "_law_rows_here", "_law_found", "_law_one", "_law_other", "_law_number"]
theorem sc_l_right : FnScope N_l_right ["_law_times", "_law_names_here", "_law_rows_here"] (defScope s_l_right) := ⟨rfl, rfl, rfl, by decide +kernel, rfl, by decide +kernel, by decide +kernel⟩
noncomputable def m_l_right (times1474 : R_Times) (names_here1475 : (List Str)) (rows_here1476 : (List (List Int))) : Option (Bool) :=
 (bnd (a_Times_names ((⟨times1474.my_names, times1474.my_rows⟩ : R_Times), ())) fun names1479 => (lt (names1479 : (List Str)) fun found1480 =>
 (bnd (orO (!true) (chk (shp (found1480 : (List Str))) (chk (shp (names_here1475 : (List Str))) (some (!decide (found1480 = names_here1475)))))) fun c1492 => (if c1492 = true then
 (some false)
 else
 (chk ((found1480).length < sizeLine) (lt ((found1480 ++ [("x" : Str)]) : (List Str)) fun found1517 =>
 (lt ((found1517).reverse : (List Str)) fun found1529 =>
 (chk (RgB ((names_here1475).length : Int)) (bnd (foldF (ρ := (Bool)) (fun (b1535 : Unit) (x1537 : Int) =>
 (chk (RgB ((names_here1475).length : Int)) (bnd (foldF (ρ := (Bool)) (fun (b1565 : Unit) (x1567 : Int) =>
 (bnd (atI names_here1475 x1537) fun at1591 => (bnd (atI names_here1475 x1567) fun at1594 => (tb (a_Times_time ((⟨times1474.my_names, times1474.my_rows⟩ : R_Times), at1591, at1594, ())) (fun er1598 => none) fun time1597 => (lt (time1597 : Int) fun number1600 =>
 (bnd (orO (!true) (orO false (bnd (atI rows_here1476 x1537) fun at1614 => (bnd (atI at1614 x1567) fun at1615 => (some (!decide (number1600 = at1615))))))) fun c1616 => (if c1616 = true then
 (some (Fl.rt false))
 else
 (some (Fl.nx ()))))))))) () (rng 0 ((names_here1475).length : Int))) fun o1563 =>
 (Fl.go o1563 (fun b1646 => (some (Fl.nx ()))) (fun rr => (some (Fl.rt rr))))))) () (rng 0 ((names_here1475).length : Int))) fun o1533 =>
 (Fl.go o1533 (fun b1662 => (bnd (a_Times_names ((⟨times1474.my_names, times1474.my_rows⟩ : R_Times), ())) fun names1670 => (chk (shp (names1670 : (List Str))) (chk (shp (names_here1475 : (List Str))) (some (decide (names1670 = names_here1475))))))) (fun rr => (some rr))))))))))))
noncomputable abbrev a_l_right : R_Times × (List Str) × (List (List Int)) × Unit → Option (Bool) := fun x => m_l_right x.1 x.2.1 x.2.2.1
theorem ok_l_right_fn {P : Program} {w : World} {K : PySem.W.Frag} {mg : Str → Option Value} {base : Heap} {f : Addr} {fd : FuncData} (F : FunM K "_law_right" "_law_right" s_l_right f fd) (C_Times_names : CalM P w K mg base CX0 1 "Times" "names" (spI K pre_Times_names a_Times_names ok_Times_names noEr)) (C_Times_time : CalM P w K mg base (L2.CX P w) 3 "Times" "time" (spI K pre_Times_time a_Times_time ok_Times_time er_Times_time)) (z_isinstance : mg "isinstance" = none) (z_list : mg "list" = none) (z_range : mg "range" = none) (z_len : mg "len" = none) (z_int : mg "int" = none) (z_bool : mg "bool" = none) (CL_Times : ClsF K "Times" ["my_names", "my_rows"] ["__init__", "names", "time"]) : FnOk P w K mg base CX0 4 f fd ["_law_times", "_law_names_here", "_law_rows_here"] (spI K pre_l_right a_l_right ok_l_right noEr) := by
  refine mk_I (k := 3) F sc_l_right (fun vs a L R h => by obtain ⟨_, _, _, _, _, rfl, _⟩ := h; rfl) ?_
  rintro cdv A' outer sh0 H0 X0 hr s0 P0 L0 R0 vs ⟨times1474, names_here1475, rows_here1476, _⟩ o0 Q ⟨a_law_times, a_law_times_my_names, a_law_times_my_rows, a_law_names_here, a_law_rows_here, rfl, rfl, rfl⟩ iv1477 ro hm hQ
  unfold a_l_right m_l_right at hm
  dsimp only at hm
  have iv1478 : Iv K P0 s0 s0 [top, fz a_law_names_here (names_here1475 : (List Str)), fz a_law_rows_here (rows_here1476 : (List (List Int))), top, top, top, top, top, top] := Iv.sel iv1477 [none, some 0, some 1, none, none, none, none, none, none] (by decide +kernel) (by kernel_rfl)
  obtain ⟨names1479, h_names1479, hm⟩ := bndE hm
  refine do_setN 3 (en_of_eg (eg_call (ok' := (fun v L' => ∃ (bres : Addr), v = (.ref bres) ∧ L' = [ol bres (names1479 : (List Str))])) (ca_meth0 (E := fun _ _ _ _ => False) C_Times_names CL_Times.cl pass00 hr (by decide) (raw_var 0 rfl) (Iv.rcell iv1478 ro 0) rfl ) iv1478 ro [.inr 0, .inr 1, .inr 2] (fun vs s2 k2 r2 => by obtain ⟨ws, rfl, r3⟩ := r2; obtain rfl := r3; exact ⟨[], ⟨(a_law_times), (a_law_times_my_names), (a_law_times_my_rows), rfl, rfl, rfl⟩, all_nil, (fun v L' z => by obtain ⟨_, _, _, e, z⟩ := z; cases e; exact z), (fun e L' z => z.elim)⟩) h_names1479) (fun v L' z => by obtain ⟨p, rfl, rfl⟩ := z; exact ⟨p, [], rfl, rfl⟩)) (fun p1484 s1482 e1483 n1485 o1486 => ?_) sc_l_right.nd
  obtain ⟨found1480, q1481, hm⟩ := ltE hm
  have iv1487 := Iv.sl iv1478 3 e1483 n1485 o1486 q1481
  obtain ⟨c1492, h_c1492, hm⟩ := bndE hm
  refine do_ifR (EvW.tt (EvC.w (by skip; exact ec_orO (eb_not (eb_v (ev_isiR (T := "list") (r := true) z_isinstance z_list (by decide +kernel) (er_raw (xs := (found1480 : (List Str))) (raw_var 3 rfl) (Own.r (Iv.ol (xs := (found1480 : (List Str))) iv1487 3))) (by decide +kernel)))) (fun hb1493 => (fun hz => (by obtain ⟨hc1490, hz⟩ := chkE hz; obtain ⟨hc1491, hz⟩ := chkE hz; obtain rfl := Option.some.inj hz; exact (ec_or1 (eb_neL hr (er_raw (xs := (found1480 : (List Str))) (raw_var 3 rfl) (Own.r (Iv.ol (xs := (found1480 : (List Str))) iv1487 3))) (Ev.r (ev_var 1 rfl (Iv.fz (x := (names_here1475 : (List Str))) iv1487 1))) hc1490 hc1491)))) ((orE h_c1492).1 hb1493)) (orE h_c1492).2))) (fun hb1494 s1495 e1496 => ?_) (fun hb1504 s1505 e1506 => ?_)
  · have hm1497 := iteE1 hm hb1494
    have iv1498 := Iv.ex iv1487 e1496
    obtain rfl := Option.some.inj hm1497
    refine do_retK (ek_of (eg_ev ev_bl) iv1498) (fun v1499 s1501 z => ?_)
    obtain ⟨L1502, rfl, _, iv1500⟩ := z
    exact hQ _ _ _ ⟨a_law_times, a_law_times_my_names, a_law_times_my_rows, a_law_names_here, a_law_rows_here, rfl, v1499, rfl, rfl⟩ (Iv.sel iv1500 [some 9] (by decide +kernel) (by kernel_rfl))
  · have hm1507 := iteE2 hm hb1504
    have iv1508 := Iv.ex iv1487 e1506
    obtain ⟨hc1519, hm1507⟩ := chkE hm1507
    refine do_append 3 rfl (Iv.ol (xs := (found1480 : (List Str))) iv1508 3) ev_str hc1519 (fun s1514 m1515 o1516 => ?_)
    obtain ⟨found1517, q1518, hm1507⟩ := ltE hm1507
    have iv1520 := Iv.ml iv1508 3 m1515 o1516 q1518
    refine do_reverse 3 rfl (Iv.ol (xs := (found1517 : (List Str))) iv1520 3) (fun s1526 m1527 o1528 => ?_)
    obtain ⟨found1529, q1530, hm1507⟩ := ltE hm1507
    have iv1531 := Iv.ml iv1520 3 m1527 o1528 q1530
    obtain ⟨hc1532, hm1507⟩ := chkE hm1507
    obtain ⟨o1533, ho1534, hm1507⟩ := bndE hm1507
    refine do_forF (ρ := (Bool)) (υ := Unit) PassesOwn.never rfl (ei_range1 z_range (ev_len z_len (Ev.r (ev_var 1 rfl (Iv.fz (x := (names_here1475 : (List Str))) iv1531 1)))) hc1532) (pg_name (i := 4) sc_l_right.nd rfl (by first | exact Or.inl rfl | exact Or.inr rfl)) tg_n ho1534 (fun (b1535 : Unit) (σ' : L2.St) (t' : S) => ∃ (y_other : Option V) (y_number : Option V) (y_one : Option V), σ' = [some (.ref a_law_times), some a_law_names_here, some a_law_rows_here, some (.ref p1484), y_one, y_other, y_number] ∧ Iv K P0 s0 t' [top, fz a_law_names_here (names_here1475 : (List Str)), fz a_law_rows_here (rows_here1476 : (List (List Int))), ol p1484 (found1529 : (List Str)), top, top, top, top, top]) (fun s1659 k1660 => by have iv1661 := Iv.ex iv1531 k1660; exact ⟨_, _, _, rfl, Iv.sel iv1661 [none, some 1, some 2, some 3, none, none, none, none, none] (by decide +kernel) (by kernel_rfl)⟩) (fun s1538 k1539 x1537 b1535 q1560 σ1548 σ1549 t1546 t1547 hx1540 hm1541 hq1561 fl1542 hR1543 k1544 hB1545 => ?_) (fun s1653 k1654 b1662 σ1655 t1656 ho1663 fl1657 hR1658 => ?_)
    · have hf1550 := Fle.trans k1539.f fl1542
      obtain ⟨y1551, y1552, y1553, rfl, iv1554⟩ := hR1543
      obtain ⟨v1555, r1556, rfl⟩ := hB1545
      have iv1557 := Iv.ex iv1554 k1544
      have iv1558 := Iv.sf iv1557 4 (Ex.refl t1547) r1556 rfl
      have fl1559 := Fle.trans (Fle.refl t1547.F) (Ex.refl t1547).f
      obtain ⟨hc1562, hm1541⟩ := chkE hm1541
      obtain ⟨o1563, ho1564, hm1541⟩ := bndE hm1541
      refine do_forF (ρ := (Bool)) (υ := Unit) PassesOwn.never rfl (ei_range1 z_range (ev_len z_len (Ev.r (ev_var 1 rfl (Iv.fz (x := (names_here1475 : (List Str))) iv1558 1)))) hc1562) (pg_name (i := 5) sc_l_right.nd rfl (by first | exact Or.inl rfl | exact Or.inr rfl)) tg_n ho1564 (fun (b1565 : Unit) (σ' : L2.St) (t' : S) => ∃ (y_number : Option V) (y_other : Option V), σ' = [some (.ref a_law_times), some a_law_names_here, some a_law_rows_here, some (.ref p1484), some v1555, y_other, y_number] ∧ Iv K P0 s0 t' [top, fz a_law_names_here (names_here1475 : (List Str)), fz a_law_rows_here (rows_here1476 : (List (List Int))), ol p1484 (found1529 : (List Str)), fz v1555 (x1537 : Int), top, top, top, top]) (fun s1642 k1643 => by have iv1644 := Iv.ex iv1558 k1643; have fl1645 := Fle.trans (Fle.refl t1547.F) k1643.f; exact ⟨_, _, rfl, Iv.sel iv1644 [none, some 1, some 2, some 3, some 4, none, none, none, none] (by decide +kernel) (by kernel_rfl)⟩) (fun s1568 k1569 x1567 b1565 q1589 σ1578 σ1579 t1576 t1577 hx1570 hm1571 hq1590 fl1572 hR1573 k1574 hB1575 => ?_) (fun s1636 k1637 b1646 σ1638 t1639 ho1647 fl1640 hR1641 => ?_)
      · have hf1580 := Fle.trans k1569.f fl1572
        obtain ⟨y1581, y1582, rfl, iv1583⟩ := hR1573
        obtain ⟨v1584, r1585, rfl⟩ := hB1575
        have iv1586 := Iv.ex iv1583 k1574
        have iv1587 := Iv.sf iv1586 5 (Ex.refl t1577) r1585 rfl
        have fl1588 := Fle.trans (Fle.refl t1577.F) (Ex.refl t1577).f
        obtain ⟨at1591, h_at1591, hm1571⟩ := bndE hm1571
        obtain ⟨at1594, h_at1594, hm1571⟩ := bndE hm1571
        rcases tbE hm1571 with ⟨er1598, he1599, hm1571⟩ | ⟨time1597, h_time1597, hm1571⟩
        exact absurd hm1571 (by intro z; cases z)
        refine do_set 6 (ev_of_eg (eg_call (ok' := (fun v L' => ∃ (bres : V), v = bres ∧ L' = [fz bres (time1597 : Int)])) (ca_meth (E := fun _ _ _ _ => False) C_Times_time CL_Times.cl passF hr (by decide) (raw_var 0 rfl) (Iv.rcell iv1587 ro 0) rfl (ea_cons (ev_ix (Ev.r (ev_var 1 rfl (Iv.fz (x := (names_here1475 : (List Str))) iv1587 1))) (ev_var 4 rfl (Iv.fz (x := (x1537 : Int)) iv1587 4)) h_at1591) (ea_cons (ev_ix (Ev.r (ev_var 1 rfl (Iv.fz (x := (names_here1475 : (List Str))) iv1587 1))) (ev_var 5 rfl (Iv.fz (x := (x1567 : Int)) iv1587 5)) h_at1594) ea_nil))) iv1587 ro [.inr 0, .inr 1, .inr 2] (fun vs s2 k2 r2 => by obtain ⟨ws, rfl, r3⟩ := r2; obtain ⟨v1592, _, rfl, r1593, v1595, _, rfl, r1596, rfl⟩ := r3; exact ⟨[fz v1592 (at1591 : Str), fz v1595 (at1594 : Str)], ⟨(a_law_times), (a_law_times_my_names), (a_law_times_my_rows), v1592, v1595, rfl, rfl, rfl⟩, (all_cons r1593 (all_cons r1596 all_nil)), (fun v L' z => by obtain ⟨_, _, _, _, _, e, r, e2, z⟩ := z; cases e; cases e2; exact z), (fun e L' z => by obtain ⟨_, _, _, _, _, _, e2, _⟩ := z; cases e2)⟩) h_time1597) (fun v L' z => by obtain ⟨_, rfl, rfl⟩ := z; exact ⟨[], rfl⟩)) (fun v1604 s1602 e1603 r1605 => ?_) sc_l_right.nd
        obtain ⟨number1600, q1601, hm1571⟩ := ltE hm1571
        have iv1606 := Iv.sf iv1587 6 e1603 r1605 q1601
        have fl1607 := Fle.trans (Fle.refl t1577.F) e1603.f
        obtain ⟨c1616, h_c1616, hm1571⟩ := bndE hm1571
        refine do_ifR (EvW.tt (EvC.w (by skip; exact ec_orO (eb_not (eb_v (ev_isi (T := "int") (r := true) z_isinstance z_int (by decide +kernel) (ev_var 6 rfl (Iv.fz (x := (number1600 : Int)) iv1606 6)) (by show kitB "int" "int" = _; decide +kernel)))) (fun hb1617 => (fun hz => (by skip; exact ec_orO (eb_v (ev_isi (T := "bool") (r := false) z_isinstance z_bool (by decide +kernel) (ev_var 6 rfl (Iv.fz (x := (number1600 : Int)) iv1606 6)) (by show kitB "int" "bool" = _; decide +kernel))) (fun hb1618 => (fun hz => (by obtain ⟨at1614, h_at1614, hz⟩ := bndE hz; obtain ⟨at1615, h_at1615, hz⟩ := bndE hz; obtain rfl := Option.some.inj hz; exact (ec_or1 (eb_ne (ev_var 6 rfl (Iv.fz (x := (number1600 : Int)) iv1606 6)) (ev_ix (Ev.r (ev_ix (Ev.r (ev_var 2 rfl (Iv.fz (x := (rows_here1476 : (List (List Int)))) iv1606 2))) (ev_var 4 rfl (Iv.fz (x := (x1537 : Int)) iv1606 4)) h_at1614)) (ev_var 5 rfl (Iv.fz (x := (x1567 : Int)) iv1606 5)) h_at1615))))) ((orE hz).1 hb1618)) (orE hz).2)) ((orE h_c1616).1 hb1617)) (orE h_c1616).2))) (fun hb1619 s1620 e1621 => ?_) (fun hb1630 s1631 e1632 => ?_)
        · have hm1622 := iteE1 hm1571 hb1619
          have iv1623 := Iv.ex iv1606 e1621
          have fl1624 := Fle.trans fl1607 e1621.f
          obtain rfl := Option.some.inj hm1622
          obtain rfl := hq1590 _ rfl
          obtain rfl := Option.some.inj hm1541
          obtain rfl := hq1561 _ rfl
          obtain rfl := Option.some.inj hm1507
          refine do_retK (ek_of (eg_ev ev_bl) iv1623) (fun v1625 s1627 z => ?_)
          obtain ⟨L1628, rfl, _, iv1626⟩ := z
          exact hQ _ _ _ ⟨a_law_times, a_law_times_my_names, a_law_times_my_rows, a_law_names_here, a_law_rows_here, rfl, v1625, rfl, rfl⟩ (Iv.sel iv1626 [some 9] (by decide +kernel) (by kernel_rfl))
        · have hm1633 := iteE2 hm1571 hb1630
          have iv1634 := Iv.ex iv1606 e1632
          have fl1635 := Fle.trans fl1607 e1632.f
          obtain rfl := Option.some.inj hm1633
          exact do_nil ⟨s1631, rfl, _, rfl, fl1635, ⟨_, _, rfl, Iv.sel iv1634 [none, some 1, some 2, some 3, some 4, none, none, none, none] (by decide +kernel) (by kernel_rfl)⟩⟩
      · subst ho1647
        replace hm1541 := goN hm1541
        have hf1648 := Fle.trans k1637.f fl1640
        obtain ⟨y1649, y1650, rfl, iv1651⟩ := hR1641
        have fl1652 := Fle.trans (Fle.refl t1547.F) hf1648
        obtain rfl := Option.some.inj hm1541
        exact do_nil ⟨t1639, rfl, _, rfl, fl1652, ⟨_, _, _, rfl, Iv.sel iv1651 [none, some 1, some 2, some 3, none, none, none, none, none] (by decide +kernel) (by kernel_rfl)⟩⟩
    · subst ho1663
      replace hm1507 := goN hm1507
      have hf1664 := Fle.trans k1654.f fl1657
      obtain ⟨y1665, y1666, y1667, rfl, iv1668⟩ := hR1658
      obtain ⟨names1670, h_names1670, hm1507⟩ := bndE hm1507
      obtain ⟨hc1671, hm1507⟩ := chkE hm1507
      obtain ⟨hc1672, hm1507⟩ := chkE hm1507
      obtain rfl := Option.some.inj hm1507
      refine do_retK (ek_of (eg_ev (EvB.v (eb_eqL hr (EvN.r (en_of_eg (eg_call (ok' := (fun v L' => ∃ (bres : Addr), v = (.ref bres) ∧ L' = [ol bres (names1670 : (List Str))])) (ca_meth0 (E := fun _ _ _ _ => False) C_Times_names CL_Times.cl pass00 hr (by decide) (raw_var 0 rfl) (Iv.rcell iv1668 ro 0) rfl ) iv1668 ro [.inr 0, .inr 1, .inr 2] (fun vs s2 k2 r2 => by obtain ⟨ws, rfl, r3⟩ := r2; obtain rfl := r3; exact ⟨[], ⟨(a_law_times), (a_law_times_my_names), (a_law_times_my_rows), rfl, rfl, rfl⟩, all_nil, (fun v L' z => by obtain ⟨_, _, _, e, z⟩ := z; cases e; exact z), (fun e L' z => z.elim)⟩) h_names1670) (fun v L' z => by obtain ⟨p, rfl, rfl⟩ := z; exact ⟨p, [], rfl, rfl⟩))) (Ev.r (ev_var 1 rfl (Iv.fz (x := (names_here1475 : (List Str))) iv1668 1))) hc1671 hc1672))) iv1668) (fun v1673 s1675 z => ?_)
      obtain ⟨L1676, rfl, _, iv1674⟩ := z
      exact hQ _ _ _ ⟨a_law_times, a_law_times_my_names, a_law_times_my_rows, a_law_names_here, a_law_rows_here, rfl, v1673, rfl, rfl⟩ (Iv.sel iv1674 [some 9] (by decide +kernel) (by kernel_rfl))
abbrev s_l_cell_at : Stmt := topS 15
abbrev N_l_cell_at : List Str := ["_law_script", "_law_k"]
theorem sc_l_cell_at : FnScope N_l_cell_at ["_law_script", "_law_k"] (defScope s_l_cell_at) := ⟨rfl, rfl, rfl, by decide +kernel, rfl, by decide +kernel, by decide +kernel⟩
noncomputable def m_l_cell_at (script1678 : (List Int)) (k1681 : Int) : Option Int :=
 (if (decide (k1681 < ((script1678).length : Int))) = true then
 (bnd (atI script1678 k1681) fun at1690 => (some at1690))
 else
 (some (0 : Int)))
noncomputable abbrev a_l_cell_at : (List Int) × Int × Unit → Option Int := fun a => m_l_cell_at a.1 a.2.1
theorem ok_l_cell_at {P : Program} {w : World} {K : PySem.W.Frag} {mg : Str → Option Value} {base : Heap} {f : Addr} {fd : FuncData} (F : FunP K "_law_cell_at" s_l_cell_at f fd) (hmg : mg "_law_cell_at" = some (.ref f)) (z_len : mg "len" = none) : Cal P w K mg base CX0 1 "_law_cell_at" (sp K a_l_cell_at) := by
  refine mk_cal (k := 0) F hmg (F.bindsN fun _ _ _ _ _ _ us hl => match us, hl with | [_, _], _ => rfl) sc_l_cell_at len2 ?_
  rintro cdv A' outer sh0 H0 X0 hr s0 vs ⟨script1678, k1681, _⟩ r0 Q ⟨v1679, _, rfl, r1680, v1682, _, rfl, r1683, rfl⟩ hm hQ
  unfold a_l_cell_at m_l_cell_at at hm
  dsimp only at hm
  have iv1684 : Iv K (fun _ => False) s0 s0 [fz v1679 (script1678 : (List Int)), fz v1682 (k1681 : Int)] := (Iv.sf (Iv.sf (Iv.tops (K := K) (P0 := (fun _ => False)) 2 s0) 0 (Ex.refl s0) r1680 rfl) 1 (Ex.refl s0) r1683 rfl)
  refine do_ifR (EvB.t (eb_lt (ev_var 1 rfl (Iv.fz (x := (k1681 : Int)) iv1684 1)) (ev_len z_len (Ev.r (ev_var 0 rfl (Iv.fz (x := (script1678 : (List Int))) iv1684 0)))))) (fun hb1685 s1686 e1687 => ?_) (fun hb1695 s1696 e1697 => ?_)
  · have hm1688 := iteE1 hm hb1685
    have iv1689 := Iv.ex iv1684 e1687
    obtain ⟨at1690, h_at1690, hm1688⟩ := bndE hm1688
    obtain rfl := Option.some.inj hm1688
    exact do_ret (ev_ix (Ev.r (ev_var 0 rfl (Iv.fz (x := (script1678 : (List Int))) iv1689 0))) (ev_var 1 rfl (Iv.fz (x := (k1681 : Int)) iv1689 1)) h_at1690) fun v1691 s1692 e1693 r1694 => hQ _ _ (Ex.trans (Iv.exx iv1689) e1693) r1694
  · have hm1698 := iteE2 hm hb1695
    have iv1699 := Iv.ex iv1684 e1697
    obtain rfl := Option.some.inj hm1698
    exact do_ret ev_int fun v1700 s1701 e1702 r1703 => hQ _ _ (Ex.trans (Iv.exx iv1699) e1702) r1703
abbrev s_l_refused : Stmt := topS 22
def pre_l_refused : List V → R_Times × Str × Str × Str × Unit → List OA → List OA → Prop := fun vs x L R => ∃ (a_law_times : Addr) (a_law_times_my_names : V) (a_law_times_my_rows : V) (a_law_one : V) (a_law_other : V) (a_law_due : V), vs = [(.ref a_law_times), a_law_one, a_law_other, a_law_due] ∧ L = [fz a_law_one (x.2.1 : Str), fz a_law_other (x.2.2.1 : Str), fz a_law_due (x.2.2.2.1 : Str)] ∧ R = [cell a_law_times "Times" [("my_names", a_law_times_my_names), ("my_rows", a_law_times_my_rows)], fz a_law_times_my_names (x.1.my_names : (List Str)), fz a_law_times_my_rows (x.1.my_rows : (List (List Int)))]
def ok_l_refused : List V → R_Times × Str × Str × Str × Unit → (Bool) → V → List OA → Prop := fun vs x r v L' => ∃ (a_law_times : Addr) (a_law_times_my_names : V) (a_law_times_my_rows : V) (a_law_one : V) (a_law_other : V) (a_law_due : V), vs = [(.ref a_law_times), a_law_one, a_law_other, a_law_due] ∧ (∃ (bres : V), v = bres ∧ L' = [fz bres (r : Bool)])
abbrev N_l_refused : List Str := ["_law_times", "_law_one", "_law_other", "_law_due", "_law_spot", "e"]
theorem sc_l_refused : FnScope N_l_refused ["_law_times", "_law_one", "_law_other", "_law_due"] (defScope s_l_refused) := ⟨rfl, rfl, rfl, by decide +kernel, rfl, by decide +kernel, by decide +kernel⟩
noncomputable def m_l_refused (times1704 : R_Times) (one1705 : Str) (other1706 : Str) (due1707 : Str) : Option (Bool) :=
 (lt (none : (Option Str)) fun spot1710 =>
 (tb (a_Times_time ((⟨times1704.my_names, times1704.my_rows⟩ : R_Times), one1705, other1706, ())) (fun er1726 => (chk (exE tab er1726 "PairsError" = some true) (bnd (isE tab er1726 "NoInstrument") fun isE1744 => (bnd (andO isE1744 (bnd (isEs tab er1726 ["NoLine", "NoName", "NoTimes"]) fun isE1748 => (some (!isE1748)))) fun c1749 => (bnd (if c1749 = true then
 (bnd (erS tab er1726 "name") fun name1781 => (lt ((some name1781) : (Option Str)) fun spot1782 =>
 (some spot1782)))
 else
 (some spot1710) : Option ((Option Str))) fun b1772 =>
 (some (decide (b1772 = (some due1707))))))))) fun time1725 => (some (decide (spot1710 = (some due1707))))))
noncomputable abbrev a_l_refused : R_Times × Str × Str × Str × Unit → Option (Bool) := fun x => m_l_refused x.1 x.2.1 x.2.2.1 x.2.2.2.1
theorem ok_l_refused_fn {P : Program} {w : World} {K : PySem.W.Frag} {mg : Str → Option Value} {base : Heap} {f : Addr} {fd : FuncData} (F : FunM K "_law_refused" "_law_refused" s_l_refused f fd) (C_Times_time : CalM P w K mg base (L2.CX P w) 3 "Times" "time" (spI K pre_Times_time a_Times_time ok_Times_time er_Times_time)) (z_isinstance : mg "isinstance" = none) (N_PairsError : mg "PairsError" = some (.ref (He.ga K "PairsError"))) (N_NoInstrument : mg "NoInstrument" = some (.ref (He.ga K "NoInstrument"))) (N_NoLine : mg "NoLine" = some (.ref (He.ga K "NoLine"))) (N_NoName : mg "NoName" = some (.ref (He.ga K "NoName"))) (N_NoTimes : mg "NoTimes" = some (.ref (He.ga K "NoTimes"))) (TB : tab.ok K = true) (CL_Times : ClsF K "Times" ["my_names", "my_rows"] ["__init__", "names", "time"]) : FnOk P w K mg base CX0 4 f fd ["_law_times", "_law_one", "_law_other", "_law_due"] (spI K pre_l_refused a_l_refused ok_l_refused noEr) := by
  refine mk_I (k := 3) F sc_l_refused (fun vs a L R h => by obtain ⟨_, _, _, _, _, _, rfl, _⟩ := h; rfl) ?_
  rintro cdv A' outer sh0 H0 X0 hr s0 P0 L0 R0 vs ⟨times1704, one1705, other1706, due1707, _⟩ o0 Q ⟨a_law_times, a_law_times_my_names, a_law_times_my_rows, a_law_one, a_law_other, a_law_due, rfl, rfl, rfl⟩ iv1708 ro hm hQ
  unfold a_l_refused m_l_refused at hm
  dsimp only at hm
  have iv1709 : Iv K P0 s0 s0 [top, fz a_law_one (one1705 : Str), fz a_law_other (other1706 : Str), fz a_law_due (due1707 : Str), top, top, top, top] := Iv.sel iv1708 [none, some 0, some 1, some 2, none, none, none, none] (by decide +kernel) (by kernel_rfl)
  refine do_set 4 (ev_nonO (α := Str)) (fun v1714 s1712 e1713 r1715 => ?_) sc_l_refused.nd
  obtain ⟨spot1710, q1711, hm⟩ := ltE hm
  have iv1716 := Iv.sf iv1709 4 e1713 r1715 q1711
  refine do_tryAs 5 sc_l_refused.nd (names_of N_PairsError) takes_false (fun pn1717 xe1718 tk1719 po1720 => ?_)
  rcases tbE hm with ⟨er1726, he1727, hm⟩ | ⟨time1725, h_time1725, hm⟩
  · obtain ⟨hx1731, hm⟩ := chkE hm
    refine do_dropX (ex_callG (er' := fun e => e = er1726) (ca_meth (E := L2.WE _) C_Times_time CL_Times.cl (fun σ => passAt tk1719 σ) hr (by decide) (raw_var 0 rfl) (Iv.rcell iv1716 ro 0) rfl (ea_cons (ev_var 1 rfl (Iv.fz (x := (one1705 : Str)) iv1716 1)) (ea_cons (ev_var 2 rfl (Iv.fz (x := (other1706 : Str)) iv1716 2)) ea_nil))) iv1716 ro [.inr 0, .inr 1, .inr 2] (fun vs s2 k2 r2 => by obtain ⟨ws, rfl, r3⟩ := r2; obtain ⟨v1721, _, rfl, r1722, v1723, _, rfl, r1724, rfl⟩ := r3; exact ⟨[fz v1721 (one1705 : Str), fz v1723 (other1706 : Str)], ⟨(a_law_times), (a_law_times_my_names), (a_law_times_my_rows), v1721, v1723, rfl, rfl, rfl⟩, (all_cons r1722 (all_cons r1724 all_nil)), (fun v L' z => by obtain ⟨_, _, _, _, _, _, r, e2, _⟩ := z; cases e2), (fun e L' z => by obtain ⟨_, _, _, _, _, _, e2, _⟩ := z; cases e2; rfl)⟩) he1727 (fun e cls d s1728 z k1729 r1730 => ?_))
    subst z
    have hb1732 := exE_ok TB r1730 hx1731
    obtain rfl := exR_cls r1730
    refine was_of hb1732 (fun a1733 ha1734 oe1735 pn1736 hz1737 hf1738 => ?_)
    have iv1739 := Iv.ex iv1716 k1729
    obtain ⟨isE1744, h_isE1744, hm⟩ := bndE hm
    obtain ⟨c1749, h_c1749, hm⟩ := bndE hm
    obtain ⟨b1772, hj1773, hm⟩ := bndE hm
    refine do_if (EvW.tt (EvC.w (by skip; exact ec_andO (eb_v (ev_isE TB h_isE1744 hz1737 hf1738 r1730 z_isinstance (ev_var 5 rfl (show rep _ _ (V.ref a1733) (Rw.mk (V.ref a1733)) from rfl)) (ev_cls (.inl ⟨by decide, N_NoInstrument⟩)))) (fun hb1750 => (fun hz => (by obtain ⟨isE1748, h_isE1748, hz⟩ := bndE hz; obtain rfl := Option.some.inj hz; exact (ec_and1 (eb_not (eb_v (ev_isEs (c0 := "NoLine") (cr := ["NoName", "NoTimes"]) TB h_isE1748 hz1737 hf1738 r1730 z_isinstance (ev_var 5 rfl (show rep _ _ (V.ref a1733) (Rw.mk (V.ref a1733)) from rfl)) (ee_cons (ev_cls (.inl ⟨by decide, N_NoLine⟩)) (ee_cons (ev_cls (.inl ⟨by decide, N_NoName⟩)) (ee_cons (ev_cls (.inl ⟨by decide, N_NoTimes⟩)) ee_nil))) (by decide))))))) ((andE h_c1749).1 hb1750)) (andE h_c1749).2))) (fun (σ' : L2.St) (t' : S) => Fle s1728.F t'.F ∧ ∃ (v_spot : V), σ' = [some (.ref a_law_times), some a_law_one, some a_law_other, some a_law_due, some v_spot, some (V.ref a1733)] ∧ Iv K P0 s0 t' [top, fz a_law_one (one1705 : Str), fz a_law_other (other1706 : Str), fz a_law_due (due1707 : Str), fz v_spot (b1772 : (Option Str)), top, top, top]) (fun hb1774 s1775 e1776 => ?_) (fun hb1791 s1792 e1793 => ?_) (fun σ1798 s1799 hM1800 => ?_)
    · have hm1777 := iteE1 hj1773 hb1774
      have iv1778 := Iv.ex iv1739 e1776
      have r1780 := ExR.mono e1776.f r1730
      have fl1779 := Fle.trans (Fle.refl s1728.F) e1776.f
      obtain ⟨name1781, h_name1781, hm1777⟩ := bndE hm1777
      refine do_set 4 (ev_some (ev_xfS TB h_name1781 hz1737 hf1738 r1780 (ev_var 5 rfl (show rep _ _ (V.ref a1733) (Rw.mk (V.ref a1733)) from rfl)))) (fun v1786 s1784 e1785 r1787 => ?_) sc_l_refused.nd
      obtain ⟨spot1782, q1783, hm1777⟩ := ltE hm1777
      have iv1788 := Iv.sf iv1778 4 e1785 r1787 q1783
      have r1790 := ExR.mono e1785.f r1780
      have fl1789 := Fle.trans fl1779 e1785.f
      obtain rfl := Option.some.inj hm1777
      exact do_nil ⟨s1784, rfl, fl1789, ⟨v1786, rfl, Iv.sel iv1788 [none, some 1, some 2, some 3, some 4, none, none, none] (by decide +kernel) (by kernel_rfl)⟩⟩
    · have hm1794 := iteE2 hj1773 hb1791
      have iv1795 := Iv.ex iv1739 e1793
      have r1797 := ExR.mono e1793.f r1730
      have fl1796 := Fle.trans (Fle.refl s1728.F) e1793.f
      obtain rfl := Option.some.inj hm1794
      exact do_nil ⟨s1792, rfl, fl1796, ⟨v1714, rfl, Iv.sel iv1795 [none, some 1, some 2, some 3, some 4, none, none, none] (by decide +kernel) (by kernel_rfl)⟩⟩
    · obtain ⟨hf1801, hR1802⟩ := hM1800
      obtain ⟨v1803, rfl, iv1804⟩ := hR1802
      have r1805 := ExR.mono hf1801 r1730
      refine do_nil (show WSs _ _ _ _ _ from ?_)
      obtain rfl := Option.some.inj hm
      refine do_retK (ek_of (eg_ev (EvB.v (eb_eqF (ε := (Option Str)) (ev_var 4 rfl (Iv.fz (x := (b1772 : (Option Str))) iv1804 4)) (ev_some (ev_var 3 rfl (Iv.fz (x := (due1707 : Str)) iv1804 3)))))) iv1804) (fun v1806 s1808 z => ?_)
      obtain ⟨L1809, rfl, _, iv1807⟩ := z
      exact hQ _ _ _ ⟨a_law_times, a_law_times_my_names, a_law_times_my_rows, a_law_one, a_law_other, a_law_due, rfl, v1806, rfl, rfl⟩ (Iv.sel iv1807 [some 8] (by decide +kernel) (by kernel_rfl))
  refine do_exprG (eg_call (ok' := (fun v L' => ∃ (bres : V), v = bres ∧ L' = [fz bres (time1725 : Int)])) (ca_meth (E := fun _ _ _ _ => False) C_Times_time CL_Times.cl passF hr (by decide) (raw_var 0 rfl) (Iv.rcell iv1716 ro 0) rfl (ea_cons (ev_var 1 rfl (Iv.fz (x := (one1705 : Str)) iv1716 1)) (ea_cons (ev_var 2 rfl (Iv.fz (x := (other1706 : Str)) iv1716 2)) ea_nil))) iv1716 ro [.inr 0, .inr 1, .inr 2] (fun vs s2 k2 r2 => by obtain ⟨ws, rfl, r3⟩ := r2; obtain ⟨v1721, _, rfl, r1722, v1723, _, rfl, r1724, rfl⟩ := r3; exact ⟨[fz v1721 (one1705 : Str), fz v1723 (other1706 : Str)], ⟨(a_law_times), (a_law_times_my_names), (a_law_times_my_rows), v1721, v1723, rfl, rfl, rfl⟩, (all_cons r1722 (all_cons r1724 all_nil)), (fun v L' z => by obtain ⟨_, _, _, _, _, e, r, e2, z⟩ := z; cases e; cases e2; exact z), (fun e L' z => by obtain ⟨_, _, _, _, _, _, e2, _⟩ := z; cases e2)⟩) h_time1725) (fun v1811 s1812 L1813 z1814 iv1815 => ?_)
  have iv1817 := Iv.ex iv1716 (Iv.exx iv1815)
  refine do_nil (show WSs _ _ _ _ _ from ?_)
  obtain rfl := Option.some.inj hm
  refine do_retK (ek_of (eg_ev (EvB.v (eb_eqF (ε := (Option Str)) (ev_var 4 rfl (Iv.fz (x := (spot1710 : (Option Str))) iv1817 4)) (ev_some (ev_var 3 rfl (Iv.fz (x := (due1707 : Str)) iv1817 3)))))) iv1817) (fun v1818 s1820 z => ?_)
  obtain ⟨L1821, rfl, _, iv1819⟩ := z
  exact hQ _ _ _ ⟨a_law_times, a_law_times_my_names, a_law_times_my_rows, a_law_one, a_law_other, a_law_due, rfl, v1818, rfl, rfl⟩ (Iv.sel iv1819 [some 8] (by decide +kernel) (by kernel_rfl))
abbrev s_law : Stmt := topS 23
abbrev N_law : List Str := ["_law_script", "_law_many_here", "_law_names_here", "_law_rows_here", "_law_handed", "_law_times", "_law_cell", "_law_name", "_law_some", "_law_bad", "_law_one", "_law_row_here"]
theorem sc_law : FnScope N_law ["_law_script"] (defScope s_law) := ⟨rfl, rfl, rfl, by decide +kernel, rfl, by decide +kernel, by decide +kernel⟩
noncomputable def m_law (script1823 : (List Int)) : Option Bool :=
 (bnd (m_l_cell_at script1823 (0 : Int)) fun cell_at1828 => (bnd (m_l_many cell_at1828) fun many1829 => (lt (many1829 : Int) fun many_here1830 =>
 (bnd (m_l_cell_at script1823 (1 : Int)) fun cell_at1838 => (bnd (m_l_names cell_at1838 many_here1830) fun names1839 => (lt (names1839 : (List Str)) fun names_here1840 =>
 (bnd (m_l_cell_at script1823 (2 : Int)) fun cell_at1847 => (bnd (a_l_rows (cell_at1847, many_here1830, ())) fun rows1852 => (bnd (mapO (fun (x1862 : Nat) => (bnd ((rows1852)[x1862]?) fun row1874 => (some row1874))) (List.range (rows1852).length)) fun ys1875 => (chk ((ys1875).length ≤ sizeLine) (bnd (a_Times_init (names_here1840, ys1875, ())) fun init1886 => (bnd (a_l_right ((⟨init1886.my_names, init1886.my_rows⟩ : R_Times), names_here1840, rows1852, ())) fun right1931 => (bnd (orO (!right1931) (chk (shp ((names_here1840, ys1875) : ((List Str) × (List (List Int))))) (chk (shp ((names_here1840, rows1852) : ((List Str) × (List (List Int))))) (some (!decide ((names_here1840, ys1875) = ((names_here1840, rows1852) : ((List Str) × (List (List Int)))))))))) fun c1934 => (if c1934 = true then
 (some false)
 else
 (bnd (ixN (ys1875).length (0 : Int)) fun i1950 => (bnd ((ys1875)[i1950]?) fun row1951 => (bnd (ixN (row1951).length (0 : Int)) fun j1952 => (lt (((ys1875).set i1950 ((row1951).set j1952 (7 : Int))) : (List (List Int))) fun ll1958 =>
 (chk (0 < (ll1958).length) (lt ((ll1958).dropLast : (List (List Int))) fun ll1965 =>
 (lt (names_here1840.reverse : (List Str)) fun ls1971 =>
 (chk ((ls1971).length < sizeLine) (lt ((ls1971 ++ [("new" : Str)]) : (List Str)) fun ls1977 =>
 (chk ((([(1 : Int)] : List Int)).length + ((cut script1823 (some (3 : Int)) (some (9 : Int)))).length ≤ sizeLine) (bnd (foldF (ρ := Bool) (fun (b1984 : Unit) (x1986 : Int) =>
 (chk (0 < many_here1830) (bnd (atI names_here1840 (x1986 % many_here1830)) fun at2014 => (lt (at2014 : Str) fun name2015 =>
 (chk ((name2015).length ≤ sizeLine) (chk ((name2015).length + (("q" : Str)).length ≤ sizeLine) (chk ((name2015).length + (("zz" : Str)).length ≤ sizeLine) (lt (([(cutS name2015 none (some (-(1 : Int)))), (name2015 ++ ("q" : Str)), (name2015 ++ ("zz" : Str)), ("" : Str), ("new" : Str)] : List Str) : (List Str)) fun some2026 =>
 (chk (((List.map (fun (x2034 : Str) => x2034) (List.filter (fun (x2034 : Str) => (!decide (x2034 ∈ names_here1840))) some2026))).length ≤ sizeLine) (lt ((List.map (fun (x2034 : Str) => x2034) (List.filter (fun (x2034 : Str) => (!decide (x2034 ∈ names_here1840))) some2026)) : (List Str)) fun bad2057 =>
 (chk (0 < ((bad2057).length : Int)) (bnd (atI bad2057 ((x1986 / (12 : Int)) % ((bad2057).length : Int))) fun at2072 => (lt (at2072 : Str) fun one2073 =>
 (bnd (a_l_refused ((⟨init1886.my_names, init1886.my_rows⟩ : R_Times), one2073, name2015, one2073, ())) fun refused2136 => (bnd (orO (!refused2136) (bnd (a_l_refused ((⟨init1886.my_names, init1886.my_rows⟩ : R_Times), name2015, one2073, one2073, ())) fun refused2164 => (some (!refused2164)))) fun c2165 => (if c2165 = true then
 (some (Fl.rt false))
 else
 (bnd (atI bad2057 (-(1 : Int))) fun at2209 => (bnd (a_l_refused ((⟨init1886.my_names, init1886.my_rows⟩ : R_Times), one2073, at2209, one2073, ())) fun refused2214 => (if (!refused2214) = true then
 (some (Fl.rt false))
 else
 (some (Fl.nx ()))))))))))))))))))))) () (([(1 : Int)] : List Int) ++ (cut script1823 (some (3 : Int)) (some (9 : Int))))) fun o1982 =>
 (Fl.go o1982 (fun b2240 => (bnd (a_l_right ((⟨init1886.my_names, init1886.my_rows⟩ : R_Times), names_here1840, rows1852, ())) fun right2258 => (some right2258))) (fun rr => (some rr))))))))))))))))))))))))))))
noncomputable abbrev a_law : (List Int) × Unit → Option Bool := fun a => m_law a.1
theorem ok_law_fn {P : Program} {w : World} {K : PySem.W.Frag} {mg : Str → Option Value} {base : Heap} {f : Addr} {fd : FuncData} (F : FunP K "law" s_law f fd) (hmg : mg "law" = some (.ref f)) (C_l_cell_at : Cal P w K mg base CX0 1 "_law_cell_at" (sp K a_l_cell_at)) (C_l_many : Cal P w K mg base CX0 1 "_law_many" (sp K a_l_many)) (C_l_names : Cal P w K mg base CX0 2 "_law_names" (spN K a_l_names)) (C_l_rows : Cal P w K mg base CX0 2 "_law_rows" (spI K pre_l_rows a_l_rows ok_l_rows noEr)) (C_Times_init : CalC P w K mg base CX0 3 "Times" (spI K pre_Times_init a_Times_init ok_Times_init noEr)) (C_l_right : Cal P w K mg base CX0 4 "_law_right" (spI K pre_l_right a_l_right ok_l_right noEr)) (C_l_refused : Cal P w K mg base CX0 4 "_law_refused" (spI K pre_l_refused a_l_refused ok_l_refused noEr)) (z_list : mg "list" = none) (z_len : mg "len" = none) : FnOk P w K mg base CX0 5 f fd ["_law_script"] (sp K a_law) := by
  refine mk_fn (k := 4) F sc_law len1 ?_
  rintro cdv A' outer sh0 H0 X0 hr s0 vs ⟨script1823, _⟩ r0 Q ⟨v1824, _, rfl, r1825, rfl⟩ hm hQ
  unfold a_law m_law at hm
  dsimp only at hm
  have iv1826 : Iv K (fun _ => False) s0 s0 [fz v1824 (script1823 : (List Int)), top, top, top, top, top, top, top, top, top, top, top, top, top, top, top] := (Iv.sf (Iv.tops (K := K) (P0 := (fun _ => False)) 16 s0) 0 (Ex.refl s0) r1825 rfl)
  obtain ⟨cell_at1828, h_cell_at1828, hm⟩ := bndE hm
  obtain ⟨many1829, h_many1829, hm⟩ := bndE hm
  refine do_set 1 (ev_call C_l_many hr (by decide) (ea_cons (ev_call C_l_cell_at hr (by decide) (ea_cons (ev_var 0 rfl (Iv.fz (x := (script1823 : (List Int))) iv1826 0)) (ea_cons ev_int ea_nil)) h_cell_at1828) ea_nil) h_many1829) (fun v1834 s1832 e1833 r1835 => ?_) sc_law.nd
  obtain ⟨many_here1830, q1831, hm⟩ := ltE hm
  have iv1836 := Iv.sf iv1826 1 e1833 r1835 q1831
  obtain ⟨cell_at1838, h_cell_at1838, hm⟩ := bndE hm
  obtain ⟨names1839, h_names1839, hm⟩ := bndE hm
  refine do_set 2 (EvN.ev (en_call C_l_names hr (by decide) (ea_cons (ev_call C_l_cell_at hr (by decide) (ea_cons (ev_var 0 rfl (Iv.fz (x := (script1823 : (List Int))) iv1836 0)) (ea_cons ev_int ea_nil)) h_cell_at1838) (ea_cons (ev_var 1 rfl (Iv.fz (x := (many_here1830 : Int)) iv1836 1)) ea_nil)) h_names1839)) (fun v1844 s1842 e1843 r1845 => ?_) sc_law.nd
  obtain ⟨names_here1840, q1841, hm⟩ := ltE hm
  have iv1846 := Iv.sf iv1836 2 e1843 r1845 q1841
  obtain ⟨cell_at1847, h_cell_at1847, hm⟩ := bndE hm
  obtain ⟨rows1852, h_rows1852, hm⟩ := bndE hm
  refine do_setG 3 (eg_call (ok' := (fun v L' => ∃ (bres : LL), v = (.ref bres.p) ∧ L' = [oll bres (rows1852 : (List (List Int)))])) (ca_fn (E := fun _ _ _ _ => False) C_l_rows pass00 hr (by decide) (ea_cons (ev_call C_l_cell_at hr (by decide) (ea_cons (ev_var 0 rfl (Iv.fz (x := (script1823 : (List Int))) iv1846 0)) (ea_cons ev_int ea_nil)) h_cell_at1847) (ea_cons (ev_var 1 rfl (Iv.fz (x := (many_here1830 : Int)) iv1846 1)) ea_nil))) iv1846 ro0 [] (fun vs s2 k2 r2 => by obtain ⟨v1848, _, rfl, r1849, v1850, _, rfl, r1851, rfl⟩ := r2; exact ⟨[fz v1848 (cell_at1847 : Int), fz v1850 (many_here1830 : Int)], ⟨v1848, v1850, rfl, rfl, rfl⟩, (all_cons r1849 (all_cons r1851 all_nil)), (fun v L' z => by obtain ⟨_, _, e, z⟩ := z; cases e; exact z), (fun e L' z => z.elim)⟩) h_rows1852) (fun v1854 s1855 L1856 z1859 iv1857 => ?_) sc_law.nd
  obtain ⟨w1853, rfl, rfl⟩ := z1859
  have iv1858 := Iv.add iv1846 iv1857
  have iv1860 : Iv K (fun _ => False) s0 s1855 [fz v1824 (script1823 : (List Int)), fz v1834 (many_here1830 : Int), fz v1844 (names_here1840 : (List Str)), oll w1853 (rows1852 : (List (List Int))), top, top, top, top, top, top, top, top, top, top, top, top] := Iv.sel iv1858 [some 0, some 1, some 2, some 16, none, none, none, none, none, none, none, none, none, none, none, none] (by decide +kernel) (by kernel_rfl)
  obtain ⟨ys1875, h_ys1875, hm⟩ := bndE hm
  obtain ⟨hc1876, hm⟩ := chkE hm
  refine do_setG 4 (eg_tup (egs_cons (eg_new (en_copy z_list (Ev.r (ev_var 2 rfl (Iv.fz (x := (names_here1840 : (List Str))) iv1860 2))))) (egs_cons (eg_LL (en_compLLr (own := [("_law_row_here", 11)]) (j := 11) (f := fun (x1862 : Nat) => (bnd ((rows1852)[x1862]?) fun row1874 => (some row1874))) rfl sc_law.nd (raw_var 3 rfl) (OwnLL.r (Iv.oll (xss := (rows1852 : (List (List Int)))) iv1860 3)) (blkOk_by (own := [("_law_row_here", 11)]) (N := N_law) (sc := defScope s_law) (by decide +kernel)) rfl (by decide) (fun _ _ _ _ _ => pg_name (i := 11) sc_law.nd rfl (by first | exact Or.inl rfl | exact Or.inr rfl)) h_ys1875 hc1876 (fun x1862 y1863 qq1868 s1864 hq1866 e1865 hf1867 _ _ _ _ _ => by have z1872 := RdLL.ex (l := w1853) (xss := (rows1852 : (List (List Int)))) (OwnLL.r (Iv.oll (xss := (rows1852 : (List (List Int)))) iv1860 3)) e1865; obtain ⟨row1874, h_row1874, hf1867⟩ := bndE hf1867; obtain rfl := Option.some.inj hf1867; exact (en_copy z_list (er_raw (xs := (row1874 : (List Int))) (raw_var 11 rfl) (RdLL.row z1872 hq1866 h_row1874)))))) egs_nil)) (fun vs L' z => by obtain ⟨_, _, _, _, rfl, rfl, ⟨_, rfl, rfl⟩, ⟨_, _, _, _, rfl, rfl, ⟨_, rfl, rfl⟩, ⟨rfl, rfl⟩⟩⟩ := z; simp)) (fun v1879 s1880 L1881 z1884 iv1882 => ?_) sc_law.nd
  obtain ⟨p1878, _, _, rfl, ⟨_, _, _, _, rfl, rfl, ⟨p1861, rfl, rfl⟩, ⟨_, _, _, _, rfl, rfl, ⟨p1877, rfl, rfl⟩, ⟨rfl, rfl⟩⟩⟩, rfl⟩ := z1884
  have iv1883 := Iv.add iv1860 iv1882
  have iv1885 : Iv K (fun _ => False) s0 s1880 [fz v1824 (script1823 : (List Int)), fz v1834 (many_here1830 : Int), fz v1844 (names_here1840 : (List Str)), oll w1853 (rows1852 : (List (List Int))), tc p1878 [(.ref p1861), (.ref p1877.p)], top, top, top, top, top, top, top, ol p1861 (names_here1840 : (List Str)), oll p1877 (ys1875 : (List (List Int))), top, top] := Iv.sel iv1883 [some 0, some 1, some 2, some 3, some 16, none, none, none, none, none, none, none, some 17, some 18, none, none] (by decide +kernel) (by kernel_rfl)
  obtain ⟨init1886, h_init1886, hm⟩ := bndE hm
  refine do_setG 5 (eg_make (ok' := (fun v L' => ∃ pnew : Addr, ∃ (bself_my_names : V) (bself_my_rows : V), v = .ref pnew ∧ L' = [cell pnew "Times" [("my_names", bself_my_names), ("my_rows", bself_my_rows)], fz bself_my_names (init1886.my_names : (List Str)), fz bself_my_rows (init1886.my_rows : (List (List Int)))])) (ca_make (E := fun _ _ _ _ => False) C_Times_init pass00 hr (by decide) (ea_cons (raw_tup (raw_var 4 rfl) (Iv.tc iv1885 4) (ev_int (i := 0)) rfl) (ea_cons (raw_tup (raw_var 4 rfl) (Iv.tc iv1885 4) (ev_int (i := 1)) rfl) ea_nil))) iv1885 ro0 [.inl 12, .inl 13] (fun vs s2 pnew k2 r2 => by obtain ⟨_, _, rfl, rfl, _, _, rfl, rfl, rfl⟩ := r2; exact ⟨[], ⟨pnew, (p1861), (p1877), rfl, rfl, rfl⟩, (fun A s3 k3 hA => AllF.ex all_nil k3 A hA), (fun v L' z => by obtain ⟨_, _, _, e, z⟩ := z; (first | cases e | (have e1 := (List.cons.inj e).1; cases e1) | skip); obtain ⟨x0, x1, rfl, z⟩ := z; exact ⟨rfl, _, x0, x1, rfl, z⟩), (fun e L' z => z.elim)⟩) h_init1886) (fun v1890 s1891 L1892 z1895 iv1893 => ?_) sc_law.nd
  obtain ⟨p1887, v1888, v1889, rfl, rfl⟩ := z1895
  have iv1894 := Iv.add iv1885 iv1893
  have iv1896 : Iv K (fun _ => False) s0 s1891 [fz v1824 (script1823 : (List Int)), fz v1834 (many_here1830 : Int), fz v1844 (names_here1840 : (List Str)), oll w1853 (rows1852 : (List (List Int))), tc p1878 [(.ref p1861), (.ref p1877.p)], cell p1887 "Times" [("my_names", v1888), ("my_rows", v1889)], top, top, top, top, top, top, ol p1861 (names_here1840 : (List Str)), oll p1877 (ys1875 : (List (List Int))), fz v1888 (init1886.my_names : (List Str)), fz v1889 (init1886.my_rows : (List (List Int)))] := Iv.sel iv1894 [some 0, some 1, some 2, some 3, some 4, some 16, none, none, none, none, none, none, some 12, some 13, some 17, some 18] (by decide +kernel) (by kernel_rfl)
  refine do_frzLL iv1896 3 rfl fun s1897 hf1898 iv1899 => ?_
  obtain ⟨right1931, h_right1931, hm⟩ := bndE hm
  obtain ⟨c1934, h_c1934, hm⟩ := bndE hm
  refine do_ifR (EvW.tt (EvC.w (by skip; exact ec_orO (eb_not (eb_v (ev_of_eg (eg_call (ok' := (fun v L' => ∃ (bres : V), v = bres ∧ L' = [fz bres (right1931 : Bool)])) (ca_fn (E := fun _ _ _ _ => False) C_l_right pass00 hr (by decide) (ea_cons (raw_var 5 rfl) (ea_cons (ev_var 2 rfl (Iv.fz (x := (names_here1840 : (List Str))) iv1899 2)) (ea_cons (ev_var 3 rfl (Iv.fz (x := (rows1852 : (List (List Int)))) iv1899 3)) ea_nil)))) iv1899 ro0 [.inl 5, .inl 14, .inl 15] (fun vs s2 k2 r2 => by obtain ⟨_, _, rfl, rfl, v1927, _, rfl, r1928, v1929, _, rfl, r1930, rfl⟩ := r2; exact ⟨[fz v1927 (names_here1840 : (List Str)), fz v1929 (rows1852 : (List (List Int)))], ⟨(p1887), (v1888), (v1889), v1927, v1929, rfl, rfl, rfl⟩, (all_cons r1928 (all_cons r1930 all_nil)), (fun v L' z => by obtain ⟨_, _, _, _, _, e, z⟩ := z; cases e; exact z), (fun e L' z => z.elim)⟩) h_right1931) (fun v L' z => by obtain ⟨_, rfl, rfl⟩ := z; exact ⟨[], rfl⟩)))) (fun hb1935 => (fun hz => (by obtain ⟨hc1932, hz⟩ := chkE hz; obtain ⟨hc1933, hz⟩ := chkE hz; obtain rfl := Option.some.inj hz; exact (ec_or1 (eb_neH (x := ((names_here1840, ys1875) : ((List Str) × (List (List Int))))) hr (raw_var 4 rfl) (fun _ e => (repH_t2 (Iv.tc iv1899 4) e (repH_l (Iv.ol (xs := (names_here1840 : (List Str))) iv1899 12) e) (repH_ll (xss := (ys1875 : (List (List Int)))) (OwnLL.r (Iv.oll (xss := (ys1875 : (List (List Int)))) iv1899 13)) e))) (ev_t2 (ea_cons (ev_var 2 rfl (Iv.fz (x := (names_here1840 : (List Str))) iv1899 2)) (ea_cons (ev_var 3 rfl (Iv.fz (x := (rows1852 : (List (List Int)))) iv1899 3)) ea_nil))) hc1932 hc1933)))) ((orE h_c1934).1 hb1935)) (orE h_c1934).2))) (fun hb1936 s1937 e1938 => ?_) (fun hb1945 s1946 e1947 => ?_)
  · have hm1939 := iteE1 hm hb1936
    have iv1940 := Iv.ex iv1899 e1938
    obtain rfl := Option.some.inj hm1939
    exact do_ret ev_bl fun v1941 s1942 e1943 r1944 => hQ _ _ (Ex.trans (Iv.exx iv1940) e1943) r1944
  · have hm1948 := iteE2 hm hb1945
    have iv1949 := Iv.ex iv1899 e1947
    obtain ⟨i1950, h_i1950, hm1948⟩ := bndE hm1948
    obtain ⟨row1951, h_row1951, hm1948⟩ := bndE hm1948
    obtain ⟨j1952, h_j1952, hm1948⟩ := bndE hm1948
    obtain ⟨qq1953, hq1954⟩ := OwnLL.ref (Iv.oll (xss := (ys1875 : (List (List Int)))) iv1949 13) (List.getElem?_eq_some_iff.mp h_row1951).1
    refine do_setItemP (raw_llix (raw_tup (raw_var 4 rfl) (Iv.tc iv1949 4) (ev_int (i := 1)) rfl) (OwnLL.r (Iv.oll (xss := (ys1875 : (List (List Int)))) iv1949 13)) ev_int h_i1950 hq1954) (OwnLL.row (Iv.oll (xss := (ys1875 : (List (List Int)))) iv1949 13) hq1954 h_row1951) ev_int ev_int h_j1952 (fun s1955 m1956 o1957 => ?_)
    obtain ⟨ll1958, q1959, hm1948⟩ := ltE hm1948
    have iv1960 := Iv.mll iv1949 13 m1956 hq1954 o1957 q1959
    obtain ⟨hc1961, hm1948⟩ := chkE hm1948
    refine do_popLL (raw_tup (raw_var 4 rfl) (Iv.tc iv1960 4) (ev_int (i := 1)) rfl) (Iv.oll (xss := (ll1958 : (List (List Int)))) iv1960 13) hc1961 (fun s1962 m1963 o1964 => ?_)
    obtain ⟨ll1965, q1966, hm1948⟩ := ltE hm1948
    have iv1967 := Iv.pll iv1960 13 m1963 o1964 q1966
    refine do_reverseP (raw_tup (raw_var 4 rfl) (Iv.tc iv1967 4) (ev_int (i := 0)) rfl) (Iv.ol (xs := (names_here1840 : (List Str))) iv1967 12) (fun s1968 m1969 o1970 => ?_)
    obtain ⟨ls1971, q1972, hm1948⟩ := ltE hm1948
    have iv1973 := Iv.ml iv1967 12 m1969 o1970 q1972
    obtain ⟨hc1979, hm1948⟩ := chkE hm1948
    refine do_appendP (raw_tup (raw_var 4 rfl) (Iv.tc iv1973 4) (ev_int (i := 0)) rfl) (Iv.ol (xs := (ls1971 : (List Str))) iv1973 12) ev_str hc1979 (fun s1974 m1975 o1976 => ?_)
    obtain ⟨ls1977, q1978, hm1948⟩ := ltE hm1948
    have iv1980 := Iv.ml iv1973 12 m1975 o1976 q1978
    obtain ⟨hc1981, hm1948⟩ := chkE hm1948
    obtain ⟨o1982, ho1983, hm1948⟩ := bndE hm1948
    refine do_forF (ρ := Bool) (υ := Unit) PassesOwn.never rfl (ei_list (EvN.ev (en_cat (EvN.r (en_list (xs := ([(1 : Int)] : List Int)) (ee_cons ev_int ee_nil) (by simp [sizeLine]))) (EvN.r (en_slice (Ev.r (ev_var 0 rfl (Iv.fz (x := (script1823 : (List Int))) iv1980 0))) (eo_some ev_int) (eo_some ev_int))) hc1981))) (pg_name (i := 6) sc_law.nd rfl (by first | exact Or.inl rfl | exact Or.inr rfl)) tg_n ho1983 (fun (b1984 : Unit) (σ' : L2.St) (t' : S) => ∃ (y_name : Option V) (y_some : Option V) (y_bad : Option V) (y_one : Option V) (y_cell : Option V), σ' = [some v1824, some v1834, some v1844, some (V.ref w1853.p), some (.ref p1878), some (.ref p1887), y_cell, y_name, y_some, y_bad, y_one, none] ∧ Iv K (fun _ => False) s0 t' [fz v1824 (script1823 : (List Int)), fz v1834 (many_here1830 : Int), fz v1844 (names_here1840 : (List Str)), fz (V.ref w1853.p) (rows1852 : (List (List Int))), tc p1878 [(.ref p1861), (.ref (LL.mk p1877.p p1877.q.dropLast).p)], cell p1887 "Times" [("my_names", v1888), ("my_rows", v1889)], top, top, top, top, top, top, ol p1861 (ls1977 : (List Str)), oll (LL.mk p1877.p p1877.q.dropLast) (ll1965 : (List (List Int))), fz v1888 (init1886.my_names : (List Str)), fz v1889 (init1886.my_rows : (List (List Int)))]) (fun s2237 k2238 => by have iv2239 := Iv.ex iv1980 k2238; exact ⟨_, _, _, _, _, rfl, Iv.sel iv2239 [some 0, some 1, some 2, some 3, some 4, some 5, none, none, none, none, none, none, some 12, some 13, some 14, some 15] (by decide +kernel) (by kernel_rfl)⟩) (fun s1987 k1988 x1986 b1984 q2011 σ1997 σ1998 t1995 t1996 hx1989 hm1990 hq2012 fl1991 hR1992 k1993 hB1994 => ?_) (fun s2231 k2232 b2240 σ2233 t2234 ho2241 fl2235 hR2236 => ?_)
    · have hf1999 := Fle.trans k1988.f fl1991
      obtain ⟨y2000, y2001, y2002, y2003, y2004, rfl, iv2005⟩ := hR1992
      obtain ⟨v2006, r2007, rfl⟩ := hB1994
      have iv2008 := Iv.ex iv2005 k1993
      have iv2009 := Iv.sf iv2008 6 (Ex.refl t1996) r2007 rfl
      have fl2010 := Fle.trans (Fle.refl t1996.F) (Ex.refl t1996).f
      obtain ⟨hc2013, hm1990⟩ := chkE hm1990
      obtain ⟨at2014, h_at2014, hm1990⟩ := bndE hm1990
      refine do_set 7 (ev_ix (Ev.r (ev_var 2 rfl (Iv.fz (x := (names_here1840 : (List Str))) iv2009 2))) (ev_mod (ev_var 6 rfl (Iv.fz (x := (x1986 : Int)) iv2009 6)) (ev_var 1 rfl (Iv.fz (x := (many_here1830 : Int)) iv2009 1)) hc2013) h_at2014) (fun v2019 s2017 e2018 r2020 => ?_) sc_law.nd
      obtain ⟨name2015, q2016, hm1990⟩ := ltE hm1990
      have iv2021 := Iv.sf iv2009 7 e2018 r2020 q2016
      have fl2022 := Fle.trans (Fle.refl t1996.F) e2018.f
      obtain ⟨hc2023, hm1990⟩ := chkE hm1990
      obtain ⟨hc2024, hm1990⟩ := chkE hm1990
      obtain ⟨hc2025, hm1990⟩ := chkE hm1990
      refine do_set 8 (EvN.ev (en_list (xs := ([(cutS name2015 none (some (-(1 : Int)))), (name2015 ++ ("q" : Str)), (name2015 ++ ("zz" : Str)), ("" : Str), ("new" : Str)] : List Str)) (ee_cons (ev_sliceS hc2023 (ev_var 7 rfl (Iv.fz (x := (name2015 : Str)) iv2021 7)) eo_none (eo_some (ev_neg ev_int))) (ee_cons (ev_adds (ev_var 7 rfl (Iv.fz (x := (name2015 : Str)) iv2021 7)) ev_str hc2024) (ee_cons (ev_adds (ev_var 7 rfl (Iv.fz (x := (name2015 : Str)) iv2021 7)) ev_str hc2025) (ee_cons ev_str (ee_cons ev_str ee_nil))))) (by simp [sizeLine]))) (fun v2030 s2028 e2029 r2031 => ?_) sc_law.nd
      obtain ⟨some2026, q2027, hm1990⟩ := ltE hm1990
      have iv2032 := Iv.sf iv2021 8 e2029 r2031 q2027
      have fl2033 := Fle.trans fl2022 e2029.f
      obtain ⟨hc2055, hm1990⟩ := chkE hm1990
      refine do_setL 9 (en_comp1 (own := [("_law_one", 10)]) (j := 10) (t := fun (x2034 : Str) => (some (!decide (x2034 ∈ names_here1840)))) (f := fun (x2034 : Str) => (some x2034)) rfl sc_law.nd (ei_list (ev_var 8 rfl (Iv.fz (x := (some2026 : (List Str))) iv2032 8))) (blkOk_by (own := [("_law_one", 10)]) (N := N_law) (sc := defScope s_law) (by decide +kernel)) rfl (by decide) (fun _ _ _ _ _ => pg_name (i := 10) sc_law.nd rfl (by first | exact Or.inl rfl | exact Or.inr rfl)) (compO_pure (fun (x2034 : Str) => (!decide (x2034 ∈ names_here1840))) (fun (x2034 : Str) => x2034) some2026) hc2055 (fun x2034 y2035 v2053 s2036 hx2038 e2037 r2054 hf2039 _ _ _ _ _ => by have z2042 := Enc.mono e2037.f (Iv.fz (v := v1844) (x := (names_here1840 : (List Str))) iv2032 2); obtain rfl := Option.some.inj hf2039; exact (EvB.t (eb_notIn (ev_var 10 rfl r2054) (Ev.r (ev_var 2 rfl z2042))))) (fun x2034 y2035 v2053 s2036 hx2038 e2037 r2054 ht2056 hf2039 _ _ _ _ _ => by obtain rfl := Option.some.inj hf2039; exact (ev_var 10 rfl r2054))) (fun p2063 s2059 e2060 n2064 o2065 => ?_) rfl rfl
      obtain ⟨s2066, hs2067, e2068, r2062⟩ := frz_ex e2060 n2064 o2065
      rw [← hs2067]
      obtain ⟨bad2057, q2058, hm1990⟩ := ltE hm1990
      have iv2069 := Iv.sf iv2032 9 e2068 r2062 q2058
      have fl2070 := Fle.trans fl2033 e2068.f
      obtain ⟨hc2071, hm1990⟩ := chkE hm1990
      obtain ⟨at2072, h_at2072, hm1990⟩ := bndE hm1990
      refine do_set 10 (ev_ix (Ev.r (ev_var 9 rfl (Iv.fz (x := (bad2057 : (List Str))) iv2069 9))) (ev_mod (ev_div (ev_var 6 rfl (Iv.fz (x := (x1986 : Int)) iv2069 6)) ev_int ⟨by decide, by decide +kernel⟩) (ev_len z_len (Ev.r (ev_var 9 rfl (Iv.fz (x := (bad2057 : (List Str))) iv2069 9)))) hc2071) h_at2072) (fun v2077 s2075 e2076 r2078 => ?_) sc_law.nd
      obtain ⟨one2073, q2074, hm1990⟩ := ltE hm1990
      have iv2079 := Iv.sf iv2069 10 e2076 r2078 q2074
      have fl2080 := Fle.trans fl2070 e2076.f
      obtain ⟨refused2136, h_refused2136, hm1990⟩ := bndE hm1990
      obtain ⟨c2165, h_c2165, hm1990⟩ := bndE hm1990
      refine do_ifR (EvW.tt (EvC.w (by skip; exact ec_orO (eb_not (eb_v (ev_of_eg (eg_call (ok' := (fun v L' => ∃ (bres : V), v = bres ∧ L' = [fz bres (refused2136 : Bool)])) (ca_fn (E := fun _ _ _ _ => False) C_l_refused pass00 hr (by decide) (ea_cons (raw_var 5 rfl) (ea_cons (ev_var 10 rfl (Iv.fz (x := (one2073 : Str)) iv2079 10)) (ea_cons (ev_var 7 rfl (Iv.fz (x := (name2015 : Str)) iv2079 7)) (ea_cons (ev_var 10 rfl (Iv.fz (x := (one2073 : Str)) iv2079 10)) ea_nil))))) iv2079 ro0 [.inl 5, .inl 14, .inl 15] (fun vs s2 k2 r2 => by obtain ⟨_, _, rfl, rfl, v2130, _, rfl, r2131, v2132, _, rfl, r2133, v2134, _, rfl, r2135, rfl⟩ := r2; exact ⟨[fz v2130 (one2073 : Str), fz v2132 (name2015 : Str), fz v2134 (one2073 : Str)], ⟨(p1887), (v1888), (v1889), v2130, v2132, v2134, rfl, rfl, rfl⟩, (all_cons r2131 (all_cons r2133 (all_cons r2135 all_nil))), (fun v L' z => by obtain ⟨_, _, _, _, _, _, e, z⟩ := z; cases e; exact z), (fun e L' z => z.elim)⟩) h_refused2136) (fun v L' z => by obtain ⟨_, rfl, rfl⟩ := z; exact ⟨[], rfl⟩)))) (fun hb2166 => (fun hz => (by obtain ⟨refused2164, h_refused2164, hz⟩ := bndE hz; obtain rfl := Option.some.inj hz; exact (ec_or1 (eb_not (eb_v (ev_of_eg (eg_call (ok' := (fun v L' => ∃ (bres : V), v = bres ∧ L' = [fz bres (refused2164 : Bool)])) (ca_fn (E := fun _ _ _ _ => False) C_l_refused pass00 hr (by decide) (ea_cons (raw_var 5 rfl) (ea_cons (ev_var 7 rfl (Iv.fz (x := (name2015 : Str)) iv2079 7)) (ea_cons (ev_var 10 rfl (Iv.fz (x := (one2073 : Str)) iv2079 10)) (ea_cons (ev_var 10 rfl (Iv.fz (x := (one2073 : Str)) iv2079 10)) ea_nil))))) iv2079 ro0 [.inl 5, .inl 14, .inl 15] (fun vs s2 k2 r2 => by obtain ⟨_, _, rfl, rfl, v2158, _, rfl, r2159, v2160, _, rfl, r2161, v2162, _, rfl, r2163, rfl⟩ := r2; exact ⟨[fz v2158 (name2015 : Str), fz v2160 (one2073 : Str), fz v2162 (one2073 : Str)], ⟨(p1887), (v1888), (v1889), v2158, v2160, v2162, rfl, rfl, rfl⟩, (all_cons r2159 (all_cons r2161 (all_cons r2163 all_nil))), (fun v L' z => by obtain ⟨_, _, _, _, _, _, e, z⟩ := z; cases e; exact z), (fun e L' z => z.elim)⟩) h_refused2164) (fun v L' z => by obtain ⟨_, rfl, rfl⟩ := z; exact ⟨[], rfl⟩))))))) ((orE h_c2165).1 hb2166)) (orE h_c2165).2))) (fun hb2167 s2168 e2169 => ?_) (fun hb2177 s2178 e2179 => ?_)
      · have hm2170 := iteE1 hm1990 hb2167
        have iv2171 := Iv.ex iv2079 e2169
        have fl2172 := Fle.trans fl2080 e2169.f
        obtain rfl := Option.some.inj hm2170
        obtain rfl := hq2012 _ rfl
        obtain rfl := Option.some.inj hm1948
        exact do_ret ev_bl fun v2173 s2174 e2175 r2176 => hQ _ _ (Ex.trans (Iv.exx iv2171) e2175) r2176
      · have hm2180 := iteE2 hm1990 hb2177
        have iv2181 := Iv.ex iv2079 e2179
        have fl2182 := Fle.trans fl2080 e2179.f
        obtain ⟨at2209, h_at2209, hm2180⟩ := bndE hm2180
        obtain ⟨refused2214, h_refused2214, hm2180⟩ := bndE hm2180
        refine do_ifR (EvB.t (eb_not (eb_v (ev_of_eg (eg_call (ok' := (fun v L' => ∃ (bres : V), v = bres ∧ L' = [fz bres (refused2214 : Bool)])) (ca_fn (E := fun _ _ _ _ => False) C_l_refused pass00 hr (by decide) (ea_cons (raw_var 5 rfl) (ea_cons (ev_var 10 rfl (Iv.fz (x := (one2073 : Str)) iv2181 10)) (ea_cons (ev_ix (Ev.r (ev_var 9 rfl (Iv.fz (x := (bad2057 : (List Str))) iv2181 9))) (ev_neg ev_int) h_at2209) (ea_cons (ev_var 10 rfl (Iv.fz (x := (one2073 : Str)) iv2181 10)) ea_nil))))) iv2181 ro0 [.inl 5, .inl 14, .inl 15] (fun vs s2 k2 r2 => by obtain ⟨_, _, rfl, rfl, v2207, _, rfl, r2208, v2210, _, rfl, r2211, v2212, _, rfl, r2213, rfl⟩ := r2; exact ⟨[fz v2207 (one2073 : Str), fz v2210 (at2209 : Str), fz v2212 (one2073 : Str)], ⟨(p1887), (v1888), (v1889), v2207, v2210, v2212, rfl, rfl, rfl⟩, (all_cons r2208 (all_cons r2211 (all_cons r2213 all_nil))), (fun v L' z => by obtain ⟨_, _, _, _, _, _, e, z⟩ := z; cases e; exact z), (fun e L' z => z.elim)⟩) h_refused2214) (fun v L' z => by obtain ⟨_, rfl, rfl⟩ := z; exact ⟨[], rfl⟩))))) (fun hb2215 s2216 e2217 => ?_) (fun hb2225 s2226 e2227 => ?_)
        · have hm2218 := iteE1 hm2180 hb2215
          have iv2219 := Iv.ex iv2181 e2217
          have fl2220 := Fle.trans fl2182 e2217.f
          obtain rfl := Option.some.inj hm2218
          obtain rfl := hq2012 _ rfl
          obtain rfl := Option.some.inj hm1948
          exact do_ret ev_bl fun v2221 s2222 e2223 r2224 => hQ _ _ (Ex.trans (Iv.exx iv2219) e2223) r2224
        · have hm2228 := iteE2 hm2180 hb2225
          have iv2229 := Iv.ex iv2181 e2227
          have fl2230 := Fle.trans fl2182 e2227.f
          obtain rfl := Option.some.inj hm2228
          exact do_nil ⟨s2226, rfl, _, rfl, fl2230, ⟨_, _, _, _, _, rfl, Iv.sel iv2229 [some 0, some 1, some 2, some 3, some 4, some 5, none, none, none, none, none, none, some 12, some 13, some 14, some 15] (by decide +kernel) (by kernel_rfl)⟩⟩
    · subst ho2241
      replace hm1948 := goN hm1948
      have hf2242 := Fle.trans k2232.f fl2235
      obtain ⟨y2243, y2244, y2245, y2246, y2247, rfl, iv2248⟩ := hR2236
      obtain ⟨right2258, h_right2258, hm1948⟩ := bndE hm1948
      obtain rfl := Option.some.inj hm1948
      exact do_ret (ev_of_eg (eg_call (ok' := (fun v L' => ∃ (bres : V), v = bres ∧ L' = [fz bres (right2258 : Bool)])) (ca_fn (E := fun _ _ _ _ => False) C_l_right pass00 hr (by decide) (ea_cons (raw_var 5 rfl) (ea_cons (ev_var 2 rfl (Iv.fz (x := (names_here1840 : (List Str))) iv2248 2)) (ea_cons (ev_var 3 rfl (Iv.fz (x := (rows1852 : (List (List Int)))) iv2248 3)) ea_nil)))) iv2248 ro0 [.inl 5, .inl 14, .inl 15] (fun vs s2 k2 r2 => by obtain ⟨_, _, rfl, rfl, v2254, _, rfl, r2255, v2256, _, rfl, r2257, rfl⟩ := r2; exact ⟨[fz v2254 (names_here1840 : (List Str)), fz v2256 (rows1852 : (List (List Int)))], ⟨(p1887), (v1888), (v1889), v2254, v2256, rfl, rfl, rfl⟩, (all_cons r2255 (all_cons r2257 all_nil)), (fun v L' z => by obtain ⟨_, _, _, _, _, e, z⟩ := z; cases e; exact z), (fun e L' z => z.elim)⟩) h_right2258) (fun v L' z => by obtain ⟨_, rfl, rfl⟩ := z; exact ⟨[], rfl⟩)) fun v2259 s2260 e2261 r2262 => hQ _ _ (Ex.trans (Iv.exx iv2248) e2261) r2262
def d_l_many : He.DefD := ⟨("_law_many", none), "_law_many", "_law_many", defArgs s_l_many, defBody s_l_many, defScope s_l_many, [], []⟩
def d_l_row : He.DefD := ⟨("_law_row", none), "_law_row", "_law_row", defArgs s_l_row, defBody s_l_row, defScope s_l_row, [], []⟩
def d_l_names : He.DefD := ⟨("_law_names", none), "_law_names", "_law_names", defArgs s_l_names, defBody s_l_names, defScope s_l_names, [], []⟩
def d_l_closed : He.DefD := ⟨("_law_closed", none), "_law_closed", "_law_closed", defArgs s_l_closed, defBody s_l_closed, defScope s_l_closed, [], []⟩
def d_l_rows : He.DefD := ⟨("_law_rows", none), "_law_rows", "_law_rows", defArgs s_l_rows, defBody s_l_rows, defScope s_l_rows, [], []⟩
def d_is_square : He.DefD := ⟨("is_square", none), "is_square", "is_square", defArgs s_is_square, defBody s_is_square, defScope s_is_square, [], []⟩
def d_is_straight : He.DefD := ⟨("is_straight", none), "is_straight", "is_straight", defArgs s_is_straight, defBody s_is_straight, defScope s_is_straight, [], []⟩
def d_is_made_of : He.DefD := ⟨("is_made_of", none), "is_made_of", "is_made_of", defArgs s_is_made_of, defBody s_is_made_of, defScope s_is_made_of, [], []⟩
def d_is_name : He.DefD := ⟨("is_name", none), "is_name", "is_name", defArgs s_is_name, defBody s_is_name, defScope s_is_name, [], []⟩
def d_Times_init : He.DefD := ⟨("Times", some "__init__"), "__init__", "Times.__init__", defArgs s_Times_init, defBody s_Times_init, defScope s_Times_init, [], []⟩
def d_Times_names : He.DefD := ⟨("Times", some "names"), "names", "Times.names", defArgs s_Times_names, defBody s_Times_names, defScope s_Times_names, [], []⟩
def d_Times_time : He.DefD := ⟨("Times", some "time"), "time", "Times.time", defArgs s_Times_time, defBody s_Times_time, defScope s_Times_time, [], []⟩
def d_l_right : He.DefD := ⟨("_law_right", none), "_law_right", "_law_right", defArgs s_l_right, defBody s_l_right, defScope s_l_right, [], []⟩
def d_l_cell_at : He.DefD := ⟨("_law_cell_at", none), "_law_cell_at", "_law_cell_at", defArgs s_l_cell_at, defBody s_l_cell_at, defScope s_l_cell_at, [], []⟩
def d_l_refused : He.DefD := ⟨("_law_refused", none), "_law_refused", "_law_refused", defArgs s_l_refused, defBody s_l_refused, defScope s_l_refused, [], []⟩
def d_law : He.DefD := ⟨("law", none), "law", "law", defArgs s_law, defBody s_law, defScope s_law, [], []⟩
abbrev s_NoInstrument_init : Stmt := clsS 3 0
def d_NoInstrument_init : He.DefD := ⟨("NoInstrument", some "__init__"), "__init__", "NoInstrument.__init__", defArgs s_NoInstrument_init, defBody s_NoInstrument_init, defScope s_NoInstrument_init, [], []⟩
theorem sc_NoInstrument_init : FnScope ["self", "name"] ["self", "name"] (defScope s_NoInstrument_init) := ⟨rfl, rfl, rfl, by decide +kernel, rfl, by decide +kernel, by decide +kernel⟩
def fn : List He.DefD := [d_l_many, d_l_row, d_l_names, d_l_closed, d_l_rows, d_is_square, d_is_straight, d_is_made_of, d_is_name, d_Times_init, d_Times_names, d_Times_time, d_l_right, d_l_cell_at, d_l_refused, d_law, d_NoInstrument_init]
def gs (K : PySem.W.Frag) : Bool := tab.ok K && payB K "NoInstrument" "name" && clsB K "Times" ["my_names", "my_rows"] ["__init__", "names", "time"]
def fa : List He.Fa := [.glo "_law_many", .glo "_law_row", .glo "_law_names", .glo "_law_closed", .glo "_law_rows", .glo "is_square", .glo "is_straight", .glo "is_made_of", .glo "is_name", .glo "_law_right", .glo "_law_cell_at", .glo "_law_refused", .glo "law", .free "int", .free "range", .free "len", .free "min", .free "all", .free "set", .free "list", .free "isinstance", .free "bool", .str "LETTERS" ("abcdefghijklmnopqrstuvwxyz" : Str), .glo "NoInstrument", .glo "PairsError", .glo "NoLine", .glo "NoName", .glo "NoTimes", .glo "Times"]
abbrev R : PySem.W.OpenRow := PySem.W.OpenLaw.row PySem.Challenge.rw_deskpairs_k13_times_told
abbrev hk : PySem.W.Hook := Dy.hookX 4 fa fn gs
def ob (s : PySem.W.SharedT) : Bool × He.AlD := Dy.obsX 4 fa fn gs (HandSHeadRun.getT s)
theorem ob_eq (s : PySem.W.SharedT) : ob s = hk.obs s.abs := Dy.obsX_eq (HandSHeadRun.getT_eq s)
def loose0 : List Str := ["PairsError", "NoTimes", "NoInstrument", "NoLine", "NoName", "LETTERS", "is_made_of", "is_name", "is_square", "is_straight", "Times", "_law_cell_at", "_law_row", "_law_names", "_law_closed", "_law_rows", "_law_many", "_law_right", "_law_refused"]
def loose : List Str := loose0
theorem run (w : World) : HandSHeadRun.RunEq R (PySem.W.view R.prog [23]) hk ob 3760 loose w := by
  intro os
  kernel_rfl
theorem facts {P : Program} {w : World} {K : PySem.W.Frag} {h : Heap} {mg : Str → Option Value} {f : Addr} (X : K.In h) (G : h.Ns mainGlobals mg) (hfa : mg ("law" : Str) = some (.ref f)) (c : He.SaysD fa fn K) (GS : gs K = true) :
    ∃ fd : FuncData, (∀ (s : Shared) (v : Value), BindsTo s fd ⟨[v], []⟩ [("_law_script", v)]) ∧ ∀ base : Heap, K.In base → base.Ns mainGlobals mg → FnOk P w K mg base CX0 5 f fd ["_law_script"] (sp K a_law) := by
  obtain ⟨fd_l_many, F_l_many⟩ := c.def_ 0 (d := d_l_many) rfl
  obtain ⟨fd_l_row, F_l_row⟩ := c.def_ 1 (d := d_l_row) rfl
  obtain ⟨fd_l_names, F_l_names⟩ := c.def_ 2 (d := d_l_names) rfl
  obtain ⟨fd_l_closed, F_l_closed⟩ := c.def_ 3 (d := d_l_closed) rfl
  obtain ⟨fd_l_rows, F_l_rows⟩ := c.def_ 4 (d := d_l_rows) rfl
  obtain ⟨fd_is_square, F_is_square⟩ := c.def_ 5 (d := d_is_square) rfl
  obtain ⟨fd_is_straight, F_is_straight⟩ := c.def_ 6 (d := d_is_straight) rfl
  obtain ⟨fd_is_made_of, F_is_made_of⟩ := c.def_ 7 (d := d_is_made_of) rfl
  obtain ⟨fd_is_name, F_is_name⟩ := c.def_ 8 (d := d_is_name) rfl
  obtain ⟨fd_Times_init, F_Times_init⟩ := c.def_ 9 (d := d_Times_init) rfl
  obtain ⟨fd_Times_names, F_Times_names⟩ := c.def_ 10 (d := d_Times_names) rfl
  obtain ⟨fd_Times_time, F_Times_time⟩ := c.def_ 11 (d := d_Times_time) rfl
  obtain ⟨fd_l_right, F_l_right⟩ := c.def_ 12 (d := d_l_right) rfl
  obtain ⟨fd_l_cell_at, F_l_cell_at⟩ := c.def_ 13 (d := d_l_cell_at) rfl
  obtain ⟨fd_l_refused, F_l_refused⟩ := c.def_ 14 (d := d_l_refused) rfl
  obtain ⟨fd_law, F_law⟩ := c.def_ 15 (d := d_law) rfl
  have g_l_many : mg "_law_many" = some (.ref (He.fAd K ("_law_many", none))) := He.glo_ok X G (c.fact 0 (f := .glo "_law_many") rfl)
  have g_l_row : mg "_law_row" = some (.ref (He.fAd K ("_law_row", none))) := He.glo_ok X G (c.fact 1 (f := .glo "_law_row") rfl)
  have g_l_names : mg "_law_names" = some (.ref (He.fAd K ("_law_names", none))) := He.glo_ok X G (c.fact 2 (f := .glo "_law_names") rfl)
  have g_l_closed : mg "_law_closed" = some (.ref (He.fAd K ("_law_closed", none))) := He.glo_ok X G (c.fact 3 (f := .glo "_law_closed") rfl)
  have g_l_rows : mg "_law_rows" = some (.ref (He.fAd K ("_law_rows", none))) := He.glo_ok X G (c.fact 4 (f := .glo "_law_rows") rfl)
  have g_is_square : mg "is_square" = some (.ref (He.fAd K ("is_square", none))) := He.glo_ok X G (c.fact 5 (f := .glo "is_square") rfl)
  have g_is_straight : mg "is_straight" = some (.ref (He.fAd K ("is_straight", none))) := He.glo_ok X G (c.fact 6 (f := .glo "is_straight") rfl)
  have g_is_made_of : mg "is_made_of" = some (.ref (He.fAd K ("is_made_of", none))) := He.glo_ok X G (c.fact 7 (f := .glo "is_made_of") rfl)
  have g_is_name : mg "is_name" = some (.ref (He.fAd K ("is_name", none))) := He.glo_ok X G (c.fact 8 (f := .glo "is_name") rfl)
  have g_l_right : mg "_law_right" = some (.ref (He.fAd K ("_law_right", none))) := He.glo_ok X G (c.fact 9 (f := .glo "_law_right") rfl)
  have g_l_cell_at : mg "_law_cell_at" = some (.ref (He.fAd K ("_law_cell_at", none))) := He.glo_ok X G (c.fact 10 (f := .glo "_law_cell_at") rfl)
  have g_l_refused : mg "_law_refused" = some (.ref (He.fAd K ("_law_refused", none))) := He.glo_ok X G (c.fact 11 (f := .glo "_law_refused") rfl)
  have g_law : mg "law" = some (.ref (He.fAd K ("law", none))) := He.glo_ok X G (c.fact 12 (f := .glo "law") rfl)
  have z_int : mg "int" = none := He.free_ok X G (c.fact 13 (f := .free "int") rfl)
  have z_range : mg "range" = none := He.free_ok X G (c.fact 14 (f := .free "range") rfl)
  have z_len : mg "len" = none := He.free_ok X G (c.fact 15 (f := .free "len") rfl)
  have z_min : mg "min" = none := He.free_ok X G (c.fact 16 (f := .free "min") rfl)
  have z_all : mg "all" = none := He.free_ok X G (c.fact 17 (f := .free "all") rfl)
  have z_set : mg "set" = none := He.free_ok X G (c.fact 18 (f := .free "set") rfl)
  have z_list : mg "list" = none := He.free_ok X G (c.fact 19 (f := .free "list") rfl)
  have z_isinstance : mg "isinstance" = none := He.free_ok X G (c.fact 20 (f := .free "isinstance") rfl)
  have z_bool : mg "bool" = none := He.free_ok X G (c.fact 21 (f := .free "bool") rfl)
  have G_LETTERS : ∃ v u, mg "LETTERS" = some u ∧ RelV v u ∧ ∀ F, Enc.rep K F v c_LETTERS := by
    obtain ⟨t, e⟩ := He.str_ok X G (c.fact 22 (f := .str "LETTERS" ("abcdefghijklmnopqrstuvwxyz" : Str)) rfl)
    exact ⟨.str c_LETTERS, _, e, ⟨t, rfl⟩, fun _ => rfl⟩
  unfold gs at GS
  obtain ⟨GS, CB_Times⟩ := He.ba GS
  have CL_Times := clsB_ok CB_Times
  obtain ⟨GS, PB_NoInstrument⟩ := He.ba GS
  have TB : tab.ok K = true := GS
  have P_NoInstrument := payB_ok PB_NoInstrument
  obtain ⟨fd_NoInstrument_init, F_NoInstrument_init⟩ := c.def_ 16 (d := d_NoInstrument_init) rfl
  have I_NoInstrument : ∀ base : Heap, InitOk P w K mg base "NoInstrument" "name" := fun base => ⟨fd_NoInstrument_init, _, mk_init (p1 := _) (p2 := _) (p3 := _) (p4 := _) F_NoInstrument_init sc_NoInstrument_init (fun _ _ _ _ _ _ => ⟨by first | exact Or.inl rfl | exact Or.inr (Or.inl rfl) | exact Or.inr (Or.inr rfl), by first | exact Or.inl rfl | exact Or.inr (Or.inl rfl) | exact Or.inr (Or.inr rfl), rfl⟩), F_NoInstrument_init.bindsN fun _ _ _ _ _ _ us hl => match us, hl with | [_, _], _ => rfl⟩
  have N_NoInstrument : mg "NoInstrument" = some (.ref (He.ga K "NoInstrument")) := He.glo_ok X G (c.fact 23 (f := .glo "NoInstrument") rfl)
  have N_PairsError : mg "PairsError" = some (.ref (He.ga K "PairsError")) := He.glo_ok X G (c.fact 24 (f := .glo "PairsError") rfl)
  have N_NoLine : mg "NoLine" = some (.ref (He.ga K "NoLine")) := He.glo_ok X G (c.fact 25 (f := .glo "NoLine") rfl)
  have N_NoName : mg "NoName" = some (.ref (He.ga K "NoName")) := He.glo_ok X G (c.fact 26 (f := .glo "NoName") rfl)
  have N_NoTimes : mg "NoTimes" = some (.ref (He.ga K "NoTimes")) := He.glo_ok X G (c.fact 27 (f := .glo "NoTimes") rfl)
  have NC_Times : mg "Times" = some (.ref (He.ga K "Times")) := He.glo_ok X G (c.fact 28 (f := .glo "Times") rfl)
  have e := hfa.symm.trans g_law
  cases e
  have b := FunD.bindsA (ps := ["_law_script"]) F_law fun _ _ _ _ _ _ us hl => match us, hl with | [_], _ => rfl
  refine ⟨fd_law, fun s v => b s [v] rfl, fun base _ _ => ?_⟩
  have C_l_many := ok_l_many (P := P) (w := w) (base := base) F_l_many g_l_many z_int
  have C_l_row := ok_l_row (P := P) (w := w) (base := base) F_l_row g_l_row z_range
  have C_l_names := ok_l_names (P := P) (w := w) (base := base) F_l_names g_l_names C_l_row z_range
  have C_l_closed := cal_of (ok_l_closed_fn (P := P) (w := w) (mg := mg) (base := base) F_l_closed z_range z_len z_min) g_l_closed F_l_closed.kp (F_l_closed.bindsN fun _ _ _ _ _ _ us hl => match us, hl with | [_], _ => rfl)
  have C_l_rows := cal_of (ok_l_rows_fn (P := P) (w := w) (mg := mg) (base := base) F_l_rows C_l_row C_l_closed z_range) g_l_rows F_l_rows.kp (F_l_rows.bindsN fun _ _ _ _ _ _ us hl => match us, hl with | [_, _], _ => rfl)
  have C_is_square := cal_of (ok_is_square_fn (P := P) (w := w) (mg := mg) (base := base) F_is_square z_len z_min z_all z_range) g_is_square F_is_square.kp (F_is_square.bindsN fun _ _ _ _ _ _ us hl => match us, hl with | [_, _], _ => rfl)
  have C_is_straight := cal_of (ok_is_straight_fn (P := P) (w := w) (mg := mg) (base := base) F_is_straight z_range z_len) g_is_straight F_is_straight.kp (F_is_straight.bindsN fun _ _ _ _ _ _ us hl => match us, hl with | [_], _ => rfl)
  have C_is_made_of := ok_is_made_of (P := P) (w := w) (base := base) F_is_made_of g_is_made_of z_len
  have C_is_name := ok_is_name (P := P) (w := w) (base := base) F_is_name g_is_name C_is_made_of G_LETTERS
  have C_Times_init : CalC P w K mg base CX0 3 "Times" _ := ⟨⟨_, _, _, (ok_Times_init_fn (P := P) (w := w) (mg := mg) (base := base) F_Times_init C_is_name C_is_square C_is_straight z_len z_set z_all z_list CL_Times), CL_Times.mkOf (by simp), NC_Times, (F_Times_init.bindsN fun _ _ _ _ _ _ us hl => match us, hl with | [_, _, _], _ => rfl)⟩⟩
  have C_Times_names : CalM P w K mg base CX0 1 "Times" "names" _ := ⟨⟨_, _, _, (ok_Times_names_fn (P := P) (w := w) (mg := mg) (base := base) F_Times_names z_list CL_Times), CL_Times.me "names" (by simp), (F_Times_names.bindsN fun _ _ _ _ _ _ us hl => match us, hl with | [_], _ => rfl)⟩⟩
  have C_Times_time : CalM P w K mg base (L2.CX P w) 3 "Times" "time" _ := ⟨⟨_, _, _, (ok_Times_time_fn (P := P) (w := w) (mg := mg) (base := base) F_Times_time N_NoInstrument P_NoInstrument (I_NoInstrument base) CL_Times), CL_Times.me "time" (by simp), (F_Times_time.bindsN fun _ _ _ _ _ _ us hl => match us, hl with | [_, _, _], _ => rfl)⟩⟩
  have C_l_right := cal_of (ok_l_right_fn (P := P) (w := w) (mg := mg) (base := base) F_l_right C_Times_names C_Times_time z_isinstance z_list z_range z_len z_int z_bool CL_Times) g_l_right F_l_right.kp (F_l_right.bindsN fun _ _ _ _ _ _ us hl => match us, hl with | [_, _, _], _ => rfl)
  have C_l_cell_at := ok_l_cell_at (P := P) (w := w) (base := base) F_l_cell_at g_l_cell_at z_len
  have C_l_refused := cal_of (ok_l_refused_fn (P := P) (w := w) (mg := mg) (base := base) F_l_refused C_Times_time z_isinstance N_PairsError N_NoInstrument N_NoLine N_NoName N_NoTimes TB CL_Times) g_l_refused F_l_refused.kp (F_l_refused.bindsN fun _ _ _ _ _ _ us hl => match us, hl with | [_, _, _, _], _ => rfl)
  exact ok_law_fn (P := P) (w := w) (base := base) F_law g_law C_l_cell_at C_l_many C_l_names C_l_rows C_Times_init C_l_right C_l_refused z_list z_len
theorem go_nx {β ρ γ : Type} {b : β} {k : β → γ} {e : ρ → γ} : Fl.go (Fl.nx b) k e = k b := rfl
theorem cell_ok (sc : List Int) {k : Int} (h : 0 ≤ k) : Ok (m_l_cell_at sc k) (fun _ => True) := by
  unfold m_l_cell_at
  exact ok_ite (fun h2 => ok_ret (ok_atI h (of_decide_eq_true h2) fun _ _ => trivial)) (fun _ => ok_some trivial)
theorem made_eq (t s : Str) (m : Int) (h : t.length ≤ sizeLine) : m_is_made_of t s m = some (!(decide ((t.length : Int) < 1) || decide (m < (t.length : Int))) && !(chars t).any (fun x => !inS x s)) := by
  unfold m_is_made_of
  rw [chk_pos h]
  split
  · rename_i e
    rw [e]; rfl
  · rename_i e
    rw [Bool.not_eq_true] at e
    rw [e, foldF_any (p := fun x => !inS x s) (r := false) (fun x => rfl)]
    cases (chars t).any (fun x => !inS x s) <;> rfl
theorem md (x : Int) {n : Int} (h : 0 < n) : 0 ≤ x % n ∧ x % n < n := ⟨Int.emod_nonneg _ (by omega), Int.emod_lt_of_pos _ h⟩
theorem div_big {y : Int} (h1 : 0 < y) (h2 : y ≤ 10 ^ 64) : DivOk y := ⟨h1, PySem.Flt.log2_lt_of (by decide) (Nat.lt_of_le_of_lt (show y.natAbs ≤ 10 ^ 64 by omega) (Nat.lt_of_lt_of_le (show 10 ^ 64 < 2 ^ 250 by decide +kernel) (Nat.pow_le_pow_right (by decide) (by decide))))⟩
theorem row_ok {cell many count : Int} (h1 : 0 < many) (h2 : many ≤ 10 ^ 64) (h3 : 0 ≤ count) (h4 : count ≤ 1000) : Ok (m_l_row cell many count) (fun r => (r.length : Int) = count ∧ ∀ x ∈ r, 0 ≤ x ∧ x < many) := by
  unfold m_l_row
  refine ok_lt fun f hf => ok_lt fun n _ => ok_chk ⟨by omega, by omega⟩ (ok_bnd (P := fun b => (b.1.length : Int) = count ∧ ∀ x ∈ b.1, 0 ≤ x ∧ x < many) (ok_foldO (fun i b => b.1.length = i ∧ ∀ x ∈ b.1, 0 ≤ x ∧ x < many) ⟨by rw [hf]; rfl, by rw [hf]; simp⟩ ?_ ?_) ?_)
  · rintro i ⟨b1, b2⟩ x hx ⟨hl, hm⟩
    obtain ⟨e1, e2⟩ := rng_at hx
    dsimp only at hl hm ⊢
    have hz := szl
    have key : ∀ v : Int, (b1 ++ [v % many]).length = i + 1 ∧ ∀ z ∈ b1 ++ [v % many], 0 ≤ z ∧ z < many := fun v => by
      refine ⟨by rw [List.length_append, hl]; rfl, fun z hz => ?_⟩
      rcases List.mem_append.mp hz with h | h
      · exact hm z h
      · rw [List.mem_singleton.mp h]
        exact ⟨Int.emod_nonneg _ (by omega), Int.emod_lt_of_pos _ h1⟩
    refine ok_bnd (P := fun b => b.1.length = i + 1 ∧ ∀ z ∈ b.1, 0 ≤ z ∧ z < many) (ok_ite (fun _ => ?_) (fun _ => ?_)) (fun r hr => ok_some hr)
    · refine ok_chk h1 (ok_chk (by omega) (ok_lt fun y hy => ok_chk (div_big h1 h2) (ok_lt fun _ _ => ok_some ?_)))
      rw [hy]; exact key _
    · refine ok_chk (mul_l (by omega) (by omega)) (ok_lt fun w _ => ok_chk h1 (ok_chk (by omega) (ok_lt fun y hy => ok_some ?_)))
      rw [hy]; exact key _
  · rintro b ⟨hl, hm⟩
    exact ⟨by rw [hl, rng_len_nn h3]; omega, hm⟩
  · exact fun b hb => ok_some hb
theorem ixOf_ex {l : List Int} {x : Int} (h : x ∈ l) : ∃ j : Nat, ixOf x l = some j := by
  induction l with
  | nil => simp at h
  | cons y r ih =>
    unfold ixOf
    by_cases e : y = x
    · rw [if_pos e]; exact ⟨0, rfl⟩
    · rw [if_neg e]
      obtain ⟨j, hj⟩ := ih ((List.mem_cons.mp h).resolve_left fun z => e z.symm)
      exact ⟨j + 1, by rw [hj]; rfl⟩
theorem in_let (c : Nat) : inS ⟨#[c]⟩ c_LETTERS = decide (97 ≤ c ∧ c ≤ 122) := by
  unfold inS
  rw [StrLaws.found_one, show c_LETTERS.cps.toList = [97, 98, 99, 100, 101, 102, 103, 104, 105, 106, 107, 108, 109, 110, 111, 112, 113, 114, 115, 116, 117, 118, 119, 120, 121, 122] from by decide +kernel, Bool.eq_iff_iff, decide_eq_true_iff, decide_eq_true_iff]
  simp only [List.mem_cons, List.not_mem_nil, or_false]
  omega
theorem name_ok {x : Str} (h : ∀ c ∈ x.cps.toList, 97 ≤ c ∧ c ≤ 122) (h1 : 1 ≤ x.length) (h2 : x.length ≤ 10) : m_is_name x = some true := by
  unfold m_is_name
  rw [made_eq x _ _ (by rw [szl]; omega)]
  have h3 : decide ((x.length : Int) < 1) = false := decide_eq_false (by omega)
  have h4 : decide ((10 : Int) < (x.length : Int)) = false := decide_eq_false (by omega)
  have h5 : (chars x).any (fun y => !inS y c_LETTERS) = false := by
    rw [List.any_eq_false]
    intro y hy
    obtain ⟨c, hc, rfl⟩ := List.mem_map.mp hy
    rw [in_let, decide_eq_true (h c hc)]; decide
  rw [h3, h4, h5]; rfl
theorem rep_q : ∀ n : Fin 11, (replS ("q" : Str) (n.val : Int)).cps.toList = List.replicate n.val 113 := by decide +kernel
theorem rep_qn {n : Int} (h0 : 0 ≤ n) (h1 : n ≤ 10) : (replS ("q" : Str) n).cps.toList = List.replicate n.toNat 113 := by
  obtain ⟨k, rfl⟩ := Int.eq_ofNat_of_zero_le h0
  exact rep_q ⟨k, by omega⟩
theorem rep_okF : ∀ n : Fin 11, RepS ("q" : Str) (n.val : Int) := by
  unfold RepS PySem.MulOk
  decide +kernel
theorem rep_okn {n : Int} (h0 : 0 ≤ n) (h1 : n ≤ 10) : RepS ("q" : Str) n := by
  obtain ⟨k, rfl⟩ := Int.eq_ofNat_of_zero_le h0
  exact rep_okF ⟨k, by omega⟩
theorem abc_at : ∀ k : Fin 26, ("abcdefghijklmnopqrstuvwxyz" : Str).cps.toList[k.val]? = some (97 + k.val) := by decide +kernel
def NmT (cell : Int) (j : Nat) (x : Str) : Prop := (∀ c ∈ x.cps.toList, 97 ≤ c ∧ c ≤ 122) ∧ (1 ≤ x.cps.toList.length ∧ x.cps.toList.length ≤ 10) ∧
  (if cell % 3 = 0 then (if j < 10 then x.cps.toList.length = j + 1 ∧ x.cps.toList.head? = some 113 else x.cps.toList.head? = some (97 + j)) else x.cps.toList.head? = some (97 + ((cell / 3 + 5 * (j : Int)) % 26).toNat))
theorem NmT.inj {cell : Int} {i j : Nat} {x : Str} (h : NmT cell i x) (h' : NmT cell j x) (hi : i < 12) (hj : j < 12) : i = j := by
  obtain ⟨_, _, a⟩ := h
  obtain ⟨_, _, b⟩ := h'
  by_cases e : cell % 3 = 0
  · rw [if_pos e] at a b
    by_cases e1 : i < 10
    · rw [if_pos e1] at a
      by_cases e2 : j < 10
      · rw [if_pos e2] at b; omega
      · rw [if_neg e2, a.2] at b
        have := Option.some.inj b
        omega
    · rw [if_neg e1] at a
      by_cases e2 : j < 10
      · rw [if_pos e2, a] at b
        have := Option.some.inj b.2
        omega
      · rw [if_neg e2, a] at b
        have := Option.some.inj b
        omega
  · rw [if_neg e] at a b
    rw [a] at b
    have := Option.some.inj b
    omega
theorem strlen (x : Str) : x.length = x.cps.toList.length := by rw [Array.length_toList]; rfl
theorem names_ok {cell many : Int} (h1 : 1 ≤ many) (h2 : many ≤ 12) : Ok (m_l_names cell many) (fun l => (l.length : Int) = many ∧ l.Nodup ∧ ∀ x ∈ l, m_is_name x = some true) := by
  unfold m_l_names
  have hz := szl
  refine ok_lt fun letters hl => ok_bnd (row_ok (by decide) (by decide +kernel) (by omega) (by omega)) fun rw_ hr => ok_lt fun longer hlo => ok_lt fun n0 hn0 => ok_chk ⟨by omega, by omega⟩ (ok_bnd (P := fun b : List Str => (b.length : Int) = many ∧ ∀ (j : Nat) x, b[j]? = some x → NmT cell j x) (ok_foldO (fun i (b : List Str) => b.length = i ∧ ∀ (j : Nat) x, b[j]? = some x → NmT cell j x) ⟨by rw [hn0]; rfl, by rw [hn0]; simp⟩ ?_ ?_) ?_)
  · rintro i b x hx ⟨bl, bm⟩
    obtain ⟨e1, e2⟩ := rng_at hx
    rw [Int.zero_add] at e1
    have key : ∀ v : Str, NmT cell i v → (b ++ [v]).length = i + 1 ∧ ∀ (j : Nat) x, (b ++ [v])[j]? = some x → NmT cell j x := fun v hv => by
      refine ⟨by rw [List.length_append, bl]; rfl, fun j y hy => ?_⟩
      by_cases hj : j < i
      · rw [List.getElem?_append_left (by omega)] at hy
        exact bm j y hy
      · have hlt := (List.getElem?_eq_some_iff.mp hy).1
        rw [List.length_append, List.length_singleton, bl] at hlt
        have e : j = i := by omega
        subst e
        rw [List.getElem?_append_right (by omega), bl, Nat.sub_self] at hy
        cases hy
        exact hv
    have hll : letters.length = 26 := by rw [hl]; decide +kernel
    refine ok_ret (ok_ite (fun c => ?_) (fun c => ok_ret (ok_ite (fun c2 => ?_) (fun c2 => ?_))))
    · obtain ⟨c1, c2⟩ := Bool.and_eq_true_iff.mp c
      have c1 := of_decide_eq_true c1
      have c2 := of_decide_eq_true c2
      refine ok_chk ?rep (ok_chk (by omega) (ok_lt fun y hy => ok_some ?_))
      case rep => exact rep_okn (by omega) (by omega)
      subst hy
      refine key _ ?_
      have er := rep_qn (n := x + 1) (by omega) (by omega)
      refine ⟨fun d hd => ?_, ?_, ?_⟩
      · rw [er] at hd
        rw [(List.mem_replicate.mp hd).2]; omega
      · rw [er, List.length_replicate]; omega
      · rw [if_pos c1, if_pos (by omega), er, List.length_replicate]
        refine ⟨by omega, ?_⟩
        rw [show (x + 1).toNat = i + 1 from by omega, List.replicate_succ]; rfl
    · have c2 := of_decide_eq_true c2
      have c3 : ¬ x < 10 := fun z => by rw [decide_eq_true c2, decide_eq_true z] at c; cases c
      refine ok_bnd (P := fun y : Str => y = ⟨#[97 + i]⟩) (ok_sgn (by omega) (by omega) (by omega) fun d hd => ?_) fun y hy => ok_chk (by omega) (ok_lt fun z hz => ok_some ?_)
      · rw [hl, show x.toNat = i from by omega, abc_at ⟨i, by omega⟩] at hd
        rw [← Option.some.inj hd]
      · subst hz hy
        refine key _ ⟨fun d hd => ?_, ⟨Nat.le_refl 1, show 1 ≤ 10 by decide⟩, ?_⟩
        · rw [List.mem_singleton.mp hd]; omega
        · rw [if_pos c2, if_neg (by omega)]; rfl
    · have c2 : ¬ cell % 3 = 0 := of_decide_eq_false c2
      have hm := md (cell / 3 + 5 * x) (n := 26) (by decide)
      have hxm : ∃ v, atI longer x = some v := by
        rw [hlo, e1, atI_get (by omega) (by omega), Int.toNat_natCast]
        exact ⟨_, List.getElem?_eq_getElem (by omega)⟩
      obtain ⟨v, hv⟩ := hxm
      have hvm := md v (n := 10) (by decide)
      refine ok_bnd (P := fun y : Str => y = ⟨#[97 + ((cell / 3 + 5 * x) % 26).toNat]⟩) (ok_sgn (by omega) (by omega) (by omega) fun d hd => ?_) fun y hy => ok_bnd (ok_eq hv rfl) fun v' hv' => ?_
      · rw [hl, abc_at ⟨((cell / 3 + 5 * x) % 26).toNat, by omega⟩] at hd
        rw [← Option.some.inj hd]
      subst hv' hy
      have er := rep_qn (n := v % 10) (by omega) (by omega)
      have el : (replS ("q" : Str) (v % 10)).length = (v % 10).toNat := by rw [strlen, er, List.length_replicate]
      refine ok_chk ?rep2 (ok_chk ?_ (ok_chk (by omega) (ok_lt fun z hz => ok_some ?_)))
      case rep2 => exact rep_okn (by omega) (by omega)
      · rw [el]
        show 1 + _ ≤ _
        omega
      · subst hz
        have ea : ((⟨#[97 + ((cell / 3 + 5 * x) % 26).toNat]⟩ : Str) ++ replS ("q" : Str) (v % 10)).cps.toList = (97 + ((cell / 3 + 5 * x) % 26).toNat) :: List.replicate (v % 10).toNat 113 := by
          show ((#[97 + ((cell / 3 + 5 * x) % 26).toNat] : Array Nat) ++ (replS ("q" : Str) (v % 10)).cps).toList = _
          rw [Array.toList_append, er]; rfl
        refine key _ ⟨fun d hd => ?_, ?_, ?_⟩
        · rw [ea] at hd
          rcases List.mem_cons.mp hd with z | z
          · omega
          · rw [(List.mem_replicate.mp z).2]; omega
        · rw [ea, List.length_cons, List.length_replicate]; omega
        · rw [if_neg c2, ea, ← e1]; rfl
  · rintro b ⟨bl, bm⟩
    exact ⟨by rw [bl, rng_len]; omega, bm⟩
  · rintro b ⟨bl, bm⟩
    have nd : b.Nodup := by
      refine List.pairwise_iff_getElem.mpr fun i j hi hj hij heq => ?_
      have h3 := bm i _ (List.getElem?_eq_getElem hi)
      rw [heq] at h3
      have := h3.inj (bm j _ (List.getElem?_eq_getElem hj)) (by omega) (by omega)
      omega
    have nm : ∀ x ∈ b, m_is_name x = some true := fun x hx => by
      obtain ⟨j, hj⟩ := List.mem_iff_getElem?.mp hx
      obtain ⟨n1, n2, _⟩ := bm j x hj
      exact name_ok n1 (by rw [strlen]; exact n2.1) (by rw [strlen]; exact n2.2)
    refine ok_ret (ok_ite (fun _ => ok_lt fun y hy => ok_some ?_) (fun _ => ok_some ⟨bl, nd, nm⟩))
    subst hy
    exact ⟨by rw [List.length_reverse]; exact bl, (List.reverse_perm b).nodup_iff.mpr nd, fun x hx => nm x (List.mem_reverse.mp hx)⟩
def dd (b : List (List Int)) (i j : Nat) : Int := (((b[i]?).getD [])[j]?).getD 0
def Sq (n : Nat) (b : List (List Int)) : Prop := b.length = n ∧ ∀ (i : Nat) (r : List Int), b[i]? = some r → r.length = n
theorem Sq.row {n : Nat} {b : List (List Int)} (h : Sq n b) {i : Nat} (hi : i < n) : ∃ r, b[i]? = some r ∧ r.length = n ∧ ∀ j, j < n → r[j]? = some (dd b i j) := by
  have hl : i < b.length := by rw [h.1]; exact hi
  have e := List.getElem?_eq_getElem hl
  refine ⟨b[i], e, h.2 i _ e, fun j hj => ?_⟩
  have hj' : j < (b[i]).length := by rw [h.2 i _ e]; exact hj
  unfold dd
  rw [e, Option.getD_some, List.getElem?_eq_getElem hj']
  rfl
theorem getset {α : Type} {xs : List α} {i j : Nat} {x : α} (h : i < xs.length) : (xs.set i x)[j]? = if j = i then some x else xs[j]? := by
  rw [List.getElem?_set]
  by_cases e : i = j
  · subst e
    rw [if_pos rfl, if_pos h, if_pos rfl]
  · rw [if_neg e, if_neg (fun z => e z.symm)]
theorem dd_set {n : Nat} {b : List (List Int)} (h : Sq n b) {i j : Nat} {r : List Int} {v : Int} (hi : i < n) (hj : j < n) (hr : b[i]? = some r) :
    Sq n (b.set i (r.set j v)) ∧ ∀ a c, dd (b.set i (r.set j v)) a c = if a = i ∧ c = j then v else dd b a c := by
  have hl : i < b.length := by rw [h.1]; exact hi
  have hrl := h.2 i r hr
  refine ⟨⟨by rw [List.length_set]; exact h.1, fun a q hq => ?_⟩, fun a c => ?_⟩
  · rw [getset hl] at hq
    by_cases e : a = i
    · rw [if_pos e] at hq
      cases hq
      rw [List.length_set]; exact hrl
    · rw [if_neg e] at hq
      exact h.2 a q hq
  · unfold dd
    rw [getset hl]
    by_cases e : a = i
    · rw [if_pos e, Option.getD_some, getset (by omega)]
      by_cases e2 : c = j
      · rw [if_pos e2, if_pos ⟨e, e2⟩]; rfl
      · rw [if_neg e2, if_neg (fun z => e2 z.2), e, hr]; rfl
    · rw [if_neg e, if_neg (fun z => e z.1)]
structure Cl (n k : Nat) (b : List (List Int)) : Prop where
  sq : Sq n b
  nn : ∀ i j, i < n → j < n → 0 ≤ dd b i j
  dg : ∀ i, i < n → dd b i i = 0
  tr : ∀ q i j, q < k → q < n → i < n → j < n → dd b i j ≤ dd b i q + dd b q j
theorem atI_n {α : Type} {xs : List α} {i : Nat} {x : α} (h : xs[i]? = some x) : atI xs (i : Int) = some x := by
  obtain ⟨h1, _⟩ := List.getElem?_eq_some_iff.mp h
  rw [atI_get (by omega) (by omega), Int.toNat_natCast, h]
theorem ixN_n {n i : Nat} (h : i < n) : ixN n (i : Int) = some i := by
  unfold ixN
  rw [if_pos (by omega), if_pos (by omega), Int.toNat_natCast]
theorem closed_ok {n : Nat} (hn : n ≤ 1000) {b : List (List Int)} (h : Cl n 0 b) : Ok (m_l_closed b) (Cl n n) := by
  unfold m_l_closed
  have hbl := h.sq.1
  refine ok_chk ⟨by omega, by omega⟩ (ok_bnd (P := Cl n n) (ok_foldO (fun k b => Cl n k b) h ?_ (fun b hb => by rw [rng_len] at hb; have : ((b : List (List Int)).length : Nat) = n := hb.sq.1; rw [show ((((_ : List (List Int)).length : Int) - 0).toNat) = n from by omega] at hb; exact hb)) fun r hr => ok_some hr)
  rintro k b0 x hx hc
  obtain ⟨e1, e2⟩ := rng_at hx
  have hk : k < n := by omega
  rw [Int.zero_add] at e1
  subst e1
  refine ok_ret (ok_foldO (fun i b => Sq n b ∧ ∀ a c, a < n → c < n → dd b a c = if a < i then min (dd b0 a c) (dd b0 a k + dd b0 k c) else dd b0 a c) ⟨hc.sq, fun a c _ _ => by rw [if_neg (by omega)]⟩ ?_ ?_)
  · rintro i b1 x hx ⟨s1, d1⟩
    have hi : i < n := by
      obtain ⟨h1, _⟩ := List.getElem?_eq_some_iff.mp hx
      rw [List.length_range, hc.sq.1] at h1
      exact h1
    rw [List.getElem?_range (by rw [hc.sq.1]; exact hi)] at hx
    cases hx
    have hb1 := s1.1
    refine ok_chk ⟨by omega, by omega⟩ (ok_ret (ok_foldO (fun j b => Sq n b ∧ ∀ a c, a < n → c < n → dd b a c = if a < i ∨ (a = i ∧ c < j) then min (dd b0 a c) (dd b0 a k + dd b0 k c) else dd b0 a c) ⟨s1, fun a c ha hc' => by rw [d1 a c ha hc']; by_cases e : a < i; (rw [if_pos e, if_pos (Or.inl e)]); (rw [if_neg e, if_neg (by omega)])⟩ ?_ ?_))
    · rintro j b2 x hx ⟨s2, d2⟩
      obtain ⟨e3, e4⟩ := rng_at hx
      rw [Int.zero_add] at e3
      subst e3
      have hj : j < n := by omega
      obtain ⟨ri, r1, r2, r3⟩ := s2.row hi
      obtain ⟨rk, k1, k2, k3⟩ := s2.row hk
      refine ok_bnd (ok_eq r1 rfl) ?_
      rintro _ rfl
      refine ok_bnd (ok_eq (atI_n (r3 k hk)) rfl) ?_
      rintro _ rfl
      refine ok_bnd (ok_eq (atI_n k1) rfl) ?_
      rintro _ rfl
      refine ok_bnd (ok_eq (atI_n (k3 j hj)) rfl) ?_
      rintro _ rfl
      refine ok_lt fun way hw => ?_
      refine ok_bnd (ok_eq r1 rfl) ?_
      rintro _ rfl
      refine ok_bnd (ok_eq (atI_n (r3 j hj)) rfl) ?_
      rintro _ rfl
      refine ok_bnd (ok_eq r1 rfl) ?_
      rintro _ rfl
      refine ok_bnd (ok_eq (ixN_n (i := j) (by omega)) rfl) ?_
      rintro _ rfl
      refine ok_lt fun ll hll => ok_some ?_
      subst hll hw
      obtain ⟨t1, t2⟩ := dd_set (v := min (dd b2 i j) (dd b2 i k + dd b2 k j)) s2 hi hj r1
      refine ⟨t1, fun a c ha hc' => ?_⟩
      rw [t2]
      have dk := hc.dg k hk
      have e5 : dd b2 i k = dd b0 i k := by rw [d2 i k hi hk]; split <;> omega
      have e6 : dd b2 k j = dd b0 k j := by rw [d2 k j hk hj]; split <;> omega
      have e7 : dd b2 i j = dd b0 i j := by rw [d2 i j hi hj, if_neg (by omega)]
      by_cases e : a = i ∧ c = j
      · rw [if_pos e, if_pos (by omega), e5, e6, e7, e.1, e.2]
      · rw [if_neg e, d2 a c ha hc']
        by_cases e8 : a < i ∨ (a = i ∧ c < j)
        · rw [if_pos e8, if_pos (by omega)]
        · rw [if_neg e8, if_neg (by omega)]
    · rintro b2 ⟨s2, d2⟩
      refine ⟨s2, fun a c ha hc' => ?_⟩
      rw [d2 a c ha hc', rng_len]
      by_cases e : a < i + 1
      · rw [if_pos (by omega), if_pos e]
      · rw [if_neg (by omega), if_neg e]
  · rintro b1 ⟨s1, d1⟩
    rw [List.length_range, hc.sq.1] at d1
    have D : ∀ a c, a < n → c < n → dd b1 a c = min (dd b0 a c) (dd b0 a k + dd b0 k c) := fun a c ha hc' => by rw [d1 a c ha hc', if_pos ha]
    refine ⟨s1, fun i j hi hj => ?_, fun i hi => ?_, fun q i j hq hqn hi hj => ?_⟩
    · rw [D i j hi hj]
      have := hc.nn i j hi hj; have := hc.nn i k hi hk; have := hc.nn k j hk hj
      omega
    · rw [D i i hi hi]
      have := hc.dg i hi; have := hc.nn i k hi hk; have := hc.nn k i hk hi
      omega
    · rw [D i j hi hj, D i q hi hqn, D q j hqn hj]
      have a1 := hc.dg k hk
      have a2 := hc.nn k q hk hqn; have a3 := hc.nn q k hqn hk
      by_cases e : q = k
      · subst e; omega
      · have b1 := hc.tr q i j (by omega) hqn hi hj
        have b2 := hc.tr q k j (by omega) hqn hk hj
        have b3 := hc.tr q i k (by omega) hqn hi hk
        omega
theorem rows_at {n : Nat} {b : List (List Int)} (h : Sq n b) {x : List Int} (hx : x ∈ b) : ∃ i, i < n ∧ b[i]? = some x ∧ x.length = n ∧ ∀ j, j < n → x[j]? = some (dd b i j) := by
  obtain ⟨i, hi⟩ := List.mem_iff_getElem?.mp hx
  have hl : i < n := by rw [← h.1]; exact (List.getElem?_eq_some_iff.mp hi).1
  obtain ⟨r, r1, r2, r3⟩ := h.row hl
  rw [hi] at r1
  cases r1
  exact ⟨i, hl, hi, r2, r3⟩
theorem cut_nat {α : Type} (xs : List α) (a c : Nat) (h : a + c ≤ xs.length) : cut xs (some (a : Int)) (some ((a : Int) + (c : Int))) = (xs.drop a).take c := by
  rw [show ((a : Int) + (c : Int)) = ((a + c : Nat) : Int) by omega]
  unfold cut
  rw [HT.sIx_nat, HT.sIx_nat, Nat.min_eq_left (by omega), Nat.min_eq_left (by omega), Nat.add_sub_cancel_left]
theorem rows_ok {cell : Int} {n : Nat} (h1 : 1 ≤ n) (h2 : n ≤ 12) : Ok (m_l_rows cell (n : Int)) (Cl n n) := by
  unfold m_l_rows
  have hz := szl
  have hm := md cell (n := 3) (by decide)
  have hN : n * n ≤ 12 * 12 := Nat.mul_le_mul h2 h2
  have hN2 : ((n * n : Nat) : Int) = (n : Int) * (n : Int) := Int.natCast_mul _ _
  refine ok_bnd (P := fun s : Int => 0 < s ∧ s ≤ 10 ^ 64) (ok_atI hm.1 hm.2 fun x hx => ?_) fun sz hsz => ok_chk (mul_l (by omega) (by omega)) ?_
  · have : (cell % 3).toNat = 0 ∨ (cell % 3).toNat = 1 ∨ (cell % 3).toNat = 2 := by omega
    rcases this with e | e | e
    · rw [e] at hx
      obtain rfl : (6 : Int) = x := Option.some.inj hx
      decide +kernel
    · rw [e] at hx
      obtain rfl : (30 : Int) = x := Option.some.inj hx
      decide +kernel
    · rw [e] at hx
      obtain rfl : (10 : Int) ^ ((59 : Int)).toNat = x := Option.some.inj hx
      decide +kernel
  refine ok_bnd (row_ok hsz.1 hsz.2 (by omega) (by omega)) fun rw_ hr => ok_lt fun sm hs => ok_chk ⟨by omega, by omega⟩ (ok_bnd (P := fun ys : List (List Int) => ys.length = n ∧ ∀ (i : Nat) (r : List Int), ys[i]? = some r → r.length = n ∧ ∀ x ∈ r, 0 ≤ x) ((ok_mapO (P := fun _ r => r.length = n ∧ ∀ x ∈ r, 0 ≤ x) fun x hx => ?_).imp fun ys ⟨a1, a2⟩ => ⟨by rw [a1, rng_len]; omega, fun i r hr => (by obtain ⟨_, _, h⟩ := a2 i r hr; exact h)⟩) fun ys hy => ok_chk (by omega) (ok_chk ⟨by omega, by omega⟩ (ok_bnd (P := Cl n 0) (ok_foldO (fun i b => Sq n b ∧ (∀ a c, a < n → c < n → 0 ≤ dd b a c) ∧ ∀ a, a < i → dd b a a = 0) ?_ ?_ ?_) fun o ho => ok_ret (closed_ok (by omega) ho))))
  · obtain ⟨k0, k1⟩ := mem_rng.mp hx
    obtain ⟨k, rfl⟩ := Int.eq_ofNat_of_zero_le k0
    have hk : n * (k + 1) ≤ n * n := Nat.mul_le_mul_left n (by omega)
    rw [Nat.mul_succ] at hk
    refine ok_chk (mul_l (by omega) (by omega)) (ok_chk (mul_l (by omega) (by omega)) (ok_some ?_))
    rw [show (n : Int) * (k : Int) = ((n * k : Nat) : Int) from (Int.natCast_mul _ _).symm, cut_nat sm (n * k) n (by rw [hs]; omega)]
    refine ⟨by rw [List.length_take, List.length_drop, hs]; omega, fun x hx => ?_⟩
    have := List.mem_of_mem_drop (List.mem_of_mem_take hx)
    rw [hs] at this
    exact (hr.2 x this).1
  · refine ⟨⟨hy.1, fun i r h => (hy.2 i r h).1⟩, fun a c ha hc => ?_, fun a h => absurd h (by omega)⟩
    have sq : Sq n ys := ⟨hy.1, fun i r h => (hy.2 i r h).1⟩
    obtain ⟨r, r1, r2, r3⟩ := sq.row ha
    exact (hy.2 a r r1).2 _ (List.mem_of_getElem? (r3 c hc))
  · rintro i b x hx ⟨sq, nn, dg⟩
    obtain ⟨e1, e2⟩ := rng_at hx
    rw [Int.zero_add] at e1
    subst e1
    have hi : i < n := by omega
    have hbl := sq.1
    obtain ⟨r, r1, r2, r3⟩ := sq.row hi
    refine ok_bnd (ok_eq (ixN_n (i := i) (by omega)) rfl) ?_
    rintro _ rfl
    refine ok_bnd (ok_eq r1 rfl) ?_
    rintro _ rfl
    refine ok_bnd (ok_eq (ixN_n (i := i) (by omega)) rfl) ?_
    rintro _ rfl
    refine ok_lt fun ll hll => ok_some ?_
    subst hll
    obtain ⟨t1, t2⟩ := dd_set (v := 0) sq hi hi r1
    refine ⟨t1, fun a c ha hc => ?_, fun a ha => ?_⟩
    · rw [t2]
      split
      · exact Int.le_refl 0
      · exact nn a c ha hc
    · rw [t2]
      by_cases e : a = i
      · rw [if_pos ⟨e, e⟩]
      · rw [if_neg (fun z => e z.1)]
        exact dg a (by omega)
  · rintro b ⟨sq, nn, dg⟩
    rw [rng_len] at dg
    exact ⟨sq, nn, fun i hi => dg i (by omega), fun q i j hq => absurd hq (by omega)⟩
structure Nms (n : Nat) (names : List Str) : Prop where
  len : names.length = n
  nd : names.Nodup
  nm : ∀ x ∈ names, m_is_name x = some true
theorem nms_ok {cell : Int} {n : Nat} (h1 : 1 ≤ n) (h2 : n ≤ 12) : Ok (m_l_names cell (n : Int)) (Nms n) :=
  (names_ok (by omega) (by omega)).imp fun l ⟨a, b, c⟩ => ⟨by omega, b, c⟩
theorem many_ok (cell : Int) : Ok (m_l_many cell) (fun m => ∃ n : Nat, m = (n : Int) ∧ 1 ≤ n ∧ n ≤ 12) := by
  unfold m_l_many
  have q := md (cell / 8) (n := 5) (by decide)
  refine ok_ret ?_
  by_cases e : decide (cell % 8 = 3) = true
  · rw [if_pos e]
    exact ok_some ⟨12, rfl, by decide, by decide⟩
  · rw [if_neg e]
    exact ok_some ⟨(1 + cell / 8 % 5).toNat, by omega, by omega, by omega⟩

theorem lay_strs {xs : List Str} (h : ∀ x ∈ xs, txt x) : PyData.canLayAll0 (xs.map PyData.str) = true ∧ PyData.depthAll (xs.map PyData.str) = 0 := by
  induction xs with
  | nil => simp [PyData.canLayAll0, PyData.depthAll]
  | cons x r ih =>
    obtain ⟨i1, i2⟩ := ih fun y hy => h y (List.mem_cons_of_mem _ hy)
    rw [List.map_cons]
    have hx : PyData.strOk x = true := h x List.mem_cons_self
    refine ⟨?_, ?_⟩
    · unfold PyData.canLayAll0 PyData.canLay0
      rw [i1, hx]; rfl
    · unfold PyData.depthAll
      rw [i2]; simp [PyData.depth]
theorem lay_all {α : Type} [EqD α] {n : Nat} : ∀ {xs : List α}, (∀ x ∈ xs, PyData.canLay0 (EqD.toD x) = true ∧ PyData.depth (EqD.toD x) ≤ n) → PyData.canLayAll0 (xs.map EqD.toD) = true ∧ PyData.depthAll (xs.map EqD.toD) ≤ n
  | [], _ => by simp [PyData.canLayAll0, PyData.depthAll]
  | x :: r, h => by
    obtain ⟨i1, i2⟩ := lay_all fun y hy => h y (List.mem_cons_of_mem _ hy)
    obtain ⟨j1, j2⟩ := h x List.mem_cons_self
    rw [List.map_cons]
    refine ⟨?_, ?_⟩
    · unfold PyData.canLayAll0
      rw [i1, j1]; rfl
    · unfold PyData.depthAll
      omega
theorem cut_loA {α : Type} (xs : List α) (n : Nat) : cut xs (some (n : Int)) none = xs.drop n := by
  unfold cut
  rw [HT.sIx_none, show HT.sIx xs.length 0 (some (n : Int)) = min n xs.length from HT.sIx_nat xs.length 0 n, List.take_of_length_le (by rw [List.length_drop]; omega)]
  by_cases h : n ≤ xs.length
  · rw [Nat.min_eq_left h]
  · rw [Nat.min_eq_right (by omega), List.drop_of_length_le (Nat.le_refl _), List.drop_of_length_le (by omega)]
def Tx (L : Nat) (x : Str) : Prop := (∀ c ∈ x.cps.toList, c < 128) ∧ x.cps.toList.length ≤ L
theorem name_inv {x : Str} (h : m_is_name x = some true) : Tx 10 x := by
  unfold m_is_name at h
  by_cases hs : x.length ≤ sizeLine
  · rw [made_eq x _ _ hs] at h
    have h := Option.some.inj h
    obtain ⟨h1, h2⟩ := Bool.and_eq_true_iff.mp h
    have h3 : ¬ ((10 : Int) < (x.length : Int)) := fun z => by
      rw [decide_eq_true z, Bool.or_true] at h1; cases h1
    refine ⟨fun c hc => ?_, by rw [← strlen]; omega⟩
    cases e : inS ⟨#[c]⟩ c_LETTERS with
    | true =>
      rw [in_let] at e
      have := of_decide_eq_true e
      omega
    | false =>
      have : (chars x).any (fun y => !inS y c_LETTERS) = true := List.any_eq_true.mpr ⟨_, List.mem_map.mpr ⟨c, hc, rfl⟩, by rw [e]; rfl⟩
      rw [this] at h2; cases h2
  · unfold m_is_made_of at h
    unfold chk at h
    rw [if_neg hs] at h
    cases h
theorem Tx.ok {L : Nat} {x : Str} (h : Tx L x) : PyData.strOk x = true := by
  unfold PyData.strOk
  rw [Array.all_eq_true_iff_forall_mem]
  intro c hc
  have := h.1 c (Array.mem_toList_iff.mpr hc)
  exact decide_eq_true (by omega)
def ix (names : List Str) (x : Str) : Nat := (ixOf x names).getD 0
theorem ix_ok {n : Nat} {names : List Str} (h : Nms n names) {x : Str} (hx : x ∈ names) : ixOf x names = some (ix names x) ∧ ix names x < n := by
  have : ∀ {l : List Str}, x ∈ l → ∃ j : Nat, ixOf x l = some j := by
    intro l
    induction l with
    | nil => intro h; simp at h
    | cons y r ih =>
      intro h
      unfold ixOf
      by_cases e : y = x
      · rw [if_pos e]; exact ⟨0, rfl⟩
      · rw [if_neg e]
        obtain ⟨j, hj⟩ := ih ((List.mem_cons.mp h).resolve_left fun z => e z.symm)
        exact ⟨j + 1, by rw [hj]; rfl⟩
  obtain ⟨j, hj⟩ := this hx
  have e : ix names x = j := by unfold ix; rw [hj]; rfl
  rw [e]
  refine ⟨hj, ?_⟩
  rw [← h.len]
  exact (List.getElem?_eq_some_iff.mp (ixOf_some hj).1).1
theorem shp_nr {names : List Str} {rows : List (List Int)} (h : ∀ x ∈ names, txt x) : shp ((names, rows) : List Str × List (List Int)) := by
  obtain ⟨h1, h2⟩ := lay_strs h
  obtain ⟨h3, h4⟩ := Shp.ok rows
  unfold shp SeqAt.shaped
  rw [Bool.and_eq_true, decide_eq_true_iff]
  constructor
  · show PyData.canLay0 (.tuple [.list (names.map PyData.str), EqD.toD rows]) = true
    simp [PyData.canLay0, PyData.canLayAll0, h1, h3]
  · show PyData.depth (.tuple [.list (names.map PyData.str), EqD.toD rows]) ≤ 64
    simp [PyData.depth, PyData.depthAll]
    omega
theorem rows_copy (xss : List (List Int)) : mapO (fun x : Nat => bnd (xss[x]?) fun r => some r) (List.range xss.length) = some xss := by
  have : Ok (mapO (fun x : Nat => bnd (xss[x]?) fun r => some r) (List.range xss.length)) (· = xss) := by
    refine (ok_mapO (P := fun x y => xss[x]? = some y) fun x hx => ?_).imp fun ys ⟨a1, a2⟩ => ?_
    · have h := List.mem_range.mp hx
      exact ok_bnd (ok_eq (List.getElem?_eq_getElem h) rfl) fun r hr => ok_some (by rw [← hr]; exact List.getElem?_eq_getElem h)
    · rw [List.length_range] at a1
      apply List.ext_getElem?
      intro i
      by_cases hi : i < xss.length
      · have hy : ys[i]? = some (ys[i]'(by omega)) := List.getElem?_eq_getElem (by omega)
        obtain ⟨x, hx, hp⟩ := a2 i _ hy
        rw [List.getElem?_range hi] at hx
        cases hx
        rw [hy, hp]
      · rw [List.getElem?_eq_none (by omega), List.getElem?_eq_none (by omega)]
  exact this.eq
theorem straight_okR {n : Nat} (hn : n ≤ 1000) {b : List (List Int)} (h : Cl n n b) : m_is_straight b = some true := by
  have hbl := h.sq.1
  have : Ok (m_is_straight b) (· = true) := by
    unfold m_is_straight
    refine ok_bnd (P := fun o => o = .nx ()) (foldF_ok (fun i hx => ?_) rfl) (fun o ho => by subst ho; exact ok_some rfl)
    have hi : i < n := by have := List.mem_range.mp hx; omega
    obtain ⟨ri, q1, q2, r3⟩ := h.sq.row hi
    refine ok_chk ⟨by omega, by omega⟩ (ok_bnd (P := fun o => o = .nx ()) (foldF_ok (fun k hk => ?_) rfl) (fun o ho => by subst ho; exact ok_some rfl))
    obtain ⟨k0, k1⟩ := mem_rng.mp hk
    obtain ⟨k, rfl⟩ := Int.eq_ofNat_of_zero_le k0
    refine ok_chk ⟨by omega, by omega⟩ (ok_bnd (P := fun o => o = .nx ()) (foldF_ok (fun j hj => ?_) rfl) (fun o ho => by subst ho; exact ok_some rfl))
    obtain ⟨j0, j1⟩ := mem_rng.mp hj
    obtain ⟨j, rfl⟩ := Int.eq_ofNat_of_zero_le j0
    have hk' : k < n := by omega
    have hj' : j < n := by omega
    obtain ⟨rk, s1, s2, s3⟩ := h.sq.row hk'
    refine ok_bnd (ok_eq q1 rfl) ?_
    rintro _ rfl
    refine ok_bnd (ok_eq (atI_n (r3 j hj')) rfl) ?_
    rintro _ rfl
    refine ok_bnd (ok_eq q1 rfl) ?_
    rintro _ rfl
    refine ok_bnd (ok_eq (atI_n (r3 k hk')) rfl) ?_
    rintro _ rfl
    refine ok_bnd (ok_eq (atI_n s1) rfl) ?_
    rintro _ rfl
    refine ok_bnd (ok_eq (atI_n (s3 j hj')) rfl) ?_
    rintro _ rfl
    have := h.tr k i j hk' hk' hi hj'
    exact ok_ite (fun z => absurd (of_decide_eq_true z) (by omega)) (fun _ => ok_some rfl)
  exact this.eq
theorem square_okR {n : Nat} (h0 : 1 ≤ n) (hn : n ≤ 1000) {b : List (List Int)} (h : Cl n n b) {names : List Str} (hl : names.length = n) : m_is_square names b = some true := by
  have hbl := h.sq.1
  have hz := szl
  have : Ok (m_is_square names b) (· = true) := by
    unfold m_is_square
    refine ok_ite (fun z => ?_) (fun _ => ?_)
    · rw [decide_eq_true (show ((b.length : Nat) : Int) = (names.length : Int) by omega)] at z; cases z
    refine ok_bnd (P := fun o => o = .nx ()) (foldF_ok (fun i hx => ?_) rfl) (fun o ho => ?_)
    · have hi : i < n := by have := List.mem_range.mp hx; omega
      obtain ⟨x, q1, r2, r3⟩ := h.sq.row hi
      refine ok_bnd (ok_eq q1 rfl) ?_
      rintro _ rfl
      refine ok_bnd (P := fun c => c = false) (ok_orO (fun _ => ?_) (fun z => ?_)) (fun c hc => by subst hc; exact ok_some rfl)
      · refine ok_bnd (ok_eq q1 rfl) ?_
        rintro _ rfl
        cases x with
        | nil => simp at r2; omega
        | cons y ys =>
          refine ok_bnd (P := fun m : Int => 0 ≤ m) (show Ok (some (ys.foldl min y)) _ from ok_some ?_) (fun m hm => ok_some (decide_eq_false (by omega)))
          obtain ⟨h3, _⟩ := foldl_min ys y
          obtain ⟨j, hj⟩ := List.mem_iff_getElem?.mp h3
          have hj' : j < n := by rw [← r2]; exact (List.getElem?_eq_some_iff.mp hj).1
          rw [r3 j hj'] at hj
          rw [← Option.some.inj hj]
          exact h.nn i j hi hj'
      · rw [decide_eq_true (show ((x.length : Nat) : Int) = (names.length : Int) by omega)] at z; cases z
    · subst ho
      refine ok_chk ⟨by omega, by omega⟩ (ok_bnd (P := fun ys : List Bool => ys.length = n ∧ ∀ y ∈ ys, y = true) ?_ (fun ys ⟨y1, y2⟩ => ok_chk (by omega) (ok_some (List.all_eq_true.mpr fun y hy => y2 y hy))))
      refine (ok_mapO (P := fun _ y => y = true) fun x hx => ?_).imp fun ys ⟨a1, a2⟩ => ⟨by rw [a1, rng_len]; omega, fun y hy => ?_⟩
      · obtain ⟨k0, k1⟩ := mem_rng.mp hx
        obtain ⟨k, rfl⟩ := Int.eq_ofNat_of_zero_le k0
        have hk' : k < n := by omega
        obtain ⟨rk, s1, s2, s3⟩ := h.sq.row hk'
        refine ok_bnd (ok_eq (atI_n s1) rfl) ?_
        rintro _ rfl
        refine ok_bnd (ok_eq (atI_n (s3 k hk')) rfl) ?_
        rintro _ rfl
        exact ok_some (decide_eq_true (h.dg k hk'))
      · obtain ⟨i, hi⟩ := List.mem_iff_getElem?.mp hy
        obtain ⟨_, _, hp⟩ := a2 i y hi
        exact hp
  exact this.eq
theorem times_okR {n : Nat} (h1 : 1 ≤ n) (h2 : n ≤ 12) {names : List Str} {rows : List (List Int)} (hn : Nms n names) (hr : Cl n n rows) : m_Times_init names rows = some ⟨names, rows⟩ := by
  have hz := szl
  have hl := hn.len
  have hrl := hr.sq.1
  have : Ok (m_Times_init names rows) (· = ⟨names, rows⟩) := by
    unfold m_Times_init
    refine ok_bnd (P := fun c => c = false) (ok_orO (fun _ => ok_orO (fun _ => ok_chk (by omega) (ok_some ?_)) (fun z => absurd (of_decide_eq_true z) (by omega))) (fun z => absurd (of_decide_eq_true z) (by omega))) fun c hc => ?_
    · rw [(ddS_inv names).2.2.mpr hn.nd, decide_eq_true rfl]; rfl
    subst hc
    refine ok_ite (fun z => by cases z) (fun _ => ?_)
    refine ok_bnd (ok_eq (mapO_eq (g := fun _ => true) fun x hx => by rw [hn.nm x hx]; rfl) rfl) ?_
    rintro _ rfl
    refine ok_chk (by rw [List.length_map]; omega) (ok_ite (fun z => ?_) (fun _ => ?_))
    · rw [show ((names.map fun _ => true).all id) = true from List.all_eq_true.mpr fun y hy => by obtain ⟨_, _, rfl⟩ := List.mem_map.mp hy; rfl] at z
      cases z
    refine ok_bnd (ok_eq (show a_is_square (names, rows, ()) = some true from square_okR h1 (by omega) hr hl) rfl) ?_
    rintro _ rfl
    refine ok_bnd (P := fun c => c = false) (ok_orO (fun _ => ?_) (fun z => by cases z)) fun c hc => ?_
    · exact ok_bnd (ok_eq (show a_is_straight (rows, ()) = some true from straight_okR (by omega) hr) rfl) fun _ h => ok_some (by subst h; rfl)
    subst hc
    refine ok_ite (fun z => by cases z) (fun _ => ok_bnd (ok_eq (rows_copy rows) rfl) ?_)
    rintro _ rfl
    exact ok_chk (by omega) (ok_some rfl)
  exact this.eq
theorem time_e1 {T : R_Times} {x y : Str} (h : x ∉ T.my_names) : m_Times_time T x y = some (.er (Er.ps "NoInstrument" "name" x)) := by
  unfold m_Times_time
  show bnd (foldF _ () [x, y]) _ = _
  unfold foldF
  rw [if_pos (by rw [decide_eq_false h]; rfl)]
  rfl
theorem time_e2 {T : R_Times} {x y : Str} (hx : x ∈ T.my_names) (h : y ∉ T.my_names) : m_Times_time T x y = some (.er (Er.ps "NoInstrument" "name" y)) := by
  unfold m_Times_time
  show bnd (foldF _ () [x, y]) _ = _
  unfold foldF
  rw [if_neg (by rw [decide_eq_true hx]; simp), Option.bind_some]
  show bnd (foldF _ () [y]) _ = _
  unfold foldF
  rw [if_pos (by rw [decide_eq_false h]; rfl)]
  rfl
theorem time_okR {n : Nat} {names : List Str} {rows : List (List Int)} (hn : Nms n names) (hr : Sq n rows) {x y : Str} (hx : x ∈ names) (hy : y ∈ names) : m_Times_time ⟨names, rows⟩ x y = some (.ok (dd rows (ix names x) (ix names y))) := by
  have : Ok (m_Times_time ⟨names, rows⟩ x y) (· = .ok (dd rows (ix names x) (ix names y))) := by
    unfold m_Times_time
    refine ok_bnd (P := fun o => o = .nx ()) (foldF_ok (fun z hz => ?_) rfl) (fun o ho => ?_)
    · have hm : z ∈ names := by
        rcases List.mem_cons.mp hz with e | e
        · rw [e]; exact hx
        · rw [List.mem_singleton.mp e]; exact hy
      exact ok_ite (fun c => by rw [show decide (z ∈ (⟨names, rows⟩ : R_Times).my_names) = true from decide_eq_true hm] at c; cases c) (fun _ => ok_some rfl)
    subst ho
    obtain ⟨x1, x2⟩ := ix_ok hn hx
    obtain ⟨y1, y2⟩ := ix_ok hn hy
    obtain ⟨r, r1, r2, r3⟩ := hr.row x2
    refine ok_bnd (ok_eq x1 rfl) ?_
    rintro _ rfl
    refine ok_bnd (ok_eq (atI_n r1) rfl) ?_
    rintro _ rfl
    refine ok_bnd (ok_eq y1 rfl) ?_
    rintro _ rfl
    refine ok_bnd (ok_eq (atI_n (r3 _ y2)) rfl) ?_
    rintro _ rfl
    exact ok_some rfl
  exact this.eq
theorem ix_at {n : Nat} {names : List Str} (hn : Nms n names) {i : Nat} {x : Str} (hx : names[i]? = some x) : ix names x = i := by
  obtain ⟨h1, h2⟩ := ix_ok hn (List.mem_of_getElem? hx)
  have h3 := (ixOf_some h1).1
  obtain ⟨a1, a2⟩ := List.getElem?_eq_some_iff.mp hx
  obtain ⟨b1, b2⟩ := List.getElem?_eq_some_iff.mp h3
  exact (List.getElem_inj hn.nd).mp (b2.trans a2.symm)
theorem tb_okk {α β : Type} {r : α} {h : Er → Option β} {k : α → Option β} : tb (some (Rz.ok r)) h k = k r := rfl
theorem tb_err {α β : Type} {e : Er} {h : Er → Option β} {k : α → Option β} : tb (some (Rz.er e)) h k = h e := rfl
theorem right_ok {n : Nat} (h2 : n ≤ 12) {names : List Str} {rows : List (List Int)} (hn : Nms n names) (hr : Sq n rows) (hT : ∀ x ∈ names, txt x) : m_l_right ⟨names, rows⟩ names rows = some true := by
  have hz := szl
  have hl := hn.len
  have : Ok (m_l_right ⟨names, rows⟩ names rows) (· = true) := by
    unfold m_l_right
    refine ok_bnd (P := (names = ·)) (show Ok (some names) _ from ok_some rfl) ?_
    rintro _ rfl
    refine ok_lt fun found hf => ok_bnd (P := fun c => c = false) (ok_orO (fun _ => ok_chk (by rw [hf]; exact shp_strs hT) (ok_chk (shp_strs hT) (ok_some (by rw [hf, decide_eq_true rfl]; rfl)))) (fun z => by cases z)) ?_
    rintro _ rfl
    refine ok_ite (fun z => by cases z) (fun _ => ok_chk (by rw [hf]; omega) (ok_lt fun f2 _ => ok_lt fun f3 _ => ok_chk ⟨by omega, by omega⟩ ?_))
    refine ok_bnd (P := fun o => o = .nx ()) (foldF_ok (fun x hx => ?_) rfl) (fun o ho => by
      subst ho
      rw [go_nx]
      refine ok_bnd (P := (names = ·)) (show Ok (some names) _ from ok_some rfl) ?_
      rintro _ rfl
      refine ok_chk (shp_strs hT) (ok_chk (shp_strs hT) (ok_some ?_))
      exact decide_eq_true rfl)
    obtain ⟨i0, i1⟩ := mem_rng.mp hx
    obtain ⟨i, rfl⟩ := Int.eq_ofNat_of_zero_le i0
    have hi : i < n := by omega
    refine ok_chk ⟨by omega, by omega⟩ (ok_bnd (P := fun o => o = .nx ()) (foldF_ok (fun y hy => ?_) rfl) (fun o ho => by subst ho; exact ok_some rfl))
    obtain ⟨j0, j1⟩ := mem_rng.mp hy
    obtain ⟨j, rfl⟩ := Int.eq_ofNat_of_zero_le j0
    have hj : j < n := by omega
    have ei : names[i]? = some (names[i]'(by omega)) := List.getElem?_eq_getElem (by omega)
    have ej : names[j]? = some (names[j]'(by omega)) := List.getElem?_eq_getElem (by omega)
    refine ok_bnd (ok_eq (atI_n ei) rfl) ?_
    rintro _ rfl
    refine ok_bnd (ok_eq (atI_n ej) rfl) ?_
    rintro _ rfl
    rw [show a_Times_time ((⟨names, rows⟩ : R_Times), names[i], names[j], ()) = _ from time_okR hn hr (List.mem_of_getElem? ei) (List.mem_of_getElem? ej), tb_okk, ix_at hn ei, ix_at hn ej]
    obtain ⟨r, r1, r2, r3⟩ := hr.row hi
    refine ok_lt fun num hnum => ok_bnd (P := fun c => c = false) (ok_orO (fun _ => ok_orO (fun _ => ?_) (fun z => by cases z)) (fun z => by cases z)) ?_
    · refine ok_bnd (ok_eq (atI_n r1) rfl) ?_
      rintro _ rfl
      refine ok_bnd (ok_eq (atI_n (r3 j hj)) rfl) ?_
      rintro _ rfl
      exact ok_some (by rw [hnum, decide_eq_true rfl]; rfl)
    · rintro _ rfl
      exact ok_some rfl
  exact this.eq
theorem refused_ok {T : R_Times} {x y d : Str} (h : m_Times_time T x y = some (.er (Er.ps "NoInstrument" "name" d))) : m_l_refused T x y d = some true := by
  have : Ok (m_l_refused T x y d) (· = true) := by
    unfold m_l_refused
    refine ok_lt fun spot hs => ?_
    rw [show a_Times_time ((⟨T.my_names, T.my_rows⟩ : R_Times), x, y, ()) = _ from h, tb_err]
    have p1 : exE tab (Er.ps "NoInstrument" "name" d) "PairsError" = some true := by
      show exE tab (Er.pl "NoInstrument") "PairsError" = some true; decide +kernel
    have p2 : isE tab (Er.ps "NoInstrument" "name" d) "NoInstrument" = some true := by
      show isE tab (Er.pl "NoInstrument") "NoInstrument" = some true; decide +kernel
    have p3 : isEs tab (Er.ps "NoInstrument" "name" d) ["NoLine", "NoName", "NoTimes"] = some false := by
      show isEs tab (Er.pl "NoInstrument") ["NoLine", "NoName", "NoTimes"] = some false; decide +kernel
    have p4 : erS tab (Er.ps "NoInstrument" "name" d) "name" = some d := by
      unfold erS
      exact if_pos (by decide +kernel)
    refine ok_chk p1 (ok_bnd (ok_eq p2 rfl) ?_)
    rintro _ rfl
    refine ok_bnd (P := (· = true)) (ok_andO (fun _ => ok_bnd (ok_eq p3 rfl) fun _ h => ok_some (by subst h; rfl)) (fun z => by cases z)) ?_
    rintro _ rfl
    refine ok_bnd (P := (· = some d)) ?_ ?_
    · refine ok_ite (fun _ => ok_bnd (ok_eq p4 rfl) ?_) (fun z => by cases z)
      rintro _ rfl
      exact ok_lt fun sp hsp => ok_some hsp
    rintro _ rfl
    exact ok_some (decide_eq_true rfl)
  exact this.eq
theorem name_ne {x : Str} (h : m_is_name x = some true) : x ≠ ("" : Str) := by
  rintro rfl
  unfold m_is_name at h
  rw [made_eq _ _ _ (by decide +kernel)] at h
  have h := Option.some.inj h
  revert h
  decide +kernel
theorem law_true : ∀ ns : List Int, ns.length ≤ 63 → a_law (ns, ()) = some true := by
  intro sc hsc
  have hz := szl
  have : Ok (m_law sc) (· = true) := by
    unfold m_law
    refine ok_bnd (cell_ok sc (by decide)) fun c0 _ => ok_bnd (many_ok c0) ?_
    rintro _ ⟨n, rfl, h1, h2⟩
    refine ok_lt fun mh hmh => ok_bnd (cell_ok sc (by decide)) fun c1 _ => ?_
    subst hmh
    refine ok_bnd (nms_ok h1 h2) fun nm0 hn0 => ok_lt fun names hnm => ok_bnd (cell_ok sc (by decide)) fun c2 _ => ok_bnd (show Ok (m_l_rows c2 (n : Int)) _ from rows_ok h1 h2) fun rows hr => ?_
    subst hnm
    have hn := hn0
    have hT : ∀ x ∈ names, txt x := fun x hx => (name_inv (hn.nm x hx)).ok
    have hL : ∀ x ∈ names, x.length ≤ 10 := fun x hx => by rw [strlen]; exact (name_inv (hn.nm x hx)).2
    have hnl := hn.len
    have hrl := hr.sq.1
    have hcl := cut_len_le sc (some 3) (some 9)
    refine ok_bnd (ok_eq (rows_copy rows) rfl) ?_
    rintro _ rfl
    refine ok_chk (by omega) (ok_bnd (ok_eq (show a_Times_init (names, rows, ()) = some ⟨names, rows⟩ from times_okR h1 h2 hn hr) rfl) ?_)
    rintro _ rfl
    have hright : a_l_right ((⟨names, rows⟩ : R_Times), names, rows, ()) = some true := right_ok h2 hn hr.sq hT
    refine ok_bnd (ok_eq hright rfl) ?_
    rintro _ rfl
    refine ok_bnd (P := fun c => c = false) (ok_orO (fun _ => ok_chk (shp_nr hT) (ok_chk (shp_nr hT) (ok_some (by rw [decide_eq_true rfl]; rfl)))) (fun z => by cases z)) ?_
    rintro _ rfl
    obtain ⟨r0, q1, q2, q3⟩ := hr.sq.row (i := 0) (by omega)
    refine ok_ite (fun z => by cases z) (fun _ => ok_bnd (ok_eq (ixN_n (i := 0) (by omega)) rfl) ?_)
    rintro _ rfl
    refine ok_bnd (ok_eq q1 rfl) ?_
    rintro _ rfl
    refine ok_bnd (ok_eq (ixN_n (i := 0) (by omega)) rfl) ?_
    rintro _ rfl
    refine ok_lt fun l1 hl1 => ok_chk (by rw [hl1, List.length_set]; omega) (ok_lt fun l2 hl2 => ok_lt fun n1 hn1 => ok_chk (by rw [hn1, List.length_reverse]; omega) (ok_lt fun n2 hn2 => ok_chk (by rw [List.length_singleton]; omega) ?_))
    refine ok_bnd (P := fun o => o = .nx ()) (foldF_ok (fun cell _ => ?_) rfl) (fun o ho => by subst ho; exact ok_bnd (ok_eq hright rfl) fun _ h => ok_some (by subst h; rfl))
    have hm := md cell (n := (n : Int)) (by omega)
    refine ok_chk (by omega) (ok_bnd (P := fun x => x ∈ names) (ok_atI hm.1 (by omega) fun x hx => List.mem_of_getElem? hx) fun x hx => ok_lt fun name hname => ?_)
    subst hname
    have hxl := hL name hx
    refine ok_chk (by omega) (ok_chk (by show name.length + 1 ≤ _; omega) (ok_chk (by show name.length + 2 ≤ _; omega) (ok_lt fun some_ hsome => ?_)))
    have hs5 : some_.length = 5 := by rw [hsome]; rfl
    have hf := List.length_filter_le (fun x : Str => (!decide (x ∈ names))) some_
    rw [List.map_id']
    refine ok_chk (by omega) (ok_lt fun bad hbad => ?_)
    have hB : ∀ x ∈ bad, x ∉ names := fun x hx => by
      rw [hbad] at hx
      have := (List.mem_filter.mp hx).2
      intro z
      rw [decide_eq_true z] at this
      cases this
    have hpos : 0 < bad.length := List.length_pos_of_mem (a := ("" : Str)) (by
      rw [hbad]
      refine List.mem_filter.mpr ⟨by rw [hsome]; simp, ?_⟩
      rw [decide_eq_false fun z => name_ne (hn.nm _ z) rfl]; rfl)
    have hmb := md (cell / 12) (n := (bad.length : Int)) (by omega)
    refine ok_chk (by omega) (ok_bnd (P := fun x => x ∈ bad) (ok_atI hmb.1 hmb.2 fun x hx => List.mem_of_getElem? hx) fun y hy => ok_lt fun one hone => ?_)
    subst hone
    have hb1 := hB one hy
    refine ok_bnd (ok_eq (show a_l_refused ((⟨names, rows⟩ : R_Times), one, name, one, ()) = some true from refused_ok (time_e1 hb1)) rfl) ?_
    rintro _ rfl
    refine ok_bnd (P := fun c => c = false) (ok_orO (fun _ => ok_bnd (ok_eq (show a_l_refused ((⟨names, rows⟩ : R_Times), name, one, one, ()) = some true from refused_ok (time_e2 hx hb1)) rfl) fun _ h => ok_some (by subst h; rfl)) (fun z => by cases z)) ?_
    rintro _ rfl
    refine ok_ite (fun z => by cases z) (fun _ => ok_bnd (P := fun _ => True) ?_ fun w _ => ?_)
    · unfold atI ixN
      rw [if_neg (by omega), if_pos (by omega)]
      exact ok_eq (List.getElem?_eq_getElem (by omega)) trivial
    · refine ok_bnd (ok_eq (show a_l_refused ((⟨names, rows⟩ : R_Times), one, w, one, ()) = some true from refused_ok (time_e1 hb1)) rfl) ?_
      rintro _ rfl
      exact ok_some rfl
  exact this.eq

end K13

open PySem PySem.W PySem.Calls PyProof.Rows
set_option maxHeartbeats 0 in
theorem PySem.Challenge.cw_deskpairs_k13_times_told_holds : PySem.Challenge.rw_deskpairs_k13_times_told.Holds := by
  w_on; o_law
  refine HandSHeadRun.head_any (r := OpenLaw.row PySem.Challenge.rw_deskpairs_k13_times_told) (q := view (OpenLaw.row PySem.Challenge.rw_deskpairs_k13_times_told).prog [23]) (H := K13.hk) (ob := K13.ob) (M := 3760) (loose := K13.loose) (d := HandSHeadRun.topDef (OpenLaw.row PySem.Challenge.rw_deskpairs_k13_times_told).prog 23) (kwd := []) K13.ob_eq
    (by kernel_rfl) (fun s => by kernel_rfl) K13.run (by kernel_rfl) (by kernel_rfl) (by kernel_rfl) (by rfl) (by first | assumption | decide +kernel) (by decide +kernel) ⟨rfl, rfl, rfl, rfl, rfl, by decide +kernel⟩ ?hw ?hc
  case hw => w_witness2
  case hc =>
    refine L2.walk_ofE (l := PySem.Challenge.rw_deskpairs_k13_times_told) (n := 63) (k := 5) (x := "_law_script") (CX := L2.CX0) rfl (by decide) (by kernel_rfl) ⟨rfl, by decide, by decide⟩ ?F (fun _ _ _ _ z => z)
    intro w mg fa h Y G hmg0
    obtain ⟨K, KX, c, TB⟩ := Y
    have hmg : mg ("law" : PySem.Str) = some (.ref fa) := by
      have e : (HandSHeadRun.topDef (OpenLaw.row PySem.Challenge.rw_deskpairs_k13_times_told).prog 23).name = ("law" : PySem.Str) := by kernel_rfl
      rw [← e]
      exact hmg0
    obtain ⟨fd, hb, hF⟩ := K13.facts (P := (PySem.Challenge.rw_deskpairs_k13_times_told).prog) (w := w) KX G hmg c TB
    exact ⟨K, fd, Dy.spLaw K, KX, hb, fun H a ns hl _ hS => ⟨a, ns, rfl, hS, hl, fun _ => rfl⟩, fun base h1 h2 => Dy.law_of (hF base h1 h2) K13.law_true⟩

