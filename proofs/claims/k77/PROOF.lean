import PyProof.Rows.All
import Wide.All
import OpenK.AllK
import Wide.FinOn
import HandS.ForMost
import HandS.ForExc
import HandS.Wide
import HandS.IsInst
import HandS.SortInts
import HandS.SortRule
import HandS.More
import HandS.Rev
import HandS.TupAny
import HandS.ListItems
import HandS.Dict
import HandS.WordsExc
import HandS.ExcOwn
import HandS.ExcIs
import KE.DataMinMax
import HandS.Flt
import HandS.TupLe
import HandS.ExcInit
import HandS.ExcField
import HandS.ClsMeth
import HandS.Defaults
import HandS.Conv
import HandS.Strs
import HandS.Iter
import HandS.SetFor
import KE.KDictList
import KE.GoesEnum
import KE.KRevIter
import HandS.NoneIn
import HandS.TryMany
import HandS.Deep
import HandS.WordsDict
import HandS.TupSets
import HandS.Style
import PyProof.Rows.SortShellAny
import HandS.HotCalls
import HandS.Zip
import PySem.Challenge.RW_rankpouch_k77_rows_as_texts
set_option Elab.async false
set_option linter.all false
set_option maxRecDepth 100000
set_option maxHeartbeats 4000000
/-! G: typed readings over the hand layer. A value's relation to plain data (Enc), a state's relation to a list of entries (EnvOk), expressions (PX), tests (PTX), argument lists (PAX), blocks (BX). -/
namespace G
open PySem L2
abbrev Fg := PySem.W.Frag
/-! ### plain data and the values that bear it. Z: the part of the heap that nobody changes any more -/
class Enc (α : Type) where
  rel : Fg → Hp → V → α → Prop
  mono : ∀ {K : Fg} {Z Z' : Hp} {v : V} {x : α}, Same Z Z' → rel K Z v x → rel K Z' v x
/-- data that leans on tuples alone -/
class Flat (α : Type) [Enc α] : Prop where
  flat : ∀ {K : Fg} {Z Z' : Hp} {v : V} {x : α}, (∀ a xs, Z a = some (.tup xs) → Z' a = some (.tup xs)) → Enc.rel K Z v x → Enc.rel K Z' v x
def All2 {α : Type} (R : V → α → Prop) : List V → List α → Prop
  | [], [] => True
  | v :: vs, x :: xs => R v x ∧ All2 R vs xs
  | _, _ => False
section
variable {α β : Type} {R R' : V → α → Prop}
theorem All2.imp (h : ∀ v x, R v x → R' v x) : ∀ {vs : List V} {xs : List α}, All2 R vs xs → All2 R' vs xs
  | [], [], _ => trivial
  | _ :: _, _ :: _, ⟨a, b⟩ => ⟨h _ _ a, All2.imp h b⟩
theorem All2.len : ∀ {vs : List V} {xs : List α}, All2 R vs xs → vs.length = xs.length
  | [], [], _ => rfl
  | _ :: _, _ :: _, ⟨_, b⟩ => congrArg (· + 1) (All2.len b)
theorem All2.get : ∀ {vs : List V} {xs : List α} {i : Nat} {v : V}, All2 R vs xs → vs[i]? = some v → ∃ x, xs[i]? = some x ∧ R v x
  | [], _, _, _, _, e => by simp at e
  | _ :: _, [], _, _, h, _ => h.elim
  | _ :: _, _ :: _, 0, _, ⟨a, _⟩, e => ⟨_, rfl, by cases e; exact a⟩
  | _ :: _, _ :: _, i + 1, _, ⟨_, b⟩, e => All2.get (i := i) b e
theorem All2.get' : ∀ {vs : List V} {xs : List α} {i : Nat} {x : α}, All2 R vs xs → xs[i]? = some x → ∃ v, vs[i]? = some v ∧ R v x
  | _, [], _, _, _, e => by simp at e
  | [], _ :: _, _, _, h, _ => h.elim
  | _ :: _, _ :: _, 0, _, ⟨a, _⟩, e => ⟨_, rfl, by cases e; exact a⟩
  | _ :: _, _ :: _, i + 1, _, ⟨_, b⟩, e => All2.get' (i := i) b e
theorem All2.append : ∀ {vs vs' : List V} {xs xs' : List α}, All2 R vs xs → All2 R vs' xs' → All2 R (vs ++ vs') (xs ++ xs')
  | [], _, [], _, _, h => h
  | _ :: _, _, _ :: _, _, ⟨a, b⟩, h => ⟨a, All2.append b h⟩
theorem All2.take : ∀ {vs : List V} {xs : List α} (n : Nat), All2 R vs xs → All2 R (vs.take n) (xs.take n)
  | [], [], 0, _ => trivial
  | [], [], _ + 1, _ => trivial
  | _ :: _, _ :: _, 0, _ => trivial
  | _ :: _, _ :: _, n + 1, ⟨a, b⟩ => ⟨a, All2.take n b⟩
theorem All2.drop : ∀ {vs : List V} {xs : List α} (n : Nat), All2 R vs xs → All2 R (vs.drop n) (xs.drop n)
  | [], [], 0, _ => trivial
  | [], [], _ + 1, _ => trivial
  | _ :: _, _ :: _, 0, h => h
  | _ :: _, _ :: _, n + 1, ⟨_, b⟩ => All2.drop n b
theorem All2.set : ∀ {vs : List V} {xs : List α} {v : V} {x : α} (n : Nat), R v x → All2 R vs xs → All2 R (vs.set n v) (xs.set n x)
  | [], [], _, _, _, _, _ => trivial
  | _ :: _, _ :: _, _, _, 0, r, ⟨_, b⟩ => ⟨r, b⟩
  | _ :: _, _ :: _, _, _, n + 1, r, ⟨a, b⟩ => ⟨a, All2.set n r b⟩
theorem All2.one {v : V} {x : α} (r : R v x) : All2 R [v] [x] := ⟨r, trivial⟩
theorem All2.reverse : ∀ {vs : List V} {xs : List α}, All2 R vs xs → All2 R vs.reverse xs.reverse
  | [], [], _ => trivial
  | v :: vs, x :: xs, ⟨a, b⟩ => by
    rw [List.reverse_cons, List.reverse_cons]
    exact All2.append (All2.reverse b) (All2.one a)
theorem All2.map_int : ∀ {vs : List V} {xs : List Int}, All2 (fun v x => v = V.int x) vs xs → vs = xs.map V.int
  | [], [], _ => rfl
  | _ :: _, _ :: _, ⟨a, b⟩ => by rw [a, All2.map_int b]; rfl
theorem All2.of_map_int : ∀ {xs : List Int}, All2 (fun v x => v = V.int x) (xs.map V.int) xs
  | [] => trivial
  | _ :: _ => ⟨rfl, All2.of_map_int⟩
end
instance : Enc Int := ⟨fun _ _ v x => v = .int x, fun _ h => h⟩
instance : Enc Bool := ⟨fun _ _ v x => v = .bl x, fun _ h => h⟩
instance : Enc Str := ⟨fun _ _ v x => v = .str x, fun _ h => h⟩
instance : Enc Unit := ⟨fun _ _ v _ => v = .non, fun _ h => h⟩
instance : Flat Int := ⟨fun _ h => h⟩
instance : Flat Bool := ⟨fun _ h => h⟩
instance : Flat Str := ⟨fun _ h => h⟩
instance : Flat Unit := ⟨fun _ h => h⟩
/-- None or some other thing -/
def optRel {α : Type} [Enc α] (K : Fg) (Z : Hp) (v : V) : Option α → Prop
  | none => v = .non
  | some x => v ≠ .non ∧ Enc.rel K Z v x
instance {α : Type} [Enc α] : Enc (Option α) := ⟨optRel, fun {K Z Z' v x} s h => by
  cases x with
  | none => exact h
  | some x => exact ⟨h.1, Enc.mono s h.2⟩⟩
instance {α : Type} [Enc α] [Flat α] : Flat (Option α) := ⟨fun {K Z Z' v x} s h => by
  cases x with
  | none => exact h
  | some x => exact ⟨h.1, Flat.flat s h.2⟩⟩
/-- one of two kinds -/
def sumRel {α β : Type} [Enc α] [Enc β] (K : Fg) (Z : Hp) (v : V) : α ⊕ β → Prop
  | .inl x => Enc.rel K Z v x
  | .inr x => Enc.rel K Z v x
instance {α β : Type} [Enc α] [Enc β] : Enc (α ⊕ β) := ⟨sumRel, fun {K Z Z' v x} s h => by
  cases x with
  | inl x => exact Enc.mono (α := α) s h
  | inr x => exact Enc.mono (α := β) s h⟩
instance {α β : Type} [Enc α] [Enc β] [Flat α] [Flat β] : Flat (α ⊕ β) := ⟨fun {K Z Z' v x} s h => by
  cases x with
  | inl x => exact Flat.flat (α := α) s h
  | inr x => exact Flat.flat (α := β) s h⟩
/-- what may stand in a cell that is changed: a list, a dict -/
class Cell (C : Type) where
  crel : Fg → Hp → HO → C → Prop
  cmono : ∀ {K : Fg} {Z Z' : Hp} {o : HO} {c : C}, Same Z Z' → crel K Z o c → crel K Z' o c
  ntup : ∀ {K : Fg} {Z : Hp} {o : HO} {c : C}, crel K Z o c → ∀ xs, o ≠ .tup xs
@[reducible] def cellEnc {C : Type} [Cell C] : Enc C := ⟨fun K Z v c => ∃ p o, v = .ref p ∧ Z p = some o ∧ Cell.crel K Z o c, fun s ⟨p, o, e, h, r⟩ => ⟨p, o, e, s _ _ h, Cell.cmono s r⟩⟩
/-- a set of places -/
abbrev Fp := Addr → Prop
def Fp.no : Fp := fun _ => False
def Fp.un (f g : Fp) : Fp := fun a => f a ∨ g a
/-- what a def owns: a value whose cells (fp) it alone knows -/
class Own (C : Type) [Enc C] where
  own : Fg → Hp → Hp → V → C → Fp → Prop
  omono : ∀ {K : Fg} {Z Z' H H' : Hp} {v : V} {c : C} {fp : Fp}, Same Z Z' → (∀ a, fp a → H' a = H a) → own K Z H v c fp → own K Z' H' v c fp
  odom : ∀ {K : Fg} {Z H : Hp} {v : V} {c : C} {fp : Fp} {a : Addr}, own K Z H v c fp → fp a → ∃ u, H a = some u ∧ ∀ xs, u ≠ .tup xs
  froz : ∀ {K : Fg} {Z H Z' : Hp} {v : V} {c : C} {fp : Fp}, own K Z H v c fp → Same Z Z' → (∀ a, fp a → Z' a = H a) → Enc.rel K Z' v c
@[reducible] def cellOwn {C : Type} [Cell C] : @Own C cellEnc := @Own.mk C cellEnc (fun K Z H v c fp => ∃ l u, v = .ref l ∧ H l = some u ∧ Cell.crel K Z u c ∧ ∀ a, fp a ↔ a = l)
  (fun s e ⟨l, u, h1, h2, h3, h4⟩ => ⟨l, u, h1, (e l ((h4 l).mpr rfl)).trans h2, Cell.cmono s h3, h4⟩)
  (fun ⟨l, u, h1, h2, h3, h4⟩ f => by cases (h4 _).mp f; exact ⟨u, h2, Cell.ntup h3⟩)
  (fun ⟨l, u, h1, h2, h3, h4⟩ s e => ⟨l, u, h1, (e l ((h4 l).mpr rfl)).trans h2, Cell.cmono s h3⟩)
/-- plain data as a part of what is owned -/
@[reducible] def stillOwn {C : Type} [Enc C] : Own C where
  own K Z H v c fp := Enc.rel K Z v c ∧ ∀ a, ¬ fp a
  omono := fun s _ ⟨r, h⟩ => ⟨Enc.mono s r, h⟩
  odom := fun ⟨_, h⟩ f => absurd f (h _)
  froz := fun ⟨r, _⟩ s _ => Enc.mono s r
instance : Own Int := stillOwn
instance : Own Bool := stillOwn
instance : Own Str := stillOwn
instance : Own Unit := stillOwn
instance {α : Type} [Enc α] : Own (Option α) := stillOwn
/-- tuples of two, three, four -/
structure P2 (α β : Type) where
  a : α
  b : β
  deriving DecidableEq, Repr
structure P3 (α β γ : Type) where
  a : α
  b : β
  c : γ
  deriving DecidableEq, Repr
structure P4 (α β γ δ : Type) where
  a : α
  b : β
  c : γ
  d : δ
  deriving DecidableEq, Repr
section
variable {α β γ δ : Type} [Enc α] [Enc β] [Enc γ] [Enc δ]
instance : Enc (P2 α β) := ⟨fun K Z v x => ∃ p v1 v2, v = .ref p ∧ Z p = some (.tup [v1, v2]) ∧ Enc.rel K Z v1 x.a ∧ Enc.rel K Z v2 x.b,
  fun s ⟨p, v1, v2, e, h, r1, r2⟩ => ⟨p, v1, v2, e, s _ _ h, Enc.mono s r1, Enc.mono s r2⟩⟩
instance : Enc (P3 α β γ) := ⟨fun K Z v x => ∃ p v1 v2 v3, v = .ref p ∧ Z p = some (.tup [v1, v2, v3]) ∧ Enc.rel K Z v1 x.a ∧ Enc.rel K Z v2 x.b ∧ Enc.rel K Z v3 x.c,
  fun s ⟨p, v1, v2, v3, e, h, r1, r2, r3⟩ => ⟨p, v1, v2, v3, e, s _ _ h, Enc.mono s r1, Enc.mono s r2, Enc.mono s r3⟩⟩
instance : Enc (P4 α β γ δ) := ⟨fun K Z v x => ∃ p v1 v2 v3 v4, v = .ref p ∧ Z p = some (.tup [v1, v2, v3, v4]) ∧ Enc.rel K Z v1 x.a ∧ Enc.rel K Z v2 x.b ∧ Enc.rel K Z v3 x.c ∧ Enc.rel K Z v4 x.d,
  fun s ⟨p, v1, v2, v3, v4, e, h, r1, r2, r3, r4⟩ => ⟨p, v1, v2, v3, v4, e, s _ _ h, Enc.mono s r1, Enc.mono s r2, Enc.mono s r3, Enc.mono s r4⟩⟩
instance [Flat α] [Flat β] : Flat (P2 α β) := ⟨fun s ⟨p, v1, v2, e, h, r1, r2⟩ => ⟨p, v1, v2, e, s _ _ h, Flat.flat s r1, Flat.flat s r2⟩⟩
instance [Flat α] [Flat β] [Flat γ] : Flat (P3 α β γ) := ⟨fun s ⟨p, v1, v2, v3, e, h, r1, r2, r3⟩ => ⟨p, v1, v2, v3, e, s _ _ h, Flat.flat s r1, Flat.flat s r2, Flat.flat s r3⟩⟩
instance [Flat α] [Flat β] [Flat γ] [Flat δ] : Flat (P4 α β γ δ) := ⟨fun s ⟨p, v1, v2, v3, v4, e, h, r1, r2, r3, r4⟩ => ⟨p, v1, v2, v3, v4, e, s _ _ h, Flat.flat s r1, Flat.flat s r2, Flat.flat s r3, Flat.flat s r4⟩⟩
instance [Own α] [Own β] : Own (P2 α β) where
  own K Z H v x fp := ∃ (p : Addr) (v1 v2 : V) (f1 f2 : Fp), v = .ref p ∧ Z p = some (.tup [v1, v2]) ∧ Own.own K Z H v1 x.a f1 ∧ Own.own K Z H v2 x.b f2 ∧ (∀ a, fp a ↔ f1 a ∨ f2 a) ∧ (∀ a, (f1 a → ¬ f2 a))
  omono := fun s g ⟨p, v1, v2, f1, f2, e, h, r1, r2, hc, hd⟩ => ⟨p, v1, v2, f1, f2, e, s _ _ h, Own.omono s (fun a q => g a ((hc a).mpr (Or.inl q))) r1, Own.omono s (fun a q => g a ((hc a).mpr (Or.inr (q)))) r2, hc, hd⟩
  odom := fun ⟨p, v1, v2, f1, f2, e, h, r1, r2, hc, hd⟩ f => by
    rcases (hc _).mp f with q | q
    · exact Own.odom r1 q
    · exact Own.odom r2 q
  froz := fun ⟨p, v1, v2, f1, f2, e, h, r1, r2, hc, hd⟩ s g => ⟨p, v1, v2, e, s _ _ h, Own.froz r1 s (fun a q => g a ((hc a).mpr (Or.inl q))), Own.froz r2 s (fun a q => g a ((hc a).mpr (Or.inr (q))))⟩
instance [Own α] [Own β] [Own γ] : Own (P3 α β γ) where
  own K Z H v x fp := ∃ (p : Addr) (v1 v2 v3 : V) (f1 f2 f3 : Fp), v = .ref p ∧ Z p = some (.tup [v1, v2, v3]) ∧ Own.own K Z H v1 x.a f1 ∧ Own.own K Z H v2 x.b f2 ∧ Own.own K Z H v3 x.c f3 ∧ (∀ a, fp a ↔ f1 a ∨ f2 a ∨ f3 a) ∧ (∀ a, (f1 a → ¬ f2 a) ∧ (f1 a → ¬ f3 a) ∧ (f2 a → ¬ f3 a))
  omono := fun s g ⟨p, v1, v2, v3, f1, f2, f3, e, h, r1, r2, r3, hc, hd⟩ => ⟨p, v1, v2, v3, f1, f2, f3, e, s _ _ h, Own.omono s (fun a q => g a ((hc a).mpr (Or.inl q))) r1, Own.omono s (fun a q => g a ((hc a).mpr (Or.inr (Or.inl q)))) r2, Own.omono s (fun a q => g a ((hc a).mpr (Or.inr (Or.inr (q))))) r3, hc, hd⟩
  odom := fun ⟨p, v1, v2, v3, f1, f2, f3, e, h, r1, r2, r3, hc, hd⟩ f => by
    rcases (hc _).mp f with q | q | q
    · exact Own.odom r1 q
    · exact Own.odom r2 q
    · exact Own.odom r3 q
  froz := fun ⟨p, v1, v2, v3, f1, f2, f3, e, h, r1, r2, r3, hc, hd⟩ s g => ⟨p, v1, v2, v3, e, s _ _ h, Own.froz r1 s (fun a q => g a ((hc a).mpr (Or.inl q))), Own.froz r2 s (fun a q => g a ((hc a).mpr (Or.inr (Or.inl q)))), Own.froz r3 s (fun a q => g a ((hc a).mpr (Or.inr (Or.inr (q)))))⟩
instance [Own α] [Own β] [Own γ] [Own δ] : Own (P4 α β γ δ) where
  own K Z H v x fp := ∃ (p : Addr) (v1 v2 v3 v4 : V) (f1 f2 f3 f4 : Fp), v = .ref p ∧ Z p = some (.tup [v1, v2, v3, v4]) ∧ Own.own K Z H v1 x.a f1 ∧ Own.own K Z H v2 x.b f2 ∧ Own.own K Z H v3 x.c f3 ∧ Own.own K Z H v4 x.d f4 ∧ (∀ a, fp a ↔ f1 a ∨ f2 a ∨ f3 a ∨ f4 a) ∧ (∀ a, (f1 a → ¬ f2 a) ∧ (f1 a → ¬ f3 a) ∧ (f1 a → ¬ f4 a) ∧ (f2 a → ¬ f3 a) ∧ (f2 a → ¬ f4 a) ∧ (f3 a → ¬ f4 a))
  omono := fun s g ⟨p, v1, v2, v3, v4, f1, f2, f3, f4, e, h, r1, r2, r3, r4, hc, hd⟩ => ⟨p, v1, v2, v3, v4, f1, f2, f3, f4, e, s _ _ h, Own.omono s (fun a q => g a ((hc a).mpr (Or.inl q))) r1, Own.omono s (fun a q => g a ((hc a).mpr (Or.inr (Or.inl q)))) r2, Own.omono s (fun a q => g a ((hc a).mpr (Or.inr (Or.inr (Or.inl q))))) r3, Own.omono s (fun a q => g a ((hc a).mpr (Or.inr (Or.inr (Or.inr (q)))))) r4, hc, hd⟩
  odom := fun ⟨p, v1, v2, v3, v4, f1, f2, f3, f4, e, h, r1, r2, r3, r4, hc, hd⟩ f => by
    rcases (hc _).mp f with q | q | q | q
    · exact Own.odom r1 q
    · exact Own.odom r2 q
    · exact Own.odom r3 q
    · exact Own.odom r4 q
  froz := fun ⟨p, v1, v2, v3, v4, f1, f2, f3, f4, e, h, r1, r2, r3, r4, hc, hd⟩ s g => ⟨p, v1, v2, v3, v4, e, s _ _ h, Own.froz r1 s (fun a q => g a ((hc a).mpr (Or.inl q))), Own.froz r2 s (fun a q => g a ((hc a).mpr (Or.inr (Or.inl q)))), Own.froz r3 s (fun a q => g a ((hc a).mpr (Or.inr (Or.inr (Or.inl q))))), Own.froz r4 s (fun a q => g a ((hc a).mpr (Or.inr (Or.inr (Or.inr (q))))))⟩
/-- a list -/
instance listCell : Cell (List α) := ⟨fun K Z o xs => ∃ vs, o = .lst vs ∧ All2 (Enc.rel K Z) vs xs,
  fun s ⟨vs, e, r⟩ => ⟨vs, e, All2.imp (fun _ _ q => Enc.mono s q) r⟩, fun ⟨vs, e, _⟩ ys z => by rw [e] at z; cases z⟩
instance : Enc (List α) := cellEnc
instance : Own (List α) := cellOwn
/-- the script: a list of ints that stands as it is -/
structure Scr where
  xs : List Int
instance : Enc Scr := ⟨fun K Z v x => ∃ p, v = .ref p ∧ SqL K Z p (x.xs.map V.int), fun s ⟨p, e, h⟩ => ⟨p, e, s.seq h⟩⟩
end
theorem all2_flat {α : Type} [Enc α] [Flat α] {K : Fg} {Z Z' : Hp} (s : ∀ a xs, Z a = some (.tup xs) → Z' a = some (.tup xs)) {vs : List V} {xs : List α} (h : All2 (Enc.rel K Z) vs xs) : All2 (Enc.rel K Z') vs xs :=
  All2.imp (fun _ _ q => Flat.flat s q) h
theorem all2_mono {α : Type} [Enc α] {K : Fg} {Z Z' : Hp} (s : Same Z Z') {vs : List V} {xs : List α} (h : All2 (Enc.rel K Z) vs xs) : All2 (Enc.rel K Z') vs xs :=
  All2.imp (fun _ _ q => Enc.mono s q) h
/-! ### how a state bears plain data: entries by slot -/
/-- no: nothing is known; fz: plain data for good; ow: the def's own (bv: lent by the caller, the so-manieth of these); al: a second name of what is lent -/
inductive Ent : Type 1
  | no
  | fz {α : Type} [inst : Enc α] (x : α)
  | ow {C : Type} [inst : Enc C] [io : Own C] (bv : Option Nat) (c : C)
  | al (k : Nat)
/-- the heap and its still part at the def's entry -/
structure Frame where
  H0 : Hp
  Z0 : Hp
  bs : List V
def EntOk (K : Fg) (F : Frame) (H Z : Hp) (o : Option V) (fp : Fp) : Ent → Prop
  | .no => ∀ a, ¬ fp a
  | @Ent.fz _ inst x => (∃ v, o = some v ∧ @Enc.rel _ inst K Z v x) ∧ ∀ a, ¬ fp a
  | @Ent.ow _ inst io bv c => ∃ v, o = some v ∧ (∀ k, bv = some k → F.bs[k]? = some v) ∧ @Own.own _ inst io K Z H v c fp ∧ ∀ a, fp a → F.H0 a = none ∧ Z a = none
  | .al k => (∃ v, o = some v ∧ F.bs[k]? = some v) ∧ ∀ a, ¬ fp a
structure EnvOk (K : Fg) (F : Frame) (σ : St) (H Z : Hp) (Γ : List Ent) : Prop where
  hh : Same F.H0 H
  zz : Same F.Z0 Z
  zh : Same Z H
  old : ∀ a o, F.H0 a = some o → Z a = F.Z0 a
  len : σ.length = Γ.length
  ent : ∃ fp : Nat → Fp, (∀ (i : Nat) (e : Ent), Γ[i]? = some e → ∃ o, σ[i]? = some o ∧ EntOk K F H Z o (fp i) e) ∧ ∀ i j a, i ≠ j → fp i a → ¬ fp j a
/-- a step that makes new things and changes nothing -/
structure Step (H Z H' Z' : Hp) : Prop where
  hh : Same H H'
  zz : Same Z Z'
  zh : Same Z' H'
  old : ∀ a o, H a = some o → Z' a = Z a
section
variable {K : Fg} {F : Frame} {σ : St} {H Z H' Z' H'' Z'' : Hp} {Γ : List Ent}
theorem Step.refl (h : Same Z H) : Step H Z H Z := ⟨Same.refl _, Same.refl _, h, fun _ _ _ => rfl⟩
theorem Step.trans (a : Step H Z H' Z') (b : Step H' Z' H'' Z'') : Step H Z H'' Z'' :=
  ⟨a.hh.trans b.hh, a.zz.trans b.zz, b.zh, fun c o h => (b.old c o (a.hh c o h)).trans (a.old c o h)⟩
theorem Same.upd_new {H : Hp} {p : Addr} {o : HO} (h : H p = none) : Same H (upd H p o) := fun b u e => by
  rw [upd_ne (ne_of_none e h)]; exact e
theorem Step.new {p : Addr} {o : HO} (zh : Same Z H) (h : H p = none) : Step H Z (upd H p o) (upd Z p o) := by
  refine ⟨Same.upd_new h, Same.upd_new (zh.free h), fun b u e => ?_, fun a u e => ?_⟩
  · by_cases hb : b = p
    · subst hb; rw [upd_same] at e ⊢; exact e
    · rw [upd_ne hb] at e ⊢; exact zh b u e
  · exact upd_ne (ne_of_none e h)
/-- the still part keeps out of the new thing -/
theorem Step.newH {p : Addr} {o : HO} (zh : Same Z H) (h : H p = none) : Step H Z (upd H p o) Z :=
  ⟨Same.upd_new h, Same.refl _, zh.trans (Same.upd_new h), fun _ _ _ => rfl⟩
/-- an entry keeps where its own cells keep -/
theorem EntOk.mono {o : Option V} {fp : Fp} {e : Ent} (sz : Same Z Z') (hf : ∀ a, fp a → H' a = H a) (hz : ∀ a, fp a → Z' a = Z a) (h : EntOk K F H Z o fp e) : EntOk K F H' Z' o fp e := by
  cases e with
  | no => exact h
  | fz x =>
    obtain ⟨⟨v, e1, r⟩, n⟩ := h
    exact ⟨⟨v, e1, Enc.mono sz r⟩, n⟩
  | ow bv c =>
    obtain ⟨v, e1, hb, r, q⟩ := h
    exact ⟨v, e1, hb, Own.omono sz hf r, fun a ha => ⟨(q a ha).1, (hz a ha).trans (q a ha).2⟩⟩
  | al k => exact h
theorem EntOk.dom {o : Option V} {fp : Fp} {e : Ent} {a : Addr} (h : EntOk K F H Z o fp e) (f : fp a) : F.H0 a = none ∧ Z a = none ∧ ∃ u, H a = some u ∧ ∀ xs, u ≠ .tup xs := by
  cases e with
  | no => exact absurd f (h a)
  | fz x => exact absurd f (h.2 a)
  | ow bv c =>
    obtain ⟨v, e1, hb, r, q⟩ := h
    exact ⟨(q a f).1, (q a f).2, Own.odom r f⟩
  | al k => exact absurd f (h.2 a)
theorem EnvOk.step (e : EnvOk K F σ H Z Γ) (s : Step H Z H' Z') : EnvOk K F σ H' Z' Γ := by
  obtain ⟨fp, h, hd⟩ := e.ent
  refine ⟨e.hh.trans s.hh, e.zz.trans s.zz, s.zh, fun a o h => (s.old a o (e.hh a o h)).trans (e.old a o h), e.len, fp, fun i t ht => ?_, hd⟩
  obtain ⟨o, ho, q⟩ := h i t ht
  refine ⟨o, ho, q.mono s.zz (fun a f => ?_) fun a f => ?_⟩
  · obtain ⟨_, _, u, hu, _⟩ := q.dom f
    rw [hu]; exact s.hh a u hu
  · obtain ⟨_, _, u, hu, _⟩ := q.dom f
    exact s.old a u hu
theorem EnvOk.stp (e : EnvOk K F σ H Z Γ) : Step F.H0 F.Z0 H Z := ⟨e.hh, e.zz, e.zh, e.old⟩
theorem getElem?_set_cases.{u} {α : Type u} {l : List α} {i j : Nat} {x y : α} (h : (l.set i x)[j]? = some y) : (j = i ∧ y = x) ∨ (j ≠ i ∧ l[j]? = some y) := by
  by_cases hj : j = i
  · subst hj
    refine .inl ⟨rfl, ?_⟩
    have hl : j < l.length := by
      have := (List.getElem?_eq_some_iff.mp h).1
      rw [List.length_set] at this; exact this
    rw [List.getElem?_set_self hl] at h
    exact (Option.some.inj h).symm
  · rw [List.getElem?_set_ne (Ne.symm hj)] at h
    exact .inr ⟨hj, h⟩
/-- one entry is looked at, and anything may be done with what is its own -/
theorem EnvOk.focus (e : EnvOk K F σ H Z Γ) {i : Nat} {t : Ent} (hi : Γ[i]? = some t) : ∃ o fp, σ[i]? = some o ∧ EntOk K F H Z o fp t ∧
    ∀ (H' Z' : Hp) (t' : Ent) (o' : Option V) (fp' : Fp), (∀ a u, H a = some u → ¬ fp a → H' a = some u) → Same Z Z' → Same Z' H' → (∀ a u, H a = some u → ¬ fp a → Z' a = Z a) → (∀ a, fp' a → fp a ∨ H a = none) → EntOk K F H' Z' o' fp' t' → EnvOk K F (σ.set i o') H' Z' (Γ.set i t') := by
  obtain ⟨fp, h, hd⟩ := e.ent
  obtain ⟨o, ho, q⟩ := h i t hi
  refine ⟨o, fp i, ho, q, fun H' Z' t' o' fp' g1 g2 g3 g4 g5 g6 => ?_⟩
  have out : ∀ a u, F.H0 a = some u → ¬ fp i a := fun a u ha f => by
    have := (q.dom f).1
    rw [ha] at this; cases this
  have ilt : i < σ.length := (List.getElem?_eq_some_iff.mp ho).1
  refine ⟨fun a u ha => g1 a u (e.hh a u ha) (out a u ha), e.zz.trans g2, g3, fun a u ha => (g4 a u (e.hh a u ha) (out a u ha)).trans (e.old a u ha), by rw [List.length_set, List.length_set, e.len], fun j => if j = i then fp' else if j < σ.length then fp j else Fp.no, fun j t2 ht => ?_, fun j k a hjk h1 h2 => ?_⟩
  · rcases getElem?_set_cases ht with ⟨rfl, rfl⟩ | ⟨hj, ht⟩
    · exact ⟨o', List.getElem?_set_self ilt, by dsimp only; rw [if_pos rfl]; exact g6⟩
    · obtain ⟨o2, ho2, q2⟩ := h j t2 ht
      have jlt : j < σ.length := (List.getElem?_eq_some_iff.mp ho2).1
      refine ⟨o2, by rw [List.getElem?_set_ne (Ne.symm hj)]; exact ho2, ?_⟩
      dsimp only
      rw [if_neg hj, if_pos jlt]
      refine q2.mono g2 (fun a f => ?_) fun a f => ?_
      · obtain ⟨_, _, u, hu, _⟩ := q2.dom f
        rw [hu]; exact g1 a u hu (hd j i a hj f)
      · obtain ⟨_, _, u, hu, _⟩ := q2.dom f
        exact g4 a u hu (hd j i a hj f)
  · dsimp only at h1 h2
    have aux : ∀ j a, j ≠ i → (if j < σ.length then fp j else Fp.no) a → ¬ fp' a := fun j a hj f f' => by
      by_cases jlt : j < σ.length
      · rw [if_pos jlt] at f
        have jl : j < Γ.length := by rw [← e.len]; exact jlt
        obtain ⟨o2, _, q2⟩ := h j Γ[j] (by simp [jl])
        rcases g5 a f' with f2 | f2
        · exact hd j i a hj f f2
        · obtain ⟨_, _, u, hu, _⟩ := q2.dom f
          rw [f2] at hu; cases hu
      · rw [if_neg jlt] at f; exact f
    by_cases hj : j = i
    · by_cases hk : k = i
      · exact hjk (hj.trans hk.symm)
      · rw [if_pos hj] at h1
        rw [if_neg hk] at h2
        exact aux k a hk h2 h1
    · rw [if_neg hj] at h1
      by_cases hk : k = i
      · rw [if_pos hk] at h2
        exact aux j a hj h1 h2
      · rw [if_neg hk] at h2
        by_cases jlt : j < σ.length
        · by_cases klt : k < σ.length
          · rw [if_pos jlt] at h1
            rw [if_pos klt] at h2
            exact hd j k a hjk h1 h2
          · rw [if_neg klt] at h2; exact h2
        · rw [if_neg jlt] at h1; exact h1
theorem set_self.{u} {α : Type u} {l : List α} {i : Nat} {x : α} (h : l[i]? = some x) : l.set i x = l := by
  obtain ⟨hl, e⟩ := List.getElem?_eq_some_iff.mp h
  rw [← e]; exact List.set_getElem_self hl
theorem set_out.{u} {α : Type u} {l : List α} {i : Nat} {x : α} (h : l[i]? = none) : l.set i x = l := List.set_eq_of_length_le (List.getElem?_eq_none_iff.mp h)
theorem EnvOk.fz {α : Type} [Enc α] {x : α} {i : Nat} (e : EnvOk K F σ H Z Γ) (h : Γ[i]? = some (.fz x)) : ∃ v, σ[i]? = some (some v) ∧ Enc.rel K Z v x := by
  obtain ⟨o, fp, ho, ⟨⟨v, e1, r⟩, _⟩, _⟩ := e.focus h
  exact ⟨v, by rw [ho, e1], r⟩
/-- a list of the def's own is looked at -/
theorem EnvOk.ow {α : Type} [Enc α] {bv : Option Nat} {xs : List α} {i : Nat} (e : EnvOk K F σ H Z Γ) (h : Γ[i]? = some (.ow bv xs)) :
    ∃ l vs, σ[i]? = some (some (.ref l)) ∧ F.H0 l = none ∧ Z l = none ∧ H l = some (.lst vs) ∧ All2 (Enc.rel K Z) vs xs := by
  obtain ⟨o, fp, ho, ⟨v, e1, _, ⟨l, u, rfl, h2, ⟨vs, rfl, h3⟩, h4⟩, q⟩, _⟩ := e.focus h
  exact ⟨l, vs, by rw [ho, e1], (q l ((h4 l).mpr rfl)).1, (q l ((h4 l).mpr rfl)).2, h2, h3⟩
/-- a name gets a still value -/
theorem EnvOk.set_fz {α : Type} [Enc α] {x : α} {v : V} (e : EnvOk K F σ H Z Γ) (i : Nat) (r : Enc.rel K Z v x) : EnvOk K F (σ.set i (some v)) H Z (Γ.set i (.fz x)) := by
  cases hi : Γ[i]? with
  | none =>
    have hs : σ[i]? = none := by rw [List.getElem?_eq_none_iff] at hi ⊢; rw [e.len]; exact hi
    rw [set_out hi, set_out hs]; exact e
  | some t =>
    obtain ⟨o, fp, ho, q, k⟩ := e.focus hi
    exact k H Z _ _ Fp.no (fun _ _ h _ => h) (Same.refl _) e.zh (fun _ _ _ _ => rfl) (fun _ f => f.elim) ⟨⟨v, rfl, r⟩, fun _ f => f⟩
/-- a name is forgotten -/
theorem EnvOk.set_no (e : EnvOk K F σ H Z Γ) (i : Nat) (o : Option V) : EnvOk K F (σ.set i o) H Z (Γ.set i .no) := by
  cases hi : Γ[i]? with
  | none =>
    have hs : σ[i]? = none := by rw [List.getElem?_eq_none_iff] at hi ⊢; rw [e.len]; exact hi
    rw [set_out hi, set_out hs]; exact e
  | some t =>
    obtain ⟨o', fp, ho, q, k⟩ := e.focus hi
    exact k H Z _ _ Fp.no (fun _ _ h _ => h) (Same.refl _) e.zh (fun _ _ _ _ => rfl) (fun _ f => f.elim) fun _ f => f
/-- what is new: its cells were not there -/
structure NewO (K : Fg) (H Z H' Z' : Hp) {C : Type} [Enc C] [Own C] (v : V) (c : C) (fp : Fp) : Prop where
  st : Step H Z H' Z'
  own : Own.own K Z' H' v c fp
  out : ∀ a, fp a → H a = none ∧ Z' a = none
/-- a name gets a new thing of the def's own -/
theorem EnvOk.set_own {C : Type} [Enc C] [Own C] {c : C} {v : V} {fp : Fp} (e : EnvOk K F σ H Z Γ) (i : Nat) (n : NewO K H Z H' Z' v c fp) : EnvOk K F (σ.set i (some v)) H' Z' (Γ.set i (.ow none c)) := by
  cases hi : Γ[i]? with
  | none =>
    have hs : σ[i]? = none := by rw [List.getElem?_eq_none_iff] at hi ⊢; rw [e.len]; exact hi
    rw [set_out hi, set_out hs]; exact e.step n.st
  | some t =>
    obtain ⟨o', fp', ho, q, k⟩ := e.focus hi
    exact k H' Z' _ _ fp (fun a u h _ => n.st.hh a u h) n.st.zz n.st.zh (fun a u h _ => n.st.old a u h) (fun a f => .inr (n.out a f).1) ⟨v, rfl, (fun _ h => by cases h), n.own, fun a f => ⟨e.hh.free (n.out a f).1, (n.out a f).2⟩⟩
theorem NewO.cell {C : Type} [Cell C] {c : C} {l : Addr} {u : HO} (zh : Same Z H) (hn : H l = none) (r : Cell.crel K Z u c) : @NewO K H Z (upd H l u) Z C cellEnc cellOwn (.ref l) c (fun a => a = l) :=
  @NewO.mk K H Z (upd H l u) Z C cellEnc cellOwn (.ref l) c (fun a => a = l) (Step.newH zh hn) ⟨l, u, rfl, upd_same, r, fun _ => Iff.rfl⟩ fun a h => by cases h; exact ⟨hn, zh.free hn⟩
theorem EnvOk.set_ow {α : Type} [Enc α] {xs : List α} {l : Addr} {vs : List V} (e : EnvOk K F σ H Z Γ) (i : Nat) (hn : H l = none) (r : All2 (Enc.rel K Z) vs xs) :
    EnvOk K F (σ.set i (some (.ref l))) (upd H l (.lst vs)) Z (Γ.set i (.ow none xs)) := e.set_own i (NewO.cell e.zh hn ⟨vs, rfl, r⟩)
open Classical in
/-- what is the def's own stays as it is from here on -/
theorem EnvOk.freezeO {C : Type} [Enc C] [Own C] {bv : Option Nat} {c : C} {i : Nat} (e : EnvOk K F σ H Z Γ) (hi : Γ[i]? = some (.ow bv c)) : ∃ Z', Same Z Z' ∧ EnvOk K F σ H Z' (Γ.set i (.fz c)) := by
  obtain ⟨o, fp, ho, q0, k⟩ := e.focus hi
  obtain ⟨v, e1, _, r, q⟩ := q0
  subst e1
  have sz : Same Z (fun a => if fp a then H a else Z a) := fun a u h => by
    show (if fp a then H a else Z a) = some u
    by_cases f : fp a
    · have := (q a f).2
      rw [h] at this; cases this
    · rw [if_neg f]; exact h
  refine ⟨fun a => if fp a then H a else Z a, sz, ?_⟩
  have := k H (fun a => if fp a then H a else Z a) (.fz c) (some v) Fp.no (fun _ _ h _ => h) sz (fun a u h => ?_) (fun a u _ f => if_neg f) (fun _ f => f.elim) ⟨⟨v, rfl, Own.froz r sz fun a f => if_pos f⟩, fun _ f => f⟩
  · rw [set_self ho] at this; exact this
  · have h : (if fp a then H a else Z a) = some u := h
    by_cases f : fp a
    · rw [if_pos f] at h; exact h
    · rw [if_neg f] at h; exact e.zh a u h
/-- what is known may be forgotten -/
inductive Wk : List Ent → List Ent → Prop
  | n : Wk [] []
  | s {e : Ent} {Γ Γ' : List Ent} : Wk Γ Γ' → Wk (e :: Γ) (e :: Γ')
  | d {e : Ent} {Γ Γ' : List Ent} : Wk Γ Γ' → Wk (e :: Γ) (.no :: Γ')
theorem Wk.len {Γ Γ' : List Ent} (w : Wk Γ Γ') : Γ.length = Γ'.length := by
  induction w with
  | n => rfl
  | s _ ih => exact congrArg (· + 1) ih
  | d _ ih => exact congrArg (· + 1) ih
theorem Wk.get {Γ Γ' : List Ent} (w : Wk Γ Γ') : ∀ {i : Nat} {e : Ent}, Γ'[i]? = some e → Γ[i]? = some e ∨ (e = .no ∧ ∃ e', Γ[i]? = some e') := by
  induction w with
  | n => intro i e h; simp at h
  | s _ ih =>
    intro i e h
    cases i with
    | zero => exact .inl h
    | succ i => exact ih (i := i) h
  | @d e0 Γ Γ' _ ih =>
    intro i e h
    cases i with
    | zero => exact .inr ⟨(Option.some.inj h).symm, e0, rfl⟩
    | succ i => exact ih (i := i) h
theorem EnvOk.wk {Γ' : List Ent} (e : EnvOk K F σ H Z Γ) (w : Wk Γ Γ') : EnvOk K F σ H Z Γ' := by
  obtain ⟨fp, h, hd⟩ := e.ent
  have get : ∀ (i : Nat) (t : Ent), Γ'[i]? = some t → ∃ o fp', σ[i]? = some o ∧ EntOk K F H Z o fp' t ∧ ∀ a, fp' a → fp i a := fun i t ht => by
    rcases w.get ht with g | ⟨rfl, e', g⟩
    · obtain ⟨o, ho, q⟩ := h i t g
      exact ⟨o, fp i, ho, q, fun _ f => f⟩
    · obtain ⟨o, ho, _⟩ := h i e' g
      exact ⟨o, Fp.no, ho, fun _ f => f, fun _ f => f.elim⟩
  refine ⟨e.hh, e.zz, e.zh, e.old, e.len.trans w.len, ?_⟩
  have : ∃ fp2 : Nat → Fp, ∀ i, (∀ t, Γ'[i]? = some t → ∃ o, σ[i]? = some o ∧ EntOk K F H Z o (fp2 i) t) ∧ ∀ a, fp2 i a → fp i a := by
    refine Classical.axiomOfChoice (r := fun i f => (∀ t, Γ'[i]? = some t → ∃ o, σ[i]? = some o ∧ EntOk K F H Z o f t) ∧ ∀ a, f a → fp i a) fun i => ?_
    cases hg : Γ'[i]? with
    | none => exact ⟨Fp.no, (fun t ht => by cases ht), fun _ f => f.elim⟩
    | some t =>
      obtain ⟨o, fp', h1, h2, h3⟩ := get i t hg
      exact ⟨fp', fun t' ht => by cases ht; exact ⟨o, h1, h2⟩, h3⟩
  obtain ⟨fp2, h2⟩ := this
  exact ⟨fp2, fun i t ht => (h2 i).1 t ht, fun i j a hij f1 f2 => hd i j a hij ((h2 i).2 a f1) ((h2 j).2 a f2)⟩
end
end G
/-! GExp: expressions, tests, argument lists, calls, lists as values. Each rule hands on the plain reading (an Option: none where the rule says nothing). -/
namespace G
open PySem L2
/-! ### plain readings -/
abbrev o2 {α β γ : Type} (a : Option α) (b : Option β) (g : α → β → Option γ) : Option γ := a.bind fun x => b.bind fun y => g x y
def oAdd (a b : Option Int) : Option Int := o2 a b fun i j => some (i + j)
def oSub (a b : Option Int) : Option Int := o2 a b fun i j => some (i - j)
/-- both below 2 ^ 8192 -/
def Big (i : Int) : Prop := i.natAbs < 2 ^ 8192
instance (i : Int) : Decidable (Big i) := inferInstanceAs (Decidable (i.natAbs < 2 ^ 8192))
def oMul (a b : Option Int) : Option Int := o2 a b fun i j => if Big i ∧ Big j then some (i * j) else none
def oDiv (a b : Option Int) : Option Int := o2 a b fun i j => if 0 < j ∧ Big j then some (i / j) else none
def oMod (a b : Option Int) : Option Int := o2 a b fun i j => if 0 < j then some (i % j) else none
def oPow (a b : Option Int) : Option Int := o2 a b fun i j => if 0 ≤ j ∧ j ≤ 1000000 ∧ i.natAbs < 2 ^ 64 then some (i ^ j.toNat) else none
def oShl (a b : Option Int) : Option Int := o2 a b fun i j => if 0 ≤ j ∧ j ≤ 1000000 ∧ i.natAbs < 2 ^ 64 then some (i * 2 ^ j.toNat) else none
def oShr (a b : Option Int) : Option Int := o2 a b fun i j => if 0 ≤ j then some (i / 2 ^ j.toNat) else none
def oBand (a b : Option Int) : Option Int := o2 a b fun i j => some (Builtin.bitAnd i j)
def oNeg (a : Option Int) : Option Int := a.bind fun i => some (-i)
def oLt (a b : Option Int) : Option Bool := o2 a b fun i j => some (decide (i < j))
def oLe (a b : Option Int) : Option Bool := o2 a b fun i j => some (decide (i ≤ j))
def oGt (a b : Option Int) : Option Bool := o2 a b fun i j => some (decide (j < i))
def oGe (a b : Option Int) : Option Bool := o2 a b fun i j => some (decide (j ≤ i))
def oEq {α : Type} [DecidableEq α] (a b : Option α) : Option Bool := o2 a b fun i j => some (decide (i = j))
def oNe {α : Type} [DecidableEq α] (a b : Option α) : Option Bool := o2 a b fun i j => some (!decide (i = j))
def oAnd (a b : Option Bool) : Option Bool := a.bind fun x => if x = true then b else some false
def oOr (a b : Option Bool) : Option Bool := a.bind fun x => if x = true then some true else b
def oNot (a : Option Bool) : Option Bool := a.bind fun x => some (!x)
def oMax (a b : Option Int) : Option Int := o2 a b fun i j => some (if j > i then j else i)
def oMin (a b : Option Int) : Option Int := o2 a b fun i j => some (if j < i then j else i)
def oAbs (a : Option Int) : Option Int := a.bind fun i => some (if i < 0 then -i else i)
def oLen {α : Type} (a : Option (List α)) : Option Int := a.bind fun xs => some (xs.length : Int)
def oIx {α : Type} (a : Option (List α)) (b : Option Int) : Option α := o2 a b fun xs i => atI xs i
def oCut {α : Type} (a : Option (List α)) (lo hi : Option (Option Int)) : Option (List α) :=
  a.bind fun xs => lo.bind fun l => hi.bind fun h => some ((xs.drop (HT.sIx xs.length 0 l)).take (HT.sIx xs.length xs.length h - HT.sIx xs.length 0 l))
def oCat {α : Type} (a b : Option (List α)) : Option (List α) := o2 a b fun xs ys => if xs.length + ys.length ≤ sizeLine then some (xs ++ ys) else none
def oSum (a : Option (List Int)) : Option Int := a.bind fun xs => some xs.sum
def oCons {α : Type} (a : Option α) (b : Option (List α)) : Option (List α) := o2 a b fun x xs => some (x :: xs)
def oPair {α β : Type} (a : Option α) (b : Option β) : Option (α × β) := o2 a b fun x y => some (x, y)
def oP2 {α β : Type} (a : Option α) (b : Option β) : Option (P2 α β) := o2 a b fun x y => some ⟨x, y⟩
def oP3 {α β γ : Type} (a : Option α) (b : Option β) (c : Option γ) : Option (P3 α β γ) := a.bind fun x => b.bind fun y => c.bind fun z => some ⟨x, y, z⟩
def oP4 {α β γ δ : Type} (a : Option α) (b : Option β) (c : Option γ) (d : Option δ) : Option (P4 α β γ δ) := a.bind fun x => b.bind fun y => c.bind fun z => d.bind fun w => some ⟨x, y, z, w⟩
/-! ### the judgements -/
def wE (X : Cx) (e : Expr) : TE := fun σ H Q => ∀ (pins : List (Addr × Obj)) (s : Shared), Inv X pins σ H s → wpAny (model X.prog X.w) X.A (eval e X.env) (EP X pins σ Q) X.xe s
theorem pe_w {X : Cx} {e : Expr} : PE X e (wE X e) := ⟨fun pins s _ _ _ I h => h pins s I⟩
def wT (X : Cx) (e : Expr) : TT := fun σ H Q => ∀ (pins : List (Addr × Obj)) (s : Shared), Inv X pins σ H s → wpAny (model X.prog X.w) X.A (isTrue e X.env (eval e X.env)) (TP X pins σ Q) X.xe s
theorem pt_w {X : Cx} {e : Expr} : PT X e (wT X e) := ⟨fun pins s _ _ _ I h => h pins s I⟩
def wW (X : Cx) (e : Expr) : TT := fun σ H Q => ∀ (whole : Sem Value) (pins : List (Addr × Obj)) (s : Shared), Inv X pins σ H s → wpAny (model X.prog X.w) X.A (isTrue e X.env whole) (TP X pins σ Q) X.xe s
theorem pw_w {X : Cx} {e : Expr} : PW X e (wW X e) := ⟨fun wh pins s _ _ _ I h => h wh pins s I⟩
def wA (X : Cx) (es : List Expr) : TA := fun σ H Q => ∀ (pos : Pos) (pins : List (Addr × Obj)) (s : Shared), Inv X pins σ H s → wpAny (model X.prog X.w) X.A (spliced (backTo pos (starEach es X.env))) (AP X pins σ Q) X.xe s
theorem pa_w {X : Cx} {es : List Expr} : PA X es (wA X es) := ⟨fun pos pins s _ _ _ I h => h pos pins s I⟩
/-- e evaluates to what bears m -/
structure PX (X : Cx) (e : Expr) (Γ : List Ent) {α : Type} [Enc α] (m : Option α) : Prop where
  run : ∀ (F : Frame) (σ : St) (H Z : Hp), EnvOk X.K F σ H Z Γ → ∀ x, m = some x → ∀ Q : VK, (∀ H' Z' v, Step H Z H' Z' → Enc.rel X.K Z' v x → Q v H') → wE X e σ H Q
/-- .. to a new list that nothing else knows -/
structure PN (X : Cx) (e : Expr) (Γ : List Ent) {α : Type} [Enc α] (m : Option (List α)) : Prop where
  run : ∀ (F : Frame) (σ : St) (H Z : Hp), EnvOk X.K F σ H Z Γ → ∀ x, m = some x → ∀ Q : VK, (∀ H' Z' l vs, Step H Z H' Z' → H' l = none → All2 (Enc.rel X.K Z') vs x → Q (.ref l) (upd H' l (.lst vs))) → wE X e σ H Q
/-- .. to a list that is read -/
structure PL (X : Cx) (e : Expr) (Γ : List Ent) {α : Type} [Enc α] (m : Option (List α)) : Prop where
  run : ∀ (F : Frame) (σ : St) (H Z : Hp), EnvOk X.K F σ H Z Γ → ∀ x, m = some x → ∀ Q : VK, (∀ H' Z' l vs, Step H Z H' Z' → H' l = some (.lst vs) → All2 (Enc.rel X.K Z') vs x → Q (.ref l) H') → wE X e σ H Q
structure PTX (X : Cx) (e : Expr) (Γ : List Ent) (m : Option Bool) : Prop where
  run : ∀ (F : Frame) (σ : St) (H Z : Hp), EnvOk X.K F σ H Z Γ → ∀ b, m = some b → ∀ Q : Bool → Hp → Prop, (∀ H' Z', Step H Z H' Z' → Q b H') → wT X e σ H Q
structure PWX (X : Cx) (e : Expr) (Γ : List Ent) (m : Option Bool) : Prop where
  run : ∀ (F : Frame) (σ : St) (H Z : Hp), EnvOk X.K F σ H Z Γ → ∀ b, m = some b → ∀ Q : Bool → Hp → Prop, (∀ H' Z', Step H Z H' Z' → Q b H') → wW X e σ H Q
/-- arguments, each of its kind -/
class EncA (A : Type) where
  rel : Fg → Hp → List V → A → Prop
  mono : ∀ {K : Fg} {Z Z' : Hp} {vs : List V} {x : A}, Same Z Z' → rel K Z vs x → rel K Z' vs x
  n : Nat
  len : ∀ {K : Fg} {Z : Hp} {vs : List V} {x : A}, rel K Z vs x → vs.length = n
instance : EncA Unit := ⟨fun _ _ vs _ => vs = [], fun _ h => h, 0, fun h => by rw [h]; rfl⟩
instance {α A : Type} [Enc α] [EncA A] : EncA (α × A) := ⟨fun K Z vs x => ∃ v r, vs = v :: r ∧ Enc.rel K Z v x.1 ∧ EncA.rel K Z r x.2,
  fun s ⟨v, r, e, h1, h2⟩ => ⟨v, r, e, Enc.mono s h1, EncA.mono s h2⟩, EncA.n A + 1, fun ⟨v, r, e, _, h2⟩ => by rw [e]; exact congrArg (· + 1) (EncA.len h2)⟩
structure PAX (X : Cx) (es : List Expr) (Γ : List Ent) {A : Type} [EncA A] (m : Option A) : Prop where
  run : ∀ (F : Frame) (σ : St) (H Z : Hp), EnvOk X.K F σ H Z Γ → ∀ x, m = some x → ∀ Q : List V → Hp → Prop, (∀ H' Z' vs, Step H Z H' Z' → EncA.rel X.K Z' vs x → Q vs H') → wA X es σ H Q
/-- written items of one kind -/
structure PHX (X : Cx) (es : List Expr) (Γ : List Ent) {α : Type} [Enc α] (m : Option (List α)) : Prop where
  run : ∀ (F : Frame) (σ : St) (H Z : Hp), EnvOk X.K F σ H Z Γ → ∀ x, m = some x → ∀ Q : List V → Hp → Prop, (∀ H' Z' vs, Step H Z H' Z' → All2 (Enc.rel X.K Z') vs x → Q vs H') → wA X es σ H Q
section
variable {X : Cx} {Γ : List Ent} {e a b c : Expr} {es : List Expr} {pos : Pos} {α β γ δ : Type} [Enc α] [Enc β] [Enc γ] [Enc δ]
theorem px_of {t : TE} {m : Option α} (pe : PE X e t) (h : ∀ (F : Frame) (σ : St) (H Z : Hp), EnvOk X.K F σ H Z Γ → ∀ x, m = some x → ∀ Q : VK, (∀ H' Z' v, Step H Z H' Z' → Enc.rel X.K Z' v x → Q v H') → t σ H Q) : PX X e Γ m :=
  .mk fun F σ H Z en x hx Q q pins s I => pe.run pins s σ H Q I (h F σ H Z en x hx Q q)
theorem pn_of {t : TE} {m : Option (List α)} (pe : PE X e t) (h : ∀ (F : Frame) (σ : St) (H Z : Hp), EnvOk X.K F σ H Z Γ → ∀ x, m = some x → ∀ Q : VK, (∀ H' Z' l vs, Step H Z H' Z' → H' l = none → All2 (Enc.rel X.K Z') vs x → Q (.ref l) (upd H' l (.lst vs))) → t σ H Q) : PN X e Γ m :=
  .mk fun F σ H Z en x hx Q q pins s I => pe.run pins s σ H Q I (h F σ H Z en x hx Q q)
theorem px_of_new {m : Option (List α)} (h : PN X e Γ m) : PX X e Γ m := .mk fun F σ H Z en x hx Q q =>
  h.run F σ H Z en x hx Q fun H' Z' l vs s hl r => q _ _ _ (s.trans (Step.new s.zh hl)) ⟨l, _, rfl, upd_same, vs, rfl, all2_mono (Same.upd_new (s.zh.free hl)) r⟩
theorem pl_of_new {m : Option (List α)} (h : PN X e Γ m) : PL X e Γ m := .mk fun F σ H Z en x hx Q q =>
  h.run F σ H Z en x hx Q fun H' Z' l vs s hl r => q _ _ _ _ (s.trans (Step.new s.zh hl)) upd_same (all2_mono (Same.upd_new (s.zh.free hl)) r)
theorem pl_of {m : Option (List α)} (h : PX X e Γ m) : PL X e Γ m := .mk fun F σ H Z en x hx Q q =>
  h.run F σ H Z en x hx Q fun H' Z' v s ⟨l, _, e1, hl, vs, eo, r⟩ => by
    subst e1 eo
    exact q H' Z' l vs s (s.zh l _ hl) r
theorem px_var (i : Nat) {nm : Str} {x : α} (hΓ : Γ[i]? = some (.fz x) := by rfl) (hN : X.N[i]? = some nm := by rfl) (hv : Vis X.env.scope nm := by first | exact Or.inl rfl | exact Or.inr (Or.inl rfl) | exact Or.inr (Or.inr rfl)) (hd : (nm == ("__debug__" : Str)) = false := by decide)
    (hcd : (nm == ("__classdict__" : Str)) = false := by decide) : PX X (.Name nm pos) Γ (some x) := px_of (pe_var hN hv hd hcd) fun F σ H Z en y hy Q q => by
  cases hy
  obtain ⟨v, e1, r⟩ := en.fz hΓ
  exact ⟨v, e1, q H Z v (Step.refl en.zh) r⟩
/-- a list of the def's own, read -/
theorem pl_var (i : Nat) {nm : Str} {bv : Option Nat} {xs : List α} (hΓ : Γ[i]? = some (.ow bv xs) := by rfl) (hN : X.N[i]? = some nm := by rfl) (hv : Vis X.env.scope nm := by first | exact Or.inl rfl | exact Or.inr (Or.inl rfl) | exact Or.inr (Or.inr rfl)) (hd : (nm == ("__debug__" : Str)) = false := by decide)
    (hcd : (nm == ("__classdict__" : Str)) = false := by decide) : PL X (.Name nm pos) Γ (some xs) := .mk fun F σ H Z en y hy Q q pins s I => by
  cases hy
  obtain ⟨l, vs, e1, _, _, hl, r⟩ := en.ow hΓ
  exact (pe_var hN hv hd hcd).run pins s σ H Q I ⟨_, e1, q H Z l vs (Step.refl en.zh) hl r⟩
theorem px_const {v : V} {x : α} (pe : PE X e (tC v)) (r : ∀ Z, Enc.rel X.K Z v x) : PX X e Γ (some x) := px_of pe fun F σ H Z en y hy Q q => by
  cases hy
  exact q H Z v (Step.refl en.zh) (r Z)
theorem px_int {i j} : PX X (.Constant (.int i) j pos) Γ (some i) := px_const pe_int fun _ => rfl
theorem px_bl {i : Bool} {j} : PX X (.Constant (.bool i) j pos) Γ (some i) := px_const pe_bl fun _ => rfl
theorem px_str {i : Str} {j} : PX X (.Constant (.str i) j pos) Γ (some i) := px_const pe_str fun _ => rfl
theorem px_non {j} : PX X (.Constant .none j pos) Γ (some ()) := px_const pe_non fun _ => rfl
theorem px_glob {x : Str} {i : Int} {u : Value} (hm : X.mg x = some u) (r : RelV (.int i) u) (hg : Gl X x := by rfl) (hd : (x == ("__debug__" : Str)) = false := by decide) : PX X (.Name x pos) Γ (some i) := px_const (pe_glob hg hm r hd) fun _ => rfl
/-- what is wanted of an operation by values -/
def OpX (K : Fg) (r : R2) (g : α → β → Option γ) : Prop :=
  ∀ (H Z : Hp) (v w : V) (x : α) (y : β) (z : γ), Same Z H → Enc.rel K Z v x → Enc.rel K Z w y → g x y = some z → ∀ Q : VK, (∀ H' Z' u, Step H Z H' Z' → Enc.rel K Z' u z → Q u H') → r v w H Q
theorem opx_tail {r : R2} {g : α → β → Option γ} {m1 : Option α} {m2 : Option β} (hr : OpX X.K r g) (ha : PX X a Γ m1) (hb : PX X b Γ m2) (F : Frame) (σ : St) (H Z : Hp) (en : EnvOk X.K F σ H Z Γ) (z : γ) (hz : o2 m1 m2 g = some z) (Q : VK)
    (q : ∀ H' Z' v, Step H Z H' Z' → Enc.rel X.K Z' v z → Q v H') : tOp r (wE X a) (wE X b) σ H Q := by
  obtain ⟨x, hx, hz⟩ := Option.bind_eq_some_iff.mp hz
  obtain ⟨y, hy, hz⟩ := Option.bind_eq_some_iff.mp hz
  refine ha.run F σ H Z en x hx _ fun H1 Z1 v s1 r1 => ?_
  refine hb.run F σ H1 Z1 (en.step s1) y hy _ fun H2 Z2 w s2 r2 => ?_
  exact hr H2 Z2 v w x y z s2.zh (Enc.mono s2.zz r1) r2 hz Q fun H3 Z3 u s3 r3 => q H3 Z3 u ((s1.trans s2).trans s3) r3
theorem px_op {op : Operator} {r : R2} {g : α → β → Option γ} {m1 : Option α} {m2 : Option β} (ho : OpR X (binaryOp op) r) (hr : OpX X.K r g) (ha : PX X a Γ m1) (hb : PX X b Γ m2) : PX X (.BinOp a op b pos) Γ (o2 m1 m2 g) :=
  px_of (pe_op ho pe_w pe_w) (opx_tail hr ha hb)
theorem opx_I0 {K : Fg} {f : Int → Int → Int} : OpX K (rI0 fun i j => .int (f i j)) (fun i j => some (f i j)) := fun H Z v w x y z zh r1 r2 hz Q q => by
  cases hz
  exact ⟨x, y, r1, r2, q H Z _ (Step.refl zh) rfl⟩
theorem opx_B0 {K : Fg} {f : Int → Int → Bool} : OpX K (rI0 fun i j => .bl (f i j)) (fun i j => some (f i j)) := fun H Z v w x y z zh r1 r2 hz Q q => by
  cases hz
  exact ⟨x, y, r1, r2, q H Z _ (Step.refl zh) rfl⟩
theorem opx_I {K : Fg} {C : Int → Int → Prop} {P : Int → Int → Prop} [∀ i j, Decidable (P i j)] {f : Int → Int → Int} (h : ∀ i j, P i j → C i j) : OpX K (rI C fun i j => .int (f i j)) (fun i j => if P i j then some (f i j) else none) := fun H Z v w x y z zh r1 r2 hz Q q => by
  replace hz : (if P x y then some (f x y) else none) = some z := hz
  by_cases c : P x y
  · rw [if_pos c] at hz
    cases hz
    exact ⟨x, y, r1, r2, h _ _ c, q H Z _ (Step.refl zh) rfl⟩
  · rw [if_neg c] at hz
    cases hz
theorem big_log {i : Int} (h : Big i) : i.natAbs.log2 < 8192 := PySem.Flt.log2_lt_of (by decide) h
theorem px_add {m1 m2 : Option Int} (ha : PX X a Γ m1) (hb : PX X b Γ m2) : PX X (.BinOp a .Add b pos) Γ (oAdd m1 m2) := px_op op_add opx_I0 ha hb
theorem px_sub {m1 m2 : Option Int} (ha : PX X a Γ m1) (hb : PX X b Γ m2) : PX X (.BinOp a .Sub b pos) Γ (oSub m1 m2) := px_op op_sub opx_I0 ha hb
theorem px_mul {m1 m2 : Option Int} (ha : PX X a Γ m1) (hb : PX X b Γ m2) : PX X (.BinOp a .Mult b pos) Γ (oMul m1 m2) :=
  px_op op_mulW (opx_I fun i j ⟨h1, h2⟩ => by have := big_log h1; have := big_log h2; show _ + _ < _; omega) ha hb
theorem px_div {m1 m2 : Option Int} (ha : PX X a Γ m1) (hb : PX X b Γ m2) : PX X (.BinOp a .FloorDiv b pos) Γ (oDiv m1 m2) :=
  px_op op_fdivW (opx_I fun i j ⟨h1, h2⟩ => ⟨h1, by have := big_log h2; omega⟩) ha hb
theorem px_mod {m1 m2 : Option Int} (ha : PX X a Γ m1) (hb : PX X b Γ m2) : PX X (.BinOp a .Mod b pos) Γ (oMod m1 m2) := px_op op_mod (opx_I fun i j h => h) ha hb
theorem px_pow {m1 m2 : Option Int} (ha : PX X a Γ m1) (hb : PX X b Γ m2) : PX X (.BinOp a .Pow b pos) Γ (oPow m1 m2) := px_op op_pow (opx_I fun i j h => h) ha hb
theorem px_shl {m1 m2 : Option Int} (ha : PX X a Γ m1) (hb : PX X b Γ m2) : PX X (.BinOp a .LShift b pos) Γ (oShl m1 m2) := px_op op_shl (opx_I fun i j h => h) ha hb
theorem px_shr {m1 m2 : Option Int} (ha : PX X a Γ m1) (hb : PX X b Γ m2) : PX X (.BinOp a .RShift b pos) Γ (oShr m1 m2) := px_op op_shr (opx_I fun i j h => h) ha hb
theorem px_band {m1 m2 : Option Int} (ha : PX X a Γ m1) (hb : PX X b Γ m2) : PX X (.BinOp a .BitAnd b pos) Γ (oBand m1 m2) := px_op op_and opx_I0 ha hb
theorem px_neg {m : Option Int} (ha : PX X a Γ m) : PX X (.UnaryOp .USub a pos) Γ (oNeg m) := px_of (pe_un un_neg pe_w) fun F σ H Z en z hz Q q => by
  obtain ⟨x, hx, hz⟩ := Option.bind_eq_some_iff.mp hz
  cases hz
  exact ha.run F σ H Z en x hx _ fun H1 Z1 v s1 r1 => ⟨x, r1, q H1 Z1 _ s1 rfl⟩
/-! ### comparisons -/
theorem px_cmp {op : CmpOp} {r : R2} {g : α → β → Option Bool} {m1 : Option α} {m2 : Option β} (ho : OpR X (compareOp op) r) (hr : OpX X.K r g) (ha : PX X a Γ m1) (hb : PX X b Γ m2) (hm : behindInMarks op b = false) : PX X (.Compare a [op] [b] pos) Γ (o2 m1 m2 g) :=
  px_of (pe_cmpR ho pe_w pe_w hm) (opx_tail hr ha hb)
theorem ptx_of {t : TT} {m : Option Bool} (pe : PT X e t) (h : ∀ (F : Frame) (σ : St) (H Z : Hp), EnvOk X.K F σ H Z Γ → ∀ x, m = some x → ∀ Q : Bool → Hp → Prop, (∀ H' Z', Step H Z H' Z' → Q x H') → t σ H Q) : PTX X e Γ m :=
  .mk fun F σ H Z en x hx Q q pins s I => pe.run pins s σ H Q I (h F σ H Z en x hx Q q)
theorem ptx_cmp {op : CmpOp} {r : R2} {g : α → β → Option Bool} {m1 : Option α} {m2 : Option β} (ho : OpR X (compareOp op) r) (hr : OpX X.K r g) (ha : PX X a Γ m1) (hb : PX X b Γ m2) (hm : behindInMarks op b = false) : PTX X (.Compare a [op] [b] pos) Γ (o2 m1 m2 g) :=
  ptx_of (pt_cmpR ho pe_w pe_w hm) fun F σ H Z en z hz Q q => opx_tail hr ha hb F σ H Z en z hz _ fun H' Z' v s r => ⟨z, r, q H' Z' s⟩
theorem px_lt {m1 m2 : Option Int} (ha : PX X a Γ m1) (hb : PX X b Γ m2) : PX X (.Compare a [.Lt] [b] pos) Γ (oLt m1 m2) := px_cmp op_lt opx_B0 ha hb (nomark _)
theorem px_le {m1 m2 : Option Int} (ha : PX X a Γ m1) (hb : PX X b Γ m2) : PX X (.Compare a [.LtE] [b] pos) Γ (oLe m1 m2) := px_cmp op_le opx_B0 ha hb (nomark _)
theorem px_gt {m1 m2 : Option Int} (ha : PX X a Γ m1) (hb : PX X b Γ m2) : PX X (.Compare a [.Gt] [b] pos) Γ (oGt m1 m2) := px_cmp op_gt opx_B0 ha hb (nomark _)
theorem px_ge {m1 m2 : Option Int} (ha : PX X a Γ m1) (hb : PX X b Γ m2) : PX X (.Compare a [.GtE] [b] pos) Γ (oGe m1 m2) := px_cmp op_ge opx_B0 ha hb (nomark _)
theorem ptx_lt {m1 m2 : Option Int} (ha : PX X a Γ m1) (hb : PX X b Γ m2) : PTX X (.Compare a [.Lt] [b] pos) Γ (oLt m1 m2) := ptx_cmp op_lt opx_B0 ha hb (nomark _)
theorem ptx_le {m1 m2 : Option Int} (ha : PX X a Γ m1) (hb : PX X b Γ m2) : PTX X (.Compare a [.LtE] [b] pos) Γ (oLe m1 m2) := ptx_cmp op_le opx_B0 ha hb (nomark _)
theorem ptx_gt {m1 m2 : Option Int} (ha : PX X a Γ m1) (hb : PX X b Γ m2) : PTX X (.Compare a [.Gt] [b] pos) Γ (oGt m1 m2) := ptx_cmp op_gt opx_B0 ha hb (nomark _)
theorem ptx_ge {m1 m2 : Option Int} (ha : PX X a Γ m1) (hb : PX X b Γ m2) : PTX X (.Compare a [.GtE] [b] pos) Γ (oGe m1 m2) := ptx_cmp op_ge opx_B0 ha hb (nomark _)
/-! ### == of data -/
class Dat (α : Type) [Enc α] where
  d : α → PyData
  dp : ∀ {K : Fg} {Z H : Hp} {v : V} {x : α}, Same Z H → Enc.rel K Z v x → Dp K H v (d x)
  n : Nat
  dep : ∀ x, (d x).depth ≤ n
  eq : ∀ x y, PyData.eqv (d x) (d y) = true ↔ x = y
/-- .. without texts -/
class DatC (α : Type) [Enc α] [Dat α] : Prop where
  can : ∀ x : α, (Dat.d x).canLay0 = true
end
instance : Dat Int := ⟨.int, fun _ h => by cases h; exact .int _, 0, fun _ => Nat.le_refl _, fun x y => by simp [PyData.eqv]⟩
instance : Dat Bool := ⟨.bool, fun _ h => by cases h; exact .bl _, 0, fun _ => Nat.le_refl _, fun x y => by simp [PyData.eqv]⟩
instance : Dat Str := ⟨.str, fun _ h => by cases h; exact .str _, 0, fun _ => Nat.le_refl _, fun x y => by simp [PyData.eqv]⟩
instance : Dat Unit := ⟨fun _ => .none, fun _ h => by cases h; exact .non, 0, fun _ => Nat.le_refl _, fun x y => by simp [PyData.eqv]⟩
instance : DatC Int := ⟨fun _ => by simp [Dat.d, PyData.canLay0]⟩
instance : DatC Bool := ⟨fun _ => by simp [Dat.d, PyData.canLay0]⟩
instance : DatC Unit := ⟨fun _ => by simp [Dat.d, PyData.canLay0]⟩
section
variable {α β γ δ : Type} [Enc α] [Enc β] [Enc γ] [Enc δ] [Dat α] [Dat β] [Dat γ] [Dat δ]
theorem dpAll {K : Fg} {Z H : Hp} (s : Same Z H) : ∀ {vs : List V} {xs : List α}, All2 (Enc.rel K Z) vs xs → DpAll K H vs (xs.map Dat.d)
  | [], [], _ => .nil
  | _ :: _, _ :: _, ⟨a, b⟩ => .cons (Dat.dp s a) (dpAll s b)
theorem depAll : ∀ xs : List α, PyData.depthAll (xs.map Dat.d) ≤ Dat.n α
  | [] => Nat.zero_le _
  | x :: xs => by
    have h1 := Dat.dep x
    have h2 := depAll xs
    simp only [List.map_cons, PyData.depthAll]
    omega
theorem eqvAll : ∀ xs ys : List α, PyData.eqvAll (xs.map Dat.d) (ys.map Dat.d) = true ↔ xs = ys
  | [], [] => by simp [PyData.eqvAll]
  | [], _ :: _ => by simp [PyData.eqvAll]
  | _ :: _, [] => by simp [PyData.eqvAll]
  | x :: xs, y :: ys => by
    have h1 := Dat.eq x y
    have h2 := eqvAll xs ys
    simp only [List.map_cons, PyData.eqvAll, Bool.and_eq_true, List.cons.injEq, h1, h2]
theorem canAll [DatC α] : ∀ xs : List α, PyData.canLayAll0 (xs.map Dat.d) = true
  | [] => by simp [PyData.canLayAll0]
  | x :: xs => by simp only [List.map_cons, PyData.canLayAll0, DatC.can x, canAll xs, Bool.and_true]
instance : Dat (List α) := ⟨fun xs => .list (xs.map Dat.d), fun s ⟨p, _, e, h, vs, eo, r⟩ => by subst e eo; exact .lst (SqL.of (s _ _ h)) (dpAll s r), Dat.n α + 1,
  fun xs => by have := depAll xs; simp only [PyData.depth]; omega, fun x y => by rw [PyData.eqv]; exact eqvAll x y⟩
instance [DatC α] : DatC (List α) := ⟨fun xs => by show PyData.canLay0 (.list _) = true; rw [PyData.canLay0]; exact canAll xs⟩
instance : Dat (P2 α β) := ⟨fun x => .tuple [Dat.d x.a, Dat.d x.b], fun s ⟨p, v1, v2, e, h, r1, r2⟩ => by subst e; exact .tup (SqT.of (s _ _ h)) (.cons (Dat.dp s r1) (.cons (Dat.dp s r2) .nil)), max (Dat.n α) (Dat.n β) + 1,
  fun x => by have := Dat.dep x.a; have := Dat.dep x.b; simp only [PyData.depth, PyData.depthAll]; omega,
  fun x y => by
    rw [PyData.eqv]
    simp only [PyData.eqvAll, Bool.and_eq_true, Dat.eq, and_true]
    obtain ⟨a, b⟩ := x; obtain ⟨a', b'⟩ := y
    simp⟩
instance [DatC α] [DatC β] : DatC (P2 α β) := ⟨fun x => by show PyData.canLay0 (.tuple _) = true; rw [PyData.canLay0]; simp only [PyData.canLayAll0, DatC.can, Bool.and_true]⟩
instance : Dat (P3 α β γ) := ⟨fun x => .tuple [Dat.d x.a, Dat.d x.b, Dat.d x.c], fun s ⟨p, v1, v2, v3, e, h, r1, r2, r3⟩ => by subst e; exact .tup (SqT.of (s _ _ h)) (.cons (Dat.dp s r1) (.cons (Dat.dp s r2) (.cons (Dat.dp s r3) .nil))), max (Dat.n α) (max (Dat.n β) (Dat.n γ)) + 1,
  fun x => by have := Dat.dep x.a; have := Dat.dep x.b; have := Dat.dep x.c; simp only [PyData.depth, PyData.depthAll]; omega,
  fun x y => by
    rw [PyData.eqv]
    simp only [PyData.eqvAll, Bool.and_eq_true, Dat.eq, and_true]
    obtain ⟨a, b, c⟩ := x; obtain ⟨a', b', c'⟩ := y
    simp⟩
instance [DatC α] [DatC β] [DatC γ] : DatC (P3 α β γ) := ⟨fun x => by show PyData.canLay0 (.tuple _) = true; rw [PyData.canLay0]; simp only [PyData.canLayAll0, DatC.can, Bool.and_true]⟩
instance : Dat (P4 α β γ δ) := ⟨fun x => .tuple [Dat.d x.a, Dat.d x.b, Dat.d x.c, Dat.d x.d], fun s ⟨p, v1, v2, v3, v4, e, h, r1, r2, r3, r4⟩ => by subst e; exact .tup (SqT.of (s _ _ h)) (.cons (Dat.dp s r1) (.cons (Dat.dp s r2) (.cons (Dat.dp s r3) (.cons (Dat.dp s r4) .nil)))),
  max (Dat.n α) (max (Dat.n β) (max (Dat.n γ) (Dat.n δ))) + 1,
  fun x => by have := Dat.dep x.a; have := Dat.dep x.b; have := Dat.dep x.c; have := Dat.dep x.d; simp only [PyData.depth, PyData.depthAll]; omega,
  fun x y => by
    rw [PyData.eqv]
    simp only [PyData.eqvAll, Bool.and_eq_true, Dat.eq, and_true]
    obtain ⟨a, b, c, d⟩ := x; obtain ⟨a', b', c', d'⟩ := y
    simp⟩
instance [DatC α] [DatC β] [DatC γ] [DatC δ] : DatC (P4 α β γ δ) := ⟨fun x => by show PyData.canLay0 (.tuple _) = true; rw [PyData.canLay0]; simp only [PyData.canLayAll0, DatC.can, Bool.and_true]⟩
end
section
variable {X : Cx} {Γ : List Ent} {e a b c : Expr} {es : List Expr} {pos : Pos} {α β γ δ : Type} [Enc α] [Enc β] [Enc γ] [Enc δ]
theorem shaped_of [Dat α] [DatC α] (x : α) (h : Dat.n α ≤ 64) : SeqAt.shaped (Dat.d x) = true := by
  have h2 := Dat.dep x
  unfold SeqAt.shaped
  rw [DatC.can x, decide_eq_true (by omega)]; rfl
theorem opx_eqD [Dat α] [DatC α] [DecidableEq α] {K : Fg} (h : Dat.n α ≤ 64) : OpX K (rEqD K) (fun (i j : α) => some (decide (i = j))) := fun H Z v w x y z zh r1 r2 hz Q q => by
  cases hz
  refine ⟨Dat.d x, Dat.d y, Dat.dp zh r1, Dat.dp zh r2, shaped_of x h, shaped_of y h, ?_⟩
  have e1 : PyData.eqv (Dat.d x) (Dat.d y) = decide (x = y) := by
    rw [Bool.eq_iff_iff, Dat.eq]; simp
  rw [e1]
  exact q H Z _ (Step.refl zh) rfl
theorem opx_neD [Dat α] [DatC α] [DecidableEq α] {K : Fg} (h : Dat.n α ≤ 64) : OpX K (rNeD K) (fun (i j : α) => some (!decide (i = j))) := fun H Z v w x y z zh r1 r2 hz Q q => by
  cases hz
  refine ⟨Dat.d x, Dat.d y, Dat.dp zh r1, Dat.dp zh r2, shaped_of x h, shaped_of y h, ?_⟩
  have e1 : PyData.eqv (Dat.d x) (Dat.d y) = decide (x = y) := by
    rw [Bool.eq_iff_iff, Dat.eq]; simp
  rw [e1]
  exact q H Z _ (Step.refl zh) rfl
variable [Dat α] [DatC α] [DecidableEq α] {m1 m2 : Option α}
theorem px_eq (hu : X.A.units + 64 < cLine) (ha : PX X a Γ m1) (hb : PX X b Γ m2) (h : Dat.n α ≤ 64 := by decide) : PX X (.Compare a [.Eq] [b] pos) Γ (oEq m1 m2) := px_cmp (op_eqD hu) (opx_eqD h) ha hb (nomark _)
theorem px_ne (hu : X.A.units + 64 < cLine) (ha : PX X a Γ m1) (hb : PX X b Γ m2) (h : Dat.n α ≤ 64 := by decide) : PX X (.Compare a [.NotEq] [b] pos) Γ (oNe m1 m2) := px_cmp (op_neD hu) (opx_neD h) ha hb (nomark _)
theorem ptx_eq (hu : X.A.units + 64 < cLine) (ha : PX X a Γ m1) (hb : PX X b Γ m2) (h : Dat.n α ≤ 64 := by decide) : PTX X (.Compare a [.Eq] [b] pos) Γ (oEq m1 m2) := ptx_cmp (op_eqD hu) (opx_eqD h) ha hb (nomark _)
theorem ptx_ne (hu : X.A.units + 64 < cLine) (ha : PX X a Γ m1) (hb : PX X b Γ m2) (h : Dat.n α ≤ 64 := by decide) : PTX X (.Compare a [.NotEq] [b] pos) Γ (oNe m1 m2) := ptx_cmp (op_neD hu) (opx_neD h) ha hb (nomark _)
end
section
variable {X : Cx} {Γ : List Ent} {e a b c : Expr} {es rest : List Expr} {pos p2 : Pos} {α β γ δ : Type} [Enc α] [Enc β] [Enc γ] [Enc δ] {mb mb' : Option Bool}
/-! ### truth -/
theorem ptx_val (ha : PX X a Γ mb) (he : ∀ whole, isTrue a X.env whole = (do let v ← whole; standAt a.pos; holding [v] (truthy v)) := by intro _; rfl) : PTX X a Γ mb :=
  ptx_of (pt_val pe_w he) fun F σ H Z en x hx Q q => ha.run F σ H Z en x hx _ fun H' Z' v s r => ⟨x, r, q H' Z' s⟩
theorem ptx_not (ha : PTX X a Γ mb) : PTX X (.UnaryOp .Not a pos) Γ (oNot mb) := ptx_of (pt_not pt_w) fun F σ H Z en x hx Q q => by
  obtain ⟨y, hy, hx⟩ := Option.bind_eq_some_iff.mp hx
  cases hx
  exact ha.run F σ H Z en y hy _ fun H' Z' s => q H' Z' s
theorem ptx_of_w (h : PWX X e Γ mb) : PTX X e Γ mb := ptx_of (PW.pt pw_w) fun F σ H Z en x hx Q q => h.run F σ H Z en x hx Q q
theorem pwx_of {t : TT} {m : Option Bool} (pe : PW X e t) (h : ∀ (F : Frame) (σ : St) (H Z : Hp), EnvOk X.K F σ H Z Γ → ∀ x, m = some x → ∀ Q : Bool → Hp → Prop, (∀ H' Z', Step H Z H' Z' → Q x H') → t σ H Q) : PWX X e Γ m :=
  .mk fun F σ H Z en x hx Q q wh pins s I => pe.run wh pins s σ H Q I (h F σ H Z en x hx Q q)
theorem pwx_and1 (ha : PTX X a Γ mb) : PWX X (.BoolOp .And [a] pos) Γ mb := pwx_of (pw_and1 pt_w) fun F σ H Z en x hx Q q => ha.run F σ H Z en x hx Q q
theorem pwx_or1 (ha : PTX X a Γ mb) : PWX X (.BoolOp .Or [a] pos) Γ mb := pwx_of (pw_or1 pt_w) fun F σ H Z en x hx Q q => ha.run F σ H Z en x hx Q q
theorem pwx_and (ha : PTX X a Γ mb) (hb : PWX X (.BoolOp .And (b :: rest) pos) Γ mb') : PWX X (.BoolOp .And (a :: b :: rest) pos) Γ (oAnd mb mb') := pwx_of (pw_and pt_w pw_w) fun F σ H Z en x hx Q q => by
  obtain ⟨y, hy, hx⟩ := Option.bind_eq_some_iff.mp hx
  refine ha.run F σ H Z en y hy _ fun H' Z' s => ?_
  cases y with
  | true => exact hb.run F σ H' Z' (en.step s) x hx Q fun H2 Z2 s2 => q H2 Z2 (s.trans s2)
  | false =>
    cases hx
    exact q H' Z' s
theorem pwx_or (ha : PTX X a Γ mb) (hb : PWX X (.BoolOp .Or (b :: rest) pos) Γ mb') : PWX X (.BoolOp .Or (a :: b :: rest) pos) Γ (oOr mb mb') := pwx_of (pw_or pt_w pw_w) fun F σ H Z en x hx Q q => by
  obtain ⟨y, hy, hx⟩ := Option.bind_eq_some_iff.mp hx
  refine ha.run F σ H Z en y hy _ fun H' Z' s => ?_
  cases y with
  | false => exact hb.run F σ H' Z' (en.step s) x hx Q fun H2 Z2 s2 => q H2 Z2 (s.trans s2)
  | true =>
    cases hx
    exact q H' Z' s
/-- as values -/
theorem px_one {op : BoolOp} {m : Option α} (ha : PX X a Γ m) : PX X (.BoolOp op [a] pos) Γ m := px_of (pe_one pe_w) fun F σ H Z en x hx Q q => ha.run F σ H Z en x hx Q q
theorem px_not (ha : PX X a Γ mb) : PX X (.UnaryOp .Not a pos) Γ (oNot mb) := px_of (pe_not pe_w) fun F σ H Z en x hx Q q => by
  obtain ⟨y, hy, hx⟩ := Option.bind_eq_some_iff.mp hx
  cases hx
  exact ha.run F σ H Z en y hy _ fun H' Z' v s r => ⟨y, r, q H' Z' _ s rfl⟩
theorem px_and (ha : PX X a Γ mb) (hb : PX X (.BoolOp .And (b :: rest) pos) Γ mb') : PX X (.BoolOp .And (a :: b :: rest) pos) Γ (oAnd mb mb') := px_of (pe_and pe_w pe_w) fun F σ H Z en x hx Q q => by
  obtain ⟨y, hy, hx⟩ := Option.bind_eq_some_iff.mp hx
  refine ha.run F σ H Z en y hy _ fun H' Z' v s r => ⟨y, r, ?_⟩
  cases y with
  | true => exact hb.run F σ H' Z' (en.step s) x hx Q fun H2 Z2 w s2 r2 => q H2 Z2 w (s.trans s2) r2
  | false =>
    cases hx
    exact q H' Z' _ s rfl
theorem px_or (ha : PX X a Γ mb) (hb : PX X (.BoolOp .Or (b :: rest) pos) Γ mb') : PX X (.BoolOp .Or (a :: b :: rest) pos) Γ (oOr mb mb') := px_of (pe_or pe_w pe_w) fun F σ H Z en x hx Q q => by
  obtain ⟨y, hy, hx⟩ := Option.bind_eq_some_iff.mp hx
  refine ha.run F σ H Z en y hy _ fun H' Z' v s r => ⟨y, r, ?_⟩
  cases y with
  | false => exact hb.run F σ H' Z' (en.step s) x hx Q fun H2 Z2 w s2 r2 => q H2 Z2 w (s.trans s2) r2
  | true =>
    cases hx
    exact q H' Z' _ s rfl
/-! ### argument lists, displays -/
theorem pax_nil : PAX X [] Γ (some ()) := .mk fun F σ H Z en x hx Q q pos pins s I => pa_nil.run pos pins s σ H Q I (q H Z [] (Step.refl en.zh) rfl)
theorem pax_cons {A : Type} [EncA A] {m : Option α} {ms : Option A} (ha : PX X e Γ m) (hr : PAX X es Γ ms) (hs : starEach (e :: es) X.env = (false, eval e X.env) :: starEach es X.env := by rfl) : PAX X (e :: es) Γ (oPair m ms) :=
  .mk fun F σ H Z en x hx Q q pos pins s I => (pa_cons pe_w pa_w hs).run pos pins s σ H Q I (by
    obtain ⟨y, hy, hx⟩ := Option.bind_eq_some_iff.mp hx
    obtain ⟨ys, hys, hx⟩ := Option.bind_eq_some_iff.mp hx
    cases hx
    refine ha.run F σ H Z en y hy _ fun H' Z' v s r => ?_
    refine hr.run F σ H' Z' (en.step s) ys hys _ fun H2 Z2 vs s2 r2 => ?_
    exact q H2 Z2 _ (s.trans s2) ⟨v, vs, rfl, Enc.mono s2.zz r, r2⟩)
theorem phx_nil : PHX X [] Γ (α := α) (some []) := .mk fun F σ H Z en x hx Q q pos pins s I => pa_nil.run pos pins s σ H Q I (by cases hx; exact q H Z [] (Step.refl en.zh) trivial)
theorem phx_cons {m : Option α} {ms : Option (List α)} (ha : PX X e Γ m) (hr : PHX X es Γ ms) (hs : starEach (e :: es) X.env = (false, eval e X.env) :: starEach es X.env := by rfl) : PHX X (e :: es) Γ (oCons m ms) :=
  .mk fun F σ H Z en x hx Q q pos pins s I => (pa_cons pe_w pa_w hs).run pos pins s σ H Q I (by
    obtain ⟨y, hy, hx⟩ := Option.bind_eq_some_iff.mp hx
    obtain ⟨ys, hys, hx⟩ := Option.bind_eq_some_iff.mp hx
    cases hx
    refine ha.run F σ H Z en y hy _ fun H' Z' v s r => ?_
    refine hr.run F σ H' Z' (en.step s) ys hys _ fun H2 Z2 vs s2 r2 => ?_
    exact q H2 Z2 _ (s.trans s2) ⟨Enc.mono s2.zz r, r2⟩)
/-- a written list: of so many items -/
def oShort {α : Type} (n : Nat) (m : Option (List α)) : Option (List α) := m.bind fun xs => if xs.length ≤ n then some xs else none
theorem pn_lst {m : Option (List α)} (h : PHX X es Γ m) (hz : ∀ xs, m = some xs → xs.length ≤ sizeLine) : PN X (.List es pos) Γ m := pn_of (pe_lst pa_w) fun F σ H Z en x hx Q q =>
  h.run F σ H Z en x hx _ fun H' Z' vs s r => ⟨by rw [r.len]; exact hz x hx, fun p hp => q H' Z' p vs s hp r⟩
theorem len_nil : ∀ xs : List α, some [] = some xs → xs.length ≤ 0 := fun xs h => by cases h; exact Nat.le_refl _
theorem len_cons {m : Option α} {ms : Option (List α)} {n : Nat} (h : ∀ xs, ms = some xs → xs.length ≤ n) : ∀ xs, oCons m ms = some xs → xs.length ≤ n + 1 := fun xs hx => by
  obtain ⟨y, hy, hx⟩ := Option.bind_eq_some_iff.mp hx
  obtain ⟨ys, hys, hx⟩ := Option.bind_eq_some_iff.mp hx
  cases hx
  exact Nat.succ_le_succ (h ys hys)
theorem len_line {m : Option (List α)} {n : Nat} (h : ∀ xs, m = some xs → xs.length ≤ n) (hn : n ≤ 1000 := by decide) : ∀ xs, m = some xs → xs.length ≤ sizeLine := fun xs hx => Nat.le_trans (h xs hx) (Nat.le_trans hn (by decide))
theorem px_p2 {ct} {m1 : Option α} {m2 : Option β} (ha : PX X a Γ m1) (hb : PX X b Γ m2) (h1 : starEach [a, b] X.env = (false, eval a X.env) :: starEach [b] X.env := by rfl) (h2 : starEach [b] X.env = (false, eval b X.env) :: starEach [] X.env := by rfl) :
    PX X (.Tuple [a, b] ct pos) Γ (oP2 m1 m2) := px_of (pe_tup (pa_cons pe_w (pa_cons pe_w pa_nil h2) h1)) fun F σ H Z en x hx Q q => by
  obtain ⟨y, hy, hx⟩ := Option.bind_eq_some_iff.mp hx
  obtain ⟨z, hz, hx⟩ := Option.bind_eq_some_iff.mp hx
  cases hx
  refine ha.run F σ H Z en y hy _ fun H1 Z1 v1 s1 r1 => hb.run F σ H1 Z1 (en.step s1) z hz _ fun H2 Z2 v2 s2 r2 => ⟨by show 2 ≤ sizeLine; decide, fun p hp => ?_⟩
  have s3 := Step.new (o := .tup [v1, v2]) s2.zh hp
  exact q _ _ _ ((s1.trans s2).trans s3) ⟨p, v1, v2, rfl, upd_same, Enc.mono (s2.zz.trans s3.zz) r1, Enc.mono s3.zz r2⟩
theorem px_p3 {ct} {m1 : Option α} {m2 : Option β} {m3 : Option γ} (ha : PX X a Γ m1) (hb : PX X b Γ m2) (hc : PX X c Γ m3) (h1 : starEach [a, b, c] X.env = (false, eval a X.env) :: starEach [b, c] X.env := by rfl)
    (h2 : starEach [b, c] X.env = (false, eval b X.env) :: starEach [c] X.env := by rfl) (h3 : starEach [c] X.env = (false, eval c X.env) :: starEach [] X.env := by rfl) : PX X (.Tuple [a, b, c] ct pos) Γ (oP3 m1 m2 m3) :=
  px_of (pe_tup (pa_cons pe_w (pa_cons pe_w (pa_cons pe_w pa_nil h3) h2) h1)) fun F σ H Z en x hx Q q => by
  obtain ⟨y, hy, hx⟩ := Option.bind_eq_some_iff.mp hx
  obtain ⟨z, hz, hx⟩ := Option.bind_eq_some_iff.mp hx
  obtain ⟨w, hw, hx⟩ := Option.bind_eq_some_iff.mp hx
  cases hx
  refine ha.run F σ H Z en y hy _ fun H1 Z1 v1 s1 r1 => hb.run F σ H1 Z1 (en.step s1) z hz _ fun H2 Z2 v2 s2 r2 => hc.run F σ H2 Z2 (en.step (s1.trans s2)) w hw _ fun H3 Z3 v3 s3 r3 => ⟨by show 3 ≤ sizeLine; decide, fun p hp => ?_⟩
  have s4 := Step.new (o := .tup [v1, v2, v3]) s3.zh hp
  exact q _ _ _ (((s1.trans s2).trans s3).trans s4) ⟨p, v1, v2, v3, rfl, upd_same, Enc.mono ((s2.zz.trans s3.zz).trans s4.zz) r1, Enc.mono (s3.zz.trans s4.zz) r2, Enc.mono s4.zz r3⟩
theorem px_p4 {d : Expr} {ct} {m1 : Option α} {m2 : Option β} {m3 : Option γ} {m4 : Option δ} (ha : PX X a Γ m1) (hb : PX X b Γ m2) (hc : PX X c Γ m3) (hd : PX X d Γ m4) (h1 : starEach [a, b, c, d] X.env = (false, eval a X.env) :: starEach [b, c, d] X.env := by rfl)
    (h2 : starEach [b, c, d] X.env = (false, eval b X.env) :: starEach [c, d] X.env := by rfl) (h3 : starEach [c, d] X.env = (false, eval c X.env) :: starEach [d] X.env := by rfl) (h4 : starEach [d] X.env = (false, eval d X.env) :: starEach [] X.env := by rfl) :
    PX X (.Tuple [a, b, c, d] ct pos) Γ (oP4 m1 m2 m3 m4) :=
  px_of (pe_tup (pa_cons pe_w (pa_cons pe_w (pa_cons pe_w (pa_cons pe_w pa_nil h4) h3) h2) h1)) fun F σ H Z en x hx Q q => by
  obtain ⟨y, hy, hx⟩ := Option.bind_eq_some_iff.mp hx
  obtain ⟨z, hz, hx⟩ := Option.bind_eq_some_iff.mp hx
  obtain ⟨w, hw, hx⟩ := Option.bind_eq_some_iff.mp hx
  obtain ⟨t, ht, hx⟩ := Option.bind_eq_some_iff.mp hx
  cases hx
  refine ha.run F σ H Z en y hy _ fun H1 Z1 v1 s1 r1 => hb.run F σ H1 Z1 (en.step s1) z hz _ fun H2 Z2 v2 s2 r2 => hc.run F σ H2 Z2 (en.step (s1.trans s2)) w hw _ fun H3 Z3 v3 s3 r3 => hd.run F σ H3 Z3 (en.step ((s1.trans s2).trans s3)) t ht _ fun H4 Z4 v4 s4 r4 => ⟨by show 4 ≤ sizeLine; decide, fun p hp => ?_⟩
  have s5 := Step.new (o := .tup [v1, v2, v3, v4]) s4.zh hp
  exact q _ _ _ ((((s1.trans s2).trans s3).trans s4).trans s5) ⟨p, v1, v2, v3, v4, rfl, upd_same, Enc.mono (((s2.zz.trans s3.zz).trans s4.zz).trans s5.zz) r1, Enc.mono ((s3.zz.trans s4.zz).trans s5.zz) r2, Enc.mono (s4.zz.trans s5.zz) r3, Enc.mono s5.zz r4⟩
end
end G
/-! GStm: targets, what is walked, blocks, loops, comprehensions, calls. -/
namespace G
open PySem L2
/-! ### targets -/
def wG (X : Cx) (tg : Expr) : TG := fun v σ H Q => ∀ (pins : List (Addr × Obj)) (s : Shared) (u : Value), Inv X pins σ H s → RelV v u → wpAny (model X.prog X.w) X.A (assign tg X.env u) (fun _ s' => ∃ σ' H', Inv X pins σ' H' s' ∧ Q σ' H') X.xe s
theorem pg_w {X : Cx} {tg : Expr} : PG X tg (wG X tg) := ⟨fun pins s _ _ _ u _ I r h => h pins s u I r⟩
/-- alike but at js -/
def Ag (js : List Nat) (σ σ' : St) : Prop := σ'.length = σ.length ∧ ∀ j, j ∉ js → σ'[j]? = σ[j]?
theorem Ag.trans {js ks : List Nat} {a b c : St} (h : Ag js a b) (k : Ag ks b c) : Ag (js ++ ks) a c := ⟨k.1.trans h.1, fun j hj => by
  rw [List.mem_append] at hj
  exact (k.2 j fun z => hj (.inr z)).trans (h.2 j fun z => hj (.inl z))⟩
/-- the target tg, given x, turns what is known, Γ, into T x Γ, by the slots js -/
structure PGX (X : Cx) (tg : Expr) (js : List Nat) {α : Type} [Enc α] (T : α → List Ent → List Ent) : Prop where
  run : ∀ (F : Frame) (σ : St) (H Z : Hp) (Γ : List Ent) (v : V) (x : α), EnvOk X.K F σ H Z Γ → Enc.rel X.K Z v x → ∀ Q : St → Hp → Prop, (∀ σ', EnvOk X.K F σ' H Z (T x Γ) → Ag js σ σ' → Q σ' H) → wG X tg v σ H Q
section
variable {X : Cx} {pos : Pos} {α β γ δ : Type} [Enc α] [Enc β] [Enc γ] [Enc δ] {a b c d : Expr}
theorem pgx_of {t : TG} {js : List Nat} {T : α → List Ent → List Ent} {tg : Expr} (pg : PG X tg t) (h : ∀ (F : Frame) (σ : St) (H Z : Hp) (Γ : List Ent) (v : V) (x : α), EnvOk X.K F σ H Z Γ → Enc.rel X.K Z v x → ∀ Q : St → Hp → Prop, (∀ σ', EnvOk X.K F σ' H Z (T x Γ) → Ag js σ σ' → Q σ' H) → t v σ H Q) : PGX X tg js T :=
  .mk fun F σ H Z Γ v x en r Q q pins s u I ru => pg.run pins s σ H v u Q I ru (h F σ H Z Γ v x en r Q q)
theorem pgx_name (i : Nat) {nm : Str} (hN : X.N.Nodup) (hi : X.N[i]? = some nm := by rfl) (hx : Loc X.env.scope nm := by first | exact Or.inl rfl | exact Or.inr rfl) (hf : X.fn nm = true ∨ X.env.scope.names.lookup nm = some .local := by first | exact .inl rfl | exact .inr rfl) :
    PGX X (.Name nm pos) [i] (fun (x : α) Γ => Γ.set i (.fz x)) := pgx_of (pg_name hN hi hx hf) fun F σ H Z Γ v x en r Q q => q _ (en.set_fz i r) ⟨List.length_set, fun j hj => List.getElem?_set_ne (by simp at hj; omega)⟩
theorem pgx_p2 {k : Nat} {ja jb : List Nat} {Ta : α → List Ent → List Ent} {Tb : β → List Ent → List Ent} (hc : X.calm = true) (ha : PGX X a ja Ta) (hb : PGX X b jb Tb) (hn : (assignEach [a, b] X.env).length = 2 := by rfl) (hst : (assignEach [a, b] X.env).findIdx? (·.1) = none := by rfl)
    (h1 : (assignEach [a, b] X.env).map (·.2) = assign a X.env :: (assignEach [b] X.env).map (·.2) := by rfl) (h2 : (assignEach [b] X.env).map (·.2) = assign b X.env :: (assignEach [] X.env).map (·.2) := by rfl) :
    PGX X (.Tuple [a, b] k pos) (ja ++ jb) (fun (x : P2 α β) Γ => Tb x.b (Ta x.a Γ)) := pgx_of (pg_tup hc (pgs_cons pg_w (pgs_cons pg_w pgs_nil h2) h1) hn hst) fun F σ H Z Γ v x en r Q q => by
  obtain ⟨p, v1, v2, e, h, r1, r2⟩ := r
  refine ⟨p, [v1, v2], e, SqT.of (en.zh _ _ h), rfl, v1, [v2], rfl, ?_⟩
  refine ha.run F σ H Z Γ v1 x.a en r1 _ fun σ1 en1 g1 => ⟨v2, [], rfl, ?_⟩
  exact hb.run F σ1 H Z _ v2 x.b en1 r2 _ fun σ2 en2 g2 => ⟨rfl, q σ2 en2 (g1.trans g2)⟩
theorem pgx_p3 {k : Nat} {ja jb jc : List Nat} {Ta : α → List Ent → List Ent} {Tb : β → List Ent → List Ent} {Tc : γ → List Ent → List Ent} (hc : X.calm = true) (ha : PGX X a ja Ta) (hb : PGX X b jb Tb) (hcc : PGX X c jc Tc) (hn : (assignEach [a, b, c] X.env).length = 3 := by rfl)
    (hst : (assignEach [a, b, c] X.env).findIdx? (·.1) = none := by rfl) (h1 : (assignEach [a, b, c] X.env).map (·.2) = assign a X.env :: (assignEach [b, c] X.env).map (·.2) := by rfl)
    (h2 : (assignEach [b, c] X.env).map (·.2) = assign b X.env :: (assignEach [c] X.env).map (·.2) := by rfl) (h3 : (assignEach [c] X.env).map (·.2) = assign c X.env :: (assignEach [] X.env).map (·.2) := by rfl) :
    PGX X (.Tuple [a, b, c] k pos) (ja ++ (jb ++ jc)) (fun (x : P3 α β γ) Γ => Tc x.c (Tb x.b (Ta x.a Γ))) := pgx_of (pg_tup hc (pgs_cons pg_w (pgs_cons pg_w (pgs_cons pg_w pgs_nil h3) h2) h1) hn hst) fun F σ H Z Γ v x en r Q q => by
  obtain ⟨p, v1, v2, v3, e, h, r1, r2, r3⟩ := r
  refine ⟨p, [v1, v2, v3], e, SqT.of (en.zh _ _ h), rfl, v1, [v2, v3], rfl, ?_⟩
  refine ha.run F σ H Z Γ v1 x.a en r1 _ fun σ1 en1 g1 => ⟨v2, [v3], rfl, ?_⟩
  refine hb.run F σ1 H Z _ v2 x.b en1 r2 _ fun σ2 en2 g2 => ⟨v3, [], rfl, ?_⟩
  exact hcc.run F σ2 H Z _ v3 x.c en2 r3 _ fun σ3 en3 g3 => ⟨rfl, q σ3 en3 (g1.trans (g2.trans g3))⟩
theorem pgx_p4 {k : Nat} {ja jb jc jd : List Nat} {Ta : α → List Ent → List Ent} {Tb : β → List Ent → List Ent} {Tc : γ → List Ent → List Ent} {Td : δ → List Ent → List Ent} (hc : X.calm = true) (ha : PGX X a ja Ta) (hb : PGX X b jb Tb) (hcc : PGX X c jc Tc) (hd : PGX X d jd Td)
    (hn : (assignEach [a, b, c, d] X.env).length = 4 := by rfl) (hst : (assignEach [a, b, c, d] X.env).findIdx? (·.1) = none := by rfl) (h1 : (assignEach [a, b, c, d] X.env).map (·.2) = assign a X.env :: (assignEach [b, c, d] X.env).map (·.2) := by rfl)
    (h2 : (assignEach [b, c, d] X.env).map (·.2) = assign b X.env :: (assignEach [c, d] X.env).map (·.2) := by rfl) (h3 : (assignEach [c, d] X.env).map (·.2) = assign c X.env :: (assignEach [d] X.env).map (·.2) := by rfl)
    (h4 : (assignEach [d] X.env).map (·.2) = assign d X.env :: (assignEach [] X.env).map (·.2) := by rfl) :
    PGX X (.Tuple [a, b, c, d] k pos) (ja ++ (jb ++ (jc ++ jd))) (fun (x : P4 α β γ δ) Γ => Td x.d (Tc x.c (Tb x.b (Ta x.a Γ)))) := pgx_of (pg_tup hc (pgs_cons pg_w (pgs_cons pg_w (pgs_cons pg_w (pgs_cons pg_w pgs_nil h4) h3) h2) h1) hn hst) fun F σ H Z Γ v x en r Q q => by
  obtain ⟨p, v1, v2, v3, v4, e, h, r1, r2, r3, r4⟩ := r
  refine ⟨p, [v1, v2, v3, v4], e, SqT.of (en.zh _ _ h), rfl, v1, [v2, v3, v4], rfl, ?_⟩
  refine ha.run F σ H Z Γ v1 x.a en r1 _ fun σ1 en1 g1 => ⟨v2, [v3, v4], rfl, ?_⟩
  refine hb.run F σ1 H Z _ v2 x.b en1 r2 _ fun σ2 en2 g2 => ⟨v3, [v4], rfl, ?_⟩
  refine hcc.run F σ2 H Z _ v3 x.c en2 r3 _ fun σ3 en3 g3 => ⟨v4, [], rfl, ?_⟩
  exact hd.run F σ3 H Z _ v4 x.d en3 r4 _ fun σ4 en4 g4 => ⟨rfl, q σ4 en4 (g1.trans (g2.trans (g3.trans g4)))⟩
end
/-! ### what is walked -/
/-- J gives xs, one by one, as long as P holds of the heap and its still part -/
def Src {ι : Type} [Enc ι] (K : Fg) (J : It) (P : Hp → Hp → Prop) (xs : List ι) : Prop :=
  ∀ (H Z : Hp), P H Z → Same Z H → ∀ i, (i < xs.length → J.go i H) ∧ (xs.length ≤ i → J.stop i H) ∧ ∀ v H' x, J.yld i H v H' → xs[i]? = some x → ∃ Z', Step H Z H' Z' ∧ Enc.rel K Z' v x
def wI (X : Cx) (tg iter : Expr) : TI := fun σ H R => ∀ (pins : List (Addr × Obj)) (s : Shared), Inv X pins σ H s → wpAny (model X.prog X.w) X.A (eval iter X.env) (fun v s1 => wpAny (model X.prog X.w) X.A (pyIter v) (PIE X pins σ tg R) X.xe s1) X.xe s
theorem pi_w {X : Cx} {tg iter : Expr} : PI X tg iter (wI X tg iter) := ⟨fun pins s _ _ _ I h => h pins s I⟩
/-- for a loop: the source is still -/
structure PIF (X : Cx) (tg iter : Expr) (Γ : List Ent) {ι : Type} [Enc ι] (m : Option (List ι)) : Prop where
  run : ∀ (F : Frame) (σ : St) (H Z : Hp), EnvOk X.K F σ H Z Γ → ∀ xs, m = some xs → ∀ R : It → Hp → Prop, (∀ J H1 Z1, Step H Z H1 Z1 → Src X.K J (fun _ Z => Same Z1 Z) xs → R J H1) → wI X tg iter σ H R
/-- for a comprehension: the heap grows alone -/
structure PIC (X : Cx) (tg iter : Expr) (Γ : List Ent) {ι : Type} [Enc ι] (m : Option (List ι)) : Prop where
  run : ∀ (F : Frame) (σ : St) (H Z : Hp), EnvOk X.K F σ H Z Γ → ∀ xs, m = some xs → ∀ R : It → Hp → Prop, (∀ J H1 Z1, Step H Z H1 Z1 → Src X.K J (fun H Z => Same H1 H ∧ Same Z1 Z) xs → R J H1) → wI X tg iter σ H R
section
variable {X : Cx} {pos p : Pos} {tg e e2 iter : Expr} {Γ : List Ent} {α β ι : Type} [Enc α] [Enc β] [Enc ι]
theorem pic_of {m : Option (List ι)} (h : PIF X tg iter Γ m) : PIC X tg iter Γ m := .mk fun F σ H Z en xs hx R q => h.run F σ H Z en xs hx R fun J H1 Z1 s src => q J H1 Z1 s fun H Z p zh i => src H Z p.2 zh i
theorem pif_of {t : TI} {m : Option (List ι)} (pi : PI X tg iter t) (h : ∀ (F : Frame) (σ : St) (H Z : Hp), EnvOk X.K F σ H Z Γ → ∀ xs, m = some xs → ∀ R : It → Hp → Prop, (∀ J H1 Z1, Step H Z H1 Z1 → Src X.K J (fun _ Z => Same Z1 Z) xs → R J H1) → t σ H R) : PIF X tg iter Γ m :=
  .mk fun F σ H Z en xs hx R q pins s I => pi.run pins s σ H R I (h F σ H Z en xs hx R q)
theorem pic_of' {t : TI} {m : Option (List ι)} (pi : PI X tg iter t) (h : ∀ (F : Frame) (σ : St) (H Z : Hp), EnvOk X.K F σ H Z Γ → ∀ xs, m = some xs → ∀ R : It → Hp → Prop, (∀ J H1 Z1, Step H Z H1 Z1 → Src X.K J (fun H Z => Same H1 H ∧ Same Z1 Z) xs → R J H1) → t σ H R) : PIC X tg iter Γ m :=
  .mk fun F σ H Z en xs hx R q pins s I => pi.run pins s σ H R I (h F σ H Z en xs hx R q)
/-- at l a list of xs is to be read, as long as P holds -/
def LstAt (K : Fg) (P : Hp → Hp → Prop) (l : Addr) (xs : List α) : Prop := ∀ (H Z : Hp), P H Z → Same Z H → ∃ vs, H l = some (.lst vs) ∧ All2 (Enc.rel K Z) vs xs
theorem src_list {K : Fg} {P : Hp → Hp → Prop} {l : Addr} {xs : List α} (h : LstAt K P l xs) : Src K (Itl K l) P xs := fun H Z hp zh i => by
  obtain ⟨vs, hl, r⟩ := h H Z hp zh
  have e := r.len
  refine ⟨fun hi => ⟨vs, vs[i]'(by omega), SqL.of hl, by simp⟩, fun hi => ⟨vs, SqL.of hl, by omega⟩, fun v H' x y hx => ?_⟩
  obtain ⟨rfl, y⟩ := y
  obtain ⟨v', h1, r1⟩ := r.get' hx
  have h2 := y vs (SqL.of hl)
  rw [h1] at h2
  cases h2
  exact ⟨Z, Step.refl zh, r1⟩
theorem lstAt_still {K : Fg} {Z1 : Hp} {l : Addr} {vs : List V} {xs : List α} (h : Z1 l = some (.lst vs)) (r : All2 (Enc.rel K Z1) vs xs) : LstAt K (fun _ Z => Same Z1 Z) l xs := fun H Z hp zh => ⟨vs, zh _ _ (hp _ _ h), all2_mono hp r⟩
theorem lstAt_grow {K : Fg} {H1 Z1 : Hp} {l : Addr} {vs : List V} {xs : List α} (h : H1 l = some (.lst vs)) (r : All2 (Enc.rel K Z1) vs xs) : LstAt K (fun H Z => Same H1 H ∧ Same Z1 Z) l xs := fun H Z hp zh => ⟨vs, hp.1 _ _ h, all2_mono hp.2 r⟩
theorem pif_list {m : Option (List α)} (h : PX X iter Γ m) : PIF X tg iter Γ m := pif_of (pi_list pe_w) fun F σ H Z en xs hx R q => h.run F σ H Z en xs hx _ fun H1 Z1 v s ⟨l, _, e, hl, vs, eo, r⟩ => by
  subst e eo
  exact ⟨l, rfl, ⟨vs, SqL.of (s.zh _ _ hl)⟩, q _ H1 Z1 s (src_list (lstAt_still hl r))⟩
theorem pic_list {m : Option (List α)} (h : PL X iter Γ m) : PIC X tg iter Γ m := pic_of' (pi_list pe_w) fun F σ H Z en xs hx R q => h.run F σ H Z en xs hx _ fun H1 Z1 l vs s hl r =>
  ⟨l, rfl, ⟨vs, SqL.of hl⟩, q _ H1 Z1 s (src_list (lstAt_grow hl r))⟩
/-- the script -/
theorem pif_scr {m : Option Scr} (h : PX X iter Γ m) : PIF X tg iter Γ (m.map Scr.xs) := pif_of (pi_list pe_w) fun F σ H Z en xs hx R q => by
  obtain ⟨y, hy, rfl⟩ := Option.map_eq_some_iff.mp hx
  refine h.run F σ H Z en y hy _ fun H1 Z1 v s ⟨l, e, hl⟩ => ?_
  subst e
  refine ⟨l, rfl, ⟨_, s.zh.seq hl⟩, q _ H1 Z1 s fun H2 Z2 hp zh i => ?_⟩
  have h2 := zh.seq (hp.seq hl)
  refine ⟨fun hi => ⟨_, V.int (y.xs[i]), h2, by simp [hi]⟩, fun hi => ⟨_, h2, by rw [List.length_map]; exact hi⟩, fun v H' x yl hx => ?_⟩
  obtain ⟨rfl, yl⟩ := yl
  have h3 := yl _ h2
  rw [List.getElem?_map, hx] at h3
  cases h3
  exact ⟨Z2, Step.refl zh, rfl⟩
/-! ranges -/
def rangeL (lo : Int) (n : Nat) : List Int := (List.range n).map fun (i : Nat) => lo + (i : Int)
def oRng1 (m : Option Int) : Option (List Int) := m.bind fun n => if -(2 ^ 62) ≤ n ∧ n < 2 ^ 62 then some (rangeL 0 n.toNat) else none
def oRng2 (m1 m2 : Option Int) : Option (List Int) := o2 m1 m2 fun i j => if (-(2 ^ 62) ≤ i ∧ i < 2 ^ 62) ∧ -(2 ^ 62) ≤ j ∧ j < 2 ^ 62 then some (rangeL i (j - i).toNat) else none
theorem rangeL_get {lo : Int} {n i : Nat} {x : Int} (h : (rangeL lo n)[i]? = some x) : x = lo + (i : Int) := by
  unfold rangeL at h
  rw [List.getElem?_map] at h
  cases e : (List.range n)[i]? with
  | none => rw [e] at h; cases h
  | some y =>
    rw [e] at h
    have := List.getElem?_eq_some_iff.mp e
    obtain ⟨h1, h2⟩ := this
    rw [List.getElem_range] at h2
    cases h
    rw [h2]
theorem src_range {K : Fg} {P : Hp → Hp → Prop} {lo : Int} {n : Nat} : Src K (Itr lo n) P (rangeL lo n) := fun H Z hp zh i => by
  have e : (rangeL lo n).length = n := by unfold rangeL; simp
  refine ⟨fun hi => by show i < n; omega, fun hi => by show n ≤ i; omega, fun v H' x y hx => ?_⟩
  obtain ⟨rfl, rfl⟩ := y
  exact ⟨Z, Step.refl zh, by rw [rangeL_get hx]; rfl⟩
theorem pif_range1 {a : Expr} {m : Option Int} (hm : X.mg "range" = none) (ha : PX X a Γ m) (hg : Gl X "range" := by rfl) (hs : starEach [a] X.env = [(false, eval a X.env)] := by rfl) : PIF X tg (.Call (.Name "range" p) [a] [] pos) Γ (oRng1 m) :=
  pif_of (pi_range1 hg hm (pa_cons pe_w pa_nil (by rw [hs]; rfl)) hs) fun F σ H Z en xs hx R q => by
    obtain ⟨n, hn, hx⟩ := Option.bind_eq_some_iff.mp hx
    refine ha.run F σ H Z en n hn _ fun H1 Z1 v s r => ?_
    cases r
    by_cases c : -(2 ^ 62) ≤ n ∧ n < 2 ^ 62
    · rw [if_pos c] at hx
      cases hx
      exact ⟨n, rfl, c.1, c.2, q _ H1 Z1 s src_range⟩
    · rw [if_neg c] at hx
      cases hx
theorem pif_range2 {a b : Expr} {m1 m2 : Option Int} (hm : X.mg "range" = none) (ha : PX X a Γ m1) (hb : PX X b Γ m2) (hg : Gl X "range" := by rfl) (hs : starEach [a, b] X.env = [(false, eval a X.env), (false, eval b X.env)] := by rfl)
    (hs2 : starEach [b] X.env = [(false, eval b X.env)] := by rfl) : PIF X tg (.Call (.Name "range" p) [a, b] [] pos) Γ (oRng2 m1 m2) :=
  pif_of (pi_range2 hg hm (pa_cons pe_w (pa_cons pe_w pa_nil (by rw [hs2]; rfl)) (by rw [hs, hs2])) hs hs2) fun F σ H Z en xs hx R q => by
    obtain ⟨i, hi, hx⟩ := Option.bind_eq_some_iff.mp hx
    obtain ⟨j, hj, hx⟩ := Option.bind_eq_some_iff.mp hx
    refine ha.run F σ H Z en i hi _ fun H1 Z1 v s r => hb.run F σ H1 Z1 (en.step s) j hj _ fun H2 Z2 w s2 r2 => ?_
    cases r
    cases r2
    dsimp only at hx
    by_cases c : (-(2 ^ 62) ≤ i ∧ i < 2 ^ 62) ∧ -(2 ^ 62) ≤ j ∧ j < 2 ^ 62
    · rw [if_pos c] at hx
      cases hx
      exact ⟨i, j, rfl, ⟨c.1.1, c.1.2, c.2.1, c.2.2⟩, q _ H2 Z2 (s.trans s2) src_range⟩
    · rw [if_neg c] at hx
      cases hx
/-! enumerate -/
def enumL {α : Type} (n : Nat) : List α → List (P2 Int α)
  | [] => []
  | x :: xs => ⟨(n : Int), x⟩ :: enumL (n + 1) xs
theorem enumL_len {α : Type} : ∀ (n : Nat) (xs : List α), (enumL n xs).length = xs.length
  | _, [] => rfl
  | n, _ :: xs => congrArg (· + 1) (enumL_len (n + 1) xs)
theorem enumL_get {α : Type} : ∀ (n : Nat) (xs : List α) (i : Nat) (y : P2 Int α), (enumL n xs)[i]? = some y → ∃ x, xs[i]? = some x ∧ y = ⟨((n + i : Nat) : Int), x⟩
  | _, [], _, _, h => by simp [enumL] at h
  | n, x :: xs, 0, y, h => ⟨x, rfl, by simp [enumL] at h; exact h.symm⟩
  | n, x :: xs, i + 1, y, h => by
    obtain ⟨z, h1, h2⟩ := enumL_get (n + 1) xs i y h
    exact ⟨z, h1, by rw [h2, Nat.add_right_comm n 1 i, Nat.add_assoc n i 1]⟩
def oEnum {α : Type} (m : Option (List α)) : Option (List (P2 Int α)) := m.map (enumL 0)
theorem src_enum {K : Fg} {P : Hp → Hp → Prop} {l : Addr} {xs : List α} (h : LstAt K P l xs) : Src K (Ite K l) P (enumL 0 xs) := fun H Z hp zh i => by
  obtain ⟨vs, hl, r⟩ := h H Z hp zh
  have e := r.len
  have e2 := enumL_len 0 xs
  refine ⟨fun hi => ⟨vs, vs[i]'(by omega), SqL.of hl, by simp⟩, fun hi => ⟨vs, SqL.of hl, by omega⟩, fun v H' x y hx => ?_⟩
  obtain ⟨T, x1, rfl, hT, rfl, y⟩ := y
  obtain ⟨x2, h1, rfl⟩ := enumL_get 0 xs i x hx
  obtain ⟨v', h3, r1⟩ := r.get' h1
  have h2 := y vs (SqL.of hl)
  rw [h3] at h2
  obtain rfl : v' = x1 := Option.some.inj h2
  have st := Step.new (o := .tup [.int (i : Nat), v']) zh hT
  exact ⟨_, st, T, _, _, rfl, upd_same, by show V.int _ = V.int _; rw [Nat.zero_add], Enc.mono st.zz r1⟩
theorem pif_enum {a : Expr} {elts : List Expr} {kk : Nat} {tpos : Pos} {m : Option (List α)} (hm : X.mg "enumerate" = none) (ha : PX X a Γ m) (hg : Gl X "enumerate" := by rfl) (hs : starEach [a] X.env = [(false, eval a X.env)] := by rfl) :
    PIF X (.Tuple elts kk tpos) (.Call (.Name "enumerate" p) [a] [] pos) Γ (oEnum m) := pif_of (pi_enum hg hm (pa_cons pe_w pa_nil (by rw [hs]; rfl)) hs) fun F σ H Z en xs hx R q => by
    obtain ⟨ys, hy, rfl⟩ := Option.map_eq_some_iff.mp hx
    refine ha.run F σ H Z en ys hy _ fun H1 Z1 v s ⟨l, _, e, hl, vs, eo, r⟩ => ?_
    subst e eo
    exact ⟨l, vs, rfl, SqL.of (s.zh _ _ hl), q _ H1 Z1 s (src_enum (lstAt_still hl r))⟩
theorem pic_enum {a : Expr} {elts : List Expr} {kk : Nat} {tpos : Pos} {m : Option (List α)} (hm : X.mg "enumerate" = none) (ha : PL X a Γ m) (hg : Gl X "enumerate" := by rfl) (hs : starEach [a] X.env = [(false, eval a X.env)] := by rfl) :
    PIC X (.Tuple elts kk tpos) (.Call (.Name "enumerate" p) [a] [] pos) Γ (oEnum m) := pic_of' (pi_enum hg hm (pa_cons pe_w pa_nil (by rw [hs]; rfl)) hs) fun F σ H Z en xs hx R q => by
    obtain ⟨ys, hy, rfl⟩ := Option.map_eq_some_iff.mp hx
    refine ha.run F σ H Z en ys hy _ fun H1 Z1 l vs s hl r => ?_
    exact ⟨l, vs, rfl, SqL.of hl, q _ H1 Z1 s (src_enum (lstAt_grow hl r))⟩
/-! reversed -/
theorem src_rev {K : Fg} {P : Hp → Hp → Prop} {l : Addr} {xs : List α} (h : LstAt K P l xs) : Src K (Itv K l xs.length) P xs.reverse := fun H Z hp zh i => by
  obtain ⟨vs, hl, r⟩ := h H Z hp zh
  have e := r.len
  refine ⟨fun hi => ?_, fun hi => by rw [List.length_reverse] at hi; exact hi, fun v H' x y hx => ?_⟩
  · rw [List.length_reverse] at hi
    exact ⟨hi, vs, vs[xs.length - 1 - i]'(by omega), SqL.of hl, by simp⟩
  · obtain ⟨rfl, y⟩ := y
    have hi : i < xs.length := by
      have := (List.getElem?_eq_some_iff.mp hx).1
      rw [List.length_reverse] at this; exact this
    rw [List.getElem?_reverse hi] at hx
    obtain ⟨v', h1, r1⟩ := r.get' hx
    have h2 := y vs (SqL.of hl)
    rw [h1] at h2
    cases h2
    exact ⟨Z, Step.refl zh, r1⟩
theorem pif_rev {a : Expr} {m : Option (List α)} (hm : X.mg "reversed" = none) (ha : PX X a Γ m) (hg : Gl X "reversed" := by rfl) (hs : starEach [a] X.env = [(false, eval a X.env)] := by rfl) :
    PIF X tg (.Call (.Name "reversed" p) [a] [] pos) Γ (m.map List.reverse) := pif_of (pi_reversed hg hm (pa_cons pe_w pa_nil (by rw [hs]; rfl)) hs) fun F σ H Z en xs hx R q => by
    obtain ⟨ys, hy, rfl⟩ := Option.map_eq_some_iff.mp hx
    refine ha.run F σ H Z en ys hy _ fun H1 Z1 v s ⟨l, _, e, hl, vs, eo, r⟩ => ?_
    subst e eo
    refine ⟨l, vs, rfl, SqL.of (s.zh _ _ hl), ?_⟩
    rw [r.len]
    exact q _ H1 Z1 s (src_rev (lstAt_still hl r))
end
end G
/-! GBlk: blocks and loops. -/
namespace G
open PySem L2
/-! ### how a block ends: on to what follows, break, continue, return, raise -/
inductive Fl (N L R : Type) where
  | nx (n : N)
  | br (l : L)
  | ct (l : L)
  | rt (r : R)
  | xc (c : Nat) (f : Option Int)
def thenFl {N J L R : Type} (m : Option (Fl J L R)) (k : J → Option (Fl N L R)) : Option (Fl N L R) :=
  match m with
  | none => none
  | some (.nx j) => k j
  | some (.br l) => some (.br l)
  | some (.ct l) => some (.ct l)
  | some (.rt r) => some (.rt r)
  | some (.xc c f) => some (.xc c f)
def forM {ι S L R : Type} : List ι → (S → ι → Option (Fl S S R)) → S → Option (Fl S L R)
  | [], _, s => some (.nx s)
  | x :: xs, f, s => match f s x with
    | none => none
    | some (.nx s') => forM xs f s'
    | some (.ct s') => forM xs f s'
    | some (.br s') => some (.nx s')
    | some (.rt r) => some (.rt r)
    | some (.xc c e) => some (.xc c e)
def whileM {S L R : Type} : Nat → (S → Option Bool) → (S → Option (Fl S S R)) → S → Option (Fl S L R)
  | 0, _, _, _ => none
  | n + 1, c, f, s => match c s with
    | none => none
    | some false => some (.nx s)
    | some true => match f s with
      | none => none
      | some (.nx s') => whileM n c f s'
      | some (.ct s') => whileM n c f s'
      | some (.br s') => some (.nx s')
      | some (.rt r) => some (.rt r)
      | some (.xc c e) => some (.xc c e)
def wS (X : Cx) (sts : List Stmt) : TS := fun D σ H => ∀ (pins : List (Addr × Obj)) (s : Shared), Inv X pins σ H s → wpAny (model X.prog X.w) X.A (execs sts X.env) (SP X pins D) X.xe s
theorem ps_w {X : Cx} {sts : List Stmt} : PSs X sts (wS X sts) := ⟨fun pins s _ _ _ I h => h pins s I⟩
/-- what is handed back: a still value; what the caller then owns -/
class Res (R : Type) where
  res : Fg → Frame → Hp → Hp → V → R → Prop
  back : ∀ {K : Fg} {F : Frame} {Zm H Z : Hp} {v : V} {r : R}, Same F.Z0 Zm → (∀ a o, F.H0 a = some o → Zm a = F.Z0 a) → res K ⟨F.H0, Zm, F.bs⟩ H Z v r → res K F H Z v r
theorem Step.backF {F : Frame} {Zm H Z : Hp} (h1 : Same F.Z0 Zm) (h2 : ∀ a o, F.H0 a = some o → Zm a = F.Z0 a) (s : Step F.H0 Zm H Z) : Step F.H0 F.Z0 H Z := ⟨s.hh, h1.trans s.zz, s.zh, fun a o h => (s.old a o h).trans (h2 a o h)⟩
instance {R : Type} [Enc R] : Res R := ⟨fun K F H Z v r => Step F.H0 F.Z0 H Z ∧ Enc.rel K Z v r, fun h1 h2 ⟨s, r⟩ => ⟨s.backF h1 h2, r⟩⟩
/-- new, and the caller's own from here on -/
structure Nw (C : Type) where
  val : C
instance {C : Type} [Enc C] [Own C] : Res (Nw C) := ⟨fun K F H Z v r => ∃ fp, Step F.H0 F.Z0 H Z ∧ Own.own K Z H v r.val fp ∧ ∀ a, fp a → F.H0 a = none ∧ Z a = none, fun h1 h2 ⟨fp, s, r⟩ => ⟨fp, s.backF h1 h2, r⟩⟩
/-- how an exception lies: c tells its class and its field -/
abbrev ExR := Nat → Option Int → Hp → Value → Option Addr → Prop
/-- .. and what is known of the names where it is raised -/
structure ExS where
  er : ExR
  gx : List Ent
/-- the ends D serve the end o -/
def Acc (X : Cx) (W : WX) (ER : ExS) (F : Frame) {N L R : Type} [Res R] (GN : N → List Ent) (GL : L → List Ent) (o : Fl N L R) (D : Ends) : Prop :=
  match o with
  | .nx n => ∀ σ H Z, EnvOk X.K F σ H Z (GN n) → D.nx σ H
  | .br l => ∀ σ H Z, EnvOk X.K F σ H Z (GL l) → D.bk σ H
  | .ct l => ∀ σ H Z, EnvOk X.K F σ H Z (GL l) → D.ct σ H
  | .rt r => ∀ H Z v, Res.res X.K F H Z v r → D.rt v H
  | .xc c f => ∀ σ H Z cls d, EnvOk X.K F σ H Z ER.gx → ER.er c f Z cls d → W cls d σ H
structure BX (X : Cx) (W : WX) (ER : ExS) (sts : List Stmt) (Γ : List Ent) {N L R : Type} [Res R] (GN : N → List Ent) (GL : L → List Ent) (o : Fl N L R) : Prop where
  run : ∀ (F : Frame) (D : Ends), Acc X W ER F GN GL o D → ∀ σ H Z, EnvOk X.K F σ H Z Γ → wS X sts D σ H
section
variable {X : Cx} {W : WX} {ER : ExS} {st : Stmt} {sts rest body : List Stmt} {e a b c tg iter : Expr} {pos pos' : Pos} {Γ Γ' : List Ent} {N J L R S : Type} [Res R] {GN : N → List Ent} {GJ : J → List Ent} {GL : L → List Ent} {GS : S → List Ent} {o : Fl N L R}
  {α β ι : Type} [Enc α] [Enc β] [Enc ι]
theorem bx_cons {t : TS} (ps : PS X st t) (h : ∀ (F : Frame) (D : Ends), Acc X W ER F GN GL o D → ∀ σ H Z, EnvOk X.K F σ H Z Γ → t { D with nx := wS X rest D } σ H) : BX X W ER (st :: rest) Γ GN GL o :=
  .mk fun F D ac σ H Z en pins s I => (pss_cons ps ps_w).run pins s σ H D I (h F D ac σ H Z en)
theorem bx_wk (w : Wk Γ Γ') (h : BX X W ER sts Γ' GN GL o) : BX X W ER sts Γ GN GL o := .mk fun F D ac σ H Z en => h.run F D ac σ H Z (en.wk w)
/-- from here on a list of the def's own stays as it is -/
theorem bx_freeze (i : Nat) {C : Type} [Enc C] [Own C] {bv : Option Nat} {c : C} (h : BX X W ER sts (Γ.set i (.fz c)) GN GL o) (hi : Γ[i]? = some (.ow bv c) := by rfl) : BX X W ER sts Γ GN GL o := .mk fun F D ac σ H Z en => by
  obtain ⟨Z', _, en'⟩ := en.freezeO hi
  exact h.run F D ac σ H Z' en'
theorem bx_nil {n : N} {o : Fl N L R} (h : some (.nx n) = some o) (w : Wk Γ (GN n)) : BX X W ER [] Γ GN GL o := by
  cases h
  exact .mk fun F D ac σ H Z en pins s I => pss_nil.run pins s σ H D I (ac σ H Z (en.wk w))
theorem bx_pass (h : BX X W ER rest Γ GN GL o) : BX X W ER (.Pass pos :: rest) Γ GN GL o := bx_cons ps_pass fun F D ac σ H Z en => h.run F D ac σ H Z en
theorem bx_break {l : L} {o : Fl N L R} (h : some (.br l) = some o) (w : Wk Γ (GL l)) : BX X W ER (.Break pos :: rest) Γ GN GL o := by
  cases h
  exact bx_cons ps_break fun F D ac σ H Z en => ac σ H Z (en.wk w)
theorem bx_continue {l : L} {o : Fl N L R} (h : some (.ct l) = some o) (w : Wk Γ (GL l)) : BX X W ER (.Continue pos :: rest) Γ GN GL o := by
  cases h
  exact bx_cons ps_continue fun F D ac σ H Z en => ac σ H Z (en.wk w)
theorem bx_ret {R : Type} [Enc R] {o : Fl N L R} {m : Option R} (hx : PX X e Γ m) (h : (m.bind fun x => some (.rt x)) = some o) : BX X W ER (.Return (some e) pos :: rest) Γ GN GL o := by
  obtain ⟨x, h1, h2⟩ := Option.bind_eq_some_iff.mp h
  cases h2
  exact bx_cons (ps_ret pe_w) fun F D ac σ H Z en => hx.run F σ H Z en x h1 _ fun H' Z' v s r => ac H' Z' v ⟨en.stp.trans s, r⟩
/-- target = e -/
theorem bx_asg {js : List Nat} {T : α → List Ent → List Ent} {m : Option α} {k : α → Option (Fl N L R)} (hx : PX X e Γ m) (hg : PGX X tg js T) (h : m.bind k = some o) (hr : ∀ x, k x = some o → BX X W ER rest (T x Γ) GN GL o)
    (hs : swapsWithSole [tg] e pos.line X.env = pure false := by rfl) (hw : swappedStores [tg] e X.env = pure none := by rfl) (h1 : (assignEach [tg] X.env).map (·.2) = [assign tg X.env] := by rfl) : BX X W ER (.Assign [tg] e pos :: rest) Γ GN GL o := by
  obtain ⟨x, h2, h3⟩ := Option.bind_eq_some_iff.mp h
  exact bx_cons (ps_asg pe_w pg_w hs hw h1) fun F D ac σ H Z en => hx.run F σ H Z en x h2 _ fun H' Z' v s r => hg.run F σ H' Z' Γ v x (en.step s) r _ fun σ' en' _ => (hr x h3).run F D ac σ' H' Z' en'
/-- name = a new list, the def's own -/
theorem bx_new (i : Nat) {nm : Str} {m : Option (List α)} {k : List α → Option (Fl N L R)} (hN : X.N.Nodup) (hx : PN X e Γ m) (h : m.bind k = some o) (hr : ∀ xs, k xs = some o → BX X W ER rest (Γ.set i (.ow none xs)) GN GL o)
    (hi : X.N[i]? = some nm := by rfl) (hl : Loc X.env.scope nm := by first | exact Or.inl rfl | exact Or.inr rfl) (hs : swapsWith e (some (.Name nm pos')) pos.line X.env = pure false := by rfl)
    (hf : X.fn nm = true ∨ X.env.scope.names.lookup nm = some .local := by first | exact .inl rfl | exact .inr rfl) : BX X W ER (.Assign [.Name nm pos'] e pos :: rest) Γ GN GL o := by
  obtain ⟨x, h2, h3⟩ := Option.bind_eq_some_iff.mp h
  exact bx_cons (ps_set (i := i) hN hi hl pe_w hs hf) fun F D ac σ H Z en => hx.run F σ H Z en x h2 _ fun H' Z' l vs s hn r => (hr x h3).run F D ac _ _ Z' ((en.step s).set_ow i hn r)
/-- name op= e, ints -/
theorem bx_aug (i : Nat) {nm : Str} {op : Operator} {f : Int → Int → Int} {x : Int} {m m2 : Option Int} {k : Int → Option (Fl N L R)} (hN : X.N.Nodup) (ho : PIp X op (ipI f)) (hx : PX X e Γ m) (h : m2.bind k = some o)
    (hr : ∀ z, k z = some o → BX X W ER rest (Γ.set i (.fz z)) GN GL o) (hA : m2 = m.bind fun y => some (f x y) := by rfl) (hΓ : Γ[i]? = some (.fz x) := by rfl) (hi : X.N[i]? = some nm := by rfl) (hl : Loc X.env.scope nm := by first | exact Or.inl rfl | exact Or.inr rfl)
    (hf : X.fn nm = true ∨ X.env.scope.names.lookup nm = some .local := by first | exact .inl rfl | exact .inr rfl) : BX X W ER (.AugAssign (.Name nm pos') op e pos :: rest) Γ GN GL o := by
  subst hA
  obtain ⟨z, h5, h3⟩ := Option.bind_eq_some_iff.mp h
  obtain ⟨y, h2, h4⟩ := Option.bind_eq_some_iff.mp h5
  cases h4
  refine bx_cons (ps_aug (i := i) hN hi hl pe_w ho hf) fun F D ac σ H Z en => ?_
  obtain ⟨v, e1, r1⟩ := en.fz hΓ
  refine ⟨v, e1, hx.run F σ H Z en y h2 _ fun H' Z' w s r => ⟨x, y, r1, r, ?_⟩⟩
  exact (hr _ h3).run F D ac _ H' Z' ((en.step s).set_fz i rfl)
/-- an expression whose value is dropped -/
theorem bx_expr {m : Option α} {k : α → Option (Fl N L R)} (hx : PX X e Γ m) (h : m.bind k = some o) (hr : ∀ x, k x = some o → BX X W ER rest Γ GN GL o) (hs : swapsWith e none pos.line X.env = pure false := by rfl) : BX X W ER (.Expr e pos :: rest) Γ GN GL o := by
  obtain ⟨x, h2, h3⟩ := Option.bind_eq_some_iff.mp h
  exact bx_cons (ps_expr pe_w hs) fun F D ac σ H Z en => hx.run F σ H Z en x h2 _ fun H' Z' v s r => (hr x h3).run F D ac σ H' Z' (en.step s)
/-- if, what follows being met once -/
theorem bx_if {A B : List Stmt} {mc : Option Bool} {mA mB : Option (Fl J L R)} {k : J → Option (Fl N L R)} (hc : PTX X c Γ mc) (hA : ∀ o' : Fl J L R, mA = some o' → BX X W ER A Γ GJ GL o') (hB : ∀ o' : Fl J L R, mB = some o' → BX X W ER B Γ GJ GL o')
    (h : thenFl (mc.bind fun b => if b = true then mA else mB) k = some o) (hr : ∀ j, k j = some o → BX X W ER rest (GJ j) GN GL o) : BX X W ER (.If c A B pos :: rest) Γ GN GL o := by
  refine bx_cons (ps_if pt_w ps_w ps_w) fun F D ac σ H Z en => ?_
  cases hm : (mc.bind fun b => if b = true then mA else mB) with
  | none => rw [hm] at h; cases h
  | some o' =>
    rw [hm] at h
    obtain ⟨b, h1, h2⟩ := Option.bind_eq_some_iff.mp hm
    have ac' : Acc X W ER F GJ GL o' { D with nx := wS X rest D } := by
      cases o' with
      | nx j => exact fun σ H Z en' => (hr j h).run F D ac σ H Z en'
      | br l => cases h; exact ac
      | ct l => cases h; exact ac
      | rt r => cases h; exact ac
      | xc c f => cases h; exact ac
    refine hc.run F σ H Z en b h1 _ fun H' Z' s => ?_
    cases b with
    | true => exact (hA o' h2).run F _ ac' σ H' Z' (en.step s)
    | false => exact (hB o' h2).run F _ ac' σ H' Z' (en.step s)
/-- a frame whose still part is the present one -/
theorem EnvOk.here {K : Fg} {F : Frame} {σ : St} {H Z : Hp} (en : EnvOk K F σ H Z Γ) : EnvOk K ⟨F.H0, Z, F.bs⟩ σ H Z Γ := ⟨en.hh, Same.refl _, en.zh, fun _ _ _ => rfl, en.len, en.ent.imp fun fp h => ⟨fun i e he => by
    obtain ⟨o, ho, q⟩ := h.1 i e he
    exact ⟨o, ho, by cases e <;> exact q⟩, h.2⟩⟩
theorem EnvOk.back {K : Fg} {F : Frame} {σ σ' : St} {H H' Z Z' : Hp} {Γ' : List Ent} (en : EnvOk K F σ H Z Γ) (en' : EnvOk K ⟨F.H0, Z, F.bs⟩ σ' H' Z' Γ') : EnvOk K F σ' H' Z' Γ' :=
  ⟨en'.hh, en.zz.trans en'.zz, en'.zh, fun a o h => (en'.old a o h).trans (en.old a o h), en'.len, en'.ent.imp fun fp h => ⟨fun i e he => by
    obtain ⟨o, ho, q⟩ := h.1 i e he
    exact ⟨o, ho, by cases e <;> exact q⟩, h.2⟩⟩
theorem EnvOk.backS {K : Fg} {F : Frame} {σ : St} {H H' Z Z' : Hp} (en : EnvOk K F σ H Z Γ) (s : Step F.H0 Z H' Z') : Step F.H0 F.Z0 H' Z' := ⟨s.hh, en.zz.trans s.zz, s.zh, fun a o h => (s.old a o h).trans (en.old a o h)⟩
/-- for target in iter: body -/
theorem bx_for {js : List Nat} {T : ι → List Ent → List Ent} {m : Option (List ι)} {f : S → ι → Option (Fl S S R)} {s0 : S} {k : S → Option (Fl N L R)} (hp : PassesOwn (model X.prog X.w) X.A X.env X.xe) (hc : X.calm = true) (hi : PIF X tg iter Γ m) (hg : PGX X tg js T) (w : Wk Γ (GS s0))
    (hb : ∀ s x (o' : Fl S S R), f s x = some o' → BX X W ER body (T x (GS s)) GS GS o') (h : (m.bind fun xs => thenFl (forM xs f s0) k) = some o) (hr : ∀ s, k s = some o → BX X W ER rest (GS s) GN GL o)
    (hs : ∀ x, foldedSetIterable iter X.env x = pure x := by intro _; rfl) : BX X W ER (.For tg iter body [] pos :: rest) Γ GN GL o := by
  obtain ⟨xs, h1, h2⟩ := Option.bind_eq_some_iff.mp h
  refine bx_cons (ps_for hp hc pi_w pg_w ps_w hs) fun F D ac σ H Z en => ?_
  refine hi.run F σ H Z en xs h1 _ fun I H1 Z1 st src => ?_
  refine ⟨fun i n σ' H' => n = xs.length - i ∧ i ≤ xs.length ∧ ∃ Z' s, EnvOk X.K F σ' H' Z' (GS s) ∧ Same Z1 Z' ∧ thenFl (forM (xs.drop i) f s) k = some o, ⟨xs.length, by simp, Nat.zero_le _, Z1, s0, (en.step st).wk w, Same.refl _, h2⟩, ?_⟩
  rintro i n σ' H' ⟨rfl, hi', Z', s, en', sz, hm⟩
  obtain ⟨go, stop, yld⟩ := src H' Z' sz en'.zh i
  by_cases hlt : i < xs.length
  · refine .inr ⟨go hlt, ?_⟩
    have hd : xs.drop i = xs[i] :: xs.drop (i + 1) := List.drop_eq_getElem_cons hlt
    rw [hd] at hm
    cases ho : f s xs[i] with
    | none => simp only [forM, ho, thenFl] at hm; cases hm
    | some o' =>
      refine ⟨fun σ2 H2 => ∃ Z2 s2, EnvOk X.K F σ2 H2 Z2 (GS s2) ∧ Same Z1 Z2 ∧ thenFl (forM (xs.drop (i + 1)) f s2) k = some o, fun σ2 H2 ⟨Z2, s2, a1, a2, a3⟩ => ⟨xs.length - (i + 1), by omega, rfl, hlt, Z2, s2, a1, a2, a3⟩, fun v H2 y => ?_⟩
      obtain ⟨Z2, s2, r⟩ := yld v H2 xs[i] y (by simp [hlt])
      have en2 := en'.step s2
      refine hg.run F σ' H2 Z2 _ v xs[i] en2 r _ fun σ3 en3 _ => ?_
      refine (hb s xs[i] o' ho).run ⟨F.H0, Z2, F.bs⟩ _ ?_ σ3 H2 Z2 en3.here
      have z12 : Same Z1 Z2 := sz.trans s2.zz
      cases o' with
      | nx s' =>
        simp only [forM, ho] at hm
        exact fun σ4 H4 Z4 en4 => ⟨Z4, s', en3.back en4, z12.trans en4.zz, hm⟩
      | ct s' =>
        simp only [forM, ho] at hm
        exact fun σ4 H4 Z4 en4 => ⟨Z4, s', en3.back en4, z12.trans en4.zz, hm⟩
      | br s' =>
        simp only [forM, ho, thenFl] at hm
        exact fun σ4 H4 Z4 en4 => (hr s' hm).run F D ac σ4 H4 Z4 (en3.back en4)
      | rt r' =>
        simp only [forM, ho, thenFl] at hm
        cases hm
        exact fun H4 Z4 v4 r4 => ac H4 Z4 v4 (Res.back en3.zz en3.old r4)
      | xc c' f' =>
        simp only [forM, ho, thenFl] at hm
        cases hm
        exact fun σ4 H4 Z4 cls d en4 r4 => ac σ4 H4 Z4 cls d (en3.back en4) r4
  · have e : i = xs.length := by omega
    subst e
    rw [List.drop_length] at hm
    simp only [forM, thenFl] at hm
    exact .inl ⟨stop (Nat.le_refl _), (hr s hm).run F D ac σ' H' Z' en'⟩
/-- while c: body -/
theorem bx_while {mc : S → Option Bool} {f : S → Option (Fl S S R)} {s0 : S} {n0 : Nat} {k : S → Option (Fl N L R)} (hp : PassesOwn (model X.prog X.w) X.A X.env X.xe) (hc : ∀ s, PTX X c (GS s) (mc s)) (w : Wk Γ (GS s0))
    (hb : ∀ s (o' : Fl S S R), f s = some o' → BX X W ER body (GS s) GS GS o') (h : thenFl (whileM n0 mc f s0) k = some o) (hr : ∀ s, k s = some o → BX X W ER rest (GS s) GN GL o) : BX X W ER (.While c body [] pos :: rest) Γ GN GL o := by
  refine bx_cons (ps_while hp pt_w ps_w) fun F D ac σ H Z en => ?_
  refine ⟨fun n σ' H' => ∃ Z' s, EnvOk X.K F σ' H' Z' (GS s) ∧ thenFl (whileM n mc f s) k = some o, ⟨n0, Z, s0, en.wk w, h⟩, ?_⟩
  rintro n σ' H' ⟨Z', s, en', hm⟩
  cases n with
  | zero => simp only [whileM, thenFl] at hm; cases hm
  | succ n =>
    cases hcs : mc s with
    | none => simp only [whileM, hcs, thenFl] at hm; cases hm
    | some b =>
      refine (hc s).run F σ' H' Z' en' b hcs _ fun H2 Z2 s2 => ?_
      have en2 := en'.step s2
      cases b with
      | false =>
        simp only [whileM, hcs, thenFl] at hm
        show wS X rest D σ' H2
        exact (hr s hm).run F D ac σ' H2 Z2 en2
      | true =>
        show ∃ N : St → Hp → Prop, _ ∧ _
        cases ho : f s with
        | none => simp only [whileM, hcs, ho, thenFl] at hm; cases hm
        | some o' =>
          refine ⟨fun σ3 H3 => ∃ Z3 s3, EnvOk X.K F σ3 H3 Z3 (GS s3) ∧ thenFl (whileM n mc f s3) k = some o, fun σ3 H3 q => ⟨n, Nat.lt_succ_self _, q⟩, ?_⟩
          refine (hb s o' ho).run F _ ?_ σ' H2 Z2 en2
          cases o' with
          | nx s' =>
            simp only [whileM, hcs, ho] at hm
            exact fun σ4 H4 Z4 en4 => ⟨Z4, s', en4, hm⟩
          | ct s' =>
            simp only [whileM, hcs, ho] at hm
            exact fun σ4 H4 Z4 en4 => ⟨Z4, s', en4, hm⟩
          | br s' =>
            simp only [whileM, hcs, ho, thenFl] at hm
            exact fun σ4 H4 Z4 en4 => (hr s' hm).run F D ac σ4 H4 Z4 en4
          | rt r' =>
            simp only [whileM, hcs, ho, thenFl] at hm
            cases hm
            exact ac
          | xc c' f' =>
            simp only [whileM, hcs, ho, thenFl] at hm
            cases hm
            exact ac
end
end G
/-! GOps: defs and their calls, built-ins, lists, comprehensions. -/
namespace G
open PySem L2
/-! ### lending: what the def owns is read by something that hands back what leans on no list -/
def frz : Ent → Ent
  | .no => .no
  | @Ent.fz _ i x => @Ent.fz _ i x
  | @Ent.ow _ i _ _ c => @Ent.fz _ i c
  | .al k => .al k
abbrev frzAll (Γ : List Ent) : List Ent := Γ.map frz
open Classical in
theorem EnvOk.lend {K : Fg} {F : Frame} {σ : St} {H Z : Hp} {Γ : List Ent} (en : EnvOk K F σ H Z Γ) : ∃ Zc, Same Z Zc ∧ (∀ a xs, Zc a = some (.tup xs) → Z a = some (.tup xs)) ∧ EnvOk K F σ H Zc (frzAll Γ) := by
  obtain ⟨fp, hf, hd⟩ := en.ent
  let P : Addr → Prop := fun a => ∃ (i : Nat) (e : Ent), Γ[i]? = some e ∧ fp i a
  have own : ∀ a, P a → F.H0 a = none ∧ Z a = none ∧ ∃ u, H a = some u ∧ ∀ xs, u ≠ HO.tup xs := by
    rintro a ⟨i, e, h1, h2⟩
    obtain ⟨o, ho, q⟩ := hf i e h1
    exact q.dom h2
  have sz : Same Z (fun a => if P a then H a else Z a) := fun a o h => by
    show (if P a then H a else Z a) = some o
    by_cases p : P a
    · have := (own a p).2.1
      rw [h] at this; cases this
    · rw [if_neg p]; exact h
  refine ⟨fun a => if P a then H a else Z a, sz, fun a xs h => ?_, ⟨en.hh, en.zz.trans sz, fun a o h => ?_, fun a o h => ?_, by rw [List.length_map]; exact en.len, fun _ => Fp.no, fun i e he => ?_, fun _ _ _ _ f => f.elim⟩⟩
  · have h : (if P a then H a else Z a) = some (HO.tup xs) := h
    by_cases p : P a
    · rw [if_pos p] at h
      obtain ⟨_, _, u, q, nt⟩ := own a p
      rw [q] at h
      exact absurd (Option.some.inj h) (nt xs)
    · rw [if_neg p] at h; exact h
  · have h : (if P a then H a else Z a) = some o := h
    by_cases p : P a
    · rw [if_pos p] at h; exact h
    · rw [if_neg p] at h; exact en.zh a o h
  · show (if P a then H a else Z a) = F.Z0 a
    by_cases p : P a
    · have := (own a p).1
      rw [h] at this; cases this
    · rw [if_neg p]; exact en.old a o h
  · rw [List.getElem?_map] at he
    cases hg : Γ[i]? with
    | none => rw [hg] at he; cases he
    | some e' =>
      rw [hg] at he
      cases he
      obtain ⟨o, ho, q⟩ := hf i e' hg
      refine ⟨o, ho, ?_⟩
      cases e' with
      | no => exact fun _ f => f
      | fz x =>
        obtain ⟨⟨v, e1, r⟩, _⟩ := q
        exact ⟨⟨v, e1, Enc.mono sz r⟩, fun _ f => f⟩
      | ow bv c =>
        obtain ⟨v, e1, _, r, _⟩ := q
        exact ⟨⟨v, e1, Own.froz r sz fun a f => if_pos ⟨i, _, hg, f⟩⟩, fun _ f => f⟩
      | al k => exact ⟨q.1, fun _ f => f⟩
open Classical in
theorem lend_end {K : Fg} {H Z Zc H' Z2 : Hp} {α : Type} [Enc α] [Flat α] {v : V} {x : α} (zh : Same Z H) (sz : Same Z Zc) (tz : ∀ a xs, Zc a = some (.tup xs) → Z a = some (.tup xs)) (s : Step H Zc H' Z2) (r : Enc.rel K Z2 v x) : ∃ Z', Step H Z H' Z' ∧ Enc.rel K Z' v x := by
  have ev : ∀ a, (H a).isSome = true → (if (H a).isSome = true then Z a else Z2 a) = Z a := fun a h => if_pos h
  have no : ∀ a, H a = none → (if (H a).isSome = true then Z a else Z2 a) = Z2 a := fun a h => if_neg (by rw [h]; simp)
  refine ⟨fun a => if (H a).isSome = true then Z a else Z2 a, ⟨s.hh, fun a o h => ?_, fun a o h => ?_, fun a o h => ?_⟩, Flat.flat (fun a xs h => ?_) r⟩
  · show (if (H a).isSome = true then Z a else Z2 a) = some o
    rw [ev a (by rw [zh a o h]; rfl)]; exact h
  · have h : (if (H a).isSome = true then Z a else Z2 a) = some o := h
    cases e : H a with
    | none => rw [no a e] at h; exact s.zh a o h
    | some u => rw [ev a (by rw [e]; rfl)] at h; exact s.hh a o (zh a o h)
  · show (if (H a).isSome = true then Z a else Z2 a) = Z a
    exact ev a (by rw [h]; rfl)
  · show (if (H a).isSome = true then Z a else Z2 a) = some (HO.tup xs)
    by_cases e : (H a).isSome = true
    · rw [ev a e]
      obtain ⟨u, hu⟩ := Option.isSome_iff_exists.mp e
      exact tz a xs ((s.old a u hu).symm.trans h)
    · rw [if_neg e]; exact h
section
variable {X : Cx} {Γ : List Ent} {e a b c : Expr} {es : List Expr} {pos p pos2 : Pos} {α β γ δ : Type} [Enc α] [Enc β] [Enc γ] [Enc δ]
theorem px_lend [Flat α] {m : Option α} (h : PX X e (frzAll Γ) m) : PX X e Γ m := .mk fun F σ H Z en x hx Q q => by
  obtain ⟨Zc, sz, tz, en'⟩ := en.lend
  refine h.run F σ H Zc en' x hx Q fun H' Z2 v s r => ?_
  obtain ⟨Z', s', r'⟩ := lend_end en.zh sz tz s r
  exact q H' Z' v s' r'
theorem ptx_lend {m : Option Bool} (h : PTX X e (frzAll Γ) m) : PTX X e Γ m := .mk fun F σ H Z en x hx Q q => by
  obtain ⟨Zc, sz, tz, en'⟩ := en.lend
  refine h.run F σ H Zc en' x hx Q fun H' Z2 s => ?_
  obtain ⟨Z', s', _⟩ := lend_end (K := X.K) (v := .bl true) (x := true) en.zh sz tz s rfl
  exact q H' Z' s'
/-! ### defs: args in, a value out; new things alone are made -/
def retOf {N L R : Type} : Option (Fl N L R) → Option R
  | some (.rt r) => some r
  | _ => none
def spF (K : Fg) {A R : Type} [EncA A] [Enc R] (f : A → Option R) : Sp := fun vs H Q _ =>
  ∃ Z x r, Same Z H ∧ EncA.rel K Z vs x ∧ f x = some r ∧ ∀ H' Z' u, Step H Z H' Z' → Enc.rel K Z' u r → Q u H'
/-- .. that hands back what the caller then owns -/
def spO (K : Fg) {A R : Type} [EncA A] [Enc R] [Own R] (f : A → Option (Nw R)) : Sp := fun vs H Q _ =>
  ∃ Z x r, Same Z H ∧ EncA.rel K Z vs x ∧ f x = some r ∧ ∀ H' Z' u fp, NewO K H Z H' Z' u r.val fp → Q u H'
class EntsA (A : Type) [EncA A] where
  ents : A → List Ent
  ok : ∀ {K : Fg} {Z : Hp} {vs : List V} {x : A}, EncA.rel K Z vs x → ∀ (F : Frame) (H : Hp) (i : Nat) (e : Ent), (ents x)[i]? = some e → ∃ v, vs[i]? = some v ∧ EntOk K F H Z (some v) Fp.no e
  len : ∀ x : A, (ents x).length = EncA.n A
instance : EntsA Unit := ⟨fun _ => [], fun _ _ _ _ _ h => by simp at h, fun _ => rfl⟩
instance {A : Type} [EncA A] [EntsA A] : EntsA (α × A) := ⟨fun x => .fz x.1 :: EntsA.ents x.2, fun {K Z vs x} ⟨v, r, e, h1, h2⟩ F H i t h => by
  subst e
  cases i with
  | zero =>
    cases h
    exact ⟨v, rfl, ⟨v, rfl, h1⟩, fun _ f => f⟩
  | succ i => exact EntsA.ok h2 F H i t h, fun x => congrArg (· + 1) (EntsA.len x.2)⟩
theorem env_start {A : Type} [EncA A] [EntsA A] {K : Fg} {Z H : Hp} {vs : List V} {x : A} {N : List Str} {Γ0 : List Ent} {n : Nat} (hn : EncA.n A + n = N.length) (zh : Same Z H) (r : EncA.rel K Z vs x) (hΓ : Γ0 = EntsA.ents x ++ List.replicate n .no) :
    EnvOk K ⟨H, Z, []⟩ (L2.start N vs) H Z Γ0 := by
  subst hΓ
  have lv : vs.length = EncA.n A := EncA.len r
  have le := EntsA.len x
  refine ⟨Same.refl _, Same.refl _, zh, fun _ _ _ => rfl, ?_, fun _ => Fp.no, fun i e h => ?_, fun _ _ _ _ f => f.elim⟩
  · unfold L2.start
    rw [List.length_append, List.length_append, List.length_map, List.length_replicate, List.length_replicate]
    omega
  · unfold L2.start
    by_cases hi : i < (EntsA.ents x).length
    · rw [List.getElem?_append_left hi] at h
      obtain ⟨v, h2, h3⟩ := EntsA.ok r ⟨H, Z, []⟩ H i e h
      refine ⟨some v, ?_, h3⟩
      rw [List.getElem?_append_left (by rw [List.length_map]; omega), List.getElem?_map, h2]
      rfl
    · rw [List.getElem?_append_right (by omega), List.getElem?_replicate] at h
      by_cases h2 : i - (EntsA.ents x).length < n
      · rw [if_pos h2] at h
        cases h
        refine ⟨none, ?_, fun _ f => f⟩
        rw [List.getElem?_append_right (by rw [List.length_map]; omega), List.getElem?_replicate, if_pos (by rw [List.length_map]; omega)]
      · rw [if_neg h2] at h
        cases h
def W0 : WX := fun _ _ _ _ => False
def ER0 : ExS := ⟨fun _ _ _ _ _ => False, []⟩
section
variable {P : Program} {w : World} {K : Fg} {mg : Str → Option Value} {base : Heap} {f : Addr} {fd : FuncData} {x qual : Str} {st : Stmt} {N ps : List Str} {k n : Nat} {A R : Type} [EncA A] [EntsA A] [Enc R]
/-- THE RULE for a def that raises nothing -/
theorem fn_g (F : Fun K x qual st f fd) (S : FnScope N ps (defScope st)) (fm : A → Option R) {N1 L1 : Type} (GN : N1 → List Ent) (GL : L1 → List Ent) (hps : EncA.n A = ps.length) (hn : EncA.n A + n = N.length)
    (hb : ∀ (cdv : Value) (Ar : Around) (outer : List Env) (s : Shared) (H : Hp) (E : XK), Room k (Ar.deeper (PyProof.Rows.envOfC qual (defScope st) s.heap.objs.size f cdv)) → ∀ (y : A) (r : R), fm y = some r →
      (∀ D : Ends, (∀ σ H, ¬ D.nx σ H) → True) → BX (cxOf CX0 P w K mg base N qual (defScope st) f cdv Ar outer s H E).nox W0 ER0 (defBody st) (EntsA.ents y ++ List.replicate n .no) GN GL (.rt r)) :
    FnOk P w K mg base CX0 (k + 1) f fd ps (spF K fm) := by
  refine F.ok S (fun vs H Q E h => ?_) (fun cdv Ar outer s H vs Q E hr h => ?_)
  · obtain ⟨Z, y, r, _, h1, _⟩ := h
    rw [EncA.len h1, hps]
  · obtain ⟨Z, y, r, zh, h1, h2, q⟩ := h
    refine ⟨_, ps_w, ?_⟩
    refine (hb cdv Ar outer s H E hr y r h2 (fun _ _ => trivial)).run ⟨H, Z, []⟩ _ ?_ _ _ Z (env_start hn zh h1 rfl)
    exact fun H' Z' v ⟨s', r'⟩ => q H' Z' v s' r'
/-- .. whose result the caller then owns -/
theorem fn_o (F : Fun K x qual st f fd) (S : FnScope N ps (defScope st)) {R : Type} [Enc R] [Own R] (fm : A → Option (Nw R)) {N1 L1 : Type} (GN : N1 → List Ent) (GL : L1 → List Ent) (hps : EncA.n A = ps.length) (hn : EncA.n A + n = N.length)
    (hb : ∀ (cdv : Value) (Ar : Around) (outer : List Env) (s : Shared) (H : Hp) (E : XK), Room k (Ar.deeper (PyProof.Rows.envOfC qual (defScope st) s.heap.objs.size f cdv)) → ∀ (y : A) (r : Nw R), fm y = some r →
      (∀ D : Ends, (∀ σ H, ¬ D.nx σ H) → True) → BX (cxOf CX0 P w K mg base N qual (defScope st) f cdv Ar outer s H E).nox W0 ER0 (defBody st) (EntsA.ents y ++ List.replicate n .no) GN GL (.rt r)) :
    FnOk P w K mg base CX0 (k + 1) f fd ps (spO K fm) := by
  refine F.ok S (fun vs H Q E h => ?_) (fun cdv Ar outer s H vs Q E hr h => ?_)
  · obtain ⟨Z, y, r, _, h1, _⟩ := h
    rw [EncA.len h1, hps]
  · obtain ⟨Z, y, r, zh, h1, h2, q⟩ := h
    refine ⟨_, ps_w, ?_⟩
    refine (hb cdv Ar outer s H E hr y r h2 (fun _ _ => trivial)).run ⟨H, Z, []⟩ _ ?_ _ _ Z (env_start hn zh h1 rfl)
    exact fun H' Z' v ⟨fp, s', o', out⟩ => q H' Z' v fp ⟨s', o', out⟩
end
/-- f(e, ..) -/
theorem px_call {nm : Str} {k : Nat} {f : Addr} {fd : FuncData} {ps : List Str} {A R : Type} [EncA A] [Enc R] {fm : A → Option R} {m : Option A} (Fn : FnOk X.prog X.w X.K X.mg X.base CX0 k f fd ps (spF X.K fm)) (hr : Room k X.A) (hm : X.mg nm = some (.ref f)) (hk : PySem.W.keepIn X.K (.ref f) = true)
    (hb : Binds X.K fd ps []) (ha : PAX X (e :: es) Γ m) (hg : Gl X nm := by rfl) (hdb : (nm == ("__debug__" : Str)) = false := by decide) (he : starEach (e :: es) X.env = (false, eval e X.env) :: starEach es X.env := by rfl) (hpl : (backTo pos (starEach es X.env)).any (·.1) = false := by rfl) :
    PX X (.Call (.Name nm p) (e :: es) [] pos) Γ (m.bind fm) := px_of (pe_call Fn hr hg hm hk hb .nil pass0 pa_w hdb he hpl) fun F σ H Z en x hx Q q => by
  obtain ⟨y, hy, hx⟩ := Option.bind_eq_some_iff.mp hx
  refine ha.run F σ H Z en y hy _ fun H' Z' vs s r => ?_
  rw [List.append_nil]
  exact ⟨Z', y, x, s.zh, r, hx, fun H2 Z2 u s2 r2 => q H2 Z2 u (s.trans s2) r2⟩
theorem px_call0 {nm : Str} {k : Nat} {f : Addr} {fd : FuncData} {ps : List Str} {R : Type} [Enc R] {fm : Unit → Option R} (Fn : FnOk X.prog X.w X.K X.mg X.base CX0 k f fd ps (spF X.K fm)) (hr : Room k X.A) (hm : X.mg nm = some (.ref f)) (hk : PySem.W.keepIn X.K (.ref f) = true)
    (hb : Binds X.K fd ps []) (hg : Gl X nm := by rfl) (hdb : (nm == ("__debug__" : Str)) = false := by decide) : PX X (.Call (.Name nm p) [] [] pos) Γ (fm ()) := px_of (pe_call0 Fn hr hg hm hk hb .nil pass0 hdb) fun F σ H Z en x hx Q q =>
  ⟨Z, (), x, en.zh, rfl, hx, fun H2 Z2 u s2 r2 => q H2 Z2 u s2 r2⟩
/-! ### built-ins -/
theorem all2_V {K : Fg} {Z : Hp} {vs : List V} {xs : List Int} (r : All2 (Enc.rel K Z) vs xs) : vs = xs.map V.int := All2.map_int r
theorem px_len {m : Option (List α)} (hm : X.mg "len" = none) (h : PL X a Γ m) (hg : Gl X "len" := by rfl) (hs : starEach [a] X.env = [(false, eval a X.env)] := by rfl) : PX X (.Call (.Name "len" p) [a] [] pos) Γ (oLen m) :=
  px_of (pe_callB call_len_seq hg hm PySem.boot_len (pa_cons pe_w pa_nil (by rw [hs]; rfl)) (he := by rw [hs]; rfl) (hpl := rfl)) fun F σ H Z en x hx Q q => by
    obtain ⟨y, hy, hx⟩ := Option.bind_eq_some_iff.mp hx
    cases hx
    refine h.run F σ H Z en y hy _ fun H' Z' l vs s hl r => ⟨l, vs, rfl, .inl (SqL.of hl), ?_⟩
    rw [r.len]
    exact q H' Z' _ s rfl
def oLenS (m : Option Scr) : Option Int := m.map fun s => (s.xs.length : Int)
theorem px_lenS {m : Option Scr} (hm : X.mg "len" = none) (h : PX X a Γ m) (hg : Gl X "len" := by rfl) (hs : starEach [a] X.env = [(false, eval a X.env)] := by rfl) : PX X (.Call (.Name "len" p) [a] [] pos) Γ (oLenS m) :=
  px_of (pe_callB call_len_seq hg hm PySem.boot_len (pa_cons pe_w pa_nil (by rw [hs]; rfl)) (he := by rw [hs]; rfl) (hpl := rfl)) fun F σ H Z en x hx Q q => by
    obtain ⟨y, hy, rfl⟩ := Option.map_eq_some_iff.mp hx
    refine h.run F σ H Z en y hy _ fun H' Z' v s ⟨l, e, hl⟩ => ⟨l, _, by rw [e], .inl (s.zh.seq hl), ?_⟩
    rw [List.length_map]
    exact q H' Z' _ s rfl
theorem all2_atI {R : V → α → Prop} {vs : List V} {xs : List α} {i : Int} {x : α} (r : All2 R vs xs) (h : atI xs i = some x) : ∃ v, atI vs i = some v ∧ R v x := by
  unfold atI at h ⊢
  rw [r.len]
  cases e : ixN xs.length i with
  | none => rw [e] at h; cases h
  | some j =>
    rw [e] at h
    exact r.get' h
theorem px_ix {m1 : Option (List α)} {m2 : Option Int} (ha : PL X a Γ m1) (hb : PX X b Γ m2) (hs : PlainIx b := by intro _ _; rfl) : PX X (.Subscript a b pos) Γ (oIx m1 m2) := px_of (pe_ix ix_list pe_w pe_w hs) fun F σ H Z en x hx Q q => by
  obtain ⟨xs, h1, hx⟩ := Option.bind_eq_some_iff.mp hx
  obtain ⟨i, h2, hx⟩ := Option.bind_eq_some_iff.mp hx
  refine ha.run F σ H Z en xs h1 _ fun H1 Z1 l vs s1 hl r1 => hb.run F σ H1 Z1 (en.step s1) i h2 _ fun H2 Z2 w s2 r2 => ?_
  obtain ⟨v, h3, r3⟩ := all2_atI r1 hx
  exact ⟨l, vs, i, v, rfl, r2, SqL.of (s2.hh _ _ hl), h3, q H2 Z2 v (s1.trans s2) (Enc.mono s2.zz r3)⟩
def oIxS (m1 : Option Scr) (m2 : Option Int) : Option Int := o2 m1 m2 fun s i => atI s.xs i
theorem px_ixS {m1 : Option Scr} {m2 : Option Int} (ha : PX X a Γ m1) (hb : PX X b Γ m2) (hs : PlainIx b := by intro _ _; rfl) : PX X (.Subscript a b pos) Γ (oIxS m1 m2) := px_of (pe_ix ix_list pe_w pe_w hs) fun F σ H Z en x hx Q q => by
  obtain ⟨xs, h1, hx⟩ := Option.bind_eq_some_iff.mp hx
  obtain ⟨i, h2, hx⟩ := Option.bind_eq_some_iff.mp hx
  refine ha.run F σ H Z en xs h1 _ fun H1 Z1 v1 s1 ⟨l, e, hl⟩ => hb.run F σ H1 Z1 (en.step s1) i h2 _ fun H2 Z2 w s2 r2 => ?_
  subst e
  have r : All2 (Enc.rel X.K Z2) (xs.xs.map V.int) xs.xs := All2.of_map_int
  obtain ⟨v, h3, r3⟩ := all2_atI r hx
  exact ⟨l, _, i, v, rfl, r2, (s1.trans s2).zh.seq (s2.zz.seq hl), h3, q H2 Z2 v (s1.trans s2) r3⟩
theorem px_max {m1 m2 : Option Int} (hm : X.mg "max" = none) (hc : X.calm = true) (ha : PX X a Γ m1) (hb : PX X b Γ m2) (hg : Gl X "max" := by rfl) (h1 : starEach [a, b] X.env = (false, eval a X.env) :: starEach [b] X.env := by rfl) (h2 : starEach [b] X.env = (false, eval b X.env) :: starEach [] X.env := by rfl) :
    PX X (.Call (.Name "max" p) [a, b] [] pos) Γ (oMax m1 m2) := px_of (pe_callB (call_max2 hc) hg hm (by decide +kernel) (pa_cons pe_w (pa_cons pe_w pa_nil h2) h1) (he := h1) (hpl := by rw [h2]; rfl)) fun F σ H Z en x hx Q q => by
  obtain ⟨i, hi, hx⟩ := Option.bind_eq_some_iff.mp hx
  obtain ⟨j, hj, hx⟩ := Option.bind_eq_some_iff.mp hx
  cases hx
  refine ha.run F σ H Z en i hi _ fun H1 Z1 v s1 r1 => hb.run F σ H1 Z1 (en.step s1) j hj _ fun H2 Z2 w s2 r2 => ⟨i, j, by rw [show v = V.int i from r1, show w = V.int j from r2], q H2 Z2 _ (s1.trans s2) rfl⟩
theorem px_min {m1 m2 : Option Int} (hm : X.mg "min" = none) (hc : X.calm = true) (ha : PX X a Γ m1) (hb : PX X b Γ m2) (hg : Gl X "min" := by rfl) (h1 : starEach [a, b] X.env = (false, eval a X.env) :: starEach [b] X.env := by rfl) (h2 : starEach [b] X.env = (false, eval b X.env) :: starEach [] X.env := by rfl) :
    PX X (.Call (.Name "min" p) [a, b] [] pos) Γ (oMin m1 m2) := px_of (pe_callB (call_min2 hc) hg hm (by decide +kernel) (pa_cons pe_w (pa_cons pe_w pa_nil h2) h1) (he := h1) (hpl := by rw [h2]; rfl)) fun F σ H Z en x hx Q q => by
  obtain ⟨i, hi, hx⟩ := Option.bind_eq_some_iff.mp hx
  obtain ⟨j, hj, hx⟩ := Option.bind_eq_some_iff.mp hx
  cases hx
  refine ha.run F σ H Z en i hi _ fun H1 Z1 v s1 r1 => hb.run F σ H1 Z1 (en.step s1) j hj _ fun H2 Z2 w s2 r2 => ⟨i, j, by rw [show v = V.int i from r1, show w = V.int j from r2], q H2 Z2 _ (s1.trans s2) rfl⟩
theorem px_abs {m : Option Int} (hm : X.mg "abs" = none) (ha : PX X a Γ m) (hg : Gl X "abs" := by rfl) (hs : starEach [a] X.env = [(false, eval a X.env)] := by rfl) : PX X (.Call (.Name "abs" p) [a] [] pos) Γ (oAbs m) :=
  px_of (pe_callB call_abs hg hm (by decide +kernel) (pa_cons pe_w pa_nil (by rw [hs]; rfl)) (he := by rw [hs]; rfl) (hpl := rfl)) fun F σ H Z en x hx Q q => by
    obtain ⟨i, hi, hx⟩ := Option.bind_eq_some_iff.mp hx
    cases hx
    exact ha.run F σ H Z en i hi _ fun H1 Z1 v s1 r1 => ⟨i, by rw [show v = V.int i from r1], q H1 Z1 _ s1 rfl⟩
theorem px_sum {m : Option (List Int)} (hm : X.mg "sum" = none) (hc : X.calm = true) (ha : PL X a Γ m) (hg : Gl X "sum" := by rfl) (hs : starEach [a] X.env = [(false, eval a X.env)] := by rfl) : PX X (.Call (.Name "sum" p) [a] [] pos) Γ (oSum m) :=
  px_of (pe_callB (cr_sum hc) hg hm (by decide +kernel) (pa_cons pe_w pa_nil (by rw [hs]; rfl)) (he := by rw [hs]; rfl) (hpl := rfl)) fun F σ H Z en x hx Q q => by
    obtain ⟨i, hi, hx⟩ := Option.bind_eq_some_iff.mp hx
    cases hx
    exact ha.run F σ H Z en i hi _ fun H1 Z1 l vs s1 hl r1 => ⟨l, i, rfl, SqL.of (by rw [← all2_V r1]; exact hl), q H1 Z1 _ s1 rfl⟩
/-- sorted ints -/
def sortI (xs : List Int) : List Int := xs.mergeSort (fun a b => decide (a ≤ b))
theorem sortI_perm (xs : List Int) : (sortI xs).Perm xs := List.mergeSort_perm _ _
theorem sortI_up (xs : List Int) : (sortI xs).Pairwise (· ≤ ·) := by
  have h := List.pairwise_mergeSort (le := fun a b : Int => decide (a ≤ b)) (fun a b c h1 h2 => by simp at *; omega) (fun a b => by simp; omega) xs
  exact h.imp fun h => by simpa using h
theorem sortI_eq {ys xs : List Int} (p : ys.Perm xs) (s : ys.Pairwise (· ≤ ·)) : ys = sortI xs :=
  List.Perm.eq_of_pairwise (le := (· ≤ ·)) (fun a b _ _ h1 h2 => Int.le_antisymm h1 h2) s (sortI_up xs) (p.trans (sortI_perm xs).symm)
theorem pn_sortI {m : Option (List Int)} (hm : X.mg "sorted" = none) (ha : PL X a Γ m) (hg : Gl X "sorted" := by rfl) (hs : starEach [a] X.env = [(false, eval a X.env)] := by rfl) : PN X (.Call (.Name "sorted" p) [a] [] pos) Γ (m.map sortI) :=
  pn_of (pe_callB cr_sortedI hg hm (by decide +kernel) (pa_cons pe_w pa_nil (by rw [hs]; rfl)) (he := by rw [hs]; rfl) (hpl := rfl)) fun F σ H Z en x hx Q q => by
    obtain ⟨i, hi, rfl⟩ := Option.map_eq_some_iff.mp hx
    refine ha.run F σ H Z en i hi _ fun H1 Z1 l vs s1 hl r1 => ⟨l, i, rfl, SqL.of (by rw [← all2_V r1]; exact hl), fun ns' p' pm up hp => ?_⟩
    rw [sortI_eq pm up]
    exact q H1 Z1 p' _ s1 hp All2.of_map_int
theorem pn_list {m : Option (List α)} (hm : X.mg "list" = none) (ha : PL X a Γ m) (hg : Gl X "list" := by rfl) (hs : starEach [a] X.env = [(false, eval a X.env)] := by rfl) : PN X (.Call (.Name "list" p) [a] [] pos) Γ m :=
  pn_of (pe_callTy call_list_of hg hm (by decide +kernel) (pa_cons pe_w pa_nil (by rw [hs]; rfl)) (he := by rw [hs]; rfl) (hpl := rfl)) fun F σ H Z en x hx Q q =>
    ha.run F σ H Z en x hx _ fun H1 Z1 l vs s1 hl r1 => ⟨l, vs, rfl, .inl (SqL.of hl), fun l' hl' => q H1 Z1 l' vs s1 hl' r1⟩
theorem pn_cat {m1 m2 : Option (List α)} (ha : PL X a Γ m1) (hb : PL X b Γ m2) : PN X (.BinOp a .Add b pos) Γ (oCat m1 m2) := pn_of (pe_op op_cat pe_w pe_w) fun F σ H Z en x hx Q q => by
  obtain ⟨i, hi, hx⟩ := Option.bind_eq_some_iff.mp hx
  obtain ⟨j, hj, hx⟩ := Option.bind_eq_some_iff.mp hx
  dsimp only at hx
  by_cases c : i.length + j.length ≤ sizeLine
  · rw [if_pos c] at hx
    cases hx
    refine ha.run F σ H Z en i hi _ fun H1 Z1 l1 vs1 s1 hl1 r1 => hb.run F σ H1 Z1 (en.step s1) j hj _ fun H2 Z2 l2 vs2 s2 hl2 r2 => ⟨l1, l2, vs1, vs2, rfl, rfl, s2.hh _ _ hl1, hl2, by rw [r1.len, r2.len]; exact c, fun p' hp => ?_⟩
    exact q H2 Z2 p' _ (s1.trans s2) hp ((all2_mono s2.zz r1).append r2)
  · rw [if_neg c] at hx
    cases hx
/-! slices -/
structure POX (X : Cx) (e : Option Expr) (Γ : List Ent) (m : Option (Option Int)) : Prop where
  run : ∀ (F : Frame) (σ : St) (H Z : Hp), EnvOk X.K F σ H Z Γ → ∀ x, m = some x → ∀ Q : Option Int → Hp → Prop, (∀ H' Z', Step H Z H' Z' → Q x H') → (match e with | none => tNoPart | some e => tPart (wE X e)) σ H Q
theorem pox_none : POX X none Γ (some none) := .mk fun F σ H Z en x hx Q q => by cases hx; exact q H Z (Step.refl en.zh)
theorem pox_some {m : Option Int} (h : PX X e Γ m) : POX X (some e) Γ (m.map some) := .mk fun F σ H Z en x hx Q q => by
  obtain ⟨i, hi, rfl⟩ := Option.map_eq_some_iff.mp hx
  exact h.run F σ H Z en i hi _ fun H' Z' v s r => ⟨i, r, q H' Z' s⟩
theorem po_w : ∀ {e : Option Expr}, PO X e (match e with | none => tNoPart | some e => tPart (wE X e))
  | none => po_none
  | some e => po_some pe_w
theorem pn_slice {lo hi : Option Expr} {p2 : Pos} {m : Option (List α)} {ml mh : Option (Option Int)} (ha : PL X a Γ m) (hl : POX X lo Γ ml) (hh : POX X hi Γ mh) : PN X (.Subscript a (.Slice lo hi none p2) pos) Γ (oCut m ml mh) := pn_of (pe_slice sl_list pe_w po_w po_w) fun F σ H Z en x hx Q q => by
  obtain ⟨xs, h1, hx⟩ := Option.bind_eq_some_iff.mp hx
  obtain ⟨l, h2, hx⟩ := Option.bind_eq_some_iff.mp hx
  obtain ⟨h, h3, hx⟩ := Option.bind_eq_some_iff.mp hx
  cases hx
  refine ha.run F σ H Z en xs h1 _ fun H1 Z1 l1 vs1 s1 hl1 r1 => hl.run F σ H1 Z1 (en.step s1) l h2 _ fun H2 Z2 s2 => hh.run F σ H2 Z2 (en.step (s1.trans s2)) h h3 _ fun H3 Z3 s3 => ⟨l1, vs1, rfl, SqL.of (s3.hh _ _ (s2.hh _ _ hl1)), fun p' hp => ?_⟩
  refine q H3 Z3 p' _ ((s1.trans s2).trans s3) hp ?_
  unfold cutV
  rw [r1.len]
  exact ((all2_mono (s2.zz.trans s3.zz) r1).drop _).take _
/-! tuples read by a written place -/
theorem px_tup {m : Option α} {i : Int} {g : α → β} {j : Option Str} {p2 : Pos} (h : ∀ {K : Fg} {Z : Hp} {v : V} {x : α}, Enc.rel K Z v x → ∃ p vs u, v = .ref p ∧ Z p = some (.tup vs) ∧ atI vs i = some u ∧ Enc.rel K Z u (g x)) (ha : PX X a Γ m) (hs : PlainIx b) (hb : PX X b Γ (some i)) :
    PX X (.Subscript a b pos) Γ (m.map g) := px_of (pe_ix ix_tup pe_w pe_w hs) fun F σ H Z en x hx Q q => by
  obtain ⟨y, hy, rfl⟩ := Option.map_eq_some_iff.mp hx
  refine ha.run F σ H Z en y hy _ fun H1 Z1 v s1 r1 => hb.run F σ H1 Z1 (en.step s1) i rfl _ fun H2 Z2 w s2 r2 => ?_
  obtain ⟨p, vs, u, e, hz, h1, r3⟩ := h (Enc.mono s2.zz r1)
  exact ⟨p, vs, i, u, e, r2, SqT.of (s2.zh _ _ hz), h1, q H2 Z2 u (s1.trans s2) r3⟩
theorem px_2a {m : Option (P2 α β)} {j} {p2 : Pos} (ha : PX X a Γ m) : PX X (.Subscript a (.Constant (.int 0) j p2) pos) Γ (m.map P2.a) := px_tup (i := 0) (j := none) (p2 := p2) (by intro K Z v x hh; obtain ⟨p, v1, v2, e, h, r1, r2⟩ := hh; exact ⟨p, _, v1, e, h, rfl, r1⟩) ha (fun _ _ => rfl) px_int
theorem px_2b {m : Option (P2 α β)} {j} {p2 : Pos} (ha : PX X a Γ m) : PX X (.Subscript a (.Constant (.int 1) j p2) pos) Γ (m.map P2.b) := px_tup (i := 1) (j := none) (p2 := p2) (by intro K Z v x hh; obtain ⟨p, v1, v2, e, h, r1, r2⟩ := hh; exact ⟨p, _, v2, e, h, rfl, r2⟩) ha (fun _ _ => rfl) px_int
theorem px_3a {m : Option (P3 α β γ)} {j} {p2 : Pos} (ha : PX X a Γ m) : PX X (.Subscript a (.Constant (.int 0) j p2) pos) Γ (m.map P3.a) := px_tup (i := 0) (j := none) (p2 := p2) (by intro K Z v x hh; obtain ⟨p, v1, v2, v3, e, h, r1, r2, r3⟩ := hh; exact ⟨p, _, v1, e, h, rfl, r1⟩) ha (fun _ _ => rfl) px_int
theorem px_3b {m : Option (P3 α β γ)} {j} {p2 : Pos} (ha : PX X a Γ m) : PX X (.Subscript a (.Constant (.int 1) j p2) pos) Γ (m.map P3.b) := px_tup (i := 1) (j := none) (p2 := p2) (by intro K Z v x hh; obtain ⟨p, v1, v2, v3, e, h, r1, r2, r3⟩ := hh; exact ⟨p, _, v2, e, h, rfl, r2⟩) ha (fun _ _ => rfl) px_int
theorem px_3c {m : Option (P3 α β γ)} {j} {p2 : Pos} (ha : PX X a Γ m) : PX X (.Subscript a (.Constant (.int 2) j p2) pos) Γ (m.map P3.c) := px_tup (i := 2) (j := none) (p2 := p2) (by intro K Z v x hh; obtain ⟨p, v1, v2, v3, e, h, r1, r2, r3⟩ := hh; exact ⟨p, _, v3, e, h, rfl, r3⟩) ha (fun _ _ => rfl) px_int
theorem px_4a {m : Option (P4 α β γ δ)} {j} {p2 : Pos} (ha : PX X a Γ m) : PX X (.Subscript a (.Constant (.int 0) j p2) pos) Γ (m.map P4.a) := px_tup (i := 0) (j := none) (p2 := p2) (by intro K Z v x hh; obtain ⟨p, v1, v2, v3, v4, e, h, r1, r2, r3, r4⟩ := hh; exact ⟨p, _, v1, e, h, rfl, r1⟩) ha (fun _ _ => rfl) px_int
theorem px_4b {m : Option (P4 α β γ δ)} {j} {p2 : Pos} (ha : PX X a Γ m) : PX X (.Subscript a (.Constant (.int 1) j p2) pos) Γ (m.map P4.b) := px_tup (i := 1) (j := none) (p2 := p2) (by intro K Z v x hh; obtain ⟨p, v1, v2, v3, v4, e, h, r1, r2, r3, r4⟩ := hh; exact ⟨p, _, v2, e, h, rfl, r2⟩) ha (fun _ _ => rfl) px_int
theorem px_4c {m : Option (P4 α β γ δ)} {j} {p2 : Pos} (ha : PX X a Γ m) : PX X (.Subscript a (.Constant (.int 2) j p2) pos) Γ (m.map P4.c) := px_tup (i := 2) (j := none) (p2 := p2) (by intro K Z v x hh; obtain ⟨p, v1, v2, v3, v4, e, h, r1, r2, r3, r4⟩ := hh; exact ⟨p, _, v3, e, h, rfl, r3⟩) ha (fun _ _ => rfl) px_int
theorem px_4d {m : Option (P4 α β γ δ)} {j} {p2 : Pos} (ha : PX X a Γ m) : PX X (.Subscript a (.Constant (.int 3) j p2) pos) Γ (m.map P4.d) := px_tup (i := 3) (j := none) (p2 := p2) (by intro K Z v x hh; obtain ⟨p, v1, v2, v3, v4, e, h, r1, r2, r3, r4⟩ := hh; exact ⟨p, _, v4, e, h, rfl, r4⟩) ha (fun _ _ => rfl) px_int
/-! ### isinstance(e, T), T a built-in type -/
class Tyv (α : Type) [Enc α] (t : outParam String) : Prop where
  ty : ∀ {K : Fg} {Z H : Hp} {v : V} {x : α}, Same Z H → Enc.rel K Z v x → TyX K H v (.type t)
instance : Tyv Int "int" := ⟨fun _ h => by cases h; exact .base (.int _)⟩
instance : Tyv Bool "bool" := ⟨fun _ h => by cases h; exact .base (.bl _)⟩
instance : Tyv Str "str" := ⟨fun _ h => by cases h; exact .base (.str _)⟩
instance : Tyv Unit "NoneType" := ⟨fun _ h => by cases h; exact .base .non⟩
instance : Tyv (P2 α β) "tuple" := ⟨fun s ⟨p, v1, v2, e, h, _⟩ => by subst e; exact .base (.tup (s _ _ h))⟩
instance : Tyv (P3 α β γ) "tuple" := ⟨fun s ⟨p, v1, v2, v3, e, h, _⟩ => by subst e; exact .base (.tup (s _ _ h))⟩
instance : Tyv (P4 α β γ δ) "tuple" := ⟨fun s ⟨p, v1, v2, v3, v4, e, h, _⟩ => by subst e; exact .base (.tup (s _ _ h))⟩
instance : Tyv (List α) "list" := ⟨fun s ⟨p, _, e, h, vs, eo, _⟩ => by subst e eo; exact .base (.lst (s _ _ h))⟩
theorem px_isi {t : String} [Tyv α t] {m : Option α} {T : String} {r : Bool} {nm : Str} {p2 : Pos} (hm : X.mg "isinstance" = none) (hT : X.mg nm = none) (ha : PX X a Γ m) (hk : kitB t T = some r := by decide +kernel) (hv : bootBuiltins nm = some (.type T) := by decide +kernel)
    (hg : Gl X "isinstance" := by rfl) (hgT : Gl X nm := by rfl) (hnn : nm ≠ "__name__" := by decide) (hnd : (nm == ("__debug__" : Str)) = false := by decide)
    (h1 : starEach [a, .Name nm p2] X.env = (false, eval a X.env) :: starEach [.Name nm p2] X.env := by rfl) : PX X (.Call (.Name "isinstance" p) [a, .Name nm p2] [] pos) Γ (m.map fun _ => r) :=
  px_of (pe_callB call_isi hg hm (by decide +kernel) (pa_cons pe_w (pa_cons (pe_bltn (v := .ty T) hgT hT hv rfl hnn hnd) pa_nil) h1) (he := h1) (hpl := rfl)) fun F σ H Z en x hx Q q => by
    obtain ⟨y, hy, rfl⟩ := Option.map_eq_some_iff.mp hx
    refine ha.run F σ H Z en y hy _ fun H1 Z1 v s1 r1 => ?_
    exact ⟨v, .ty T, _, _, r, rfl, .ty T, Tyv.ty s1.zh r1, kit_ty hk, q H1 Z1 _ s1 rfl⟩
end
end G
/-! GMut: comprehensions; lists of the def's own changed. -/
namespace G
open PySem L2
/-! ### comprehensions -/
def compM {ι β : Type} : List ι → (ι → Option Bool) → (ι → Option β) → Option (List β)
  | [], _, _ => some []
  | x :: xs, p, f => match p x with
    | none => none
    | some false => compM xs p f
    | some true => match f x with
      | none => none
      | some y => match compM xs p f with
        | none => none
        | some ys => some (y :: ys)
theorem compM_len {ι β : Type} {p : ι → Option Bool} {f : ι → Option β} : ∀ {xs : List ι} {ys : List β}, compM xs p f = some ys → ys.length ≤ xs.length
  | [], ys, h => by cases h; exact Nat.le_refl _
  | x :: xs, ys, h => by
    rw [compM] at h
    split at h
    · cases h
    · exact Nat.le_succ_of_le (compM_len h)
    · split at h
      · cases h
      · split at h
        · cases h
        · rename_i zs hz
          cases h
          exact Nat.succ_le_succ (compM_len hz)
/-- the walked thing's length is bounded -/
def oShortL {ι : Type} (m : Option (List ι)) : Option (List ι) := m.bind fun xs => if xs.length < sizeLine then some xs else none
def oComp {ι β : Type} (m : Option (List ι)) (p : ι → Option Bool) (f : ι → Option β) : Option (List β) := m.bind fun xs => if xs.length < sizeLine then compM xs p f else none
def wipeE (Γ : List Ent) : List Nat → List Ent
  | [] => Γ
  | v :: vs => (wipeE Γ vs).set v .no
theorem EnvOk.wipe {K : Fg} {F : Frame} {σ : St} {H Z : Hp} {Γ : List Ent} (en : EnvOk K F σ H Z Γ) : ∀ vs : List Nat, EnvOk K F (L2.wipe σ vs) H Z (wipeE Γ vs)
  | [] => en
  | v :: vs => (EnvOk.wipe en vs).set_no v none
abbrev Blk (X : Cx) (scope : Scope) (s : Shared) (H : Hp) (C : Addr) (cl : List (Str × Addr)) (fp : List Addr) : Cx := X.blk s H scope (compEnvC scope cl C X.env) fp
/-- a clause's tests -/
def wTs (X : Cx) (ifs : List Expr) : TT := fun σ H Q => ∃ t : TT, PTs X ifs t ∧ t σ H Q
theorem pts_w {X : Cx} {ifs : List Expr} : PTs X ifs (wTs X ifs) := ⟨fun pins s σ H Q I ⟨_, h, q⟩ => h.run pins s σ H Q I q⟩
structure PTXs (X : Cx) (ifs : List Expr) (Γ : List Ent) (m : Option Bool) : Prop where
  run : ∀ (F : Frame) (σ : St) (H Z : Hp), EnvOk X.K F σ H Z Γ → ∀ b, m = some b → ∀ Q : Bool → Hp → Prop, (∀ H' Z', Step H Z H' Z' → Q b H') → wTs X ifs σ H Q
section
variable {X : Cx} {Γ : List Ent} {e a b c : Expr} {pos p : Pos} {α β ι : Type} [Enc α] [Enc β] [Enc ι]
theorem ptxs_nil : PTXs X [] Γ (some true) := .mk fun F σ H Z en x hx Q q => ⟨_, pts_nil, by cases hx; exact q H Z (Step.refl en.zh)⟩
theorem ptxs_one {m : Option Bool} (h : PTX X c Γ m) : PTXs X [c] Γ m := .mk fun F σ H Z en x hx Q q => ⟨_, pts_one pt_w, h.run F σ H Z en x hx Q q⟩
theorem Step.hide {H1 Z1 Hc Zc H4 Z4 : Hp} {D : Addr} {vs : List V} (st : Step H1 Z1 Hc Zc) (hD : Hc D = none) (s : Step (upd Hc D (.lst vs)) Zc H4 Z4) : Step H1 Z1 (fun a => if a = D then none else H4 a) Z4 := by
  have d1 : ∀ a o, H1 a = some o → a ≠ D := fun a o h z => by subst z; rw [st.hh a o h] at hD; cases hD
  have zD : Z4 D = none := (s.old D _ upd_same).trans (st.zh.free hD)
  refine ⟨fun a o h => ?_, st.zz.trans s.zz, fun a o h => ?_, fun a o h => ?_⟩
  · show (if a = D then none else H4 a) = some o
    rw [if_neg (d1 a o h)]
    exact s.hh a o (by rw [upd_ne (d1 a o h)]; exact st.hh a o h)
  · show (if a = D then none else H4 a) = some o
    rw [if_neg (fun z => by subst z; rw [zD] at h; cases h)]
    exact s.zh a o h
  · have := s.old a o (by rw [upd_ne (d1 a o h)]; exact st.hh a o h)
    exact this.trans (st.old a o h)
theorem wipe_get {σ : St} {j : Nat} : ∀ {vs : List Nat}, j ∉ vs → (L2.wipe σ vs)[j]? = σ[j]?
  | [], _ => rfl
  | v :: vs, h => by
    rw [L2.wipe, List.getElem?_set_ne (fun z => h (by rw [z]; exact List.mem_cons_self))]
    exact wipe_get fun z => h (List.mem_cons_of_mem _ z)
theorem wipe_in {σ : St} {j : Nat} : ∀ {vs : List Nat}, j ∈ vs → (L2.wipe σ vs)[j]? = if j < σ.length then some none else none
  | v :: vs, h => by
    rw [L2.wipe]
    by_cases e : j = v
    · subst e
      by_cases hl : j < σ.length
      · rw [if_pos hl, List.getElem?_set_self (by rw [L2.wipe_length]; exact hl)]
      · rw [if_neg hl, List.getElem?_eq_none (by rw [List.length_set, L2.wipe_length]; omega)]
    · rw [List.getElem?_set_ne (Ne.symm e)]
      exact wipe_in ((List.mem_cons.mp h).resolve_left e)
theorem wipe_ag {σ σ2 : St} {js vs : List Nat} (h : Ag js (L2.wipe σ vs) σ2) (hj : ∀ j ∈ js, j ∈ vs) : L2.wipe σ2 vs = L2.wipe σ vs := by
  apply List.ext_getElem?
  intro j
  have hl : σ2.length = σ.length := h.1.trans (L2.wipe_length σ vs)
  by_cases hv : j ∈ vs
  · rw [wipe_in hv, wipe_in hv, hl]
  · rw [wipe_get hv, h.2 j fun z => hv (hj j z)]
def gC (X : Cx) (scope : Scope) (tg : Expr) : TG := fun v σ H Q => ∀ s H0 C cl fp, wG (Blk X scope s H0 C cl fp) tg v σ H Q
def tC (X : Cx) (scope : Scope) (ifs : List Expr) : TT := fun σ H Q => ∀ s H0 C cl fp, wTs (Blk X scope s H0 C cl fp) ifs σ H Q
def eC (X : Cx) (scope : Scope) (elt : Expr) : TE := fun σ H Q => ∀ s H0 C cl fp, wE (Blk X scope s H0 C cl fp) elt σ H Q
theorem comp_read {elt tg iter : Expr} {ifs : List Expr} {scope : Scope} {vs js : List Nat} {m : Option (List ι)} {pr : ι → Option Bool} {f : ι → Option β} {T : ι → List Ent → List Ent} (hi : PIC X tg iter Γ m)
    (hg : ∀ s H C cl fp, PGX (Blk X scope s H C cl fp) tg js T) (hj : ∀ j ∈ js, j ∈ vs)
    (ht : ∀ s H C cl fp (x : ι), PTXs (Blk X scope s H C cl fp) ifs (T x (wipeE Γ vs)) (pr x)) (he : ∀ s H C cl fp (x : ι), PX (Blk X scope s H C cl fp) elt (T x (wipeE Γ vs)) (f x))
    (F : Frame) (σ : St) (H Z : Hp) (en : EnvOk X.K F σ H Z Γ) (ys : List β) (hy : oComp m pr f = some ys) (Q : VK) (q : ∀ H' Z' l us, Step H Z H' Z' → H' l = none → All2 (Enc.rel X.K Z') us ys → Q (.ref l) (upd H' l (.lst us))) :
    tLc (wI X tg iter) (gC X scope tg) (tC X scope ifs) (eC X scope elt) vs σ H Q := by
  obtain ⟨xs, h1, h2⟩ := Option.bind_eq_some_iff.mp hy
  by_cases hz : xs.length < sizeLine
  case neg => rw [if_neg hz] at h2; cases h2
  rw [if_pos hz] at h2
  refine hi.run F σ H Z en xs h1 _ fun J H1 Z1 s1 src D hD => ?_
  have en1 := en.step s1
  refine ⟨fun i n H' => n = xs.length - i ∧ i ≤ xs.length ∧ ∃ Hc Zc us done todo, Step H1 Z1 Hc Zc ∧ Hc D = none ∧ H' = upd Hc D (.lst us) ∧ All2 (Enc.rel X.K Zc) us done ∧ compM (xs.drop i) pr f = some todo ∧ ys = done ++ todo ∧ done.length ≤ i,
    ⟨xs.length, by simp, Nat.zero_le _, H1, Z1, [], [], ys, Step.refl s1.zh, hD, rfl, trivial, h2, rfl, Nat.le_refl _⟩, ?_⟩
  rintro i n H' ⟨rfl, hi', Hc, Zc, us, done, todo, st, hc, rfl, ra, hm, ey, hl⟩
  have sn : Step Hc Zc (upd Hc D (.lst us)) Zc := Step.newH st.zh hc
  have s12 : Step H1 Z1 (upd Hc D (.lst us)) Zc := st.trans sn
  obtain ⟨go, stop, yld⟩ := src _ Zc ⟨s12.hh, s12.zz⟩ s12.zh i
  by_cases hlt : i < xs.length
  · refine .inr ⟨go hlt, ?_⟩
    have hd : xs.drop i = xs[i] :: xs.drop (i + 1) := List.drop_eq_getElem_cons hlt
    rw [hd] at hm
    refine ⟨fun H' => ∃ Hc Zc us done todo, Step H1 Z1 Hc Zc ∧ Hc D = none ∧ H' = upd Hc D (.lst us) ∧ All2 (Enc.rel X.K Zc) us done ∧ compM (xs.drop (i + 1)) pr f = some todo ∧ ys = done ++ todo ∧ done.length ≤ i + 1, fun H' p => ⟨xs.length - (i + 1), by omega, rfl, hlt, p⟩, fun v H2 y => ?_⟩
    obtain ⟨Z2, s2, r⟩ := yld v H2 xs[i] y (by simp [hlt])
    have enw : EnvOk X.K F (L2.wipe σ vs) H2 Z2 (wipeE Γ vs) := ((en1.step s12).step s2).wipe vs
    intro s0 H0 C cl fp
    refine (hg s0 H0 C cl fp).run F _ H2 Z2 _ v xs[i] enw r _ fun σ3 en3 ag => ⟨wipe_ag ag hj, ?_⟩
    intro s0 H0 C cl fp
    cases hp : pr xs[i] with
    | none => simp only [compM, hp] at hm; cases hm
    | some b =>
      refine (ht s0 H0 C cl fp xs[i]).run F σ3 H2 Z2 en3 b hp _ fun H3 Z3 s3 => ?_
      have hide : ∀ {H4 Z4 : Hp}, Step (upd Hc D (.lst us)) Zc H4 Z4 → Step H1 Z1 (fun a => if a = D then none else H4 a) Z4 ∧ H4 D = some (.lst us) ∧ ∀ o, upd (fun a => if a = D then none else H4 a) D o = upd H4 D o := fun {H4 Z4} s4 => by
        refine ⟨Step.hide st hc s4, s4.hh D _ upd_same, fun o => ?_⟩
        funext a
        by_cases e : a = D
        · subst e; rw [upd_same, upd_same]
        · rw [upd_ne e, upd_ne e, if_neg e]
      cases b with
      | false =>
        simp only [compM, hp] at hm
        obtain ⟨a1, a2, a3⟩ := hide (s2.trans s3)
        refine ⟨_, Z3, us, done, todo, a1, if_pos rfl, ?_, all2_mono (s2.zz.trans s3.zz) ra, hm, ey, Nat.le_succ_of_le hl⟩
        rw [a3]
        funext a
        by_cases e : a = D
        · subst e; rw [upd_same]; exact a2
        · rw [upd_ne e]
      | true =>
        intro s0 H0 C cl fp
        cases hf : f xs[i] with
        | none => simp only [compM, hp, hf] at hm; cases hm
        | some y0 =>
          refine (he s0 H0 C cl fp xs[i]).run F σ3 H3 Z3 (en3.step s3) y0 hf _ fun H4 Z4 w s4 r4 => ?_
          obtain ⟨a1, a2, a3⟩ := hide ((s2.trans s3).trans s4)
          cases hc2 : compM (xs.drop (i + 1)) pr f with
          | none => simp only [compM, hp, hf, hc2] at hm; cases hm
          | some td =>
            simp only [compM, hp, hf, hc2] at hm
            cases hm
            refine ⟨us, a2, by rw [ra.len]; omega, _, Z4, us ++ [w], done ++ [y0], td, a1, if_pos rfl, (a3 _).symm, (all2_mono ((s2.zz.trans s3.zz).trans s4.zz) ra).append (All2.one r4), rfl, by rw [ey, List.append_assoc]; rfl, by rw [List.length_append]; exact Nat.succ_le_succ hl⟩
  · have e : i = xs.length := by omega
    subst e
    rw [List.drop_length, compM] at hm
    cases hm
    rw [List.append_nil] at ey
    subst ey
    exact .inl ⟨stop (Nat.le_refl _), q Hc Zc D us (s1.trans st) hc ra⟩
theorem pn_comp {elt tg iter : Expr} {ifs : List Expr} {scope : Scope} {js : List Nat} {m : Option (List ι)} {pr : ι → Option Bool} {f : ι → Option β} {T : ι → List Ent → List Ent} (own : List (Str × Nat)) (hc : X.calm = true) (hN : X.N.Nodup) (ok : blkC X.N X.env.scope scope own = true) (hi : PIC X tg iter Γ m)
    (hg : ∀ s H C cl fp, PGX (Blk X scope s H C cl fp) tg js T) (ht : ∀ s H C cl fp (x : ι), PTXs (Blk X scope s H C cl fp) ifs (T x (wipeE Γ (own.map (·.2)))) (pr x)) (he : ∀ s H C cl fp (x : ι), PX (Blk X scope s H C cl fp) elt (T x (wipeE Γ (own.map (·.2)))) (f x))
    (hj : ∀ j ∈ js, j ∈ own.map (·.2) := by decide) (hs : ∀ x, foldedSetIterable iter X.env x = pure x := by intro _; rfl) : PN X (.ListComp elt [⟨tg, iter, ifs, 0⟩] scope pos) Γ (oComp m pr f) :=
  pn_of (pe_lc (own := own) (g := gC X scope tg) (tt := tC X scope ifs) (te := eC X scope elt) hc hN pi_w (blkOk_by ok) (fun s H C cl fp => ⟨fun pins s1 σ H1 v u Q I r h => h s H C cl fp pins s1 u I r⟩) (fun s H C cl fp => ⟨fun pins s1 σ H1 Q I h => pts_w.run pins s1 σ H1 Q I (h s H C cl fp)⟩)
    (fun s H C cl fp => ⟨fun pins s1 σ H1 Q I h => h s H C cl fp pins s1 I⟩) hs) fun F σ H Z en ys hy Q q => comp_read hi hg hj ht he F σ H Z en ys hy Q q
/-! ### name = [..] on one line; append, clear, pop, a place stored -/
variable {W : WX} {ER : ExS} {rest : List Stmt} {pos' pos2 apos : Pos} {N L R : Type} [Res R] {GN : N → List Ent} {GL : L → List Ent} {o : Fl N L R}
theorem bx_comp (i : Nat) {nm : Str} {py spos : Pos} {elt tg iter : Expr} {ifs : List Expr} {scope : Scope} {js : List Nat} {m : Option (List ι)} {pr : ι → Option Bool} {f : ι → Option β} {T : ι → List Ent → List Ent} {k : List β → Option (Fl N L R)} (own : List (Str × Nat)) (hc : X.calm = true) (hN : X.N.Nodup)
    (ok : blkC X.N X.env.scope scope own = true) (hi : PIC X tg iter Γ m)
    (hg : ∀ s H C cl fp, PGX (Blk X scope s H C cl fp) tg js T) (ht : ∀ s H C cl fp (x : ι), PTXs (Blk X scope s H C cl fp) ifs (T x (wipeE Γ (own.map (·.2)))) (pr x)) (he : ∀ s H C cl fp (x : ι), PX (Blk X scope s H C cl fp) elt (T x (wipeE Γ (own.map (·.2)))) (f x))
    (h : (oComp m pr f).bind k = some o) (hr : ∀ xs, k xs = some o → BX X W ER rest (Γ.set i (.ow none xs)) GN GL o) (hsw : swapsWith (.ListComp elt [⟨tg, iter, ifs, 0⟩] scope pos) (some (.Name nm py)) spos.line X.env = pure true)
    (hi2 : X.N[i]? = some nm := by rfl) (hyl : X.env.scope.names.lookup nm = some .local := by rfl)
    (hj : ∀ j ∈ js, j ∈ own.map (·.2) := by decide) (hs : ∀ x, foldedSetIterable iter X.env x = pure x := by intro _; rfl) : BX X W ER (.Assign [.Name nm py] (.ListComp elt [⟨tg, iter, ifs, 0⟩] scope pos) spos :: rest) Γ GN GL o := by
  obtain ⟨ys, h2, h3⟩ := Option.bind_eq_some_iff.mp h
  refine bx_cons (ps_setLc (i := i) (own := own) (g := gC X scope tg) (tt := tC X scope ifs) (te := eC X scope elt) hc hN hi2 hyl hsw pi_w (blkOk_by ok) (fun s H C cl fp => ⟨fun pins s1 σ H1 v u Q I r h => h s H C cl fp pins s1 u I r⟩) (fun s H C cl fp => ⟨fun pins s1 σ H1 Q I h => pts_w.run pins s1 σ H1 Q I (h s H C cl fp)⟩)
    (fun s H C cl fp => ⟨fun pins s1 σ H1 Q I h => h s H C cl fp pins s1 I⟩) hs) fun F D ac σ H Z en => ?_
  exact comp_read hi hg hj ht he F σ H Z en ys h2 _ fun H' Z' l us s hn r => (hr ys h3).run F D ac _ _ Z' ((en.step s).set_ow i hn r)
end
end G
/-! GGlue: small rules for the printed walks. -/
namespace G
open PySem L2
theorem retOf_some {N L R : Type} {m : Option (Fl N L R)} {r : R} (h : retOf m = some r) : m = some (.rt r) := by
  cases m with
  | none => cases h
  | some o => cases o <;> first | (cases h; rfl) | cases h
section
variable {X : Cx} {W : WX} {ER : ExS} {sts : List Stmt} {Γ Γ' : List Ent} {e a b c d : Expr} {pos p : Pos} {N L R : Type} [Res R] {GN : N → List Ent} {GL : L → List Ent} {o : Fl N L R} {α β γ δ : Type} [Enc α] [Enc β] [Enc γ] [Enc δ]
theorem bx_start (e : Γ' = Γ) (h : BX X W ER sts Γ GN GL o) : BX X W ER sts Γ' GN GL o := by rw [e]; exact h
/-! chains -/
def cLt (i j : Int) : Bool := decide (i < j)
def cLe (i j : Int) : Bool := decide (i ≤ j)
def cGt (i j : Int) : Bool := decide (j < i)
def cGe (i j : Int) : Bool := decide (j ≤ i)
def oChain (f g : Int → Int → Bool) (a b c : Option Int) : Option Bool := a.bind fun x => b.bind fun y => if f x y = true then c.bind fun z => some (g y z) else some false
theorem px_chain {op op' : CmpOp} {f g : Int → Int → Bool} {m1 m2 m3 : Option Int} (ho : OpR X (compareOp op) (rI0 fun i j => .bl (f i j))) (ho' : OpR X (compareOp op') (rI0 fun i j => .bl (g i j))) (ha : PX X a Γ m1) (hb : PX X b Γ m2) (hc : PX X c Γ m3)
    (h1 : lastMarks [op, op'] [b, c] = false := by with_unfolding_all rfl) : PX X (.Compare a [op, op'] [b, c] pos) Γ (oChain f g m1 m2 m3) := px_of (pe_chain ho ho' pe_w pe_w pe_w h1) fun F σ H Z en x hx Q q => by
  obtain ⟨i, hi, hx⟩ := Option.bind_eq_some_iff.mp hx
  obtain ⟨j, hj, hx⟩ := Option.bind_eq_some_iff.mp hx
  refine ha.run F σ H Z en i hi _ fun H1 Z1 v s1 r1 => hb.run F σ H1 Z1 (en.step s1) j hj _ fun H2 Z2 w s2 r2 => ⟨i, j, r1, r2, f i j, rfl, ?_⟩
  cases hf : f i j with
  | true =>
    rw [hf, if_pos rfl] at hx
    obtain ⟨k, hk, hx⟩ := Option.bind_eq_some_iff.mp hx
    cases hx
    rw [if_pos rfl]
    exact hc.run F σ H2 Z2 (en.step (s1.trans s2)) k hk _ fun H3 Z3 u s3 r3 => ⟨j, k, r2, r3, q H3 Z3 _ ((s1.trans s2).trans s3) rfl⟩
  | false =>
    rw [hf, if_neg Bool.false_ne_true] at hx
    cases hx
    rw [if_neg Bool.false_ne_true]
    exact q H2 Z2 _ (s1.trans s2) rfl
theorem ptx_chain {op op' : CmpOp} {f g : Int → Int → Bool} {m1 m2 m3 : Option Int} (ho : OpR X (compareOp op) (rI0 fun i j => .bl (f i j))) (ho' : OpR X (compareOp op') (rI0 fun i j => .bl (g i j))) (ha : PX X a Γ m1) (hb : PX X b Γ m2) (hc : PX X c Γ m3)
    (h1 : lastMarks [op, op'] [b, c] = false := by with_unfolding_all rfl) : PTX X (.Compare a [op, op'] [b, c] pos) Γ (oChain f g m1 m2 m3) := ptx_of (pt_chain ho ho' pe_w pe_w pe_w h1) fun F σ H Z en x hx Q q => by
  obtain ⟨i, hi, hx⟩ := Option.bind_eq_some_iff.mp hx
  obtain ⟨j, hj, hx⟩ := Option.bind_eq_some_iff.mp hx
  refine ha.run F σ H Z en i hi _ fun H1 Z1 v s1 r1 => hb.run F σ H1 Z1 (en.step s1) j hj _ fun H2 Z2 w s2 r2 => ⟨i, j, r1, r2, f i j, rfl, ?_⟩
  cases hf : f i j with
  | true =>
    rw [hf, if_pos rfl] at hx
    obtain ⟨k, hk, hx⟩ := Option.bind_eq_some_iff.mp hx
    cases hx
    rw [if_pos rfl]
    exact hc.run F σ H2 Z2 (en.step (s1.trans s2)) k hk _ fun H3 Z3 u s3 r3 => ⟨j, k, r2, r3, g j k, rfl, q H3 Z3 ((s1.trans s2).trans s3)⟩
  | false =>
    rw [hf, if_neg Bool.false_ne_true] at hx
    cases hx
    rw [if_neg Bool.false_ne_true]
    exact ⟨false, rfl, q H2 Z2 (s1.trans s2)⟩
/-! len of tuples -/
theorem px_lenT {m : Option α} {n : Nat} (h : ∀ {K : Fg} {Z : Hp} {v : V} {x : α}, Enc.rel K Z v x → ∃ p vs, v = .ref p ∧ Z p = some (.tup vs) ∧ vs.length = n) (hm : X.mg "len" = none) (ha : PX X a Γ m) (hg : Gl X "len") (hs : starEach [a] X.env = [(false, eval a X.env)]) :
    PX X (.Call (.Name "len" p) [a] [] pos) Γ (m.map fun _ => (n : Int)) :=
  px_of (pe_callB call_len_seq hg hm PySem.boot_len (pa_cons pe_w pa_nil (by rw [hs]; rfl)) (he := by rw [hs]; rfl) (hpl := rfl)) fun F σ H Z en x hx Q q => by
    obtain ⟨y, hy, rfl⟩ := Option.map_eq_some_iff.mp hx
    refine ha.run F σ H Z en y hy _ fun H' Z' v s r => ?_
    obtain ⟨p, vs, e, hz, hl⟩ := h r
    refine ⟨p, vs, by rw [e], .inr (SqT.of (s.zh _ _ hz)), ?_⟩
    rw [hl]
    exact q H' Z' _ s rfl
theorem px_len2 {m : Option (P2 α β)} (hm : X.mg "len" = none) (ha : PX X a Γ m) (hg : Gl X "len" := by rfl) (hs : starEach [a] X.env = [(false, eval a X.env)] := by rfl) : PX X (.Call (.Name "len" p) [a] [] pos) Γ (m.map fun _ => (2 : Int)) :=
  px_lenT (n := 2) (by intro K Z v x h; obtain ⟨p, v1, v2, e, hz, _⟩ := h; exact ⟨p, _, e, hz, rfl⟩) hm ha hg hs
theorem px_len3 {m : Option (P3 α β γ)} (hm : X.mg "len" = none) (ha : PX X a Γ m) (hg : Gl X "len" := by rfl) (hs : starEach [a] X.env = [(false, eval a X.env)] := by rfl) : PX X (.Call (.Name "len" p) [a] [] pos) Γ (m.map fun _ => (3 : Int)) :=
  px_lenT (n := 3) (by intro K Z v x h; obtain ⟨p, v1, v2, v3, e, hz, _⟩ := h; exact ⟨p, _, e, hz, rfl⟩) hm ha hg hs
theorem px_len4 {m : Option (P4 α β γ δ)} (hm : X.mg "len" = none) (ha : PX X a Γ m) (hg : Gl X "len" := by rfl) (hs : starEach [a] X.env = [(false, eval a X.env)] := by rfl) : PX X (.Call (.Name "len" p) [a] [] pos) Γ (m.map fun _ => (4 : Int)) :=
  px_lenT (n := 4) (by intro K Z v x h; obtain ⟨p, v1, v2, v3, v4, e, hz, _⟩ := h; exact ⟨p, _, e, hz, rfl⟩) hm ha hg hs
/-! in -/
def oIn (a : Option Int) (b : Option (List Int)) : Option Bool := o2 a b fun i xs => some (decide (i ∈ xs))
def oNotIn (a : Option Int) (b : Option (List Int)) : Option Bool := o2 a b fun i xs => some (!decide (i ∈ xs))
theorem eqV_int (i j : Int) : eqV (.int i) (.int j) = (i == j) := rfl
theorem inV_int (i : Int) : ∀ xs : List Int, inV (.int i) (xs.map V.int) = decide (i ∈ xs)
  | [] => rfl
  | x :: xs => by
    have ih := inV_int i xs
    unfold inV at ih ⊢
    rw [List.map_cons, List.any_cons, ih, eqV_int]
    by_cases e : x = i
    · subst e; rw [beq_self_eq_true, Bool.true_or, decide_eq_true List.mem_cons_self]
    · rw [beq_false_of_ne e, Bool.false_or]
      by_cases h : i ∈ xs
      · rw [decide_eq_true h, decide_eq_true (List.mem_cons_of_mem _ h)]
      · rw [decide_eq_false h, decide_eq_false (fun z => h ((List.mem_cons.mp z).resolve_left (Ne.symm e)))]
theorem flat_ints : ∀ xs : List Int, (xs.map V.int).all flatV = true
  | [] => rfl
  | x :: xs => by rw [List.map_cons, List.all_cons, flat_ints xs]; rfl
theorem in_read {neg : Bool} {m1 : Option Int} {m2 : Option (List Int)} (ha : PX X a Γ m1) (hb : PL X b Γ m2) (F : Frame) (σ : St) (H Z : Hp) (en : EnvOk X.K F σ H Z Γ) {i : Int} {xs : List Int} (h1 : m1 = some i) (h2 : m2 = some xs) (Q : VK)
    (q : ∀ H' Z', Step H Z H' Z' → Q (.bl (if neg then !decide (i ∈ xs) else decide (i ∈ xs))) H') : tOp (rIn X.K neg) (wE X a) (wE X b) σ H Q := by
  refine ha.run F σ H Z en i h1 _ fun H1 Z1 v s1 r1 => hb.run F σ H1 Z1 (en.step s1) xs h2 _ fun H2 Z2 l vs s2 hl r2 => ?_
  cases r1
  rw [all2_V r2] at hl
  refine ⟨l, xs.map V.int, rfl, .inl (SqL.of hl), rfl, flat_ints xs, ?_⟩
  rw [inV_int]
  exact q H2 Z2 (s1.trans s2)
theorem px_in {m1 : Option Int} {m2 : Option (List Int)} (ha : PX X a Γ m1) (hb : PL X b Γ m2) (hm : behindInMarks .In b = false := by rfl) : PX X (.Compare a [.In] [b] pos) Γ (oIn m1 m2) := px_of (pe_cmpR op_in_seq pe_w pe_w hm) fun F σ H Z en x hx Q q => by
  obtain ⟨i, hi, hx⟩ := Option.bind_eq_some_iff.mp hx
  obtain ⟨xs, hj, hx⟩ := Option.bind_eq_some_iff.mp hx
  cases hx
  exact in_read ha hb F σ H Z en hi hj Q fun H' Z' s => q H' Z' _ s rfl
theorem ptx_in {m1 : Option Int} {m2 : Option (List Int)} (ha : PX X a Γ m1) (hb : PL X b Γ m2) (hm : behindInMarks .In b = false := by rfl) : PTX X (.Compare a [.In] [b] pos) Γ (oIn m1 m2) := ptx_of (pt_cmpR op_in_seq pe_w pe_w hm) fun F σ H Z en x hx Q q => by
  obtain ⟨i, hi, hx⟩ := Option.bind_eq_some_iff.mp hx
  obtain ⟨xs, hj, hx⟩ := Option.bind_eq_some_iff.mp hx
  cases hx
  exact in_read ha hb F σ H Z en hi hj _ fun H' Z' s => ⟨_, rfl, q H' Z' s⟩
theorem px_notin {m1 : Option Int} {m2 : Option (List Int)} (ha : PX X a Γ m1) (hb : PL X b Γ m2) (hm : behindInMarks .NotIn b = false := by rfl) : PX X (.Compare a [.NotIn] [b] pos) Γ (oNotIn m1 m2) := px_of (pe_cmpR op_notIn_seq pe_w pe_w hm) fun F σ H Z en x hx Q q => by
  obtain ⟨i, hi, hx⟩ := Option.bind_eq_some_iff.mp hx
  obtain ⟨xs, hj, hx⟩ := Option.bind_eq_some_iff.mp hx
  cases hx
  exact in_read ha hb F σ H Z en hi hj Q fun H' Z' s => q H' Z' _ s rfl
theorem ptx_notin {m1 : Option Int} {m2 : Option (List Int)} (ha : PX X a Γ m1) (hb : PL X b Γ m2) (hm : behindInMarks .NotIn b = false := by rfl) : PTX X (.Compare a [.NotIn] [b] pos) Γ (oNotIn m1 m2) := ptx_of (pt_cmpR op_notIn_seq pe_w pe_w hm) fun F σ H Z en x hx Q q => by
  obtain ⟨i, hi, hx⟩ := Option.bind_eq_some_iff.mp hx
  obtain ⟨xs, hj, hx⟩ := Option.bind_eq_some_iff.mp hx
  cases hx
  exact in_read ha hb F σ H Z en hi hj _ fun H' Z' s => ⟨_, rfl, q H' Z' s⟩
/-! is None -/
def oIsN {α : Type} (a : Option (Option α)) : Option Bool := a.map Option.isNone
def oIsNotN {α : Type} (a : Option (Option α)) : Option Bool := a.map Option.isSome
theorem non_is {K : Fg} {Z : Hp} {v : V} {x : Option α} (r : Enc.rel K Z v x) : decide (v = .non) = x.isNone := by
  cases x with
  | none => exact decide_eq_true r
  | some y => exact decide_eq_false r.1
theorem px_isn {j pos'} {m : Option (Option α)} (ha : PX X a Γ m) : PX X (.Compare a [.Is] [.Constant .none j pos'] pos) Γ (oIsN m) := px_of (pe_cmp (pc_isN pe_w) (nomark _)) fun F σ H Z en x hx Q q => by
  obtain ⟨y, hy, rfl⟩ := Option.map_eq_some_iff.mp hx
  refine ha.run F σ H Z en y hy _ fun H' Z' v s r => ?_
  rw [non_is r]
  exact q H' Z' _ s rfl
theorem ptx_isn {j pos'} {m : Option (Option α)} (ha : PX X a Γ m) : PTX X (.Compare a [.Is] [.Constant .none j pos'] pos) Γ (oIsN m) := ptx_of (pt_cmp (pc_isN pe_w) (nomark _)) fun F σ H Z en x hx Q q => by
  obtain ⟨y, hy, rfl⟩ := Option.map_eq_some_iff.mp hx
  refine ha.run F σ H Z en y hy _ fun H' Z' v s r => ⟨_, rfl, ?_⟩
  rw [non_is r]
  exact q H' Z' s
theorem px_isnotn {j pos'} {m : Option (Option α)} (ha : PX X a Γ m) : PX X (.Compare a [.IsNot] [.Constant .none j pos'] pos) Γ (oIsNotN m) := px_of (pe_cmp (pc_notN pe_w) (nomark _)) fun F σ H Z en x hx Q q => by
  obtain ⟨y, hy, rfl⟩ := Option.map_eq_some_iff.mp hx
  refine ha.run F σ H Z en y hy _ fun H' Z' v s r => ?_
  rw [non_is r]
  have e : (!y.isNone) = y.isSome := by cases y <;> rfl
  rw [e]
  exact q H' Z' _ s rfl
theorem ptx_isnotn {j pos'} {m : Option (Option α)} (ha : PX X a Γ m) : PTX X (.Compare a [.IsNot] [.Constant .none j pos'] pos) Γ (oIsNotN m) := ptx_of (pt_cmp (pc_notN pe_w) (nomark _)) fun F σ H Z en x hx Q q => by
  obtain ⟨y, hy, rfl⟩ := Option.map_eq_some_iff.mp hx
  refine ha.run F σ H Z en y hy _ fun H' Z' v s r => ⟨_, rfl, ?_⟩
  rw [non_is r]
  have e : (!y.isNone) = y.isSome := by cases y <;> rfl
  rw [e]
  exact q H' Z' s
end
end G
/-! GPut: places (what is owned is changed where it lies), new things that are handed back, moved names. -/
namespace G
open PySem L2
/-- what is in fp alone is changed, into fp' -/
structure Frm (H Z H' Z' : Hp) (fp fp' : Fp) : Prop where
  hh : ∀ a u, H a = some u → ¬ fp a → H' a = some u
  zz : Same Z Z'
  zh : Same Z' H'
  old : ∀ a u, H a = some u → ¬ fp a → Z' a = Z a
  out : ∀ a, fp' a → (fp a ∨ H a = none) ∧ Z' a = none
structure At (K : Fg) (F : Frame) (σ : St) (H Z : Hp) {C : Type} [Enc C] [Own C] (v : V) (c : C) (fp : Fp) (T : C → List Ent) : Prop where
  own : Own.own K Z H v c fp
  zh : Same Z H
  out : ∀ a, fp a → F.H0 a = none ∧ Z a = none
  put : ∀ (H' Z' : Hp) (c' : C) (fp' : Fp), Frm H Z H' Z' fp fp' → Own.own K Z' H' v c' fp' → EnvOk K F σ H' Z' (T c')
section
variable {K : Fg} {F : Frame} {σ : St} {H Z H' Z' : Hp} {C : Type} [Enc C] [Own C] {v : V} {c : C} {fp : Fp} {T : C → List Ent} {α : Type} [Enc α]
theorem At.step (h : At K F σ H Z v c fp T) (s : Step H Z H' Z') : At K F σ H' Z' v c fp T := by
  have dom : ∀ a, fp a → ∃ u, H a = some u := fun a f => by
    obtain ⟨u, hu, _⟩ := Own.odom h.own f
    exact ⟨u, hu⟩
  refine ⟨Own.omono s.zz (fun a f => ?_) h.own, s.zh, fun a f => ⟨(h.out a f).1, ?_⟩, fun H2 Z2 c' fp' g o => ?_⟩
  · obtain ⟨u, hu⟩ := dom a f
    rw [hu]; exact s.hh a u hu
  · obtain ⟨u, hu⟩ := dom a f
    rw [s.old a u hu]; exact (h.out a f).2
  · refine h.put H2 Z2 c' fp' ⟨fun a u hu nf => g.hh a u (s.hh a u hu) nf, s.zz.trans g.zz, g.zh, fun a u hu nf => (g.old a u (s.hh a u hu) nf).trans (s.old a u hu), fun a f => ⟨?_, (g.out a f).2⟩⟩ o
    rcases (g.out a f).1 with q | q
    · exact .inl q
    · exact .inr (s.hh.free q)
theorem EnvOk.at {Γ : List Ent} {i : Nat} {bv : Option Nat} (e : EnvOk K F σ H Z Γ) (hi : Γ[i]? = some (.ow bv c)) : ∃ v fp, σ[i]? = some (some v) ∧ At K F σ H Z v c fp (fun c' => Γ.set i (.ow bv c')) := by
  obtain ⟨o, fp, ho, q0, k⟩ := e.focus hi
  obtain ⟨v, e1, hb, r, q⟩ := q0
  subst e1
  refine ⟨v, fp, ho, r, e.zh, q, fun H' Z' c' fp' g o' => ?_⟩
  have := k H' Z' (.ow bv c') (some v) fp' g.hh g.zz g.zh g.old (fun a f => (g.out a f).1) ⟨v, rfl, hb, o', fun a f => ⟨?_, (g.out a f).2⟩⟩
  · rw [set_self ho] at this; exact this
  · rcases (g.out a f).1 with q' | q'
    · exact (q a q').1
    · exact e.hh.free q'
/-- a list at its place -/
theorem At.lst {xs : List α} {T : List α → List Ent} (h : At K F σ H Z v xs fp T) : ∃ l vs, v = .ref l ∧ H l = some (.lst vs) ∧ All2 (Enc.rel K Z) vs xs ∧ ∀ (us : List V) (ys : List α), All2 (Enc.rel K Z) us ys → EnvOk K F σ (upd H l (.lst us)) Z (T ys) := by
  obtain ⟨l, u, e1, h2, ⟨vs, e2, r⟩, h4⟩ := h.own
  subst e1 e2
  refine ⟨l, vs, rfl, h2, r, fun us ys r' => ?_⟩
  have fl : fp l := (h4 l).mpr rfl
  have zl := (h.out l fl).2
  refine h.put _ Z ys fp ⟨fun a w ha nf => ?_, Same.refl _, fun a w ha => ?_, fun _ _ _ _ => rfl, fun a f => ⟨.inl f, (h.out a f).2⟩⟩ ⟨l, _, rfl, upd_same, ⟨us, rfl, r'⟩, h4⟩
  · rw [upd_ne (fun e => nf (by rw [e]; exact fl))]; exact ha
  · rw [upd_ne (ne_of_none ha zl)]; exact h.zh a w ha
end
/-- e is a place of what the def owns -/
structure PR (X : Cx) (e : Expr) (Γ : List Ent) {C : Type} [Enc C] [Own C] (m : Option C) (T : C → List Ent) : Prop where
  run : ∀ (F : Frame) (σ : St) (H Z : Hp), EnvOk X.K F σ H Z Γ → ∀ c, m = some c → ∀ Q : VK, (∀ H' Z' v fp, Step H Z H' Z' → At X.K F σ H' Z' v c fp T → Q v H') → wE X e σ H Q
section
variable {X : Cx} {Γ : List Ent} {e a b c : Expr} {es : List Expr} {pos pos2 apos p : Pos} {α β γ δ C : Type} [Enc α] [Enc β] [Enc γ] [Enc δ] [Own α] [Own β] [Own γ] [Own δ]
theorem pr_var (i : Nat) {nm : Str} {bv : Option Nat} {C : Type} [Enc C] [Own C] {c : C} (hΓ : Γ[i]? = some (.ow bv c) := by rfl) (hN : X.N[i]? = some nm := by rfl) (hv : Vis X.env.scope nm := by first | exact Or.inl rfl | exact Or.inr (Or.inl rfl) | exact Or.inr (Or.inr rfl)) (hd : (nm == ("__debug__" : Str)) = false := by decide)
    (hcd : (nm == ("__classdict__" : Str)) = false := by decide) : PR X (.Name nm pos) Γ (some c) (fun c' => Γ.set i (.ow bv c')) := .mk fun F σ H Z en y hy Q q pins s I => by
  cases hy
  obtain ⟨v, fp, e1, h⟩ := en.at hΓ
  exact (pe_var hN hv hd hcd).run pins s σ H Q I ⟨v, e1, q H Z v fp (Step.refl en.zh) h⟩
theorem Fp.iff_or {f g h : Fp} {a : Addr} (e : f a ↔ g a ∨ h a) : h a → f a := fun q => e.mpr (.inr q)
theorem pr_2a {x : P2 α β} {T : P2 α β → List Ent} {j} {p2 : Pos} (h : PR X a Γ (some x) T) : PR X (.Subscript a (.Constant (.int 0) j p2) pos) Γ (some x.a) (fun y => T ⟨y, x.b⟩) := .mk fun F σ H Z en y hy Q q pins s I => by
  cases hy
  refine (pe_ix ix_tup pe_w pe_int (fun _ _ => rfl)).run pins s σ H Q I ?_
  refine h.run F σ H Z en x rfl _ fun H1 Z1 v fp s1 A => ?_
  obtain ⟨p, v1, v2, f1, f2, e, hz, r1, r2, hc, hd⟩ := A.own
  subst e
  refine ⟨p, _, 0, v1, rfl, rfl, SqT.of (A.zh _ _ hz), rfl, q H1 Z1 _ f1 s1 ⟨r1, A.zh, fun a q => A.out a ((hc a).mpr (Or.inl q)), fun H2 Z2 y fp2 g o => ?_⟩⟩
  refine A.put H2 Z2 _ (fun a => fp2 a ∨ f2 a) ⟨fun a u hu nf => g.hh a u hu (fun q => nf ((hc a).mpr (Or.inl q))), g.zz, g.zh, fun a u hu nf => g.old a u hu (fun q => nf ((hc a).mpr (Or.inl q))), fun a f => ?_⟩ ⟨p, v1, v2, fp2, f2, rfl, g.zz _ _ hz, o, Own.omono g.zz (fun a q => by
      obtain ⟨u, hu, _⟩ := Own.odom r2 q
      rw [hu]; exact g.hh a u hu (fun q2 => (hd a) q2 q)) r2, fun _ => Iff.rfl, fun a => ?_⟩
  · rcases f with q | q
    · refine ⟨?_, (g.out a q).2⟩
      rcases (g.out a q).1 with q | q
      · exact .inl ((hc a).mpr (Or.inl q))
      · exact .inr q
    · obtain ⟨u, hu, _⟩ := Own.odom r2 q
      exact ⟨.inl ((hc a).mpr (Or.inr (q))), (g.old a u hu (fun q2 => (hd a) q2 q)).trans (A.out a ((hc a).mpr (Or.inr (q)))).2⟩
  · exact fun qn qo => by
      obtain ⟨u, hu, _⟩ := Own.odom r2 qo
      rcases (g.out a qn).1 with q | q
      · exact (hd a) q qo
      · rw [q] at hu; cases hu
theorem pr_2b {x : P2 α β} {T : P2 α β → List Ent} {j} {p2 : Pos} (h : PR X a Γ (some x) T) : PR X (.Subscript a (.Constant (.int 1) j p2) pos) Γ (some x.b) (fun y => T ⟨x.a, y⟩) := .mk fun F σ H Z en y hy Q q pins s I => by
  cases hy
  refine (pe_ix ix_tup pe_w pe_int (fun _ _ => rfl)).run pins s σ H Q I ?_
  refine h.run F σ H Z en x rfl _ fun H1 Z1 v fp s1 A => ?_
  obtain ⟨p, v1, v2, f1, f2, e, hz, r1, r2, hc, hd⟩ := A.own
  subst e
  refine ⟨p, _, 1, v2, rfl, rfl, SqT.of (A.zh _ _ hz), rfl, q H1 Z1 _ f2 s1 ⟨r2, A.zh, fun a q => A.out a ((hc a).mpr (Or.inr (q))), fun H2 Z2 y fp2 g o => ?_⟩⟩
  refine A.put H2 Z2 _ (fun a => f1 a ∨ fp2 a) ⟨fun a u hu nf => g.hh a u hu (fun q => nf ((hc a).mpr (Or.inr (q)))), g.zz, g.zh, fun a u hu nf => g.old a u hu (fun q => nf ((hc a).mpr (Or.inr (q)))), fun a f => ?_⟩ ⟨p, v1, v2, f1, fp2, rfl, g.zz _ _ hz, Own.omono g.zz (fun a q => by
      obtain ⟨u, hu, _⟩ := Own.odom r1 q
      rw [hu]; exact g.hh a u hu (fun q2 => (hd a) q q2)) r1, o, fun _ => Iff.rfl, fun a => ?_⟩
  · rcases f with q | q
    · obtain ⟨u, hu, _⟩ := Own.odom r1 q
      exact ⟨.inl ((hc a).mpr (Or.inl q)), (g.old a u hu (fun q2 => (hd a) q q2)).trans (A.out a ((hc a).mpr (Or.inl q))).2⟩
    · refine ⟨?_, (g.out a q).2⟩
      rcases (g.out a q).1 with q | q
      · exact .inl ((hc a).mpr (Or.inr (q)))
      · exact .inr q
  · exact fun qo qn => by
      obtain ⟨u, hu, _⟩ := Own.odom r1 qo
      rcases (g.out a qn).1 with q | q
      · exact (hd a) qo q
      · rw [q] at hu; cases hu
theorem pr_3a {x : P3 α β γ} {T : P3 α β γ → List Ent} {j} {p2 : Pos} (h : PR X a Γ (some x) T) : PR X (.Subscript a (.Constant (.int 0) j p2) pos) Γ (some x.a) (fun y => T ⟨y, x.b, x.c⟩) := .mk fun F σ H Z en y hy Q q pins s I => by
  cases hy
  refine (pe_ix ix_tup pe_w pe_int (fun _ _ => rfl)).run pins s σ H Q I ?_
  refine h.run F σ H Z en x rfl _ fun H1 Z1 v fp s1 A => ?_
  obtain ⟨p, v1, v2, v3, f1, f2, f3, e, hz, r1, r2, r3, hc, hd⟩ := A.own
  subst e
  refine ⟨p, _, 0, v1, rfl, rfl, SqT.of (A.zh _ _ hz), rfl, q H1 Z1 _ f1 s1 ⟨r1, A.zh, fun a q => A.out a ((hc a).mpr (Or.inl q)), fun H2 Z2 y fp2 g o => ?_⟩⟩
  refine A.put H2 Z2 _ (fun a => fp2 a ∨ f2 a ∨ f3 a) ⟨fun a u hu nf => g.hh a u hu (fun q => nf ((hc a).mpr (Or.inl q))), g.zz, g.zh, fun a u hu nf => g.old a u hu (fun q => nf ((hc a).mpr (Or.inl q))), fun a f => ?_⟩ ⟨p, v1, v2, v3, fp2, f2, f3, rfl, g.zz _ _ hz, o, Own.omono g.zz (fun a q => by
      obtain ⟨u, hu, _⟩ := Own.odom r2 q
      rw [hu]; exact g.hh a u hu (fun q2 => (hd a).1 q2 q)) r2, Own.omono g.zz (fun a q => by
      obtain ⟨u, hu, _⟩ := Own.odom r3 q
      rw [hu]; exact g.hh a u hu (fun q2 => (hd a).2.1 q2 q)) r3, fun _ => Iff.rfl, fun a => ?_⟩
  · rcases f with q | q | q
    · refine ⟨?_, (g.out a q).2⟩
      rcases (g.out a q).1 with q | q
      · exact .inl ((hc a).mpr (Or.inl q))
      · exact .inr q
    · obtain ⟨u, hu, _⟩ := Own.odom r2 q
      exact ⟨.inl ((hc a).mpr (Or.inr (Or.inl q))), (g.old a u hu (fun q2 => (hd a).1 q2 q)).trans (A.out a ((hc a).mpr (Or.inr (Or.inl q)))).2⟩
    · obtain ⟨u, hu, _⟩ := Own.odom r3 q
      exact ⟨.inl ((hc a).mpr (Or.inr (Or.inr (q)))), (g.old a u hu (fun q2 => (hd a).2.1 q2 q)).trans (A.out a ((hc a).mpr (Or.inr (Or.inr (q))))).2⟩
  · exact ⟨(fun qn qo => by
      obtain ⟨u, hu, _⟩ := Own.odom r2 qo
      rcases (g.out a qn).1 with q | q
      · exact (hd a).1 q qo
      · rw [q] at hu; cases hu), (fun qn qo => by
      obtain ⟨u, hu, _⟩ := Own.odom r3 qo
      rcases (g.out a qn).1 with q | q
      · exact (hd a).2.1 q qo
      · rw [q] at hu; cases hu), ((hd a).2.2)⟩
theorem pr_3b {x : P3 α β γ} {T : P3 α β γ → List Ent} {j} {p2 : Pos} (h : PR X a Γ (some x) T) : PR X (.Subscript a (.Constant (.int 1) j p2) pos) Γ (some x.b) (fun y => T ⟨x.a, y, x.c⟩) := .mk fun F σ H Z en y hy Q q pins s I => by
  cases hy
  refine (pe_ix ix_tup pe_w pe_int (fun _ _ => rfl)).run pins s σ H Q I ?_
  refine h.run F σ H Z en x rfl _ fun H1 Z1 v fp s1 A => ?_
  obtain ⟨p, v1, v2, v3, f1, f2, f3, e, hz, r1, r2, r3, hc, hd⟩ := A.own
  subst e
  refine ⟨p, _, 1, v2, rfl, rfl, SqT.of (A.zh _ _ hz), rfl, q H1 Z1 _ f2 s1 ⟨r2, A.zh, fun a q => A.out a ((hc a).mpr (Or.inr (Or.inl q))), fun H2 Z2 y fp2 g o => ?_⟩⟩
  refine A.put H2 Z2 _ (fun a => f1 a ∨ fp2 a ∨ f3 a) ⟨fun a u hu nf => g.hh a u hu (fun q => nf ((hc a).mpr (Or.inr (Or.inl q)))), g.zz, g.zh, fun a u hu nf => g.old a u hu (fun q => nf ((hc a).mpr (Or.inr (Or.inl q)))), fun a f => ?_⟩ ⟨p, v1, v2, v3, f1, fp2, f3, rfl, g.zz _ _ hz, Own.omono g.zz (fun a q => by
      obtain ⟨u, hu, _⟩ := Own.odom r1 q
      rw [hu]; exact g.hh a u hu (fun q2 => (hd a).1 q q2)) r1, o, Own.omono g.zz (fun a q => by
      obtain ⟨u, hu, _⟩ := Own.odom r3 q
      rw [hu]; exact g.hh a u hu (fun q2 => (hd a).2.2 q2 q)) r3, fun _ => Iff.rfl, fun a => ?_⟩
  · rcases f with q | q | q
    · obtain ⟨u, hu, _⟩ := Own.odom r1 q
      exact ⟨.inl ((hc a).mpr (Or.inl q)), (g.old a u hu (fun q2 => (hd a).1 q q2)).trans (A.out a ((hc a).mpr (Or.inl q))).2⟩
    · refine ⟨?_, (g.out a q).2⟩
      rcases (g.out a q).1 with q | q
      · exact .inl ((hc a).mpr (Or.inr (Or.inl q)))
      · exact .inr q
    · obtain ⟨u, hu, _⟩ := Own.odom r3 q
      exact ⟨.inl ((hc a).mpr (Or.inr (Or.inr (q)))), (g.old a u hu (fun q2 => (hd a).2.2 q2 q)).trans (A.out a ((hc a).mpr (Or.inr (Or.inr (q))))).2⟩
  · exact ⟨(fun qo qn => by
      obtain ⟨u, hu, _⟩ := Own.odom r1 qo
      rcases (g.out a qn).1 with q | q
      · exact (hd a).1 qo q
      · rw [q] at hu; cases hu), ((hd a).2.1), (fun qn qo => by
      obtain ⟨u, hu, _⟩ := Own.odom r3 qo
      rcases (g.out a qn).1 with q | q
      · exact (hd a).2.2 q qo
      · rw [q] at hu; cases hu)⟩
theorem pr_3c {x : P3 α β γ} {T : P3 α β γ → List Ent} {j} {p2 : Pos} (h : PR X a Γ (some x) T) : PR X (.Subscript a (.Constant (.int 2) j p2) pos) Γ (some x.c) (fun y => T ⟨x.a, x.b, y⟩) := .mk fun F σ H Z en y hy Q q pins s I => by
  cases hy
  refine (pe_ix ix_tup pe_w pe_int (fun _ _ => rfl)).run pins s σ H Q I ?_
  refine h.run F σ H Z en x rfl _ fun H1 Z1 v fp s1 A => ?_
  obtain ⟨p, v1, v2, v3, f1, f2, f3, e, hz, r1, r2, r3, hc, hd⟩ := A.own
  subst e
  refine ⟨p, _, 2, v3, rfl, rfl, SqT.of (A.zh _ _ hz), rfl, q H1 Z1 _ f3 s1 ⟨r3, A.zh, fun a q => A.out a ((hc a).mpr (Or.inr (Or.inr (q)))), fun H2 Z2 y fp2 g o => ?_⟩⟩
  refine A.put H2 Z2 _ (fun a => f1 a ∨ f2 a ∨ fp2 a) ⟨fun a u hu nf => g.hh a u hu (fun q => nf ((hc a).mpr (Or.inr (Or.inr (q))))), g.zz, g.zh, fun a u hu nf => g.old a u hu (fun q => nf ((hc a).mpr (Or.inr (Or.inr (q))))), fun a f => ?_⟩ ⟨p, v1, v2, v3, f1, f2, fp2, rfl, g.zz _ _ hz, Own.omono g.zz (fun a q => by
      obtain ⟨u, hu, _⟩ := Own.odom r1 q
      rw [hu]; exact g.hh a u hu (fun q2 => (hd a).2.1 q q2)) r1, Own.omono g.zz (fun a q => by
      obtain ⟨u, hu, _⟩ := Own.odom r2 q
      rw [hu]; exact g.hh a u hu (fun q2 => (hd a).2.2 q q2)) r2, o, fun _ => Iff.rfl, fun a => ?_⟩
  · rcases f with q | q | q
    · obtain ⟨u, hu, _⟩ := Own.odom r1 q
      exact ⟨.inl ((hc a).mpr (Or.inl q)), (g.old a u hu (fun q2 => (hd a).2.1 q q2)).trans (A.out a ((hc a).mpr (Or.inl q))).2⟩
    · obtain ⟨u, hu, _⟩ := Own.odom r2 q
      exact ⟨.inl ((hc a).mpr (Or.inr (Or.inl q))), (g.old a u hu (fun q2 => (hd a).2.2 q q2)).trans (A.out a ((hc a).mpr (Or.inr (Or.inl q)))).2⟩
    · refine ⟨?_, (g.out a q).2⟩
      rcases (g.out a q).1 with q | q
      · exact .inl ((hc a).mpr (Or.inr (Or.inr (q))))
      · exact .inr q
  · exact ⟨((hd a).1), (fun qo qn => by
      obtain ⟨u, hu, _⟩ := Own.odom r1 qo
      rcases (g.out a qn).1 with q | q
      · exact (hd a).2.1 qo q
      · rw [q] at hu; cases hu), (fun qo qn => by
      obtain ⟨u, hu, _⟩ := Own.odom r2 qo
      rcases (g.out a qn).1 with q | q
      · exact (hd a).2.2 qo q
      · rw [q] at hu; cases hu)⟩
theorem pr_4a {x : P4 α β γ δ} {T : P4 α β γ δ → List Ent} {j} {p2 : Pos} (h : PR X a Γ (some x) T) : PR X (.Subscript a (.Constant (.int 0) j p2) pos) Γ (some x.a) (fun y => T ⟨y, x.b, x.c, x.d⟩) := .mk fun F σ H Z en y hy Q q pins s I => by
  cases hy
  refine (pe_ix ix_tup pe_w pe_int (fun _ _ => rfl)).run pins s σ H Q I ?_
  refine h.run F σ H Z en x rfl _ fun H1 Z1 v fp s1 A => ?_
  obtain ⟨p, v1, v2, v3, v4, f1, f2, f3, f4, e, hz, r1, r2, r3, r4, hc, hd⟩ := A.own
  subst e
  refine ⟨p, _, 0, v1, rfl, rfl, SqT.of (A.zh _ _ hz), rfl, q H1 Z1 _ f1 s1 ⟨r1, A.zh, fun a q => A.out a ((hc a).mpr (Or.inl q)), fun H2 Z2 y fp2 g o => ?_⟩⟩
  refine A.put H2 Z2 _ (fun a => fp2 a ∨ f2 a ∨ f3 a ∨ f4 a) ⟨fun a u hu nf => g.hh a u hu (fun q => nf ((hc a).mpr (Or.inl q))), g.zz, g.zh, fun a u hu nf => g.old a u hu (fun q => nf ((hc a).mpr (Or.inl q))), fun a f => ?_⟩ ⟨p, v1, v2, v3, v4, fp2, f2, f3, f4, rfl, g.zz _ _ hz, o, Own.omono g.zz (fun a q => by
      obtain ⟨u, hu, _⟩ := Own.odom r2 q
      rw [hu]; exact g.hh a u hu (fun q2 => (hd a).1 q2 q)) r2, Own.omono g.zz (fun a q => by
      obtain ⟨u, hu, _⟩ := Own.odom r3 q
      rw [hu]; exact g.hh a u hu (fun q2 => (hd a).2.1 q2 q)) r3, Own.omono g.zz (fun a q => by
      obtain ⟨u, hu, _⟩ := Own.odom r4 q
      rw [hu]; exact g.hh a u hu (fun q2 => (hd a).2.2.1 q2 q)) r4, fun _ => Iff.rfl, fun a => ?_⟩
  · rcases f with q | q | q | q
    · refine ⟨?_, (g.out a q).2⟩
      rcases (g.out a q).1 with q | q
      · exact .inl ((hc a).mpr (Or.inl q))
      · exact .inr q
    · obtain ⟨u, hu, _⟩ := Own.odom r2 q
      exact ⟨.inl ((hc a).mpr (Or.inr (Or.inl q))), (g.old a u hu (fun q2 => (hd a).1 q2 q)).trans (A.out a ((hc a).mpr (Or.inr (Or.inl q)))).2⟩
    · obtain ⟨u, hu, _⟩ := Own.odom r3 q
      exact ⟨.inl ((hc a).mpr (Or.inr (Or.inr (Or.inl q)))), (g.old a u hu (fun q2 => (hd a).2.1 q2 q)).trans (A.out a ((hc a).mpr (Or.inr (Or.inr (Or.inl q))))).2⟩
    · obtain ⟨u, hu, _⟩ := Own.odom r4 q
      exact ⟨.inl ((hc a).mpr (Or.inr (Or.inr (Or.inr (q))))), (g.old a u hu (fun q2 => (hd a).2.2.1 q2 q)).trans (A.out a ((hc a).mpr (Or.inr (Or.inr (Or.inr (q)))))).2⟩
  · exact ⟨(fun qn qo => by
      obtain ⟨u, hu, _⟩ := Own.odom r2 qo
      rcases (g.out a qn).1 with q | q
      · exact (hd a).1 q qo
      · rw [q] at hu; cases hu), (fun qn qo => by
      obtain ⟨u, hu, _⟩ := Own.odom r3 qo
      rcases (g.out a qn).1 with q | q
      · exact (hd a).2.1 q qo
      · rw [q] at hu; cases hu), (fun qn qo => by
      obtain ⟨u, hu, _⟩ := Own.odom r4 qo
      rcases (g.out a qn).1 with q | q
      · exact (hd a).2.2.1 q qo
      · rw [q] at hu; cases hu), ((hd a).2.2.2.1), ((hd a).2.2.2.2.1), ((hd a).2.2.2.2.2)⟩
theorem pr_4b {x : P4 α β γ δ} {T : P4 α β γ δ → List Ent} {j} {p2 : Pos} (h : PR X a Γ (some x) T) : PR X (.Subscript a (.Constant (.int 1) j p2) pos) Γ (some x.b) (fun y => T ⟨x.a, y, x.c, x.d⟩) := .mk fun F σ H Z en y hy Q q pins s I => by
  cases hy
  refine (pe_ix ix_tup pe_w pe_int (fun _ _ => rfl)).run pins s σ H Q I ?_
  refine h.run F σ H Z en x rfl _ fun H1 Z1 v fp s1 A => ?_
  obtain ⟨p, v1, v2, v3, v4, f1, f2, f3, f4, e, hz, r1, r2, r3, r4, hc, hd⟩ := A.own
  subst e
  refine ⟨p, _, 1, v2, rfl, rfl, SqT.of (A.zh _ _ hz), rfl, q H1 Z1 _ f2 s1 ⟨r2, A.zh, fun a q => A.out a ((hc a).mpr (Or.inr (Or.inl q))), fun H2 Z2 y fp2 g o => ?_⟩⟩
  refine A.put H2 Z2 _ (fun a => f1 a ∨ fp2 a ∨ f3 a ∨ f4 a) ⟨fun a u hu nf => g.hh a u hu (fun q => nf ((hc a).mpr (Or.inr (Or.inl q)))), g.zz, g.zh, fun a u hu nf => g.old a u hu (fun q => nf ((hc a).mpr (Or.inr (Or.inl q)))), fun a f => ?_⟩ ⟨p, v1, v2, v3, v4, f1, fp2, f3, f4, rfl, g.zz _ _ hz, Own.omono g.zz (fun a q => by
      obtain ⟨u, hu, _⟩ := Own.odom r1 q
      rw [hu]; exact g.hh a u hu (fun q2 => (hd a).1 q q2)) r1, o, Own.omono g.zz (fun a q => by
      obtain ⟨u, hu, _⟩ := Own.odom r3 q
      rw [hu]; exact g.hh a u hu (fun q2 => (hd a).2.2.2.1 q2 q)) r3, Own.omono g.zz (fun a q => by
      obtain ⟨u, hu, _⟩ := Own.odom r4 q
      rw [hu]; exact g.hh a u hu (fun q2 => (hd a).2.2.2.2.1 q2 q)) r4, fun _ => Iff.rfl, fun a => ?_⟩
  · rcases f with q | q | q | q
    · obtain ⟨u, hu, _⟩ := Own.odom r1 q
      exact ⟨.inl ((hc a).mpr (Or.inl q)), (g.old a u hu (fun q2 => (hd a).1 q q2)).trans (A.out a ((hc a).mpr (Or.inl q))).2⟩
    · refine ⟨?_, (g.out a q).2⟩
      rcases (g.out a q).1 with q | q
      · exact .inl ((hc a).mpr (Or.inr (Or.inl q)))
      · exact .inr q
    · obtain ⟨u, hu, _⟩ := Own.odom r3 q
      exact ⟨.inl ((hc a).mpr (Or.inr (Or.inr (Or.inl q)))), (g.old a u hu (fun q2 => (hd a).2.2.2.1 q2 q)).trans (A.out a ((hc a).mpr (Or.inr (Or.inr (Or.inl q))))).2⟩
    · obtain ⟨u, hu, _⟩ := Own.odom r4 q
      exact ⟨.inl ((hc a).mpr (Or.inr (Or.inr (Or.inr (q))))), (g.old a u hu (fun q2 => (hd a).2.2.2.2.1 q2 q)).trans (A.out a ((hc a).mpr (Or.inr (Or.inr (Or.inr (q)))))).2⟩
  · exact ⟨(fun qo qn => by
      obtain ⟨u, hu, _⟩ := Own.odom r1 qo
      rcases (g.out a qn).1 with q | q
      · exact (hd a).1 qo q
      · rw [q] at hu; cases hu), ((hd a).2.1), ((hd a).2.2.1), (fun qn qo => by
      obtain ⟨u, hu, _⟩ := Own.odom r3 qo
      rcases (g.out a qn).1 with q | q
      · exact (hd a).2.2.2.1 q qo
      · rw [q] at hu; cases hu), (fun qn qo => by
      obtain ⟨u, hu, _⟩ := Own.odom r4 qo
      rcases (g.out a qn).1 with q | q
      · exact (hd a).2.2.2.2.1 q qo
      · rw [q] at hu; cases hu), ((hd a).2.2.2.2.2)⟩
theorem pr_4c {x : P4 α β γ δ} {T : P4 α β γ δ → List Ent} {j} {p2 : Pos} (h : PR X a Γ (some x) T) : PR X (.Subscript a (.Constant (.int 2) j p2) pos) Γ (some x.c) (fun y => T ⟨x.a, x.b, y, x.d⟩) := .mk fun F σ H Z en y hy Q q pins s I => by
  cases hy
  refine (pe_ix ix_tup pe_w pe_int (fun _ _ => rfl)).run pins s σ H Q I ?_
  refine h.run F σ H Z en x rfl _ fun H1 Z1 v fp s1 A => ?_
  obtain ⟨p, v1, v2, v3, v4, f1, f2, f3, f4, e, hz, r1, r2, r3, r4, hc, hd⟩ := A.own
  subst e
  refine ⟨p, _, 2, v3, rfl, rfl, SqT.of (A.zh _ _ hz), rfl, q H1 Z1 _ f3 s1 ⟨r3, A.zh, fun a q => A.out a ((hc a).mpr (Or.inr (Or.inr (Or.inl q)))), fun H2 Z2 y fp2 g o => ?_⟩⟩
  refine A.put H2 Z2 _ (fun a => f1 a ∨ f2 a ∨ fp2 a ∨ f4 a) ⟨fun a u hu nf => g.hh a u hu (fun q => nf ((hc a).mpr (Or.inr (Or.inr (Or.inl q))))), g.zz, g.zh, fun a u hu nf => g.old a u hu (fun q => nf ((hc a).mpr (Or.inr (Or.inr (Or.inl q))))), fun a f => ?_⟩ ⟨p, v1, v2, v3, v4, f1, f2, fp2, f4, rfl, g.zz _ _ hz, Own.omono g.zz (fun a q => by
      obtain ⟨u, hu, _⟩ := Own.odom r1 q
      rw [hu]; exact g.hh a u hu (fun q2 => (hd a).2.1 q q2)) r1, Own.omono g.zz (fun a q => by
      obtain ⟨u, hu, _⟩ := Own.odom r2 q
      rw [hu]; exact g.hh a u hu (fun q2 => (hd a).2.2.2.1 q q2)) r2, o, Own.omono g.zz (fun a q => by
      obtain ⟨u, hu, _⟩ := Own.odom r4 q
      rw [hu]; exact g.hh a u hu (fun q2 => (hd a).2.2.2.2.2 q2 q)) r4, fun _ => Iff.rfl, fun a => ?_⟩
  · rcases f with q | q | q | q
    · obtain ⟨u, hu, _⟩ := Own.odom r1 q
      exact ⟨.inl ((hc a).mpr (Or.inl q)), (g.old a u hu (fun q2 => (hd a).2.1 q q2)).trans (A.out a ((hc a).mpr (Or.inl q))).2⟩
    · obtain ⟨u, hu, _⟩ := Own.odom r2 q
      exact ⟨.inl ((hc a).mpr (Or.inr (Or.inl q))), (g.old a u hu (fun q2 => (hd a).2.2.2.1 q q2)).trans (A.out a ((hc a).mpr (Or.inr (Or.inl q)))).2⟩
    · refine ⟨?_, (g.out a q).2⟩
      rcases (g.out a q).1 with q | q
      · exact .inl ((hc a).mpr (Or.inr (Or.inr (Or.inl q))))
      · exact .inr q
    · obtain ⟨u, hu, _⟩ := Own.odom r4 q
      exact ⟨.inl ((hc a).mpr (Or.inr (Or.inr (Or.inr (q))))), (g.old a u hu (fun q2 => (hd a).2.2.2.2.2 q2 q)).trans (A.out a ((hc a).mpr (Or.inr (Or.inr (Or.inr (q)))))).2⟩
  · exact ⟨((hd a).1), (fun qo qn => by
      obtain ⟨u, hu, _⟩ := Own.odom r1 qo
      rcases (g.out a qn).1 with q | q
      · exact (hd a).2.1 qo q
      · rw [q] at hu; cases hu), ((hd a).2.2.1), (fun qo qn => by
      obtain ⟨u, hu, _⟩ := Own.odom r2 qo
      rcases (g.out a qn).1 with q | q
      · exact (hd a).2.2.2.1 qo q
      · rw [q] at hu; cases hu), ((hd a).2.2.2.2.1), (fun qn qo => by
      obtain ⟨u, hu, _⟩ := Own.odom r4 qo
      rcases (g.out a qn).1 with q | q
      · exact (hd a).2.2.2.2.2 q qo
      · rw [q] at hu; cases hu)⟩
theorem pr_4d {x : P4 α β γ δ} {T : P4 α β γ δ → List Ent} {j} {p2 : Pos} (h : PR X a Γ (some x) T) : PR X (.Subscript a (.Constant (.int 3) j p2) pos) Γ (some x.d) (fun y => T ⟨x.a, x.b, x.c, y⟩) := .mk fun F σ H Z en y hy Q q pins s I => by
  cases hy
  refine (pe_ix ix_tup pe_w pe_int (fun _ _ => rfl)).run pins s σ H Q I ?_
  refine h.run F σ H Z en x rfl _ fun H1 Z1 v fp s1 A => ?_
  obtain ⟨p, v1, v2, v3, v4, f1, f2, f3, f4, e, hz, r1, r2, r3, r4, hc, hd⟩ := A.own
  subst e
  refine ⟨p, _, 3, v4, rfl, rfl, SqT.of (A.zh _ _ hz), rfl, q H1 Z1 _ f4 s1 ⟨r4, A.zh, fun a q => A.out a ((hc a).mpr (Or.inr (Or.inr (Or.inr (q))))), fun H2 Z2 y fp2 g o => ?_⟩⟩
  refine A.put H2 Z2 _ (fun a => f1 a ∨ f2 a ∨ f3 a ∨ fp2 a) ⟨fun a u hu nf => g.hh a u hu (fun q => nf ((hc a).mpr (Or.inr (Or.inr (Or.inr (q)))))), g.zz, g.zh, fun a u hu nf => g.old a u hu (fun q => nf ((hc a).mpr (Or.inr (Or.inr (Or.inr (q)))))), fun a f => ?_⟩ ⟨p, v1, v2, v3, v4, f1, f2, f3, fp2, rfl, g.zz _ _ hz, Own.omono g.zz (fun a q => by
      obtain ⟨u, hu, _⟩ := Own.odom r1 q
      rw [hu]; exact g.hh a u hu (fun q2 => (hd a).2.2.1 q q2)) r1, Own.omono g.zz (fun a q => by
      obtain ⟨u, hu, _⟩ := Own.odom r2 q
      rw [hu]; exact g.hh a u hu (fun q2 => (hd a).2.2.2.2.1 q q2)) r2, Own.omono g.zz (fun a q => by
      obtain ⟨u, hu, _⟩ := Own.odom r3 q
      rw [hu]; exact g.hh a u hu (fun q2 => (hd a).2.2.2.2.2 q q2)) r3, o, fun _ => Iff.rfl, fun a => ?_⟩
  · rcases f with q | q | q | q
    · obtain ⟨u, hu, _⟩ := Own.odom r1 q
      exact ⟨.inl ((hc a).mpr (Or.inl q)), (g.old a u hu (fun q2 => (hd a).2.2.1 q q2)).trans (A.out a ((hc a).mpr (Or.inl q))).2⟩
    · obtain ⟨u, hu, _⟩ := Own.odom r2 q
      exact ⟨.inl ((hc a).mpr (Or.inr (Or.inl q))), (g.old a u hu (fun q2 => (hd a).2.2.2.2.1 q q2)).trans (A.out a ((hc a).mpr (Or.inr (Or.inl q)))).2⟩
    · obtain ⟨u, hu, _⟩ := Own.odom r3 q
      exact ⟨.inl ((hc a).mpr (Or.inr (Or.inr (Or.inl q)))), (g.old a u hu (fun q2 => (hd a).2.2.2.2.2 q q2)).trans (A.out a ((hc a).mpr (Or.inr (Or.inr (Or.inl q))))).2⟩
    · refine ⟨?_, (g.out a q).2⟩
      rcases (g.out a q).1 with q | q
      · exact .inl ((hc a).mpr (Or.inr (Or.inr (Or.inr (q)))))
      · exact .inr q
  · exact ⟨((hd a).1), ((hd a).2.1), (fun qo qn => by
      obtain ⟨u, hu, _⟩ := Own.odom r1 qo
      rcases (g.out a qn).1 with q | q
      · exact (hd a).2.2.1 qo q
      · rw [q] at hu; cases hu), ((hd a).2.2.2.1), (fun qo qn => by
      obtain ⟨u, hu, _⟩ := Own.odom r2 qo
      rcases (g.out a qn).1 with q | q
      · exact (hd a).2.2.2.2.1 qo q
      · rw [q] at hu; cases hu), (fun qo qn => by
      obtain ⟨u, hu, _⟩ := Own.odom r3 qo
      rcases (g.out a qn).1 with q | q
      · exact (hd a).2.2.2.2.2 qo q
      · rw [q] at hu; cases hu)⟩
end
end G
/-! GNew: lists changed at their places; new things and moved names handed back; what is owned taken apart. -/
namespace G
open PySem L2
/-! ### lists changed at their places -/
def oApp {α : Type} (xs : List α) (m : Option α) : Option (List α) := m.bind fun x => if xs.length < sizeLine then some (xs ++ [x]) else none
def oSet {α : Type} (xs : List α) (mi : Option Int) (m : Option α) : Option (List α) := m.bind fun x => mi.bind fun i => (ixN xs.length i).bind fun j => some (xs.set j x)
def oIns {α : Type} (xs : List α) (mi : Option Int) (m : Option α) : Option (List α) := mi.bind fun i => m.bind fun x => if xs.length < sizeLine ∧ 0 ≤ i ∧ i < 2 ^ 63 then some (xs.take i.toNat ++ [x] ++ xs.drop i.toNat) else none
def oPop {α : Type} (xs : List α) : Option (P2 α (List α)) := (xs[xs.length - 1]?).map fun x => ⟨x, xs.dropLast⟩
section
variable {X : Cx} {Γ : List Ent} {e a b c : Expr} {es : List Expr} {pos pos2 apos p : Pos} {α β γ δ C : Type} [Enc α] [Enc β] [Enc γ] [Enc δ]
variable {W : WX} {ER : ExS} {rest : List Stmt} {pos' : Pos} {N L R : Type} [Res R] {GN : N → List Ent} {GL : L → List Ent} {o : Fl N L R}
theorem bx_append {xs : List α} {T : List α → List Ent} {m : Option α} {k : List α → Option (Fl N L R)} (hp : PR X a Γ (some xs) T) (hx : PX X e Γ m) (h : (oApp xs m).bind k = some o) (hr : ∀ ys, k ys = some o → BX X W ER rest (T ys) GN GL o)
    (hst : starEach [e] X.env = (false, eval e X.env) :: starEach [] X.env := by rfl) (hl : (apos.endLine == pos2.line) = true := by rfl) (hbase : attributeBase a "append" X.env (eval a X.env) = eval a X.env := by rfl)
    (hs : swapsWith (.Call (.Attribute a "append" apos) [e] [] pos2) none pos.line X.env = pure false := by rfl) (hpl : (backTo pos2 (starEach [] X.env)).any (·.1) = false := by rfl) : BX X W ER (.Expr (.Call (.Attribute a "append" apos) [e] [] pos2) pos :: rest) Γ GN GL o := by
  obtain ⟨ys, h2, h3⟩ := Option.bind_eq_some_iff.mp h
  obtain ⟨x, h4, h5⟩ := Option.bind_eq_some_iff.mp h2
  by_cases hz : xs.length < sizeLine
  case neg => rw [if_neg hz] at h5; cases h5
  rw [if_pos hz] at h5
  cases h5
  refine bx_cons (ps_expr (pe_bm PySem.F.plainAttrs_list PySem.F.slot_list_append PySem.F.type_list_append mt_append pe_w (pa_cons pe_w pa_nil hst) (hbase := hbase) (hfew := by rw [hst]; rfl) (hline := hl) (hs := hst)) hs) fun F D ac σ H Z en => ?_
  refine hp.run F σ H Z en xs rfl _ fun H1 Z1 v fp s1 A => ?_
  obtain ⟨l, vs, e1, hl0, r, _⟩ := A.lst
  subst e1
  refine ⟨.inl ⟨rfl, _, SqL.of hl0⟩, hx.run F σ H1 Z1 (en.step s1) x h4 _ fun H' Z' w s r2 => ?_⟩
  obtain ⟨l', vs', e1, hl1, r1, put⟩ := (A.step s).lst
  cases e1
  exact ⟨l, vs', w, rfl, rfl, hl1, by rw [r1.len]; exact hz, (hr _ h3).run F D ac σ _ Z' (put _ _ (r1.append (All2.one r2)))⟩
theorem bx_clear {xs : List α} {T : List α → List Ent} (hp : PR X a Γ (some xs) T) (hr : BX X W ER rest (T []) GN GL o) (hl : (apos.endLine == pos2.line) = true := by rfl) (hbase : attributeBase a "clear" X.env (eval a X.env) = eval a X.env := by rfl)
    (hs : swapsWith (.Call (.Attribute a "clear" apos) [] [] pos2) none pos.line X.env = pure false := by rfl) : BX X W ER (.Expr (.Call (.Attribute a "clear" apos) [] [] pos2) pos :: rest) Γ GN GL o := by
  refine bx_cons (ps_expr (pe_bm0 PySem.F.plainAttrs_list PySem.F.slot_list_clear PySem.F.type_list_clear mt_clear pe_w (hbase := hbase) (hline := hl)) hs) fun F D ac σ H Z en => ?_
  refine hp.run F σ H Z en xs rfl _ fun H1 Z1 v fp s1 A => ?_
  obtain ⟨l, vs, e1, hl0, r, put⟩ := A.lst
  subst e1
  exact ⟨.inl ⟨rfl, _, SqL.of hl0⟩, l, vs, rfl, rfl, hl0, hr.run F D ac σ _ Z1 (put _ _ trivial)⟩
/-- target = place.pop() -/
theorem all2_dropLast {R : V → α → Prop} {vs : List V} {xs : List α} (r : All2 R vs xs) : All2 R vs.dropLast xs.dropLast := by
  rw [List.dropLast_eq_take, List.dropLast_eq_take, r.len]; exact r.take _
theorem bx_popA {xs : List α} {T : List α → List Ent} {tg : Expr} {js : List Nat} {U : α → List Ent → List Ent} {k : P2 α (List α) → Option (Fl N L R)} (hp : PR X a Γ (some xs) T) (hg : PGX X tg js U) (h : (oPop xs).bind k = some o) (hr : ∀ y, k y = some o → BX X W ER rest (U y.a (T y.b)) GN GL o)
    (hl : (apos.endLine == pos2.line) = true := by rfl) (hbase : attributeBase a "pop" X.env (eval a X.env) = eval a X.env := by rfl)
    (hs : swapsWithSole [tg] (.Call (.Attribute a "pop" apos) [] [] pos2) pos.line X.env = pure false := by rfl) (hw : swappedStores [tg] (.Call (.Attribute a "pop" apos) [] [] pos2) X.env = pure none := by rfl) (h1 : (assignEach [tg] X.env).map (·.2) = [assign tg X.env] := by rfl) :
    BX X W ER (.Assign [tg] (.Call (.Attribute a "pop" apos) [] [] pos2) pos :: rest) Γ GN GL o := by
  obtain ⟨y, h2, h3⟩ := Option.bind_eq_some_iff.mp h
  obtain ⟨x, h4, rfl⟩ := Option.map_eq_some_iff.mp h2
  refine bx_cons (ps_asg (pe_bm0 PySem.F.plainAttrs_list PySem.F.slot_list_pop PySem.F.type_list_pop mt_pop pe_w (hbase := hbase) (hline := hl)) pg_w hs hw h1) fun F D ac σ H Z en => ?_
  refine hp.run F σ H Z en xs rfl _ fun H1 Z1 v fp s1 A => ?_
  obtain ⟨l, vs, e1, hl0, r, put⟩ := A.lst
  subst e1
  obtain ⟨u, hu, ru⟩ := r.get' h4
  refine ⟨.inl ⟨rfl, _, SqL.of hl0⟩, l, vs, u, rfl, rfl, hl0, by rw [r.len]; exact hu, ?_⟩
  exact hg.run F σ _ Z1 _ u x (put _ _ (all2_dropLast r)) ru _ fun σ' en' _ => (hr _ h3).run F D ac σ' _ Z1 en'
theorem bx_pop {xs : List α} {T : List α → List Ent} {k : P2 α (List α) → Option (Fl N L R)} (hp : PR X a Γ (some xs) T) (h : (oPop xs).bind k = some o) (hr : ∀ y, k y = some o → BX X W ER rest (T y.b) GN GL o)
    (hl : (apos.endLine == pos2.line) = true := by rfl) (hbase : attributeBase a "pop" X.env (eval a X.env) = eval a X.env := by rfl)
    (hs : swapsWith (.Call (.Attribute a "pop" apos) [] [] pos2) none pos.line X.env = pure false := by rfl) : BX X W ER (.Expr (.Call (.Attribute a "pop" apos) [] [] pos2) pos :: rest) Γ GN GL o := by
  obtain ⟨y, h2, h3⟩ := Option.bind_eq_some_iff.mp h
  obtain ⟨x, h4, rfl⟩ := Option.map_eq_some_iff.mp h2
  refine bx_cons (ps_expr (pe_bm0 PySem.F.plainAttrs_list PySem.F.slot_list_pop PySem.F.type_list_pop mt_pop pe_w (hbase := hbase) (hline := hl)) hs) fun F D ac σ H Z en => ?_
  refine hp.run F σ H Z en xs rfl _ fun H1 Z1 v fp s1 A => ?_
  obtain ⟨l, vs, e1, hl0, r, put⟩ := A.lst
  subst e1
  obtain ⟨u, hu, ru⟩ := r.get' h4
  exact ⟨.inl ⟨rfl, _, SqL.of hl0⟩, l, vs, u, rfl, rfl, hl0, by rw [r.len]; exact hu, (hr _ h3).run F D ac σ _ Z1 (put _ _ (all2_dropLast r))⟩
/-- place.insert(i, e) -/
theorem bx_insert {xs : List α} {T : List α → List Ent} {m : Option α} {mi : Option Int} {k : List α → Option (Fl N L R)} (hp : PR X a Γ (some xs) T) (hi : PX X b Γ mi) (hx : PX X e Γ m) (h : (oIns xs mi m).bind k = some o) (hr : ∀ ys, k ys = some o → BX X W ER rest (T ys) GN GL o)
    (hst : starEach [b, e] X.env = (false, eval b X.env) :: starEach [e] X.env := by rfl) (hst2 : starEach [e] X.env = (false, eval e X.env) :: starEach [] X.env := by rfl) (hl : (apos.endLine == pos2.line) = true := by rfl) (hbase : attributeBase a "insert" X.env (eval a X.env) = eval a X.env := by rfl)
    (hs : swapsWith (.Call (.Attribute a "insert" apos) [b, e] [] pos2) none pos.line X.env = pure false := by rfl) : BX X W ER (.Expr (.Call (.Attribute a "insert" apos) [b, e] [] pos2) pos :: rest) Γ GN GL o := by
  obtain ⟨ys, h2, h3⟩ := Option.bind_eq_some_iff.mp h
  obtain ⟨i, h4, h5⟩ := Option.bind_eq_some_iff.mp h2
  obtain ⟨x, h6, h7⟩ := Option.bind_eq_some_iff.mp h5
  by_cases hz : xs.length < sizeLine ∧ 0 ≤ i ∧ i < 2 ^ 63
  case neg => rw [if_neg hz] at h7; cases h7
  rw [if_pos hz] at h7
  cases h7
  refine bx_cons (ps_expr (pe_bm PySem.F.plainAttrs_list PySem.F.slot_list_insert PySem.F.type_list_insert mt_insert pe_w (pa_cons pe_w (pa_cons pe_w pa_nil hst2) hst) (hbase := hbase) (hfew := by rw [hst, hst2]; rfl) (hline := hl) (hs := hst) (hplain := by rw [hst2]; rfl)) hs) fun F D ac σ H Z en => ?_
  refine hp.run F σ H Z en xs rfl _ fun H1 Z1 v fp s1 A => ?_
  obtain ⟨l, vs, e1, hl0, r, _⟩ := A.lst
  subst e1
  refine ⟨.inl ⟨rfl, _, SqL.of hl0⟩, hi.run F σ H1 Z1 (en.step s1) i h4 _ fun H2 Z2 w1 s2 rw1 => hx.run F σ H2 Z2 ((en.step s1).step s2) x h6 _ fun H3 Z3 w s3 r2 => ?_⟩
  obtain ⟨l', vs', e1, hl1, r1, put⟩ := ((A.step s2).step s3).lst
  cases e1
  cases rw1
  exact ⟨l, vs', i, w, rfl, rfl, hl1, by rw [r1.len]; exact hz.1, hz.2.1, hz.2.2, (hr _ h3).run F D ac σ _ Z3 (put _ _ (((r1.take _).append (All2.one r2)).append (r1.drop _)))⟩
/-- place[i] = e -/
theorem bx_setix {xs : List α} {T : List α → List Ent} {m : Option α} {mi : Option Int} {k : List α → Option (Fl N L R)} (hp : PR X c Γ (some xs) T) (hx : PX X e Γ m) (hi : PX X a Γ mi) (h : (oSet xs mi m).bind k = some o) (hr : ∀ ys, k ys = some o → BX X W ER rest (T ys) GN GL o)
    (hs : swapsWithSole [.Subscript c a pos2] e pos.line X.env = pure false := by rfl) (hw : swappedStores [.Subscript c a pos2] e X.env = pure none := by rfl) (h1 : (assignEach [.Subscript c a pos2] X.env).map (·.2) = [assign (.Subscript c a pos2) X.env] := by rfl)
    (ha : ∀ v, assign (.Subscript c a pos2) X.env v = (do
      let ov ← holding [v] (eval c X.env)
      let iv ← holding [v, ov] (eval a X.env)
      standAt pos2
      holding [v, ov, iv] (setItem ov iv v)
      release [v, ov, iv] []) := by intro _; rfl) : BX X W ER (.Assign [.Subscript c a pos2] e pos :: rest) Γ GN GL o := by
  obtain ⟨ys, h2, h3⟩ := Option.bind_eq_some_iff.mp h
  obtain ⟨x, h4, h5⟩ := Option.bind_eq_some_iff.mp h2
  obtain ⟨q, h6, h7⟩ := Option.bind_eq_some_iff.mp h5
  obtain ⟨j, h8, h9⟩ := Option.bind_eq_some_iff.mp h7
  cases h9
  refine bx_cons (ps_asg pe_w (pg_sub pe_w pe_w set_list ha) hs hw h1) fun F D ac σ H Z en => ?_
  refine hx.run F σ H Z en x h4 _ fun H1 Z1 w s1 r1 => hp.run F σ H1 Z1 (en.step s1) xs rfl _ fun H2 Z2 v fp s2 A => hi.run F σ H2 Z2 ((en.step s1).step s2) q h6 _ fun H3 Z3 u s3 r2 => ?_
  obtain ⟨l, vs, e1, hl0, r, put⟩ := (A.step s3).lst
  subst e1
  exact ⟨l, vs, q, j, rfl, r2, hl0, by rw [r.len]; exact h8, (hr _ h3).run F D ac σ _ Z3 (put _ _ (All2.set j (Enc.mono (s2.zz.trans s3.zz) r1) r))⟩
end
/-! ### new things -/
structure PNO (X : Cx) (e : Expr) (Γ : List Ent) {C : Type} [Enc C] [Own C] (m : Option C) : Prop where
  run : ∀ (F : Frame) (σ : St) (H Z : Hp), EnvOk X.K F σ H Z Γ → ∀ x, m = some x → ∀ Q : VK, (∀ H' Z' v fp, NewO X.K H Z H' Z' v x fp → Q v H') → wE X e σ H Q
/-- plain data owns nothing -/
class PlainO (C : Type) [Enc C] [Own C] : Prop where
  pl : ∀ {K : Fg} {Z H : Hp} {v : V} {c : C}, Enc.rel K Z v c → Own.own K Z H v c Fp.no
instance : PlainO Int := ⟨fun r => ⟨r, fun _ f => f⟩⟩
instance : PlainO Bool := ⟨fun r => ⟨r, fun _ f => f⟩⟩
instance : PlainO Str := ⟨fun r => ⟨r, fun _ f => f⟩⟩
instance : PlainO Unit := ⟨fun r => ⟨r, fun _ f => f⟩⟩
instance {α : Type} [Enc α] : PlainO (Option α) := ⟨fun r => ⟨r, fun _ f => f⟩⟩
section
variable {α β γ δ : Type} [Enc α] [Enc β] [Enc γ] [Enc δ] [Own α] [Own β] [Own γ] [Own δ]
instance [PlainO α] [PlainO β] : PlainO (P2 α β) := ⟨fun ⟨p, v1, v2, e, h, r1, r2⟩ => ⟨p, v1, v2, Fp.no, Fp.no, e, h, PlainO.pl r1, PlainO.pl r2, fun a => ⟨fun f => f.elim, fun f => by rcases f with f | f <;> exact f⟩, fun _ f => f.elim⟩⟩
instance [PlainO α] [PlainO β] [PlainO γ] : PlainO (P3 α β γ) := ⟨fun ⟨p, v1, v2, v3, e, h, r1, r2, r3⟩ => ⟨p, v1, v2, v3, Fp.no, Fp.no, Fp.no, e, h, PlainO.pl r1, PlainO.pl r2, PlainO.pl r3, fun a => ⟨fun f => f.elim, fun f => by rcases f with f | f | f <;> exact f⟩, fun _ => ⟨fun f => f.elim, fun f => f.elim, fun f => f.elim⟩⟩⟩
end
theorem NewO.step {K : Fg} {H Z H' Z' H2 Z2 : Hp} {C : Type} [Enc C] [Own C] {v : V} {c : C} {fp : Fp} (n : NewO K H Z H' Z' v c fp) (s : Step H' Z' H2 Z2) : NewO K H Z H2 Z2 v c fp :=
  ⟨n.st.trans s, Own.omono s.zz (fun a f => by
    obtain ⟨u, hu, _⟩ := Own.odom n.own f
    rw [hu]; exact s.hh a u hu) n.own, fun a f => ⟨(n.out a f).1, by
    obtain ⟨u, hu, _⟩ := Own.odom n.own f
    rw [s.old a u hu]; exact (n.out a f).2⟩⟩
theorem NewO.from {K : Fg} {H Z H1 Z1 H' Z' : Hp} {C : Type} [Enc C] [Own C] {v : V} {c : C} {fp : Fp} (s : Step H Z H1 Z1) (n : NewO K H1 Z1 H' Z' v c fp) : NewO K H Z H' Z' v c fp :=
  ⟨s.trans n.st, n.own, fun a f => ⟨s.hh.free (n.out a f).1, (n.out a f).2⟩⟩
section
variable {X : Cx} {Γ : List Ent} {e a b c : Expr} {es : List Expr} {pos pos2 apos p : Pos} {α β γ δ C : Type} [Enc α] [Enc β] [Enc γ] [Enc δ]
theorem pno_of_pn {m : Option (List α)} (h : PN X e Γ m) : PNO X e Γ m := .mk fun F σ H Z en x hx Q q => h.run F σ H Z en x hx Q fun H' Z' l vs s hl r => q _ _ _ _ (NewO.from s (NewO.cell s.zh hl ⟨vs, rfl, r⟩))
theorem px_of_pno [Enc C] [Own C] {m : Option C} (h : PNO X e Γ m) : PX X e Γ m := .mk fun F σ H Z en x hx Q q => h.run F σ H Z en x hx Q fun H' Z' v fp n => by
  classical
  have sz : Same Z' (fun a => if fp a then H' a else Z' a) := fun a u h => by
    show (if fp a then H' a else Z' a) = some u
    by_cases f : fp a
    · have := (n.out a f).2
      rw [h] at this; cases this
    · rw [if_neg f]; exact h
  refine q H' (fun a => if fp a then H' a else Z' a) v ⟨n.st.hh, n.st.zz.trans sz, fun a u h => ?_, fun a u h => ?_⟩ (Own.froz n.own sz fun a f => if_pos f)
  · have h : (if fp a then H' a else Z' a) = some u := h
    by_cases f : fp a
    · rw [if_pos f] at h; exact h
    · rw [if_neg f] at h; exact n.st.zh a u h
  · show (if fp a then H' a else Z' a) = Z a
    by_cases f : fp a
    · have := (n.out a f).1
      rw [h] at this; cases this
    · rw [if_neg f]; exact n.st.old a u h
theorem pno_px [Enc C] [Own C] [PlainO C] {m : Option C} (h : PX X e Γ m) : PNO X e Γ m := .mk fun F σ H Z en x hx Q q => h.run F σ H Z en x hx Q fun H' Z' v s r => q H' Z' v Fp.no ⟨s, PlainO.pl r, fun _ f => f.elim⟩
theorem pno_call {nm : Str} {k : Nat} {f : Addr} {fd : FuncData} {ps : List Str} {A R : Type} [EncA A] [Enc R] [Own R] {fm : A → Option (Nw R)} {m : Option A} (Fn : FnOk X.prog X.w X.K X.mg X.base CX0 k f fd ps (spO X.K fm)) (hr : Room k X.A) (hm : X.mg nm = some (.ref f)) (hk : PySem.W.keepIn X.K (.ref f) = true)
    (hb : Binds X.K fd ps []) (ha : PAX X (e :: es) Γ m) (hg : Gl X nm := by rfl) (hdb : (nm == ("__debug__" : Str)) = false := by decide) (he : starEach (e :: es) X.env = (false, eval e X.env) :: starEach es X.env := by rfl) (hpl : (backTo pos (starEach es X.env)).any (·.1) = false := by rfl) :
    PNO X (.Call (.Name nm p) (e :: es) [] pos) Γ ((m.bind fm).map Nw.val) := .mk fun F σ H Z en x hx Q q pins s I => (pe_call Fn hr hg hm hk hb .nil pass0 pa_w hdb he hpl).run pins s σ H Q I (by
  obtain ⟨y0, hx0, rfl⟩ := Option.map_eq_some_iff.mp hx
  obtain ⟨y, hy, hx1⟩ := Option.bind_eq_some_iff.mp hx0
  refine ha.run F σ H Z en y hy _ fun H' Z' vs s r => ?_
  rw [List.append_nil]
  exact ⟨Z', y, y0, s.zh, r, hx1, fun H2 Z2 l fp n => q H2 Z2 l fp (NewO.from s n)⟩)
theorem pno_call0 {nm : Str} {k : Nat} {f : Addr} {fd : FuncData} {ps : List Str} {R : Type} [Enc R] [Own R] {fm : Unit → Option (Nw R)} (Fn : FnOk X.prog X.w X.K X.mg X.base CX0 k f fd ps (spO X.K fm)) (hr : Room k X.A) (hm : X.mg nm = some (.ref f)) (hk : PySem.W.keepIn X.K (.ref f) = true)
    (hb : Binds X.K fd ps []) (hg : Gl X nm := by rfl) (hdb : (nm == ("__debug__" : Str)) = false := by decide) : PNO X (.Call (.Name nm p) [] [] pos) Γ ((fm ()).map Nw.val) := .mk fun F σ H Z en x hx Q q pins s I => (pe_call0 Fn hr hg hm hk hb .nil pass0 hdb).run pins s σ H Q I (by
  obtain ⟨y0, hx0, rfl⟩ := Option.map_eq_some_iff.mp hx
  exact ⟨Z, (), y0, en.zh, rfl, hx0, fun H2 Z2 u fp n => q H2 Z2 u fp n⟩)
variable {W : WX} {ER : ExS} {rest : List Stmt} {pos' : Pos} {N L R : Type} [Res R] {GN : N → List Ent} {GL : L → List Ent} {o : Fl N L R}
/-- name = a new thing, the def's own -/
theorem bx_newO (i : Nat) {nm : Str} {C : Type} [Enc C] [Own C] {m : Option C} {k : C → Option (Fl N L R)} (hN : X.N.Nodup) (hx : PNO X e Γ m) (h : m.bind k = some o) (hr : ∀ xs, k xs = some o → BX X W ER rest (Γ.set i (.ow none xs)) GN GL o)
    (hi : X.N[i]? = some nm := by rfl) (hl : Loc X.env.scope nm := by first | exact Or.inl rfl | exact Or.inr rfl) (hs : swapsWith e (some (.Name nm pos')) pos.line X.env = pure false := by rfl)
    (hf : X.fn nm = true ∨ X.env.scope.names.lookup nm = some .local := by first | exact .inl rfl | exact .inr rfl) : BX X W ER (.Assign [.Name nm pos'] e pos :: rest) Γ GN GL o := by
  obtain ⟨x, h2, h3⟩ := Option.bind_eq_some_iff.mp h
  exact bx_cons (ps_set (i := i) hN hi hl pe_w hs hf) fun F D ac σ H Z en => hx.run F σ H Z en x h2 _ fun H' Z' v fp n => (hr x h3).run F D ac _ _ Z' (en.set_own i n)
/-! ### what is handed back: names moved, beside the names (Δ) what is made up already -/
structure PRT (X : Cx) (e : Expr) (Γ Γ' : List Ent) {C : Type} [Enc C] [Own C] (m : Option C) : Prop where
  run : ∀ (F : Frame) (σ τ : St) (Δ : List Ent) (H Z : Hp), σ.length = Γ.length → EnvOk X.K F (σ ++ τ) H Z (Γ ++ Δ) → ∀ x, m = some x → ∀ Q : VK, (∀ H' Z' v, Step H Z H' Z' → EnvOk X.K F (σ ++ (τ ++ [some v])) H' Z' (Γ' ++ (Δ ++ [.ow none x])) → Q v H') → wE X e σ H Q
  len : Γ'.length = Γ.length
theorem EnvOk.pre {K : Fg} {F : Frame} {σ τ : St} {H Z : Hp} {Γ Δ : List Ent} (hl : σ.length = Γ.length) (e : EnvOk K F (σ ++ τ) H Z (Γ ++ Δ)) : EnvOk K F σ H Z Γ := by
  obtain ⟨fp, h, hd⟩ := e.ent
  refine ⟨e.hh, e.zz, e.zh, e.old, hl, fp, fun i t ht => ?_, hd⟩
  have il : i < Γ.length := (List.getElem?_eq_some_iff.mp ht).1
  obtain ⟨o, ho, q⟩ := h i t (by rw [List.getElem?_append_left il]; exact ht)
  rw [List.getElem?_append_left (by omega)] at ho
  exact ⟨o, ho, q⟩
/-- one thing more, new or a name's, which is forgotten -/
theorem EnvOk.more {K : Fg} {F : Frame} {σ : St} {H Z H' Z' : Hp} {Γ : List Ent} {C : Type} [Enc C] [Own C] {v : V} {c : C} {fp : Fp} (e : EnvOk K F σ H Z Γ) (n : NewO K H Z H' Z' v c fp) : EnvOk K F (σ ++ [some v]) H' Z' (Γ ++ [.ow none c]) := by
  have e0 : EnvOk K F (σ ++ [none]) H Z (Γ ++ [.no]) := by
    obtain ⟨fp, h, hd⟩ := e.ent
    refine ⟨e.hh, e.zz, e.zh, e.old, by rw [List.length_append, List.length_append, e.len]; rfl, fun i => if i < Γ.length then fp i else Fp.no, fun i t ht => ?_, fun i j a hij f1 f2 => ?_⟩
    · by_cases il : i < Γ.length
      · rw [List.getElem?_append_left il] at ht
        obtain ⟨o, ho, q⟩ := h i t ht
        dsimp only
        rw [if_pos il]
        exact ⟨o, by rw [List.getElem?_append_left (by rw [e.len]; exact il)]; exact ho, q⟩
      · rw [List.getElem?_append_right (by omega)] at ht
        dsimp only
        rw [if_neg il]
        have ie : i - Γ.length = 0 := by
          have := (List.getElem?_eq_some_iff.mp ht).1
          simp only [List.length_singleton] at this
          omega
        rw [ie] at ht
        cases ht
        exact ⟨none, by rw [List.getElem?_append_right (by rw [e.len]; omega), e.len, ie]; rfl, fun _ f => f⟩
    · dsimp only at f1 f2
      by_cases il : i < Γ.length
      · by_cases jl : j < Γ.length
        · rw [if_pos il] at f1
          rw [if_pos jl] at f2
          exact hd i j a hij f1 f2
        · rw [if_neg jl] at f2; exact f2
      · rw [if_neg il] at f1; exact f1
  have := e0.set_own σ.length n
  rw [List.set_append_right _ _ (Nat.le_refl _)] at this
  rw [show σ.length = Γ.length from e.len, List.set_append_right _ _ (Nat.le_refl _)] at this
  simpa using this
theorem EnvOk.move {K : Fg} {F : Frame} {σ : St} {H Z : Hp} {Γ : List Ent} {C : Type} [Enc C] [Own C] {bv : Option Nat} {c : C} {i : Nat} (e : EnvOk K F σ H Z Γ) (hi : Γ[i]? = some (.ow bv c)) : ∃ v, σ[i]? = some (some v) ∧ EnvOk K F (σ ++ [some v]) H Z (Γ.set i .no ++ [.ow none c]) := by
  obtain ⟨fp, h, hd⟩ := e.ent
  obtain ⟨o, ho, v, e1, hb, r, q⟩ := h i _ hi
  subst e1
  have ilt : i < Γ.length := (List.getElem?_eq_some_iff.mp hi).1
  refine ⟨v, ho, e.hh, e.zz, e.zh, e.old, by rw [List.length_append, List.length_append, List.length_set, e.len]; rfl, fun j => if j = i then Fp.no else if j = Γ.length then fp i else if j < Γ.length then fp j else Fp.no, fun j t ht => ?_, fun j k a hjk f1 f2 => ?_⟩
  · dsimp only
    by_cases jl : j < Γ.length
    · rw [List.getElem?_append_left (by rw [List.length_set]; exact jl)] at ht
      rw [List.getElem?_append_left (by rw [e.len]; exact jl)]
      rcases getElem?_set_cases ht with ⟨rfl, rfl⟩ | ⟨hj, ht⟩
      · exact ⟨some v, ho, by rw [if_pos rfl]; exact fun _ f => f⟩
      · obtain ⟨o2, ho2, q2⟩ := h j t ht
        exact ⟨o2, ho2, by rw [if_neg hj, if_neg (by omega), if_pos jl]; exact q2⟩
    · rw [List.getElem?_append_right (by rw [List.length_set]; omega), List.length_set] at ht
      have ie : j - Γ.length = 0 := by
        have := (List.getElem?_eq_some_iff.mp ht).1
        simp only [List.length_singleton] at this
        omega
      rw [ie] at ht
      cases ht
      refine ⟨some v, by rw [List.getElem?_append_right (by rw [e.len]; omega), e.len, ie]; rfl, ?_⟩
      rw [if_neg (by omega), if_pos (by omega)]
      exact ⟨v, rfl, (fun _ h => by cases h), r, q⟩
  · dsimp only at f1 f2
    have key : ∀ j a, (if j = i then Fp.no else if j = Γ.length then fp i else if j < Γ.length then fp j else Fp.no) a → (j = Γ.length ∧ fp i a) ∨ (j ≠ i ∧ j < Γ.length ∧ fp j a) := fun j a f => by
      by_cases c1 : j = i
      · rw [if_pos c1] at f; exact f.elim
      · rw [if_neg c1] at f
        by_cases c2 : j = Γ.length
        · rw [if_pos c2] at f; exact .inl ⟨c2, f⟩
        · rw [if_neg c2] at f
          by_cases c3 : j < Γ.length
          · rw [if_pos c3] at f; exact .inr ⟨c1, c3, f⟩
          · rw [if_neg c3] at f; exact f.elim
    rcases key j a f1 with ⟨j1, g1⟩ | ⟨j1, j2, g1⟩
    · rcases key k a f2 with ⟨k1, g2⟩ | ⟨k1, k2, g2⟩
      · exact hjk (j1.trans k1.symm)
      · exact hd k i a k1 g2 g1
    · rcases key k a f2 with ⟨k1, g2⟩ | ⟨k1, k2, g2⟩
      · exact hd j i a j1 g1 g2
      · exact hd j k a hjk g1 g2
theorem prt_var (i : Nat) {nm : Str} {bv : Option Nat} {C : Type} [Enc C] [Own C] {c : C} (hΓ : Γ[i]? = some (.ow bv c) := by rfl) (hN : X.N[i]? = some nm := by rfl) (hv : Vis X.env.scope nm := by first | exact Or.inl rfl | exact Or.inr (Or.inl rfl) | exact Or.inr (Or.inr rfl)) (hd : (nm == ("__debug__" : Str)) = false := by decide)
    (hcd : (nm == ("__classdict__" : Str)) = false := by decide) : PRT X (.Name nm pos) Γ (Γ.set i .no) (some c) := ⟨fun F σ τ Δ H Z hl en y hy Q q pins s I => by
  cases hy
  have il : i < Γ.length := (List.getElem?_eq_some_iff.mp hΓ).1
  obtain ⟨v, e1, h⟩ := en.move (i := i) (by rw [List.getElem?_append_left il]; exact hΓ)
  rw [List.getElem?_append_left (by omega)] at e1
  rw [List.set_append_left _ _ il, List.append_assoc, List.append_assoc] at h
  exact (pe_var hN hv hd hcd).run pins s σ H Q I ⟨v, e1, q H Z v (Step.refl en.zh) h⟩, by rw [List.length_set]⟩
theorem prt_new [Enc C] [Own C] {m : Option C} (h : PNO X e Γ m) : PRT X e Γ Γ m := ⟨fun F σ τ Δ H Z hl en x hx Q q => h.run F σ H Z (en.pre hl) x hx Q fun H' Z' v fp n => by
  have := en.more n
  rw [List.append_assoc, List.append_assoc] at this
  exact q H' Z' v n.st this, rfl⟩
theorem prt_px [Enc C] [Own C] [PlainO C] {m : Option C} (h : PX X e Γ m) : PRT X e Γ Γ m := prt_new (pno_px h)
theorem EnvOk.join {K : Fg} {F : Frame} {ρ ws : St} {H Z : Hp} {Λ es : List Ent} {t : Ent} {o : Option V} (e : EnvOk K F (ρ ++ ws) H Z (Λ ++ es)) (hl : ρ.length = Λ.length)
    (hj : ∀ fp : Nat → Fp, (∀ i t, es[i]? = some t → ∃ o, ws[i]? = some o ∧ EntOk K F H Z o (fp i) t) → (∀ i j a, i ≠ j → fp i a → ¬ fp j a) → EntOk K F H Z o (fun a => ∃ i, i < es.length ∧ fp i a) t) : EnvOk K F (ρ ++ [o]) H Z (Λ ++ [t]) := by
  obtain ⟨fp, h, hd⟩ := e.ent
  have hj' := hj (fun i => fp (Λ.length + i)) (fun i t ht => by
    obtain ⟨o, ho, q⟩ := h (Λ.length + i) t (by rw [List.getElem?_append_right (by omega), show Λ.length + i - Λ.length = i by omega]; exact ht)
    rw [List.getElem?_append_right (by omega), show Λ.length + i - ρ.length = i by omega] at ho
    exact ⟨o, ho, q⟩) (fun i j a hij => hd _ _ a (by omega))
  refine ⟨e.hh, e.zz, e.zh, e.old, by rw [List.length_append, List.length_append, hl]; rfl, fun j => if j < Λ.length then fp j else if j = Λ.length then (fun a => ∃ i, i < es.length ∧ fp (Λ.length + i) a) else Fp.no, fun j t' ht => ?_, fun j k a hjk f1 f2 => ?_⟩
  · dsimp only
    by_cases jl : j < Λ.length
    · rw [List.getElem?_append_left jl] at ht
      obtain ⟨o2, ho2, q2⟩ := h j t' (by rw [List.getElem?_append_left jl]; exact ht)
      rw [List.getElem?_append_left (by omega)] at ho2
      exact ⟨o2, by rw [List.getElem?_append_left (by omega)]; exact ho2, by rw [if_pos jl]; exact q2⟩
    · rw [List.getElem?_append_right (by omega)] at ht
      have ie : j - Λ.length = 0 := by
        have := (List.getElem?_eq_some_iff.mp ht).1
        simp only [List.length_singleton] at this
        omega
      rw [ie] at ht
      cases ht
      exact ⟨o, by rw [List.getElem?_append_right (by omega), show j - ρ.length = 0 by omega]; rfl, by rw [if_neg jl, if_pos (by omega)]; exact hj'⟩
  · dsimp only at f1 f2
    have key : ∀ j a, (if j < Λ.length then fp j else if j = Λ.length then (fun a => ∃ i, i < es.length ∧ fp (Λ.length + i) a) else Fp.no) a → (j < Λ.length ∧ fp j a) ∨ (j = Λ.length ∧ ∃ i, fp (Λ.length + i) a) := fun j a f => by
      by_cases c1 : j < Λ.length
      · rw [if_pos c1] at f; exact .inl ⟨c1, f⟩
      · rw [if_neg c1] at f
        by_cases c2 : j = Λ.length
        · rw [if_pos c2] at f
          obtain ⟨i, _, f⟩ := f
          exact .inr ⟨c2, i, f⟩
        · rw [if_neg c2] at f; exact f.elim
    rcases key j a f1 with ⟨j1, g1⟩ | ⟨j1, i1, g1⟩
    · rcases key k a f2 with ⟨k1, g2⟩ | ⟨k1, i2, g2⟩
      · exact hd j k a hjk g1 g2
      · exact hd j _ a (by omega) g1 g2
    · rcases key k a f2 with ⟨k1, g2⟩ | ⟨k1, i2, g2⟩
      · exact hd k _ a (by omega) g2 g1
      · exact hjk (j1.trans k1.symm)
theorem prt_p2 {ct} {Γ1 Γ2 : List Ent} [Own α] [Own β] {m1 : Option α} {m2 : Option β} (k1 : PRT X a Γ Γ1 m1) (k2 : PRT X b Γ1 Γ2 m2) (h1 : starEach [a, b] X.env = (false, eval a X.env) :: starEach [b] X.env := by rfl) (h2 : starEach [b] X.env = (false, eval b X.env) :: starEach [] X.env := by rfl) :
    PRT X (.Tuple [a, b] ct pos) Γ Γ2 (oP2 m1 m2) := ⟨fun F σ τ Δ H Z hl en x hx Q q pins s I => (pe_tup (pa_cons pe_w (pa_cons pe_w pa_nil h2) h1)).run pins s σ H Q I (by
  obtain ⟨x1, e1, hx⟩ := Option.bind_eq_some_iff.mp hx
  obtain ⟨x2, e2, hx⟩ := Option.bind_eq_some_iff.mp hx
  cases hx
  refine k1.run F σ _ _ H Z (by exact hl) en x1 e1 _ fun H1 Z1 v1 s1 en1 => ?_
  refine k2.run F σ _ _ H1 Z1 (by rw [k1.len]; exact hl) en1 x2 e2 _ fun H2 Z2 v2 s2 en2 => ?_
  refine ⟨by show 2 ≤ sizeLine; decide, fun p hp => ?_⟩
  have sN := Step.new (o := .tup [v1, v2]) s2.zh hp
  refine q _ _ _ ((s1.trans s2).trans sN) ?_
  have en0 := en2.step sN
  have en1 : EnvOk X.K F ((σ ++ τ) ++ [some v1, some v2]) (upd H2 p (.tup [v1, v2])) (upd Z2 p (.tup [v1, v2])) ((Γ2 ++ Δ) ++ [.ow none x1, .ow none x2]) := by simpa [List.append_assoc] using en0
  have hlen : (σ ++ τ).length = (Γ2 ++ Δ).length := by
    have := en.len
    simp only [List.length_append, k2.len, k1.len] at this ⊢
    exact this
  have en2 := en1.join hlen (t := .ow none (⟨x1, x2⟩ : P2 α β)) (o := some (.ref p)) fun fp h hd => ?_
  · rw [List.append_assoc, List.append_assoc] at en2; exact en2
  obtain ⟨o, ho, w, e, _, r1, q1⟩ := h 0 _ rfl
  cases ho
  cases e
  obtain ⟨o, ho, w, e, _, r2, q2⟩ := h 1 _ rfl
  cases ho
  cases e
  refine ⟨.ref p, rfl, (fun _ h => by cases h), ⟨p, v1, v2, fp 0, fp 1, rfl, upd_same, r1, r2, fun a => ⟨fun ⟨i, il, f⟩ => ?_, fun f => ?_⟩, fun a => hd 0 1 a (by decide)⟩, fun a ⟨i, il, f⟩ => ?_⟩
  · exact match i, il, f with
    | 0, _, f => Or.inl f
    | 1, _, f => Or.inr (f)
  · rcases f with f | f
    · exact ⟨0, by show 0 < 2; decide, f⟩
    · exact ⟨1, by show 1 < 2; decide, f⟩
  · exact match i, il, f with
    | 0, _, f => q1 a f
    | 1, _, f => q2 a f), by rw [k2.len, k1.len]⟩
theorem prt_p3 {ct} {Γ1 Γ2 Γ3 : List Ent} [Own α] [Own β] [Own γ] {m1 : Option α} {m2 : Option β} {m3 : Option γ} (k1 : PRT X a Γ Γ1 m1) (k2 : PRT X b Γ1 Γ2 m2) (k3 : PRT X c Γ2 Γ3 m3) (h1 : starEach [a, b, c] X.env = (false, eval a X.env) :: starEach [b, c] X.env := by rfl) (h2 : starEach [b, c] X.env = (false, eval b X.env) :: starEach [c] X.env := by rfl) (h3 : starEach [c] X.env = (false, eval c X.env) :: starEach [] X.env := by rfl) :
    PRT X (.Tuple [a, b, c] ct pos) Γ Γ3 (oP3 m1 m2 m3) := ⟨fun F σ τ Δ H Z hl en x hx Q q pins s I => (pe_tup (pa_cons pe_w (pa_cons pe_w (pa_cons pe_w pa_nil h3) h2) h1)).run pins s σ H Q I (by
  obtain ⟨x1, e1, hx⟩ := Option.bind_eq_some_iff.mp hx
  obtain ⟨x2, e2, hx⟩ := Option.bind_eq_some_iff.mp hx
  obtain ⟨x3, e3, hx⟩ := Option.bind_eq_some_iff.mp hx
  cases hx
  refine k1.run F σ _ _ H Z (by exact hl) en x1 e1 _ fun H1 Z1 v1 s1 en1 => ?_
  refine k2.run F σ _ _ H1 Z1 (by rw [k1.len]; exact hl) en1 x2 e2 _ fun H2 Z2 v2 s2 en2 => ?_
  refine k3.run F σ _ _ H2 Z2 (by rw [k2.len, k1.len]; exact hl) en2 x3 e3 _ fun H3 Z3 v3 s3 en3 => ?_
  refine ⟨by show 3 ≤ sizeLine; decide, fun p hp => ?_⟩
  have sN := Step.new (o := .tup [v1, v2, v3]) s3.zh hp
  refine q _ _ _ (((s1.trans s2).trans s3).trans sN) ?_
  have en0 := en3.step sN
  have en1 : EnvOk X.K F ((σ ++ τ) ++ [some v1, some v2, some v3]) (upd H3 p (.tup [v1, v2, v3])) (upd Z3 p (.tup [v1, v2, v3])) ((Γ3 ++ Δ) ++ [.ow none x1, .ow none x2, .ow none x3]) := by simpa [List.append_assoc] using en0
  have hlen : (σ ++ τ).length = (Γ3 ++ Δ).length := by
    have := en.len
    simp only [List.length_append, k3.len, k2.len, k1.len] at this ⊢
    exact this
  have en2 := en1.join hlen (t := .ow none (⟨x1, x2, x3⟩ : P3 α β γ)) (o := some (.ref p)) fun fp h hd => ?_
  · rw [List.append_assoc, List.append_assoc] at en2; exact en2
  obtain ⟨o, ho, w, e, _, r1, q1⟩ := h 0 _ rfl
  cases ho
  cases e
  obtain ⟨o, ho, w, e, _, r2, q2⟩ := h 1 _ rfl
  cases ho
  cases e
  obtain ⟨o, ho, w, e, _, r3, q3⟩ := h 2 _ rfl
  cases ho
  cases e
  refine ⟨.ref p, rfl, (fun _ h => by cases h), ⟨p, v1, v2, v3, fp 0, fp 1, fp 2, rfl, upd_same, r1, r2, r3, fun a => ⟨fun ⟨i, il, f⟩ => ?_, fun f => ?_⟩, fun a => ⟨hd 0 1 a (by decide), hd 0 2 a (by decide), hd 1 2 a (by decide)⟩⟩, fun a ⟨i, il, f⟩ => ?_⟩
  · exact match i, il, f with
    | 0, _, f => Or.inl f
    | 1, _, f => Or.inr (Or.inl f)
    | 2, _, f => Or.inr (Or.inr (f))
  · rcases f with f | f | f
    · exact ⟨0, by show 0 < 3; decide, f⟩
    · exact ⟨1, by show 1 < 3; decide, f⟩
    · exact ⟨2, by show 2 < 3; decide, f⟩
  · exact match i, il, f with
    | 0, _, f => q1 a f
    | 1, _, f => q2 a f
    | 2, _, f => q3 a f), by rw [k3.len, k2.len, k1.len]⟩
theorem prt_p4 {d : Expr} {ct} {Γ1 Γ2 Γ3 Γ4 : List Ent} [Own α] [Own β] [Own γ] [Own δ] {m1 : Option α} {m2 : Option β} {m3 : Option γ} {m4 : Option δ} (k1 : PRT X a Γ Γ1 m1) (k2 : PRT X b Γ1 Γ2 m2) (k3 : PRT X c Γ2 Γ3 m3) (k4 : PRT X d Γ3 Γ4 m4) (h1 : starEach [a, b, c, d] X.env = (false, eval a X.env) :: starEach [b, c, d] X.env := by rfl) (h2 : starEach [b, c, d] X.env = (false, eval b X.env) :: starEach [c, d] X.env := by rfl) (h3 : starEach [c, d] X.env = (false, eval c X.env) :: starEach [d] X.env := by rfl) (h4 : starEach [d] X.env = (false, eval d X.env) :: starEach [] X.env := by rfl) :
    PRT X (.Tuple [a, b, c, d] ct pos) Γ Γ4 (oP4 m1 m2 m3 m4) := ⟨fun F σ τ Δ H Z hl en x hx Q q pins s I => (pe_tup (pa_cons pe_w (pa_cons pe_w (pa_cons pe_w (pa_cons pe_w pa_nil h4) h3) h2) h1)).run pins s σ H Q I (by
  obtain ⟨x1, e1, hx⟩ := Option.bind_eq_some_iff.mp hx
  obtain ⟨x2, e2, hx⟩ := Option.bind_eq_some_iff.mp hx
  obtain ⟨x3, e3, hx⟩ := Option.bind_eq_some_iff.mp hx
  obtain ⟨x4, e4, hx⟩ := Option.bind_eq_some_iff.mp hx
  cases hx
  refine k1.run F σ _ _ H Z (by exact hl) en x1 e1 _ fun H1 Z1 v1 s1 en1 => ?_
  refine k2.run F σ _ _ H1 Z1 (by rw [k1.len]; exact hl) en1 x2 e2 _ fun H2 Z2 v2 s2 en2 => ?_
  refine k3.run F σ _ _ H2 Z2 (by rw [k2.len, k1.len]; exact hl) en2 x3 e3 _ fun H3 Z3 v3 s3 en3 => ?_
  refine k4.run F σ _ _ H3 Z3 (by rw [k3.len, k2.len, k1.len]; exact hl) en3 x4 e4 _ fun H4 Z4 v4 s4 en4 => ?_
  refine ⟨by show 4 ≤ sizeLine; decide, fun p hp => ?_⟩
  have sN := Step.new (o := .tup [v1, v2, v3, v4]) s4.zh hp
  refine q _ _ _ ((((s1.trans s2).trans s3).trans s4).trans sN) ?_
  have en0 := en4.step sN
  have en1 : EnvOk X.K F ((σ ++ τ) ++ [some v1, some v2, some v3, some v4]) (upd H4 p (.tup [v1, v2, v3, v4])) (upd Z4 p (.tup [v1, v2, v3, v4])) ((Γ4 ++ Δ) ++ [.ow none x1, .ow none x2, .ow none x3, .ow none x4]) := by simpa [List.append_assoc] using en0
  have hlen : (σ ++ τ).length = (Γ4 ++ Δ).length := by
    have := en.len
    simp only [List.length_append, k4.len, k3.len, k2.len, k1.len] at this ⊢
    exact this
  have en2 := en1.join hlen (t := .ow none (⟨x1, x2, x3, x4⟩ : P4 α β γ δ)) (o := some (.ref p)) fun fp h hd => ?_
  · rw [List.append_assoc, List.append_assoc] at en2; exact en2
  obtain ⟨o, ho, w, e, _, r1, q1⟩ := h 0 _ rfl
  cases ho
  cases e
  obtain ⟨o, ho, w, e, _, r2, q2⟩ := h 1 _ rfl
  cases ho
  cases e
  obtain ⟨o, ho, w, e, _, r3, q3⟩ := h 2 _ rfl
  cases ho
  cases e
  obtain ⟨o, ho, w, e, _, r4, q4⟩ := h 3 _ rfl
  cases ho
  cases e
  refine ⟨.ref p, rfl, (fun _ h => by cases h), ⟨p, v1, v2, v3, v4, fp 0, fp 1, fp 2, fp 3, rfl, upd_same, r1, r2, r3, r4, fun a => ⟨fun ⟨i, il, f⟩ => ?_, fun f => ?_⟩, fun a => ⟨hd 0 1 a (by decide), hd 0 2 a (by decide), hd 0 3 a (by decide), hd 1 2 a (by decide), hd 1 3 a (by decide), hd 2 3 a (by decide)⟩⟩, fun a ⟨i, il, f⟩ => ?_⟩
  · exact match i, il, f with
    | 0, _, f => Or.inl f
    | 1, _, f => Or.inr (Or.inl f)
    | 2, _, f => Or.inr (Or.inr (Or.inl f))
    | 3, _, f => Or.inr (Or.inr (Or.inr (f)))
  · rcases f with f | f | f | f
    · exact ⟨0, by show 0 < 4; decide, f⟩
    · exact ⟨1, by show 1 < 4; decide, f⟩
    · exact ⟨2, by show 2 < 4; decide, f⟩
    · exact ⟨3, by show 3 < 4; decide, f⟩
  · exact match i, il, f with
    | 0, _, f => q1 a f
    | 1, _, f => q2 a f
    | 2, _, f => q3 a f
    | 3, _, f => q4 a f), by rw [k4.len, k3.len, k2.len, k1.len]⟩
theorem bx_retO [Enc C] [Own C] {Γ' : List Ent} {o : Fl N L (Nw C)} {m : Option C} {GN : N → List Ent} {GL : L → List Ent} (hx : PRT X e Γ Γ' m) (h : (m.bind fun x => some (.rt ⟨x⟩)) = some o) : BX X W ER (.Return (some e) pos :: rest) Γ GN GL o := by
  obtain ⟨x, h1, h2⟩ := Option.bind_eq_some_iff.mp h
  cases h2
  refine bx_cons (ps_ret pe_w) fun F D ac σ H Z en => hx.run F σ [] [] H Z en.len (by rw [List.append_nil, List.append_nil]; exact en) x h1 _ fun H' Z' v s en' => ?_
  have hl := hx.len
  obtain ⟨o', fp, ho, q0, _⟩ := en'.focus (i := Γ.length) (t := .ow none x) (by rw [List.getElem?_append_right (by omega)]; simp [hl])
  obtain ⟨v', e1, _, r, q⟩ := q0
  rw [List.getElem?_append_right (by rw [en.len]; omega), en.len] at ho
  simp at ho
  rw [← ho] at e1
  cases e1
  exact ac H' Z' v ⟨fp, en'.stp, r, q⟩
/-- a thing made up is put under a name -/
theorem EnvOk.settle {K : Fg} {F : Frame} {σ ws : St} {H Z : Hp} {Γ es : List Ent} {C : Type} [Enc C] [Own C] {v : V} {c : C} (i : Nat) (hl : σ.length = Γ.length) (e : EnvOk K F (σ ++ (some v :: ws)) H Z (Γ ++ (.ow none c :: es))) : EnvOk K F (σ.set i (some v) ++ ws) H Z (Γ.set i (.ow none c) ++ es) := by
  obtain ⟨fp, h, hd⟩ := e.ent
  have h0 : ∃ o, some (some v) = some o ∧ EntOk K F H Z o (fp Γ.length) (.ow none c) := by
    obtain ⟨o, ho, q⟩ := h Γ.length (.ow none c) (by rw [List.getElem?_append_right (Nat.le_refl _)]; simp)
    rw [List.getElem?_append_right (by omega)] at ho
    simp [hl] at ho
    exact ⟨o, by rw [ho], q⟩
  have hlen := e.len
  simp only [List.length_append, List.length_cons] at hlen
  refine ⟨e.hh, e.zz, e.zh, e.old, by simp only [List.length_append, List.length_set]; omega, fun j => if j < Γ.length then (if j = i then fp Γ.length else fp j) else fp (j + 1), fun j t ht => ?_, fun j k a hjk f1 f2 => ?_⟩
  · dsimp only
    by_cases jl : j < Γ.length
    · rw [List.getElem?_append_left (by rw [List.length_set]; exact jl)] at ht
      rw [List.getElem?_append_left (by rw [List.length_set]; omega), if_pos jl]
      rcases getElem?_set_cases ht with ⟨rfl, rfl⟩ | ⟨hj, ht⟩
      · obtain ⟨o, ho, q⟩ := h0
        rw [if_pos rfl]
        exact ⟨o, by rw [List.getElem?_set_self (by omega)]; exact ho, q⟩
      · rw [if_neg hj]
        obtain ⟨o2, ho2, q2⟩ := h j t (by rw [List.getElem?_append_left jl]; exact ht)
        rw [List.getElem?_append_left (by omega)] at ho2
        exact ⟨o2, by rw [List.getElem?_set_ne (Ne.symm hj)]; exact ho2, q2⟩
    · rw [List.getElem?_append_right (by rw [List.length_set]; omega), List.length_set] at ht
      rw [if_neg jl]
      obtain ⟨o2, ho2, q2⟩ := h (j + 1) t (by rw [List.getElem?_append_right (by omega), show j + 1 - Γ.length = (j - Γ.length) + 1 by omega]; exact ht)
      rw [List.getElem?_append_right (by omega), show j + 1 - σ.length = (j - σ.length) + 1 by omega] at ho2
      exact ⟨o2, by rw [List.getElem?_append_right (by rw [List.length_set]; omega), List.length_set]; exact ho2, q2⟩
  · dsimp only at f1 f2
    have key : ∀ j a, (if j < Γ.length then (if j = i then fp Γ.length else fp j) else fp (j + 1)) a → ∃ j', fp j' a ∧ ((j' = Γ.length ∧ j = i) ∨ (j' = j ∧ j < Γ.length) ∨ (j' = j + 1 ∧ ¬ j < Γ.length)) := fun j a f => by
      by_cases c1 : j < Γ.length
      · rw [if_pos c1] at f
        by_cases c2 : j = i
        · rw [if_pos c2] at f; exact ⟨_, f, .inl ⟨rfl, c2⟩⟩
        · rw [if_neg c2] at f; exact ⟨_, f, .inr (.inl ⟨rfl, c1⟩)⟩
      · rw [if_neg c1] at f; exact ⟨_, f, .inr (.inr ⟨rfl, c1⟩)⟩
    obtain ⟨j', g1, d1⟩ := key j a f1
    obtain ⟨k', g2, d2⟩ := key k a f2
    refine hd j' k' a ?_ g1 g2
    rcases d1 with ⟨e1, e2⟩ | ⟨e1, e2⟩ | ⟨e1, e2⟩ <;> rcases d2 with ⟨e3, e4⟩ | ⟨e3, e4⟩ | ⟨e3, e4⟩ <;> omega
/-- a tuple of owned things, taken apart -/
theorem EnvOk.split2 {K : Fg} {F : Frame} {σ : St} {H Z : Hp} {Γ : List Ent} {α β : Type} [Enc α] [Enc β] [Own α] [Own β] {v : V} {x : P2 α β} (hl : σ.length = Γ.length) (e : EnvOk K F (σ ++ [some v]) H Z (Γ ++ [.ow none x])) :
    ∃ p v1 v2, v = .ref p ∧ Z p = some (.tup [v1, v2]) ∧ EnvOk K F (σ ++ [some v1, some v2]) H Z (Γ ++ [.ow none x.a, .ow none x.b]) := by
  obtain ⟨fp, h, hd⟩ := e.ent
  obtain ⟨o, ho, w, e1, _, ⟨p, v1, v2, f1, f2, e2, hz, r1, r2, hc, hdd⟩, q⟩ := h Γ.length (.ow none x) (by rw [List.getElem?_append_right (Nat.le_refl _)]; simp)
  rw [List.getElem?_append_right (by omega)] at ho
  simp [hl] at ho
  rw [← ho] at e1
  cases e1
  refine ⟨p, v1, v2, e2, hz, e.hh, e.zz, e.zh, e.old, by simp only [List.length_append, List.length_cons, List.length_nil]; omega, fun j => if j < Γ.length then fp j else if j = Γ.length then f1 else if j = Γ.length + 1 then f2 else Fp.no, fun j t ht => ?_, fun j k a hjk g1 g2 => ?_⟩
  · dsimp only
    by_cases jl : j < Γ.length
    · rw [List.getElem?_append_left jl] at ht
      obtain ⟨o2, ho2, q2⟩ := h j t (by rw [List.getElem?_append_left jl]; exact ht)
      rw [List.getElem?_append_left (by omega)] at ho2
      exact ⟨o2, by rw [List.getElem?_append_left (by omega)]; exact ho2, by rw [if_pos jl]; exact q2⟩
    · rw [List.getElem?_append_right (by omega)] at ht
      rw [List.getElem?_append_right (by omega), hl, if_neg jl]
      rcases hj : j - Γ.length with _ | _ | n
      · rw [hj] at ht
        cases ht
        rw [if_pos (by omega)]
        exact ⟨_, rfl, v1, rfl, (fun _ h => by cases h), r1, fun a f => q a ((hc a).mpr (.inl f))⟩
      · rw [hj] at ht
        cases ht
        rw [if_neg (by omega), if_pos (by omega)]
        exact ⟨_, rfl, v2, rfl, (fun _ h => by cases h), r2, fun a f => q a ((hc a).mpr (.inr f))⟩
      · rw [hj] at ht
        cases ht
  · dsimp only at g1 g2
    have key : ∀ j a, (if j < Γ.length then fp j else if j = Γ.length then f1 else if j = Γ.length + 1 then f2 else Fp.no) a → (j < Γ.length ∧ fp j a) ∨ (j = Γ.length ∧ f1 a) ∨ (j = Γ.length + 1 ∧ f2 a) := fun j a f => by
      by_cases c1 : j < Γ.length
      · rw [if_pos c1] at f; exact .inl ⟨c1, f⟩
      · rw [if_neg c1] at f
        by_cases c2 : j = Γ.length
        · rw [if_pos c2] at f; exact .inr (.inl ⟨c2, f⟩)
        · rw [if_neg c2] at f
          by_cases c3 : j = Γ.length + 1
          · rw [if_pos c3] at f; exact .inr (.inr ⟨c3, f⟩)
          · rw [if_neg c3] at f; exact f.elim
    rcases key j a g1 with ⟨j1, g1⟩ | ⟨j1, g1⟩ | ⟨j1, g1⟩ <;> rcases key k a g2 with ⟨k1, g2⟩ | ⟨k1, g2⟩ | ⟨k1, g2⟩
    · exact hd j k a hjk g1 g2
    · exact hd j _ a (by omega) g1 ((hc a).mpr (.inl g2))
    · exact hd j _ a (by omega) g1 ((hc a).mpr (.inr g2))
    · exact hd k _ a (by omega) g2 ((hc a).mpr (.inl g1))
    · omega
    · exact hdd a g1 g2
    · exact hd k _ a (by omega) g2 ((hc a).mpr (.inr g1))
    · exact hdd a g2 g1
    · omega
theorem bx_unp2 (i j : Nat) {n1 n2 : Str} {p1 p2 p3 : Pos} {ct : Nat} {Γ' : List Ent} [Own α] [Own β] {m : Option (P2 α β)} {k : P2 α β → Option (Fl N L R)} (hN : X.N.Nodup) (hc : X.calm = true) (hx : PRT X e Γ Γ' m) (h : m.bind k = some o) (hr : ∀ x, k x = some o → BX X W ER rest ((Γ'.set i (.ow none x.a)).set j (.ow none x.b)) GN GL o)
    (hi : X.N[i]? = some n1 := by rfl) (hj : X.N[j]? = some n2 := by rfl) (hl1 : Loc X.env.scope n1 := by first | exact Or.inl rfl | exact Or.inr rfl) (hl2 : Loc X.env.scope n2 := by first | exact Or.inl rfl | exact Or.inr rfl)
    (hf1 : X.fn n1 = true ∨ X.env.scope.names.lookup n1 = some .local := by first | exact .inl rfl | exact .inr rfl) (hf2 : X.fn n2 = true ∨ X.env.scope.names.lookup n2 = some .local := by first | exact .inl rfl | exact .inr rfl)
    (hs : swapsWithSole [.Tuple [.Name n1 p1, .Name n2 p2] ct p3] e pos.line X.env = pure false := by rfl) (hw : swappedStores [.Tuple [.Name n1 p1, .Name n2 p2] ct p3] e X.env = pure none := by rfl) (h0 : (assignEach [.Tuple [.Name n1 p1, .Name n2 p2] ct p3] X.env).map (·.2) = [assign (.Tuple [.Name n1 p1, .Name n2 p2] ct p3) X.env] := by rfl)
    (hn : (assignEach [.Name n1 p1, .Name n2 p2] X.env).length = 2 := by rfl) (hst : (assignEach [.Name n1 p1, .Name n2 p2] X.env).findIdx? (·.1) = none := by rfl) (h1 : (assignEach [.Name n1 p1, .Name n2 p2] X.env).map (·.2) = assign (.Name n1 p1) X.env :: (assignEach [.Name n2 p2] X.env).map (·.2) := by rfl)
    (h2 : (assignEach [.Name n2 p2] X.env).map (·.2) = assign (.Name n2 p2) X.env :: (assignEach [] X.env).map (·.2) := by rfl) : BX X W ER (.Assign [.Tuple [.Name n1 p1, .Name n2 p2] ct p3] e pos :: rest) Γ GN GL o := by
  obtain ⟨x, h3, h4⟩ := Option.bind_eq_some_iff.mp h
  refine bx_cons (ps_asg pe_w (pg_tup hc (pgs_cons (pg_name hN hi hl1 hf1) (pgs_cons (pg_name hN hj hl2 hf2) pgs_nil h2) h1) hn hst) hs hw h0) fun F D ac σ H Z en => hx.run F σ [] [] H Z en.len (by rw [List.append_nil, List.append_nil]; exact en) x h3 _ fun H' Z' v s en' => ?_
  have hl : σ.length = Γ'.length := by rw [hx.len]; exact en.len
  obtain ⟨p, v1, v2, e1, hz, en2⟩ := EnvOk.split2 hl en'
  subst e1
  refine ⟨p, [v1, v2], rfl, SqT.of (en'.zh _ _ hz), rfl, v1, [v2], rfl, v2, [], rfl, rfl, ?_⟩
  have en3 := EnvOk.settle i hl en2
  have en4 := EnvOk.settle j (by rw [List.length_set, List.length_set]; exact hl) en3
  rw [List.append_nil, List.append_nil] at en4
  exact (hr x h4).run F D ac _ _ Z' en4
end
end G
/-! GRev: list(reversed(a list)). -/
namespace G
section
open PySem PySem.W RT
variable {prog : Program} {w : World} {A : Around} {E : Value → Shared → Prop} {s : Shared}
/-- the new list at S is filled from the iterator -/
theorem fill_rev {R : Result → Shared → Prop} {it l S : Addr} {items : Array Value} {c0 : Nat} (hh : A.handled = none) (hit : s.heap.IsRevIter it l ((items.size : Int) - 1)) (hl : s.heap.IsList l items) (hne : l ≠ it) (hn : items.size ≤ sizeLine)
    (hSi : S ≠ it) (hSl : S ≠ l) (hS : s.heap.get? S = some { cls := .type "list", data := .seq #[] c0 }) (res : Value)
    (hR : ∀ (h' : Heap) (tk : Nat) (acc : Array Value) (c' : Nat), (∀ b o, b ≠ it → b ≠ S → s.heap.get? b = some o → h'.get? b = some o) → h'.get? S = some { cls := .type "list", dict := none, data := .seq acc c', slots := #[] } →
      ItemsOf (fun i v => items[items.size - 1 - i]? = some v) acc items.size → R (.ok (.ret res)) { s with heap := h', toks := tk }) :
    wpAny (model prog w) A.in1 (Builtin.List.listExtendWith (.ref S) (.ref it) res)
      (fun fin s' => match fin with | .done f => R (.ok f) s' | .again c' => c'.quiet = true ∧ codeAny (model prog w) A c' R s') (fun e s' => R (.error e) s') s := by
  have walk := (Walks.listRev (prog := prog) (w := w) (A := A.in1) hh it l hne items).toS
  have out : S ∉ [it, l] := by simp only [List.mem_cons, List.not_mem_nil, or_false, not_or]; exact ⟨hSi, hSl⟩
  have ty : s.TypeIs (.ref it) "list_reverseiterator" := hit.typeIs
  have same : Builtin.List.listSameRef (.ref S) (.ref it) = false := by simp [Builtin.List.listSameRef, hSi]
  unfold Builtin.List.listExtendWith
  refine wpAny_bind (wpAny_typeOf ty ?_)
  rw [if_neg (by rw [same]; decide)]
  refine wpAny_bind (wpAny_pyIter_revIter hit ?_)
  refine wpAny_bind (wpAny_holding ?_)
  unfold Builtin.List.listLengthHint
  refine wpAny_bind (wpAny_specialOf ty nolen_lri ?_)
  show wpAny _ A.in1 (specialOf (Value.ref it) (Str.ofString "__length_hint__") >>= _) _ _ _
  refine wpAny_bind (wpAny_specialOf ty hint_lri ?_)
  generalize hid : ("list_reverseiterator.__length_hint__" : String) = id0
  wp_delta
  rw [show splitId id0 = some ("list_reverseiterator", "__length_hint__") from by subst hid; decide +kernel]
  subst hid
  refine wpAny_bind (wpAny_isInstance (b := true) ty (by rw [isSubtype_type]; kernel_rfl) ?_)
  refine wpAny_pure ?_
  rw [if_neg (by decide)]
  have e0 : ((items.size : Nat) : Int) - 1 - ((0 : Nat) : Int) = (items.size : Int) - 1 := by omega
  refine wpAny_pure ⟨plainId_quiet F.plain_extend_loop _, codeAny_extend_loopS walk hn S out res items.size 0 s _ _ rfl (Nat.zero_le _) ⟨Nat.zero_le _, by rw [e0]; exact hit, hl⟩ hS (ItemsOf.nil _) fun s' acc c' mv hS' ha => ?_⟩
  rw [Moved.eq_with mv]
  refine hR s'.heap s'.toks acc c' (fun b o h1 h2 e => mv.heap b o (fun hm => ?_) e) hS' ha
  rcases List.mem_cons.mp hm with e' | hm
  · exact h2 e'
  · exact h1 (List.mem_singleton.mp hm)
theorem init_rev {R : Result → Shared → Prop} {it l S : Addr} {items : Array Value} (hh : A.handled = none) (hit : s.heap.IsRevIter it l ((items.size : Int) - 1)) (hl : s.heap.IsList l items) (hne : l ≠ it) (hn : items.size ≤ sizeLine)
    (hSi : S ≠ it) (hSl : S ≠ l) (hS : s.heap.get? S = some { cls := .type "list", data := .seq #[] })
    (hR : ∀ (h' : Heap) (tk : Nat) (acc : Array Value) (c' : Nat), (∀ b o, b ≠ it → b ≠ S → s.heap.get? b = some o → h'.get? b = some o) → h'.get? S = some { cls := .type "list", dict := none, data := .seq acc c', slots := #[] } →
      ItemsOf (fun i v => items[items.size - 1 - i]? = some v) acc items.size → R (.ok (.ret .none)) { s with heap := h', toks := tk }) :
    wpAny (model prog w) A.in1 (Builtin.«list.__init__» ⟨[.ref S, .ref it], []⟩)
      (fun fin s' => match fin with | .done f => R (.ok f) s' | .again c' => c'.quiet = true ∧ codeAny (model prog w) A c' R s') (fun e s' => R (.error e) s') s := by
  show wpAny _ _ (Builtin.List.listItems (.ref S) >>= fun old => Builtin.List.listUpdate (.ref S) (fun _ => #[]) >>= fun _ => letGo old.toList.reverse >>= fun _ => Builtin.List.listExtendWith (.ref S) (.ref it) .none) _ _ s
  refine wpAny_bind ?_
  unfold Builtin.List.listItems
  refine wpAny_bind (wpAny_seqItems hS rfl (wpAny_pure ?_))
  show wpAny _ _ (updateSeq S (fun _ => #[]) >>= fun _ => letGo (#[] : Array Value).toList.reverse >>= fun _ => Builtin.List.listExtendWith (.ref S) (.ref it) .none) _ _ s
  refine wpAny_bind (wpAny_updateSeq hS rfl ?_)
  have hS2 := Heap.get?_update_self (Obj.mapSeq (fun _ => (#[] : Array Value))) hS rfl
  have oth : ∀ b o, b ≠ S → s.heap.get? b = some o → (s.heap.update S (Obj.mapSeq (fun _ => (#[] : Array Value)))).get? b = some o := fun b o hb e => (Heap.get?_update_other _ _ (Ne.symm hb)).trans e
  refine wpAny_bind (wpAny_letGo ?_)
  obtain ⟨ol, hol, cl, dl⟩ := hl
  refine fill_rev (s := { s with heap := s.heap.update S (Obj.mapSeq (fun _ => (#[] : Array Value))) }) hh (hit.at fun o e => oth it o (Ne.symm hSi) e) ⟨ol, oth l ol (Ne.symm hSl) hol, cl, dl⟩ hne hn hSi hSl hS2 .none fun h' tk acc c' hk hS' ha => ?_
  exact hR h' tk acc c' (fun b o h1 h2 e => hk b o h1 h2 (oth b o h2 e)) hS' ha
theorem call_list_rev {it l : Addr} {items : Array Value} {Q : Value → Shared → Prop} (hh : A.handled = none) (hit : s.heap.IsRevIter it l ((items.size : Int) - 1)) (hl : s.heap.IsList l items) (hne : l ≠ it) (hn : items.size ≤ sizeLine)
    (hQ : ∀ (h' : Heap) (tk : Nat) (acc : Array Value) (c' : Nat), (∀ b o, b ≠ it → s.heap.get? b = some o → h'.get? b = some o) → h'.get? s.heap.objs.size = some { cls := .type "list", dict := none, data := .seq acc c', slots := #[] } →
      ItemsOf (fun i v => items[items.size - 1 - i]? = some v) acc items.size → Q (.ref s.heap.objs.size) { s with heap := h', toks := tk }) :
    wpAny (model prog w) A (call (.type "list") [.ref it]) Q E s := by
  refine callType_codes (Q₁ := fun obj s₁ => obj = .ref s.heap.objs.size ∧ s₁ = { s with heap := s.heap.push { cls := .type "list", data := .seq #[] } }) PySem.F.called_list (PySem.F.typeCall_list_1 _) PySem.F.entry_list_init
    (code_list_new _ ⟨rfl, rfl⟩) fun obj s₁ h₁ => ?_
  obtain ⟨rfl, rfl⟩ := h₁
  have hS : (s.heap.push { cls := .type "list", data := .seq #[] }).get? s.heap.objs.size = some { cls := .type "list", data := .seq #[] } := Heap.get?_push_size _ rfl
  obtain ⟨oi, hoi, ri⟩ := hit
  obtain ⟨ol, hol, rl⟩ := hl
  have n1 : s.heap.objs.size ≠ it := Nat.ne_of_gt (Heap.lt_size hoi)
  have n2 : s.heap.objs.size ≠ l := Nat.ne_of_gt (Heap.lt_size hol)
  refine ⟨⟨_, hS, rfl⟩, PySem.F.args_list_init_2 _ _, init_rev (A := A.in1) (s := { s with heap := s.heap.push { cls := .type "list", data := .seq #[] } }) hh ⟨oi, Heap.get?_push_of_some _ hoi, ri⟩ ⟨ol, Heap.get?_push_of_some _ hol, rl⟩ hne hn n1 n2 hS fun h' tk acc c' hk hS' ha => ?_⟩
  exact ⟨rfl, hQ h' tk acc c' (fun b o hb e => hk b o hb (Nat.ne_of_lt (Heap.lt_size e)) (Heap.get?_push_of_some _ e)) hS' ha⟩
end
section
open PySem L2
variable {X : Cx} {Γ : List Ent} {a : Expr} {p p2 pos pos2 : Pos} {α : Type} [Enc α]
def tListRev (te : TE) : TE := fun σ H Q => te σ H fun v H1 => ∃ (a : Addr) (xs : List V), v = .ref a ∧ H1 a = some (.lst xs) ∧ ∀ l, H1 l = none → Q (.ref l) (upd H1 l (.lst xs.reverse))
theorem pe_listRev {te : TE} (hc : X.calm = true) (hg : Gl X "list") (hm : X.mg "list" = none) (hg2 : Gl X "reversed") (hm2 : X.mg "reversed" = none) (he : PE X a te) (hs : starEach [a] X.env = (false, eval a X.env) :: starEach [] X.env)
    (hs2 : starEach [.Call (.Name "reversed" p2) [a] [] pos2] X.env = (false, eval (.Call (.Name "reversed" p2) [a] [] pos2) X.env) :: starEach [] X.env) :
    PE X (.Call (.Name "list" p) [.Call (.Name "reversed" p2) [a] [] pos2] [] pos) (tListRev te) := by
  refine ⟨fun pins s σ H Q I h => ?_⟩
  refine PyProof.Rows.Call_ (ld_blt I hg hm PyProof.Rows.boot_list (PyProof.Rows.callWith_type1 (PyProof.Rows.args_cons (PyProof.Rows.Call_ (ld_blt I hg2 hm2 PyProof.Rows.boot_reversed (PyProof.Rows.callWith_type1 (PyProof.Rows.args_cons (thn (he.run pins s σ H _ I h) fun u s1 ⟨v, H1, I1, r1, q1⟩ => PyProof.Rows.args_nil ?_) hs) hs rfl))) hs2) hs2 rfl))
  obtain ⟨l0, xs, ev, hq, q⟩ := q1
  subst ev
  obtain rfl : u = Value.ref l0 := r1
  obtain ⟨its, rv, pl, hz⟩ := I1.list (SqL.of hq)
  refine call_reversed_list pl.isList (PyProof.Rows.args_nil ?_)
  have I2 : Inv X pins σ H1 { s1 with heap := s1.heap.push (revObj l0 ((its.toArray.size : Int) - 1)) } := I1.kept (t' := s1.toks) fun b o e => Heap.get?_push_of_some _ e
  obtain ⟨f0, f1, f2, f3, f4, f5⟩ := I1.fpOk (H' := H1) (b := s1.heap.objs.size) (Nat.le_refl _) (I1.hok.fresh (Nat.le_refl _))
  have hl := pl.isList
  obtain ⟨ol, hol, _⟩ := id hl
  have hne : l0 ≠ s1.heap.objs.size := Nat.ne_of_lt (Heap.lt_size hol)
  have hn : its.toArray.size ≤ sizeLine := by rw [List.size_toArray, ← rv.length]; exact hz
  refine call_list_rev (s := { s1 with heap := s1.heap.push (revObj l0 ((its.toArray.size : Int) - 1)) }) (I1.ok.hd hc) ⟨_, Heap.get?_push_size _ rfl, rfl, rfl⟩ (hl.push _) hne hn fun h' tk acc c' hk hS hi => ?_
  have I3 : Inv X pins σ H1 { s1 with heap := h', toks := tk } := I2.turned (t' := tk) (fun b o hb e => hk b o hb e) f0 f1 f3 f4 f5
  have hfr : H1 (s1.heap.push (revObj l0 ((its.toArray.size : Int) - 1))).objs.size = none := I2.hok.fresh (Nat.le_refl _)
  have hlen : xs.length = its.length := rv.length
  have new : ObjOk X.prog X.w (upd H1 (s1.heap.push (revObj l0 ((its.toArray.size : Int) - 1))).objs.size (.lst xs.reverse)) h' (s1.heap.push (revObj l0 ((its.toArray.size : Int) - 1))).objs.size (.lst xs.reverse) :=
    ⟨by rw [List.length_reverse]; exact hz, acc.toList, c', RT.vals_rev rv hi, by rw [Array.toArray_toList]; exact hS⟩
  have hok : HOk X.prog X.w (upd H1 (s1.heap.push (revObj l0 ((its.toArray.size : Int) - 1))).objs.size (.lst xs.reverse)) h' := fun b u e => by
    by_cases hb : b = (s1.heap.push (revObj l0 ((its.toArray.size : Int) - 1))).objs.size
    · subst hb
      rw [upd_same] at e
      cases e
      exact new
    · rw [upd_ne hb] at e
      exact (I3.hok b u e).stay (fun _ _ _ q => q) (fun c q => by rw [upd_ne (ne_of_none q hfr)]; exact q) fun c ys q => by rw [upd_ne (ne_of_none q hfr)]; exact q
  have below : ∀ b o, (s1.heap.push (revObj l0 ((its.toArray.size : Int) - 1))).get? b = some o → b ≠ (s1.heap.push (revObj l0 ((its.toArray.size : Int) - 1))).objs.size := fun b o e => Nat.ne_of_lt (Heap.lt_size e)
  have un : Un (frs X.stack) [s1.heap.objs.size] H1 (upd H1 (s1.heap.push (revObj l0 ((its.toArray.size : Int) - 1))).objs.size (.lst xs.reverse)) (s1.heap.push (revObj l0 ((its.toArray.size : Int) - 1))) h' :=
    ⟨fun b o e _ _ hx => hk b o (fun z => hx (by simp [z])) e, fun b o e _ _ hx => ⟨o.slots, hk b o (fun z => hx (by simp [z])) e⟩,
      fun b o e n _ => by rw [upd_ne (below b o e)]; exact n, fun b o e hx => ⟨o, hk b o (fun z => hx (by simp [z])) e⟩, fun b ys e => by rw [upd_ne (ne_of_none e hfr)]; exact e, fun b o ys e => by rw [upd_ne (ne_of_none e hfr)]; exact e,
      fun b ps e => ⟨#[], by rw [upd_ne (ne_of_none e hfr), e]; simp⟩⟩
  have I4 := I2.call (g' := s1.gens) (d' := s1.drawn) (t' := tk) (ch := [s1.heap.objs.size]) un hok I2.bare fun b hb => by
        have e : b = s1.heap.objs.size := by simpa using hb
        subst e
        exact ⟨f3, f1, f4, f5⟩
  exact ⟨.ref _, _, I4, rfl, q _ hfr⟩
theorem pn_listrev {m : Option (List α)} (hc : X.calm = true) (hm : X.mg "list" = none) (hm2 : X.mg "reversed" = none) (ha : PL X a Γ m) (hg : Gl X "list" := by rfl) (hg2 : Gl X "reversed" := by rfl) (hs : starEach [a] X.env = (false, eval a X.env) :: starEach [] X.env := by rfl)
    (hs2 : starEach [.Call (.Name "reversed" p2) [a] [] pos2] X.env = (false, eval (.Call (.Name "reversed" p2) [a] [] pos2) X.env) :: starEach [] X.env := by rfl) :
    PN X (.Call (.Name "list" p) [.Call (.Name "reversed" p2) [a] [] pos2] [] pos) Γ (m.map List.reverse) := pn_of (pe_listRev hc hg hm hg2 hm2 pe_w hs hs2) fun F σ H Z en x hx Q q => by
  obtain ⟨y, hy, rfl⟩ := Option.map_eq_some_iff.mp hx
  exact ha.run F σ H Z en y hy _ fun H1 Z1 l vs s hl r => ⟨l, vs, rfl, hl, fun l' hl' => q H1 Z1 l' _ s hl' r.reverse⟩
end
end G
/-! GTup: sorted of pairs of ints; tuples cut and made lists; an append of a pop. -/
namespace G
open PySem L2
/-! ### sorted of pairs of ints -/
def leP (x y : P2 Int Int) : Bool := decide (x.a < y.a) || (decide (x.a = y.a) && decide (x.b ≤ y.b))
theorem leP_iff {x y : P2 Int Int} : leP x y = true ↔ x.a < y.a ∨ (x.a = y.a ∧ x.b ≤ y.b) := by
  unfold leP
  simp
theorem leP_trans {x y z : P2 Int Int} (h1 : leP x y = true) (h2 : leP y z = true) : leP x z = true := by
  rw [leP_iff] at *
  omega
theorem leP_tot (x y : P2 Int Int) : leP x y = true ∨ leP y x = true := by
  rw [leP_iff, leP_iff]
  omega
theorem leP_anti {x y : P2 Int Int} (h1 : leP x y = true) (h2 : leP y x = true) : x = y := by
  rw [leP_iff] at *
  obtain ⟨a, b⟩ := x
  obtain ⟨c, d⟩ := y
  dsimp only at h1 h2
  have : a = c ∧ b = d := by omega
  rw [this.1, this.2]
def sortP (xs : List (P2 Int Int)) : List (P2 Int Int) := xs.mergeSort leP
theorem sortP_perm (xs : List (P2 Int Int)) : (sortP xs).Perm xs := List.mergeSort_perm _ _
theorem sortP_up (xs : List (P2 Int Int)) : (sortP xs).Pairwise fun x y => leP x y = true :=
  List.pairwise_mergeSort (le := leP) (fun a b c h1 h2 => leP_trans h1 h2) (fun a b => by rcases leP_tot a b with h | h <;> simp [h]) xs
theorem sortP_eq {ys xs : List (P2 Int Int)} (p : ys.Perm xs) (s : ys.Pairwise fun x y => leP x y = true) : ys = sortP xs :=
  List.Perm.eq_of_pairwise (le := fun x y => leP x y = true) (fun a b _ _ h1 h2 => leP_anti h1 h2) s (sortP_up xs) (p.trans (sortP_perm xs).symm)
def keyP (H : Hp) (v : V) : Int × Int := match v with
  | .ref t => match H t with
    | some (.tup [.int a, .int b]) => (a, b)
    | _ => (0, 0)
  | _ => (0, 0)
def p2of (k : Int × Int) : P2 Int Int := ⟨k.1, k.2⟩
theorem keyP_rel {K : Fg} {Z H : Hp} {v : V} {x : P2 Int Int} (zh : Same Z H) (r : Enc.rel K Z v x) : keyP H v = (x.a, x.b) ∧ ∃ t, v = .ref t ∧ H t = some (.tup [.int x.a, .int x.b]) := by
  obtain ⟨p, v1, v2, rfl, h, rfl, rfl⟩ := r
  refine ⟨?_, p, rfl, zh _ _ h⟩
  unfold keyP
  dsimp only
  rw [zh _ _ h]
theorem all2_keys {K : Fg} {Z H : Hp} (zh : Same Z H) : ∀ {vs : List V} {xs : List (P2 Int Int)}, All2 (Enc.rel K Z) vs xs → xs = vs.map (fun v => p2of (keyP H v))
  | [], [], _ => rfl
  | v :: vs, x :: xs, ⟨a, b⟩ => by
    rw [List.map_cons, (keyP_rel zh a).1, ← all2_keys zh b]
    rfl
theorem all2_of_keys {K : Fg} {Z H : Hp} : ∀ {vs : List V}, (∀ v ∈ vs, Enc.rel K Z v (p2of (keyP H v))) → All2 (Enc.rel K Z) vs (vs.map (fun v => p2of (keyP H v)))
  | [], _ => trivial
  | v :: vs, h => ⟨h v List.mem_cons_self, all2_of_keys fun w hw => h w (List.mem_cons_of_mem _ hw)⟩
theorem all2_mem {α : Type} {R : V → α → Prop} : ∀ {vs : List V} {xs : List α} {v : V}, All2 R vs xs → v ∈ vs → ∃ x, x ∈ xs ∧ R v x
  | [], _, _, _, h => by cases h
  | _ :: _, [], _, h, _ => h.elim
  | u :: vs, x :: xs, v, ⟨a, b⟩, h => by
    rcases List.mem_cons.mp h with rfl | h
    · exact ⟨x, List.mem_cons_self, a⟩
    · obtain ⟨y, h1, h2⟩ := all2_mem b h
      exact ⟨y, List.mem_cons_of_mem _ h1, h2⟩
section
variable {X : Cx} {Γ : List Ent} {e a b c : Expr} {es : List Expr} {pos pos2 apos p : Pos} {α β γ δ C : Type} [Enc α] [Enc β] [Enc γ] [Enc δ]
theorem pn_sortP {m : Option (List (P2 Int Int))} (hm : X.mg "sorted" = none) (ha : PL X a Γ m) (hg : Gl X "sorted" := by rfl) (hs : starEach [a] X.env = [(false, eval a X.env)] := by rfl) : PN X (.Call (.Name "sorted" p) [a] [] pos) Γ (m.map sortP) :=
  pn_of (pe_callB cr_sortedPO hg hm (by decide +kernel) (pa_cons pe_w pa_nil (by rw [hs]; rfl)) (he := by rw [hs]; rfl) (hpl := rfl)) fun F σ H Z en x hx Q q => by
    obtain ⟨xs, hi, rfl⟩ := Option.map_eq_some_iff.mp hx
    refine ha.run F σ H Z en xs hi _ fun H1 Z1 l vs s1 hl r1 => ⟨l, vs, keyP H1, rfl, SqL.of hl, fun v hv => ?_, fun ys p' up st hp => ?_⟩
    · obtain ⟨x, _, rx⟩ := all2_mem r1 hv
      obtain ⟨e1, t, e2, e3⟩ := keyP_rel s1.zh rx
      exact ⟨t, e2, by rw [e1]; exact e3⟩
    · have ex := all2_keys s1.zh r1
      have ey : ys.map (fun v => p2of (keyP H1 v)) = sortP xs := by
        refine sortP_eq ?_ ?_
        · rw [ex]
          exact st.perm.map _
        · rw [List.pairwise_map]
          refine List.Pairwise.imp (fun {v w} h => ?_) up
          have h := SrtO.lexB_no.mp h
          rw [leP_iff]
          show (keyP H1 v).1 < (keyP H1 w).1 ∨ (keyP H1 v).1 = (keyP H1 w).1 ∧ (keyP H1 v).2 ≤ (keyP H1 w).2
          omega
      refine q H1 Z1 p' ys s1 hp ?_
      rw [← ey]
      refine all2_of_keys fun v hv => ?_
      obtain ⟨x, _, rx⟩ := all2_mem r1 (st.perm.mem_iff.mp hv)
      rw [(keyP_rel s1.zh rx).1]
      exact rx
/-! ### tuples cut, tuples as lists -/
theorem px_cutT {m : Option α} {f : α → β} {lo hi : Option Expr} {p2 : Pos} {l h : Option Int} (hl : POX X lo Γ (some l)) (hh : POX X hi Γ (some h))
    (hf : ∀ {K : Fg} {Z : Hp} {v : V} {x : α}, Enc.rel K Z v x → ∃ p vs, v = .ref p ∧ Z p = some (.tup vs) ∧ ¬ (HT.sIx vs.length 0 l = 0 ∧ HT.sIx vs.length vs.length h = vs.length) ∧ ∀ Z' q, Same Z Z' → Z' q = some (.tup (cutV vs l h)) → Enc.rel K Z' (.ref q) (f x)) (ha : PX X a Γ m) : PX X (.Subscript a (.Slice lo hi none p2) pos) Γ (m.map f) :=
  px_of (pe_slice sl_tup pe_w po_w po_w) fun F σ H Z en x hx Q q => by
    obtain ⟨y, hy, rfl⟩ := Option.map_eq_some_iff.mp hx
    refine ha.run F σ H Z en y hy _ fun H1 Z1 v s1 r1 => hl.run F σ H1 Z1 (en.step s1) l rfl _ fun H2 Z2 s2 => hh.run F σ H2 Z2 (en.step (s1.trans s2)) h rfl _ fun H3 Z3 s3 => ?_
    obtain ⟨p, vs, e1, h1, h2, h3⟩ := hf (Enc.mono (s2.zz.trans s3.zz) r1)
    refine ⟨p, vs, e1, SqT.of (s3.zh _ _ h1), h2, fun p' hp => ?_⟩
    have s4 := Step.new (o := .tup (cutV vs l h)) s3.zh hp
    exact q _ _ _ (((s1.trans s2).trans s3).trans s4) (h3 _ _ s4.zz upd_same)
theorem px_cut4_3 {j : Nat} {pi p2 : Pos} {m : Option (P4 α β γ δ)} (ha : PX X a Γ m) : PX X (.Subscript a (.Slice none (some (.Constant (.int 3) j pi)) none p2) pos) Γ (m.map fun x => (⟨x.a, x.b, x.c⟩ : P3 α β γ)) :=
  px_cutT (l := none) (h := some 3) pox_none (pox_some px_int) (by
    intro K Z v x r
    obtain ⟨p, v1, v2, v3, v4, e, h, r1, r2, r3, r4⟩ := r
    exact ⟨p, _, e, h, (by show ¬ (HT.sIx 4 0 none = 0 ∧ HT.sIx 4 4 (some 3) = 4); decide), fun Z' q s hq => ⟨q, v1, v2, v3, rfl, hq, Enc.mono s r1, Enc.mono s r2, Enc.mono s r3⟩⟩) ha
theorem px_cut3_1 {j : Nat} {pi p2 : Pos} {m : Option (P3 α β γ)} (ha : PX X a Γ m) : PX X (.Subscript a (.Slice (some (.Constant (.int 1) j pi)) none none p2) pos) Γ (m.map fun x => (⟨x.b, x.c⟩ : P2 β γ)) :=
  px_cutT (l := some 1) (h := none) (pox_some px_int) pox_none (by
    intro K Z v x r
    obtain ⟨p, v1, v2, v3, e, h, r1, r2, r3⟩ := r
    exact ⟨p, _, e, h, (by show ¬ (HT.sIx 3 0 (some 1) = 0 ∧ HT.sIx 3 3 none = 3); decide), fun Z' q s hq => ⟨q, v2, v3, rfl, hq, Enc.mono s r2, Enc.mono s r3⟩⟩) ha
theorem pn_listT {m : Option α} {f : α → List β} (hf : ∀ {K : Fg} {Z : Hp} {v : V} {x : α}, Enc.rel K Z v x → ∃ p vs, v = .ref p ∧ Z p = some (.tup vs) ∧ All2 (Enc.rel K Z) vs (f x)) (hm : X.mg "list" = none) (ha : PX X a Γ m) (hg : Gl X "list" := by rfl) (hs : starEach [a] X.env = [(false, eval a X.env)] := by rfl) :
    PN X (.Call (.Name "list" p) [a] [] pos) Γ (m.map f) :=
  pn_of (pe_callTy call_list_of hg hm (by decide +kernel) (pa_cons pe_w pa_nil (by rw [hs]; rfl)) (he := by rw [hs]; rfl) (hpl := rfl)) fun F σ H Z en x hx Q q => by
    obtain ⟨y, hy, rfl⟩ := Option.map_eq_some_iff.mp hx
    refine ha.run F σ H Z en y hy _ fun H1 Z1 v s1 r1 => ?_
    obtain ⟨p, vs, e1, h1, h2⟩ := hf r1
    exact ⟨p, vs, by rw [e1], .inr (SqT.of (s1.zh _ _ h1)), fun l' hl' => q H1 Z1 l' vs s1 hl' h2⟩
theorem pn_list2 {m : Option (P2 α α)} (hm : X.mg "list" = none) (ha : PX X a Γ m) (hg : Gl X "list" := by rfl) (hs : starEach [a] X.env = [(false, eval a X.env)] := by rfl) : PN X (.Call (.Name "list" p) [a] [] pos) Γ (m.map fun x => [x.a, x.b]) :=
  pn_listT (by intro K Z v x r; obtain ⟨p, v1, v2, e, h, r1, r2⟩ := r; exact ⟨p, _, e, h, r1, r2, trivial⟩) hm ha hg hs
theorem pn_list3 {m : Option (P3 α α α)} (hm : X.mg "list" = none) (ha : PX X a Γ m) (hg : Gl X "list" := by rfl) (hs : starEach [a] X.env = [(false, eval a X.env)] := by rfl) : PN X (.Call (.Name "list" p) [a] [] pos) Γ (m.map fun x => [x.a, x.b, x.c]) :=
  pn_listT (by intro K Z v x r; obtain ⟨p, v1, v2, v3, e, h, r1, r2, r3⟩ := r; exact ⟨p, _, e, h, r1, r2, r3, trivial⟩) hm ha hg hs
theorem pn_list4 {m : Option (P4 α α α α)} (hm : X.mg "list" = none) (ha : PX X a Γ m) (hg : Gl X "list" := by rfl) (hs : starEach [a] X.env = [(false, eval a X.env)] := by rfl) : PN X (.Call (.Name "list" p) [a] [] pos) Γ (m.map fun x => [x.a, x.b, x.c, x.d]) :=
  pn_listT (by intro K Z v x r; obtain ⟨p, v1, v2, v3, v4, e, h, r1, r2, r3, r4⟩ := r; exact ⟨p, _, e, h, r1, r2, r3, r4, trivial⟩) hm ha hg hs
/-! ### xs.append(ys.pop()) -/
def oAppPop {α : Type} (xs ys : List α) : Option (P2 (List α) (List α)) := (ys[ys.length - 1]?).bind fun x => if xs.length < sizeLine then some ⟨xs ++ [x], ys.dropLast⟩ else none
variable {W : WX} {ER : ExS} {rest : List Stmt} {pos' : Pos} {N L R : Type} [Res R] {GN : N → List Ent} {GL : L → List Ent} {o : Fl N L R}
theorem bx_appendPop (i j : Nat) {n1 n2 : Str} {p1 p2 ap2 cp2 : Pos} {b1 b2 : Option Nat} {xs ys : List α} {k : P2 (List α) (List α) → Option (Fl N L R)} (h : (oAppPop xs ys).bind k = some o) (hr : ∀ y, k y = some o → BX X W ER rest ((Γ.set j (.ow b2 y.b)).set i (.ow b1 y.a)) GN GL o)
    (hij : i ≠ j := by decide) (hΓ1 : Γ[i]? = some (.ow b1 xs) := by rfl) (hΓ2 : Γ[j]? = some (.ow b2 ys) := by rfl) (hN1 : X.N[i]? = some n1 := by rfl) (hN2 : X.N[j]? = some n2 := by rfl)
    (hv1 : Vis X.env.scope n1 := by first | exact Or.inl rfl | exact Or.inr (Or.inl rfl) | exact Or.inr (Or.inr rfl)) (hv2 : Vis X.env.scope n2 := by first | exact Or.inl rfl | exact Or.inr (Or.inl rfl) | exact Or.inr (Or.inr rfl))
    (hd1 : (n1 == ("__debug__" : Str)) = false := by decide) (hd2 : (n2 == ("__debug__" : Str)) = false := by decide) (hc1 : (n1 == ("__classdict__" : Str)) = false := by decide) (hc2 : (n2 == ("__classdict__" : Str)) = false := by decide)
    (hst : starEach [.Call (.Attribute (.Name n2 p2) "pop" ap2) [] [] cp2] X.env = (false, eval (.Call (.Attribute (.Name n2 p2) "pop" ap2) [] [] cp2) X.env) :: starEach [] X.env := by rfl) (hl : (apos.endLine == pos2.line) = true := by rfl) (hl2 : (ap2.endLine == cp2.line) = true := by rfl)
    (hb1 : attributeBase (.Name n1 p1) "append" X.env (eval (.Name n1 p1) X.env) = eval (.Name n1 p1) X.env := by rfl) (hb2 : attributeBase (.Name n2 p2) "pop" X.env (eval (.Name n2 p2) X.env) = eval (.Name n2 p2) X.env := by rfl)
    (hs : swapsWith (.Call (.Attribute (.Name n1 p1) "append" apos) [.Call (.Attribute (.Name n2 p2) "pop" ap2) [] [] cp2] [] pos2) none pos.line X.env = pure false := by rfl) :
    BX X W ER (.Expr (.Call (.Attribute (.Name n1 p1) "append" apos) [.Call (.Attribute (.Name n2 p2) "pop" ap2) [] [] cp2] [] pos2) pos :: rest) Γ GN GL o := by
  obtain ⟨y, h2, h3⟩ := Option.bind_eq_some_iff.mp h
  obtain ⟨x, h4, h5⟩ := Option.bind_eq_some_iff.mp h2
  by_cases hz : xs.length < sizeLine
  case neg => rw [if_neg hz] at h5; cases h5
  rw [if_pos hz] at h5
  cases h5
  refine bx_cons (ps_expr (pe_bm PySem.F.plainAttrs_list PySem.F.slot_list_append PySem.F.type_list_append mt_append (pe_var hN1 hv1 hd1 hc1) (pa_cons (pe_bm0 PySem.F.plainAttrs_list PySem.F.slot_list_pop PySem.F.type_list_pop mt_pop (pe_var hN2 hv2 hd2 hc2) (hbase := hb2) (hline := hl2)) pa_nil hst) (hbase := hb1) (hfew := by rw [hst]; rfl) (hline := hl) (hs := hst)) hs) fun F D ac σ H Z en => ?_
  obtain ⟨v1, f1, e1, A1⟩ := en.at hΓ1
  obtain ⟨l1, vs1, e2, hl1, r1, _⟩ := A1.lst
  subst e2
  obtain ⟨v2, f2, e3, A2⟩ := en.at hΓ2
  obtain ⟨l2, vs2, e4, hl2', r2, put2⟩ := A2.lst
  subst e4
  obtain ⟨u, hu, ru⟩ := r2.get' h4
  have en2 := put2 _ _ (all2_dropLast r2)
  refine ⟨_, e1, .inl ⟨rfl, _, SqL.of hl1⟩, _, e3, .inl ⟨rfl, _, SqL.of hl2'⟩, l2, vs2, u, rfl, rfl, hl2', by rw [r2.len]; exact hu, ?_⟩
  have hΓ1' : (Γ.set j (.ow b2 ys.dropLast))[i]? = some (.ow b1 xs) := by rw [List.getElem?_set_ne (Ne.symm hij)]; exact hΓ1
  obtain ⟨v3, f3, e5, A3⟩ := en2.at hΓ1'
  rw [e1] at e5
  cases e5
  obtain ⟨l3, vs3, e6, hl3, r3, put3⟩ := A3.lst
  cases e6
  exact ⟨l1, vs3, u, rfl, rfl, hl3, by rw [r3.len]; exact hz, (hr _ h3).run F D ac σ _ Z (put3 _ _ (r3.append (All2.one ru)))⟩
end
end G
/-! GDict: dicts whose keys are ints; None or an int. -/
namespace G
open PySem L2
/-! ### dicts: the items in their order -/
structure Dct (α : Type) where
  kvs : List (P2 Int α)
def AllK {α : Type} (R : V → α → Prop) : List (Key × V) → List (P2 Int α) → Prop
  | [], [] => True
  | kv :: r, x :: xs => kv.1 = .inl x.a ∧ R kv.2 x.b ∧ AllK R r xs
  | _, _ => False
theorem AllK.imp {α : Type} {R R' : V → α → Prop} (h : ∀ v x, R v x → R' v x) : ∀ {kvs : List (Key × V)} {xs : List (P2 Int α)}, AllK R kvs xs → AllK R' kvs xs
  | [], [], _ => trivial
  | _ :: _, _ :: _, ⟨a, b, c⟩ => ⟨a, h _ _ b, AllK.imp h c⟩
theorem AllK.len {α : Type} {R : V → α → Prop} : ∀ {kvs : List (Key × V)} {xs : List (P2 Int α)}, AllK R kvs xs → kvs.length = xs.length
  | [], [], _ => rfl
  | _ :: _, _ :: _, ⟨_, _, c⟩ => congrArg (· + 1) (AllK.len c)
def getD' {α : Type} (ds : List (P2 Int α)) (i : Int) : Option α := (ds.find? fun p => decide (p.a = i)).map P2.b
def putD {α : Type} (ds : List (P2 Int α)) (i : Int) (v : α) : List (P2 Int α) :=
  if (ds.any fun p => decide (p.a = i)) = true then ds.map (fun p => if p.a = i then ⟨p.a, v⟩ else p) else ds ++ [⟨i, v⟩]
theorem inl_iff {a b : Int} : ((Sum.inl a : Key) = Sum.inl b) ↔ a = b := ⟨fun h => Sum.inl.inj h, fun h => by rw [h]⟩
theorem AllK.get {α : Type} {R : V → α → Prop} {i : Int} : ∀ {kvs : List (Key × V)} {xs : List (P2 Int α)}, AllK R kvs xs → (valV kvs (.inl i) = none ∧ getD' xs i = none) ∨ ∃ v x, valV kvs (.inl i) = some v ∧ getD' xs i = some x ∧ R v x
  | [], [], _ => .inl ⟨rfl, rfl⟩
  | kv :: r, x :: xs, ⟨a, b, c⟩ => by
    by_cases e : x.a = i
    · refine .inr ⟨kv.2, x.b, valV_pos (by rw [a, e]), ?_, b⟩
      unfold getD'
      rw [List.find?_cons, decide_eq_true e]
      rfl
    · have e1 : ¬ kv.1 = Sum.inl i := fun h => e (inl_iff.mp (a.symm.trans h))
      have e2 : getD' (x :: xs) i = getD' xs i := by
        unfold getD'
        rw [List.find?_cons, decide_eq_false e]
      rw [valV_neg e1, e2]
      exact AllK.get c
theorem AllK.any {α : Type} {R : V → α → Prop} {i : Int} : ∀ {kvs : List (Key × V)} {xs : List (P2 Int α)}, AllK R kvs xs → (kvs.any fun kv => decide (kv.1 = .inl i)) = xs.any fun p => decide (p.a = i)
  | [], [], _ => rfl
  | kv :: r, x :: xs, ⟨a, b, c⟩ => by
    rw [List.any_cons, List.any_cons, AllK.any c]
    congr 1
    rw [a]
    exact decide_eq_decide.mpr inl_iff
theorem AllK.app {α : Type} {R : V → α → Prop} {i : Int} {v : V} {x : α} (h : R v x) : ∀ {kvs : List (Key × V)} {xs : List (P2 Int α)}, AllK R kvs xs → AllK R (kvs ++ [(.inl i, v)]) (xs ++ [⟨i, x⟩])
  | [], [], _ => ⟨rfl, h, trivial⟩
  | _ :: _, _ :: _, ⟨a, b, c⟩ => ⟨a, b, AllK.app h c⟩
theorem AllK.upd {α : Type} {R : V → α → Prop} {i : Int} {v : V} {x : α} (h : R v x) : ∀ {kvs : List (Key × V)} {xs : List (P2 Int α)}, AllK R kvs xs → AllK R (kvs.map fun kv => if kv.1 = .inl i then (kv.1, v) else kv) (xs.map fun p => if p.a = i then ⟨p.a, x⟩ else p)
  | [], [], _ => trivial
  | kv :: r, y :: ys, ⟨a, b, c⟩ => by
    rw [List.map_cons, List.map_cons]
    by_cases e : y.a = i
    · rw [if_pos (show kv.1 = Sum.inl i by rw [a, e]), if_pos e]
      exact ⟨a, h, AllK.upd h c⟩
    · rw [if_neg (fun q => e (inl_iff.mp (a.symm.trans q))), if_neg e]
      exact ⟨a, b, AllK.upd h c⟩
theorem AllK.put {α : Type} {R : V → α → Prop} {i : Int} {v : V} {x : α} (h : R v x) {kvs : List (Key × V)} {xs : List (P2 Int α)} (a : AllK R kvs xs) : AllK R (putK kvs (.inl i) v) (putD xs i x) := by
  unfold putK putD
  rw [a.any]
  split
  · exact a.upd h
  · exact a.app h
section
variable {α : Type} [Enc α]
instance dctCell : Cell (Dct α) := ⟨fun K Z o d => ∃ kvs, o = .dK kvs ∧ AllK (Enc.rel K Z) kvs d.kvs, fun s ⟨kvs, e, r⟩ => ⟨kvs, e, AllK.imp (fun _ _ q => Enc.mono s q) r⟩, fun ⟨kvs, e, _⟩ ys z => by rw [e] at z; cases z⟩
instance : Enc (Dct α) := cellEnc
instance : Own (Dct α) := cellOwn
end
/-- a dict that is read -/
structure PDR (X : Cx) (e : Expr) (Γ : List Ent) {α : Type} [Enc α] (m : Option (Dct α)) : Prop where
  run : ∀ (F : Frame) (σ : St) (H Z : Hp), EnvOk X.K F σ H Z Γ → ∀ x, m = some x → ∀ Q : VK, (∀ H' Z' l kvs, Step H Z H' Z' → H' l = some (.dK kvs) → AllK (Enc.rel X.K Z') kvs x.kvs → Q (.ref l) H') → wE X e σ H Q
section
variable {X : Cx} {Γ : List Ent} {e a b c d : Expr} {es : List Expr} {pos pos2 apos cpos p : Pos} {α β γ δ C : Type} [Enc α] [Enc β] [Enc γ] [Enc δ]
variable {W : WX} {ER : ExS} {rest : List Stmt} {pos' : Pos} {N L R : Type} [Res R] {GN : N → List Ent} {GL : L → List Ent} {o : Fl N L R}
theorem pd_var (i : Nat) {nm : Str} {bv : Option Nat} {x : Dct α} (hΓ : Γ[i]? = some (.ow bv x) := by rfl) (hN : X.N[i]? = some nm := by rfl) (hv : Vis X.env.scope nm := by first | exact Or.inl rfl | exact Or.inr (Or.inl rfl) | exact Or.inr (Or.inr rfl)) (hd : (nm == ("__debug__" : Str)) = false := by decide)
    (hcd : (nm == ("__classdict__" : Str)) = false := by decide) : PDR X (.Name nm pos) Γ (some x) := .mk fun F σ H Z en y hy Q q pins s I => by
  cases hy
  obtain ⟨o, fp, ho, ⟨v, e1, _, ⟨l, u, rfl, h2, ⟨kvs, rfl, r⟩, _⟩, _⟩, _⟩ := en.focus hΓ
  exact (pe_var hN hv hd hcd).run pins s σ H Q I ⟨_, by rw [ho, e1], q H Z l kvs (Step.refl en.zh) h2 r⟩
theorem pd_of {m : Option (Dct α)} (h : PX X e Γ m) : PDR X e Γ m := .mk fun F σ H Z en x hx Q q =>
  h.run F σ H Z en x hx Q fun H' Z' v s ⟨l, _, e1, hl, kvs, eo, r⟩ => by
    subst e1 eo
    exact q H' Z' l kvs s (s.zh l _ hl) r
theorem pno_dnew : PNO X (.Dict [] [] pos) Γ (some (⟨[]⟩ : Dct α)) := .mk fun F σ H Z en x hx Q q pins s I => by
  cases hx
  exact pe_dnewK.run pins s σ H Q I fun l hl => q _ Z _ _ (NewO.cell en.zh hl ⟨[], rfl, trivial⟩)
def oGet {α : Type} (m : Option (Dct α)) (mk : Option Int) (mx : Option α) : Option α := m.bind fun d => mk.bind fun i => mx.bind fun x => some ((getD' d.kvs i).getD x)
theorem px_dget {m : Option (Dct α)} {mk : Option Int} {mx : Option α} (hu : X.A.units + 1 < cLine) (hd : PDR X d Γ m) (ha : PX X a Γ mk) (hb : PX X b Γ mx) (h : M2 X d "get" apos a b cpos := by exact ⟨rfl, rfl, rfl, rfl⟩) : PX X (.Call (.Attribute d "get" apos) [a, b] [] cpos) Γ (oGet m mk mx) :=
  px_of (pe_dget2 hu pe_w pe_w pe_w h) fun F σ H Z en x hx Q q => by
    obtain ⟨dd, h1, hx⟩ := Option.bind_eq_some_iff.mp hx
    obtain ⟨i, h2, hx⟩ := Option.bind_eq_some_iff.mp hx
    obtain ⟨y, h3, hx⟩ := Option.bind_eq_some_iff.mp hx
    cases hx
    refine hd.run F σ H Z en dd h1 _ fun H1 Z1 l kvs s1 hl r => ⟨l, rfl, .inl ⟨kvs, .inl hl⟩, ?_⟩
    refine ha.run F σ H1 Z1 (en.step s1) i h2 _ fun H2 Z2 v s2 r2 => hb.run F σ H2 Z2 ((en.step s1).step s2) y h3 _ fun H3 Z3 w s3 r3 => ?_
    cases r2
    refine ⟨valV kvs (.inl i), DGet.k (k := .inl i) (s3.hh _ _ (s2.hh _ _ hl)), ?_⟩
    have r' := AllK.imp (fun _ _ q => Enc.mono (s2.zz.trans s3.zz) q) r
    rcases r'.get (i := i) with ⟨e1, e2⟩ | ⟨u, z, e1, e2, e3⟩
    · rw [e1]
      exact q H3 Z3 w ((s1.trans s2).trans s3) (by rw [e2]; exact r3)
    · rw [e1]
      exact q H3 Z3 u ((s1.trans s2).trans s3) (by rw [e2]; exact e3)
def oPut {α : Type} (d : Dct α) (mi : Option Int) (m : Option α) : Option (Dct α) := m.bind fun x => mi.bind fun i => if d.kvs.length < sizeLine then some ⟨putD d.kvs i x⟩ else none
/-- place[k] = e -/
theorem bx_dput {x : Dct α} {T : Dct α → List Ent} {m : Option α} {mi : Option Int} {k : Dct α → Option (Fl N L R)} (hu : X.A.units + 1 < cLine) (hp : PR X c Γ (some x) T) (hx : PX X e Γ m) (hi : PX X a Γ mi) (h : (oPut x mi m).bind k = some o) (hr : ∀ y, k y = some o → BX X W ER rest (T y) GN GL o)
    (hs : swapsWith e (some (.Subscript c a pos2)) pos.line X.env = pure false := by rfl) : BX X W ER (.Assign [.Subscript c a pos2] e pos :: rest) Γ GN GL o := by
  obtain ⟨ys, h2, h3⟩ := Option.bind_eq_some_iff.mp h
  obtain ⟨y, h4, h5⟩ := Option.bind_eq_some_iff.mp h2
  obtain ⟨i, h6, h7⟩ := Option.bind_eq_some_iff.mp h5
  by_cases hz : x.kvs.length < sizeLine
  case neg => rw [if_neg hz] at h7; cases h7
  rw [if_pos hz] at h7
  cases h7
  refine bx_cons (ps_dput hu pe_w pe_w pe_w hs) fun F D ac σ H Z en => ?_
  refine hx.run F σ H Z en y h4 _ fun H1 Z1 w s1 r1 => hp.run F σ H1 Z1 (en.step s1) x rfl _ fun H2 Z2 v fp s2 A => hi.run F σ H2 Z2 ((en.step s1).step s2) i h6 _ fun H3 Z3 u s3 r2 => ?_
  have B := A.step s3
  obtain ⟨l, u', e1, hl, ⟨kvs, e2, r⟩, hf⟩ := B.own
  subst e1 e2
  cases r2
  have fl : fp l := (hf l).mpr rfl
  have zl := (B.out l fl).2
  refine ⟨l, _, rfl, DPut.k (k := .inl i) hl (by rw [r.len]; exact hz), (hr _ h3).run F D ac σ _ Z3 (B.put _ Z3 _ fp ⟨fun a w ha nf => ?_, Same.refl _, fun a w ha => ?_, fun _ _ _ _ => rfl, fun a f => ⟨.inl f, (B.out a f).2⟩⟩ ⟨l, _, rfl, upd_same, ⟨_, rfl, r.put (Enc.mono (s2.zz.trans s3.zz) r1)⟩, hf⟩)⟩
  · rw [upd_ne (fun e => nf (by rw [e]; exact fl))]; exact ha
  · rw [upd_ne (ne_of_none ha zl)]; exact B.zh a w ha
theorem items_all {R : V → α → Prop} {H' : Hp} : ∀ {ts : List Addr} {kvs : List (Key × V)} {xs : List (P2 Int α)}, Paired (fun (t : Addr) (q : Key × V) => H' t = some (.tup [kV q.1, q.2])) ts kvs → AllK R kvs xs → All2 (fun v (x : P2 Int α) => ∃ t u, v = .ref t ∧ t ∈ ts ∧ H' t = some (.tup [.int x.a, u]) ∧ R u x.b) (ts.map V.ref) xs
  | [], [], [], _, _ => trivial
  | t :: ts, kv :: r, x :: xs, .cons h hs, ⟨a, b, c⟩ => by
    refine ⟨⟨t, kv.2, rfl, List.mem_cons_self, by rw [h, a]; rfl, b⟩, All2.imp (fun v y ⟨t', u, e1, e2, e3⟩ => ⟨t', u, e1, List.mem_cons_of_mem _ e2, e3⟩) (items_all hs c)⟩
  | [], [], _ :: _, _, h => h.elim
  | _ :: _, _ :: _, [], _, h => h.elim
open Classical in
theorem pno_items {m : Option (Dct α)} (hc : X.calm = true) (hm : X.mg "list" = none) (hd : PDR X e Γ m) (hg : Gl X "list" := by rfl) (hbase : attributeBase e "items" X.env (eval e X.env) = eval e X.env := by rfl) (hline : (apos.endLine == cpos.line) = true := by rfl)
    (hs : starEach [.Call (.Attribute e "items" apos) [] [] cpos] X.env = (false, eval (.Call (.Attribute e "items" apos) [] [] cpos) X.env) :: starEach [] X.env := by rfl) :
    PNO X (.Call (.Name "list" p) [.Call (.Attribute e "items" apos) [] [] cpos] [] pos) Γ (m.map Dct.kvs) := .mk fun F σ H Z en x hx Q q pins s I => (LiI.pe_listItems hc pe_w hg hm (by decide +kernel) hbase hline hs).run pins s σ H Q I (by
  obtain ⟨dd, h1, rfl⟩ := Option.map_eq_some_iff.mp hx
  refine hd.run F σ H Z en dd h1 _ fun H1 Z1 l kvs s1 hl r => ⟨l, kvs, rfl, hl, fun H' pp ts kp np nt ni hp pr => ?_⟩
  have sz : Same Z1 (fun a => if a ∈ ts then H' a else Z1 a) := fun a u h => by
    show (if a ∈ ts then H' a else Z1 a) = some u
    by_cases t : a ∈ ts
    · have := s1.zh a u h
      rw [nt a t] at this; cases this
    · rw [if_neg t]; exact h
  refine q H' (fun a => if a ∈ ts then H' a else Z1 a) (.ref pp) (fun a => a = pp) ⟨s1.trans ⟨kp, sz, fun a u h => ?_, fun a u h => ?_⟩, ⟨pp, _, rfl, hp, ⟨_, rfl, ?_⟩, fun _ => Iff.rfl⟩, fun a h => ?_⟩
  · have h : (if a ∈ ts then H' a else Z1 a) = some u := h
    by_cases t : a ∈ ts
    · rw [if_pos t] at h; exact h
    · rw [if_neg t] at h; exact kp a u (s1.zh a u h)
  · show (if a ∈ ts then H' a else Z1 a) = Z1 a
    by_cases t : a ∈ ts
    · have := nt a t
      rw [h] at this; cases this
    · exact if_neg t
  · refine All2.imp (fun v y hv => ?_) (items_all pr r)
    obtain ⟨t, u, e1, e2, e3, e4⟩ := hv
    exact ⟨t, .int y.a, u, e1, by show (if t ∈ ts then H' t else Z1 t) = _; rw [if_pos e2]; exact e3, rfl, Enc.mono sz e4⟩
  · cases h
    refine ⟨s1.hh.free np, ?_⟩
    show (if pp ∈ ts then H' pp else Z1 pp) = none
    rw [if_neg ni]
    exact s1.zh.free np)
/-! ### None or some other thing -/
theorem px_none {α : Type} [Enc α] {j} : PX X (.Constant .none j pos) Γ (some (none : Option α)) := px_const pe_non fun _ => rfl
class NonN (α : Type) [Enc α] : Prop where
  nn : ∀ {K : Fg} {Z : Hp} {v : V} {x : α}, Enc.rel K Z v x → v ≠ .non
instance : NonN Int := ⟨fun h => by cases h; exact fun z => by cases z⟩
instance : NonN Bool := ⟨fun h => by cases h; exact fun z => by cases z⟩
instance : NonN (P2 α β) := ⟨fun ⟨p, v1, v2, e, _⟩ => by rw [e]; exact fun z => by cases z⟩
instance : NonN (P3 α β γ) := ⟨fun ⟨p, v1, v2, v3, e, _⟩ => by rw [e]; exact fun z => by cases z⟩
instance : NonN (P4 α β γ δ) := ⟨fun ⟨p, v1, v2, v3, v4, e, _⟩ => by rw [e]; exact fun z => by cases z⟩
instance : NonN (List α) := ⟨fun ⟨p, o, e, _⟩ => by rw [e]; exact fun z => by cases z⟩
theorem px_some [NonN α] {m : Option α} (h : PX X e Γ m) : PX X e Γ (m.map some) := .mk fun F σ H Z en x hx Q q => by
  obtain ⟨y, hy, rfl⟩ := Option.map_eq_some_iff.mp hx
  exact h.run F σ H Z en y hy Q fun H' Z' v s r => q H' Z' v s ⟨NonN.nn r, r⟩
theorem px_un {m : Option (Option α)} (h : PX X e Γ m) : PX X e Γ (m.bind id) := .mk fun F σ H Z en x hx Q q => by
  obtain ⟨y, hy, hx⟩ := Option.bind_eq_some_iff.mp hx
  cases hx
  exact h.run F σ H Z en _ hy Q fun H' Z' v s r => q H' Z' v s r.2
end
end G
/-! GExc: defs that raise. -/
namespace G
open PySem L2
/-- what a def comes to: a value, or an exception (its class by number, its field) -/
inductive Rs (R : Type) where
  | ok (r : R)
  | er (c : Nat) (f : Option Int)
def retX {N L R : Type} : Option (Fl N L R) → Option (Rs R)
  | some (.rt r) => some (.ok r)
  | some (.xc c f) => some (.er c f)
  | _ => none
def Rs.fl {N L R : Type} : Rs R → Fl N L R
  | .ok r => .rt r
  | .er c f => .xc c f
theorem retX_some {N L R : Type} {m : Option (Fl N L R)} {r : Rs R} (h : retX m = some r) : m = some r.fl := by
  match m, h with
  | some (.rt x), h => cases h; rfl
  | some (.xc c f), h => cases h; rfl
def Rs.val {R : Type} : Rs R → Option R
  | .ok r => some r
  | .er _ _ => none
def spX (K : Fg) (ER : ExR) {A R : Type} [EncA A] [Enc R] (f : A → Option (Rs R)) : Sp := fun vs H Q E =>
  ∃ Z x r, Same Z H ∧ EncA.rel K Z vs x ∧ f x = some r ∧ (∀ y, r = .ok y → ∀ H' Z' u, Step H Z H' Z' → Enc.rel K Z' u y → Q u H') ∧ ∀ c i, r = .er c i → ∀ H' Z' cls d, Step H Z H' Z' → ER c i Z' cls d → E cls d H'
section
variable {P : Program} {w : World} {K : Fg} {mg : Str → Option Value} {base : Heap} {f : Addr} {fd : FuncData} {x qual : Str} {st : Stmt} {N ps : List Str} {k n : Nat} {A R : Type} [EncA A] [EntsA A] [Enc R]
/-- THE RULE for a def that may raise -/
theorem fn_x (F : Fun K x qual st f fd) (S : FnScope N ps (defScope st)) (ER : ExR) (fm : A → Option (Rs R)) {N1 L1 : Type} (GN : N1 → List Ent) (GL : L1 → List Ent) (hno : ∀ n : N1, False) (hps : EncA.n A = ps.length) (hn : EncA.n A + n = N.length)
    (hb : ∀ (cdv : Value) (Ar : Around) (outer : List Env) (s : Shared) (H : Hp) (E : XK), Room k (Ar.deeper (PyProof.Rows.envOfC qual (defScope st) s.heap.objs.size f cdv)) → ∀ (y : A) (r : Rs R), fm y = some r →
      BX (cxOf (L2.CX P w) P w K mg base N qual (defScope st) f cdv Ar outer s H E) (fun cls d _ H => E cls d H) ⟨ER, List.replicate N.length .no⟩ (defBody st) (EntsA.ents y ++ List.replicate n .no) GN GL r.fl) :
    FnOk P w K mg base (L2.CX P w) (k + 1) f fd ps (spX K ER fm) := by
  refine F.okX S (fun vs H Q E h => ?_) (fun cdv Ar outer s H vs Q E hr h => ?_)
  · obtain ⟨Z, y, r, _, h1, _⟩ := h
    rw [EncA.len h1, hps]
  · obtain ⟨Z, y, r, zh, h1, h2, q1, q2⟩ := h
    refine ⟨_, ps_w, ?_⟩
    refine (hb cdv Ar outer s H E hr y r h2).run ⟨H, Z, []⟩ _ ?_ _ _ Z (env_start hn zh h1 rfl)
    cases r with
    | ok r => exact fun H' Z' v ⟨s', r'⟩ => q1 r rfl H' Z' v s' r'
    | er c i => exact fun σ H' Z' cls d en' r' => q2 c i rfl H' Z' cls d en'.stp r'
end
section
variable {X : Cx} {Γ : List Ent} {e a b c d : Expr} {es : List Expr} {pos pos2 apos cpos p : Pos} {α β γ δ C : Type} [Enc α] [Enc β] [Enc γ] [Enc δ]
variable {W : WX} {ER : ExS} {rest : List Stmt} {pos' : Pos} {N L R : Type} [Res R] {GN : N → List Ent} {GL : L → List Ent} {o : Fl N L R}
/-- a call of a def that may raise, and does not -/
theorem px_callR {nm : Str} {k : Nat} {f : Addr} {fd : FuncData} {ps : List Str} {A R : Type} [EncA A] [Enc R] {fm : A → Option (Rs R)} {m : Option A} (Fn : FnOk X.prog X.w X.K X.mg X.base (L2.CX X.prog X.w) k f fd ps (spX X.K ER.er fm)) (hr : Room k X.A) (hm : X.mg nm = some (.ref f)) (hk : PySem.W.keepIn X.K (.ref f) = true)
    (hb : Binds X.K fd ps []) (ha : PAX X (e :: es) Γ m) (hg : Gl X nm := by rfl) (hdb : (nm == ("__debug__" : Str)) = false := by decide) (he : starEach (e :: es) X.env = (false, eval e X.env) :: starEach es X.env := by rfl) (hpl : (backTo pos (starEach es X.env)).any (·.1) = false := by rfl) :
    PX X (.Call (.Name nm p) (e :: es) [] pos) Γ ((m.bind fm).bind Rs.val) := px_of (pe_call Fn hr hg hm hk hb .nil passL pa_w hdb he hpl) fun F σ H Z en x hx Q q => by
  obtain ⟨r, hx0, hv⟩ := Option.bind_eq_some_iff.mp hx
  obtain ⟨y, hy, hx1⟩ := Option.bind_eq_some_iff.mp hx0
  cases r with
  | er c i => cases hv
  | ok r =>
    cases hv
    refine ha.run F σ H Z en y hy _ fun H' Z' vs s r => ?_
    rw [List.append_nil]
    exact ⟨Z', y, .ok x, s.zh, r, hx1, fun y' e' H2 Z2 u s2 r2 => by cases e'; exact q H2 Z2 u (s.trans s2) r2, fun c i e' => by cases e'⟩
/-- what may raise, in a statement -/
structure PXX (X : Cx) (W : WX) (ER : ExR) (e : Expr) (Γ : List Ent) {α : Type} [Enc α] (m : Option (Rs α)) : Prop where
  run : ∀ (F : Frame) (σ : St) (H Z : Hp), EnvOk X.K F σ H Z Γ → ∀ x, m = some x → ∀ Q : VK, (∀ y, x = .ok y → ∀ H' Z' v, Step H Z H' Z' → Enc.rel X.K Z' v y → Q v H') → (∀ c i, x = .er c i → ∀ H' Z' cls d, Step H Z H' Z' → ER c i Z' cls d → W cls d σ H') → wE X e σ H Q
theorem pxx_call {nm : Str} {k : Nat} {f : Addr} {fd : FuncData} {ps : List Str} {A R : Type} [EncA A] [Enc R] {fm : A → Option (Rs R)} {m : Option A} (tk : Takes X W) (Fn : FnOk X.prog X.w X.K X.mg X.base (L2.CX X.prog X.w) k f fd ps (spX X.K ER.er fm)) (hr : Room k X.A) (hm : X.mg nm = some (.ref f)) (hk : PySem.W.keepIn X.K (.ref f) = true)
    (hb : Binds X.K fd ps []) (ha : PAX X (e :: es) Γ m) (hg : Gl X nm := by rfl) (hdb : (nm == ("__debug__" : Str)) = false := by decide) (he : starEach (e :: es) X.env = (false, eval e X.env) :: starEach es X.env := by rfl) (hpl : (backTo pos (starEach es X.env)).any (·.1) = false := by rfl) :
    PXX X W ER.er (.Call (.Name nm p) (e :: es) [] pos) Γ (m.bind fm) := .mk fun F σ H Z en x hx Q q1 q2 pins s I => (pe_callS Fn hr hg hm hk hb (fun σ => passAt tk σ) pa_w hdb he hpl).run pins s σ H Q I (by
  obtain ⟨y, hy, hx1⟩ := Option.bind_eq_some_iff.mp hx
  refine ha.run F σ H Z en y hy _ fun H' Z' vs s r => ?_
  exact ⟨Z', y, x, s.zh, r, hx1, fun y' e' H2 Z2 u s2 r2 => q1 y' e' H2 Z2 u (s.trans s2) r2, fun c i e' H2 Z2 cls d s2 r2 => q2 c i e' H2 Z2 cls d (s.trans s2) r2⟩)
def thenX {α N L R : Type} (m : Option (Rs α)) (k : α → Option (Fl N L R)) : Option (Fl N L R) := m.bind fun r => match r with
  | .ok x => k x
  | .er c f => some (.xc c f)
theorem acc_xc {F : Frame} {D : Ends} {cc : Nat} {i : Option Int} {σ : St} {H Z : Hp} {cls : Value} {dd : Option Addr} (ac : Acc X W ER F GN GL (.xc cc i : Fl N L R) D) (s : EnvOk X.K F σ H Z ER.gx) (r : ER.er cc i Z cls dd) : W cls dd σ H := ac σ H Z cls dd s r
/-- target = what may raise -/
theorem bx_asgX {tg : Expr} {js : List Nat} {T : α → List Ent → List Ent} {m : Option (Rs α)} {k : α → Option (Fl N L R)} (hx : PXX X W ER.er e Γ m) (hg : PGX X tg js T) (w : Wk Γ ER.gx) (h : thenX m k = some o) (hr : ∀ x, k x = some o → BX X W ER rest (T x Γ) GN GL o)
    (hs : swapsWithSole [tg] e pos.line X.env = pure false := by rfl) (hw : swappedStores [tg] e X.env = pure none := by rfl) (h1 : (assignEach [tg] X.env).map (·.2) = [assign tg X.env] := by rfl) : BX X W ER (.Assign [tg] e pos :: rest) Γ GN GL o := by
  obtain ⟨r, h2, h3⟩ := Option.bind_eq_some_iff.mp h
  refine bx_cons (ps_asg pe_w pg_w hs hw h1) fun F D ac σ H Z en => hx.run F σ H Z en r h2 _ (fun y e1 H' Z' v s r1 => ?_) fun cc i e1 H' Z' cls dd s r1 => ?_
  · subst e1
    exact hg.run F σ H' Z' Γ v y (en.step s) r1 _ fun σ' en' _ => (hr y h3).run F D ac σ' H' Z' en'
  · subst e1
    cases h3
    exact acc_xc ac ((en.step s).wk w) r1
/-- what may raise, its value dropped -/
theorem bx_exprX {m : Option (Rs α)} {k : α → Option (Fl N L R)} (hx : PXX X W ER.er e Γ m) (w : Wk Γ ER.gx) (h : thenX m k = some o) (hr : ∀ x, k x = some o → BX X W ER rest Γ GN GL o) (hs : swapsWith e none pos.line X.env = pure false := by rfl) : BX X W ER (.Expr e pos :: rest) Γ GN GL o := by
  obtain ⟨r, h2, h3⟩ := Option.bind_eq_some_iff.mp h
  refine bx_cons (ps_expr pe_w hs) fun F D ac σ H Z en => hx.run F σ H Z en r h2 _ (fun y e1 H' Z' v s r1 => ?_) fun cc i e1 H' Z' cls dd s r1 => ?_
  · subst e1
    exact (hr y h3).run F D ac σ H' Z' (en.step s)
  · subst e1
    cases h3
    exact acc_xc ac ((en.step s).wk w) r1
/-- raise X('..'), X without own __init__ -/
theorem bx_raise0 {cc : Nat} {cls : Value} (hc : X.calm = true) (tk : Takes X W) (he : PMk X e (fun _ H Q => Q cls none H)) (hER : ∀ Z, ER.er cc none Z cls none) (w : Wk Γ ER.gx) (h : some (.xc cc none) = some o) : BX X W ER (.Raise (some e) none pos :: rest) Γ GN GL o := by
  cases h
  exact bx_cons (ps_raise hc tk he) fun F D ac σ H Z en => acc_xc ac (en.wk w) (hER Z)
/-- a raise that is never met -/
theorem bx_raiseN (h : (none : Option (Fl N L R)) = some o) : BX X W ER (.Raise (some e) none pos :: rest) Γ GN GL o := by cases h
/-! ### try .. except X as n -/
def tryM {N J L R : Type} (mb : Option (Fl J L R)) (caught : Nat → Bool) (ms : Nat → Option Int → Option (Fl J L R)) (k : J → Option (Fl N L R)) : Option (Fl N L R) := match mb with
  | some (.xc c f) => if caught c = true then thenFl (ms c f) k else some (.xc c f)
  | m => thenFl m k
/-- the exception that a suite holds -/
structure ExV (a : Addr) where
  u : Unit
instance {a : Addr} : Enc (ExV a) := ⟨fun _ _ v _ => v = .ref a, fun _ h => h⟩
def exV (a : Addr) : ExV a := ⟨()⟩
theorem bx_try (i : Nat) {n x : Str} {cl : Value} {body suite : List Stmt} {b₀ : Stmt} {np pos1 : Pos} {J : Type} {GJ : J → List Ent} {ERb : ExS} {mb : Option (Fl J L R)} {caught : Nat → Bool} {ms : Nat → Option Int → Option (Fl J L R)} {k : J → Option (Fl N L R)}
    (hs : X.stack = X.env :: X.outer) (hf : X.env.frame = some X.env.locals) (hN : X.N.Nodup) (hi : X.N[i]? = some n) (hln : X.env.kindOf n = some .local) (hc : Names X x cl) (tk : Takes X W)
    (hb : ∀ (W' : WX) (pn : List (Addr × Obj)) (xe : Value → Shared → Prop), Takes (X.tr pn xe) W' → PassesOwn (model X.prog X.w) X.A X.env xe → ∀ o' : Fl J L R, mb = some o' → BX (X.tr pn xe) W' ERb body Γ GJ GL o')
    (hcl : ∀ c f Z cls d, ERb.er c f Z cls d → PySem.W.exmOne X.K cls cl = some (caught c)) (hout : ∀ c f Z cls d, caught c = false → ERb.er c f Z cls d → ER.er c f Z cls d) (hgx : Wk ERb.gx ER.gx)
    (hsu : ∀ (a : Addr) (oe : Obj) (cls : Value) (d : Option Addr) (pn : List (Addr × Obj)), Zc cls d oe → (∃ vs, oe.data = .fields vs) → ∀ c f Z, ERb.er c f Z cls d → caught c = true → ∀ o' : Fl J L R, ms c f = some o' → ∀ W' : WX, BX (X.suite a ((a, oe) :: pn)) W' ER0 (b₀ :: suite) (ERb.gx.set i (.fz (exV a))) GJ GL o')
    (hno : ∀ j, (GJ j).set i .no = GJ j) (hnoL : ∀ l, (GL l).set i .no = GL l)
    (h : tryM mb caught ms k = some o) (hr : ∀ j, k j = some o → BX X W ER rest (GJ j) GN GL o) : BX X W ER (.Try body [.ExceptHandler (some (.Name x np)) (some n) (b₀ :: suite) pos1] [] [] pos :: rest) Γ GN GL o := by
  refine bx_cons (ps_try_as (Wout := W) (tb := fun W' D σ H => ∀ pn xe, Takes (X.tr pn xe) W' → PassesOwn (model X.prog X.w) X.A X.env xe → wS (X.tr pn xe) body D σ H)
    (ts := fun a cls d D σ H => ∀ oe pn, Zc cls d oe → (∃ vs, oe.data = .fields vs) → wS (X.suite a ((a, oe) :: pn)) (b₀ :: suite) D σ H) hs hf hN hi hln hc tk
    (fun W' pn xe t p => ⟨fun pins s σ H D I q => q pn xe t p pins s I⟩) (fun a oe cls d pn z v => ⟨fun pins s σ H D I q => q oe pn z v pins s I⟩)) fun F D ac σ H Z en pn xe t p => ?_
  cases hm : mb with
  | none => rw [hm] at h; cases h
  | some o' =>
    rw [hm] at h
    refine (hb _ pn xe t p o' hm).run F _ ?_ σ H Z en
    cases o' with
    | nx j => exact fun σ H Z en' => (hr j h).run F D ac σ H Z en'
    | br l => cases h; exact ac
    | ct l => cases h; exact ac
    | rt r => cases h; exact ac
    | xc c f =>
      intro σ1 H1 Z1 cls d en1 r1
      have ex := hcl c f Z1 cls d r1
      refine ⟨caught c, ex, fun hy a na oe pn2 z v => ?_, fun hn => ?_⟩
      · replace h : (if caught c = true then thenFl (ms c f) k else some (.xc c f)) = some o := h
        rw [if_pos hy] at h
        cases hms : ms c f with
        | none => rw [hms] at h; cases h
        | some o2 =>
          rw [hms] at h
          refine (hsu a oe cls d pn2 z v c f Z1 r1 hy o2 hms (fun _ _ _ _ => False)).run F _ ?_ _ H1 Z1 (en1.set_fz i rfl)
          cases o2 with
          | nx j => exact fun σ H Z en' => (hr j h).run F D ac _ H Z (by have := en'.set_no i none; rw [hno] at this; exact this)
          | br l => cases h; exact fun σ H Z en' => ac _ H Z (by have := en'.set_no i none; rw [hnoL] at this; exact this)
          | ct l => cases h; exact fun σ H Z en' => ac _ H Z (by have := en'.set_no i none; rw [hnoL] at this; exact this)
          | rt r => cases h; exact ac
          | xc c2 f2 => exact fun σ H Z cls d en' r' => r'.elim
      · replace h : (if caught c = true then thenFl (ms c f) k else some (.xc c f)) = some o := h
        rw [if_neg (by rw [hn]; decide)] at h
        cases h
        exact acc_xc ac (en1.wk hgx) (hout c f Z1 cls d hn r1)
end
end G
/-! GIs: isinstance of the exception that a suite holds (an exception without a dict). -/
namespace G
open PySem L2
/-- isinstance(e, (A, ..)), e the exception that the suite holds -/
def rIsET (K : Fg) (D a : Addr) : List V → Hp → VK → Prop := fun xs H Q => ∃ (tp : Addr) (cs : List V) (us : List Value) (b : Bool), xs = [.ref a, .ref tp] ∧ H tp = some (.tup cs) ∧ Paired ClsV cs us ∧ PySem.W.kitAny K (.ref D) us = some b ∧ Q (.bl b) H
theorem call_isET {X : Cx} {a D : Addr} {oe : Obj} {pn : List (Addr × Obj)} (C : ExcC X.K D) (hz : Zc (.ref D) none oe) (hf : ∃ vs, oe.data = .fields vs) : CallR (X.suite a ((a, oe) :: pn)) (.builtin "isinstance") (rIsET X.K D a) := by
  intro pins s σ H xs us Q I r h
  obtain ⟨tp, cs, ws, b, rfl, hT, k, e, q⟩ := h
  obtain ⟨u1, u2, rfl, r1, r2⟩ := vals2 r
  cases (show u1 = Value.ref a from r1)
  cases (show u2 = Value.ref tp from r2)
  obtain ⟨hget, _⟩ := I.pin (a, oe) (List.mem_append.mpr (.inl List.mem_cons_self))
  obtain ⟨vs, hv⟩ := hf
  have J : PySem.W.InstAt s.heap a oe D none := by
    obtain ⟨oc, od, oda, osl⟩ := oe
    obtain ⟨h1, h2⟩ := hz
    dsimp only at h1 h2 hv
    subst h1 h2 hv
    exact ⟨hget, rfl, rfl, trivial⟩
  obtain ⟨_, its, rv, o, h1, h2, n, h3⟩ := (show ObjOk X.prog X.w H s.heap tp (.tup cs) from I.hok tp _ hT)
  have e3 := ClsV.all k rv
  subst e3
  obtain ⟨oc, od, dt, sl⟩ := o
  simp only at h2 h3
  subst h2 h3
  exact PySem.W.kia_tup (PySem.W.handS_kitx_exc C.hg C.hk C.hs C.hd C.ha C.hn C.ht C.hm) I.kIn J h1 e (fun z => nomatch z) fun tk => ⟨.bl b, H, I.kept (t' := tk) fun _ _ z => z, rfl, q⟩
section
variable {X : Cx} {a D : Addr} {oe : Obj} {pn : List (Addr × Obj)} {Γ : List Ent} {e c : Expr} {es : List Expr} {pos p tpos : Pos}
theorem px_isE {v : V} {u : Value} {b : Bool} (C : ExcC X.K D) (hz : Zc (.ref D) none oe) (hf : ∃ vs, oe.data = .fields vs) (hm : X.mg "isinstance" = none) (ha : PX (X.suite a ((a, oe) :: pn)) e Γ (some (exV a))) (hc : PE (X.suite a ((a, oe) :: pn)) c (L2.tC v)) (hv : ∀ w, RelV v w → w = u) (hk : PySem.W.kitOne X.K (.ref D) u = some b)
    (hg : Gl (X.suite a ((a, oe) :: pn)) "isinstance" := by rfl) (h1 : starEach [e, c] (X.suite a ((a, oe) :: pn)).env = (false, eval e (X.suite a ((a, oe) :: pn)).env) :: starEach [c] (X.suite a ((a, oe) :: pn)).env := by rfl) (h2 : starEach [c] (X.suite a ((a, oe) :: pn)).env = (false, eval c (X.suite a ((a, oe) :: pn)).env) :: starEach [] (X.suite a ((a, oe) :: pn)).env := by rfl) :
    PX (X.suite a ((a, oe) :: pn)) (.Call (.Name "isinstance" p) [e, c] [] pos) Γ (some b) := px_of (pe_callB (call_isE C hz hf) hg hm (by decide +kernel) (pa_cons pe_w (pa_cons hc pa_nil h2) h1) (he := h1) (hpl := by rw [h2]; rfl)) fun F σ H Z en x hx Q q => by
  cases hx
  exact ha.run F σ H Z en _ rfl _ fun H1 Z1 w s1 r1 => ⟨v, u, b, by rw [show w = V.ref a from r1], hv, hk, q H1 Z1 _ s1 rfl⟩
theorem px_isET {cs : List V} {us : List Value} {t : TA} {b : Bool} {ct : Nat} (C : ExcC X.K D) (hz : Zc (.ref D) none oe) (hf : ∃ vs, oe.data = .fields vs) (hm : X.mg "isinstance" = none) (ha : PX (X.suite a ((a, oe) :: pn)) e Γ (some (exV a))) (hc : PA (X.suite a ((a, oe) :: pn)) es t) (ht : ∀ σ H Q, Q cs H → t σ H Q) (hl : cs.length ≤ sizeLine) (hv : Paired ClsV cs us) (hk : PySem.W.kitAny X.K (.ref D) us = some b)
    (hg : Gl (X.suite a ((a, oe) :: pn)) "isinstance" := by rfl) (h1 : starEach [e, .Tuple es ct tpos] (X.suite a ((a, oe) :: pn)).env = (false, eval e (X.suite a ((a, oe) :: pn)).env) :: starEach [.Tuple es ct tpos] (X.suite a ((a, oe) :: pn)).env := by rfl) (h2 : starEach [.Tuple es ct tpos] (X.suite a ((a, oe) :: pn)).env = (false, eval (.Tuple es ct tpos) (X.suite a ((a, oe) :: pn)).env) :: starEach [] (X.suite a ((a, oe) :: pn)).env := by rfl) :
    PX (X.suite a ((a, oe) :: pn)) (.Call (.Name "isinstance" p) [e, .Tuple es ct tpos] [] pos) Γ (some b) := px_of (pe_callB (call_isET C hz hf) hg hm (by decide +kernel) (pa_cons pe_w (pa_cons (pe_tup hc) pa_nil h2) h1) (he := h1) (hpl := by rw [h2]; rfl)) fun F σ H Z en x hx Q q => by
  cases hx
  refine ha.run F σ H Z en _ rfl _ fun H1 Z1 w s1 r1 => ht _ _ _ ⟨hl, fun tp htp => ?_⟩
  have s2 := Step.new (o := .tup cs) s1.zh htp
  exact ⟨tp, cs, us, b, by rw [show w = V.ref a from r1], upd_same, hv, hk, q _ _ _ (s1.trans s2) rfl⟩
end
/-! ### a tuple of three and one of one -/
section
variable {X : Cx} {Γ : List Ent} {e a : Expr} {pos tpos : Pos} {α β γ δ : Type} [Enc α] [Enc β] [Enc γ] [Enc δ]
def oCat31 {α β γ δ : Type} (m : Option (P3 α β γ)) (n : Option δ) : Option (P4 α β γ δ) := m.bind fun x => n.bind fun y => some ⟨x.a, x.b, x.c, y⟩
theorem px_cat31 {ct : Nat} {m : Option (P3 α β γ)} {n : Option δ} (ha : PX X a Γ m) (he : PX X e Γ n) (hs : starEach [e] X.env = (false, eval e X.env) :: starEach [] X.env := by rfl) : PX X (.BinOp a .Add (.Tuple [e] ct tpos) pos) Γ (oCat31 m n) :=
  px_of (pe_op op_catA pe_w (pe_tup (pa_cons pe_w pa_nil hs))) fun F σ H Z en x hx Q q => by
    obtain ⟨y, hy, hx1⟩ := Option.bind_eq_some_iff.mp hx
    obtain ⟨z, hz, hx2⟩ := Option.bind_eq_some_iff.mp hx1
    cases hx2
    refine ha.run F σ H Z en y hy _ fun H1 Z1 v s1 r1 => he.run F σ H1 Z1 (en.step s1) z hz _ fun H2 Z2 w s2 r2 => ⟨by show 1 ≤ sizeLine; decide, fun tp htp => ?_⟩
    have s3 := Step.new (o := .tup [w]) s2.zh htp
    obtain ⟨p, v1, v2, v3, e1, h1, q1, q2, q3⟩ := Enc.mono (s2.zz.trans s3.zz) r1
    refine ⟨p, tp, [v1, v2, v3], [w], e1, rfl, SqT.of (s3.zh _ _ h1), SqT.of upd_same, by show 4 ≤ sizeLine; decide, (fun h => by cases h), (fun _ h => by cases h), fun _ _ r hr => ?_⟩
    have s4 := Step.new (o := .tup [v1, v2, v3, w]) s3.zh hr
    exact q _ _ _ (((s1.trans s2).trans s3).trans s4) ⟨r, v1, v2, v3, w, rfl, upd_same, Enc.mono s4.zz q1, Enc.mono s4.zz q2, Enc.mono s4.zz q3, Enc.mono (s3.zz.trans s4.zz) r2⟩
theorem pno_cat31 [Own α] [Own β] [Own γ] [Own δ] [PlainO α] [PlainO β] [PlainO γ] {ct : Nat} {m : Option (P3 α β γ)} {n : Option δ} (ha : PX X a Γ m) (he : PNO X e Γ n) (hs : starEach [e] X.env = (false, eval e X.env) :: starEach [] X.env := by rfl) : PNO X (.BinOp a .Add (.Tuple [e] ct tpos) pos) Γ (oCat31 m n) :=
  .mk fun F σ H Z en x hx Q q pins s I => (pe_op op_catA pe_w (pe_tup (pa_cons pe_w pa_nil hs))).run pins s σ H Q I (by
    obtain ⟨y, hy, hx1⟩ := Option.bind_eq_some_iff.mp hx
    obtain ⟨z, hz, hx2⟩ := Option.bind_eq_some_iff.mp hx1
    cases hx2
    refine ha.run F σ H Z en y hy _ fun H1 Z1 v s1 r1 => he.run F σ H1 Z1 (en.step s1) z hz _ fun H2 Z2 w fp n2 => ⟨by show 1 ≤ sizeLine; decide, fun tp htp => ?_⟩
    have s2 := n2.st
    have s3 := Step.new (o := .tup [w]) s2.zh htp
    have n3 := n2.step s3
    obtain ⟨p, v1, v2, v3, e1, h1, q1, q2, q3⟩ := Enc.mono (s2.zz.trans s3.zz) r1
    refine ⟨p, tp, [v1, v2, v3], [w], e1, rfl, SqT.of (s3.zh _ _ h1), SqT.of upd_same, by show 4 ≤ sizeLine; decide, (fun h => by cases h), (fun _ h => by cases h), fun _ _ r hr => ?_⟩
    have s4 := Step.new (o := .tup [v1, v2, v3, w]) s3.zh hr
    have n4 := NewO.from s1 (n3.step s4)
    exact q _ _ _ fp ⟨n4.st, ⟨r, v1, v2, v3, w, Fp.no, Fp.no, Fp.no, fp, rfl, upd_same, PlainO.pl (Enc.mono s4.zz q1), PlainO.pl (Enc.mono s4.zz q2), PlainO.pl (Enc.mono s4.zz q3), n4.own, fun a => ⟨fun f => .inr (.inr (.inr f)), fun f => by rcases f with f | f | f | f <;> first | exact f.elim | exact f⟩, fun a => ⟨fun f => f.elim, fun f => f.elim, fun f => f.elim, fun f => f.elim, fun f => f.elim, fun f => f.elim⟩⟩, n4.out⟩)
end
/-! ### parts of the script; a list of ints where a script is wanted -/
section
variable {X : Cx} {Γ : List Ent} {e a : Expr} {pos p2 : Pos}
theorem px_asScr {m : Option (List Int)} (h : PX X e Γ m) : PX X e Γ (m.map Scr.mk) := .mk fun F σ H Z en x hx Q q => by
  obtain ⟨y, hy, rfl⟩ := Option.map_eq_some_iff.mp hx
  refine h.run F σ H Z en y hy Q fun H' Z' v s ⟨l, _, e1, hl, vs, eo, r⟩ => q H' Z' v s ⟨l, e1, ?_⟩
  subst eo
  rw [all2_V r] at hl
  exact SqL.of hl
theorem pn_sliceS {lo hi : Option Expr} {m : Option Scr} {ml mh : Option (Option Int)} (ha : PX X a Γ m) (hl : POX X lo Γ ml) (hh : POX X hi Γ mh) : PN X (.Subscript a (.Slice lo hi none p2) pos) Γ (oCut (m.map Scr.xs) ml mh) := pn_of (pe_slice sl_list pe_w po_w po_w) fun F σ H Z en x hx Q q => by
  obtain ⟨xs, h1, hx1⟩ := Option.bind_eq_some_iff.mp hx
  obtain ⟨y, hy, rfl⟩ := Option.map_eq_some_iff.mp h1
  obtain ⟨l, h2, hx2⟩ := Option.bind_eq_some_iff.mp hx1
  obtain ⟨h, h3, hx3⟩ := Option.bind_eq_some_iff.mp hx2
  cases hx3
  refine ha.run F σ H Z en y hy _ fun H1 Z1 v1 s1 ⟨l1, e1, q1⟩ => hl.run F σ H1 Z1 (en.step s1) l h2 _ fun H2 Z2 s2 => hh.run F σ H2 Z2 (en.step (s1.trans s2)) h h3 _ fun H3 Z3 s3 => ⟨l1, y.xs.map V.int, e1, s3.zh.seq (s3.zz.seq (s2.zz.seq q1)), fun p' hp => ?_⟩
  refine q H3 Z3 p' _ ((s1.trans s2).trans s3) hp ?_
  have r : All2 (Enc.rel X.K Z3) (y.xs.map V.int) y.xs := All2.of_map_int
  unfold cutV
  rw [List.length_map]
  exact (r.drop _).take _
end
end G
/-! GSort: sorted of triples of ints, any number of them. -/
namespace G
open PySem L2
abbrev I3 := Int × Int × Int
def lexC (p q : I3) : Bool := if p.1 = q.1 then SrtO.lexB p.2 q.2 else decide (p.1 < q.1)
theorem lexC_iff {p q : I3} : lexC p q = true ↔ p.1 < q.1 ∨ (p.1 = q.1 ∧ (p.2.1 < q.2.1 ∨ (p.2.1 = q.2.1 ∧ p.2.2 < q.2.2))) := by
  unfold lexC
  by_cases e : p.1 = q.1
  · rw [if_pos e, SrtO.lexB_iff]
    omega
  · rw [if_neg e, decide_eq_true_eq]
    omega
theorem lexC_no {p q : I3} : lexC p q = false ↔ ¬ (p.1 < q.1 ∨ (p.1 = q.1 ∧ (p.2.1 < q.2.1 ∨ (p.2.1 = q.2.1 ∧ p.2.2 < q.2.2)))) := by
  rw [← lexC_iff, Bool.not_eq_true]
theorem swoC {α : Type} (k : α → I3) : SrtO.Swo fun v u => lexC (k v) (k u) :=
  ⟨fun x y h => by have h := lexC_iff.mp h; rw [lexC_no]; omega, fun x y z h1 h2 => by rw [lexC_no] at h1 h2 ⊢; omega⟩
def IsTrip (h : Heap) (v : Value) (x y z : Int) : Prop := ∃ a o t1 t2 t3 n, v = .ref a ∧ h.get? a = some o ∧ o.cls = .type "tuple" ∧ o.data = .seq #[.int x t1, .int y t2, .int z t3] n
theorem IsTrip.keeps {h h' : Heap} {v : Value} {x y z : Int} (p : IsTrip h v x y z) (k : ∀ b o, h.get? b = some o → o.cls = .type "tuple" → h'.get? b = some o) : IsTrip h' v x y z := by
  obtain ⟨a, o, t1, t2, t3, n, e, g1, g2, g3⟩ := p
  exact ⟨a, o, t1, t2, t3, n, e, k a o g1 g2, g2, g3⟩
theorem heads3 {h : Heap} : ∀ {vs : List Value}, (∀ v ∈ vs, ∃ x y z, IsTrip h v x y z) → ∃ fs : List Value, PySem.W.KatTups h vs fs ∧ fs.length = vs.length ∧ ∀ f ∈ fs, ∃ x t, f = Value.int x t
  | [], _ => ⟨[], PySem.W.KatTups.nil, rfl, fun _ q => by cases q⟩
  | v :: vs, hp => by
    obtain ⟨fs, k1, k2, k3⟩ := heads3 (vs := vs) fun u hu => hp u (List.mem_cons_of_mem _ hu)
    obtain ⟨x, y, z, a, o, t1, t2, t3, n, rfl, g1, g2, g3⟩ := hp v List.mem_cons_self
    refine ⟨.int x t1 :: fs, PySem.W.KatTups.cons g1 g2 g3 rfl k1, congrArg (· + 1) k2, fun f hf => ?_⟩
    rcases List.mem_cons.mp hf with e | hf
    · exact ⟨x, t1, e⟩
    · exact k3 f hf
section
open PyProof.Rows Srt SrtO
variable {prog : Program} {w : World} {A : Around} {s : Shared} {E : Value → Shared → Prop}
theorem trip_cmp {vs : List Value} {k : Value → I3} (hp : ∀ v ∈ vs, IsTrip s.heap v (k v).1 (k v).2.1 (k v).2.2) : SrtO.Cmp prog w A s (tuples' true) (fun p => p.1 ∈ vs) (SrtO.lt2 fun v u => lexC (k v) (k u)) := by
  intro p q hm hm'
  have g := hp _ hm
  have g' := hp _ hm'
  show wpAny (model prog w) A (keyLt' (tuples' true) p.1 q.1) (fun r s' => s' = s ∧ r = lexC (k p.1) (k q.1)) (fun _ _ => False) s
  unfold lexC SrtO.lexB
  generalize (k p.1).1 = x at g ⊢
  generalize (k p.1).2.1 = y at g ⊢
  generalize (k p.1).2.2 = z at g ⊢
  generalize (k q.1).1 = x' at g' ⊢
  generalize (k q.1).2.1 = y' at g' ⊢
  generalize (k q.1).2.2 = z' at g' ⊢
  obtain ⟨a, o, t1, t2, t3, n, e, g1, g2, g3⟩ := g
  obtain ⟨a', o', t1', t2', t3', n', e', g1', g2', g3'⟩ := g'
  rw [e, e']
  refine PySem.W.kat_lt g1 g3 g1' g3' ?_
  show PySem.W.KatLex prog w A true (decide (3 < 3)) _ [(.int x t1, .int x' t1'), (.int y t2, .int y' t2'), (.int z t3, .int z' t3')] 0 s
  refine PySem.W.kat_cons (SeqAt.EqAt.int_int x t1 x' t1' prog w _ _ (PySem.W.kat_go (fun q1 => ?_) fun q1 => ?_))
  · have ex : x = x' := by simpa using q1
    refine PySem.W.kat_yes (PySem.W.kat_cons (SeqAt.EqAt.int_int y t2 y' t2' prog w _ _ (PySem.W.kat_go (fun q2 => ?_) fun q2 => ?_)))
    · have ey : y = y' := by simpa using q2
      refine PySem.W.kat_yes (PySem.W.kat_cons (SeqAt.EqAt.int_int z t3 z' t3' prog w _ _ (PySem.W.kat_go (fun q3 => ?_) fun q3 => ?_)))
      · have ez : z = z' := by simpa using q3
        exact PySem.W.kat_yes (PySem.W.kat_nil ⟨rfl, by rw [if_pos ex, if_pos ey, ez]; exact (decide_eq_false (Int.lt_irrefl _)).symm⟩)
      · exact PySem.W.kat_no (PySem.W.kat_one _ _ (PyProof.Rows.lt_int ⟨rfl, by rw [if_pos ex, if_pos ey]⟩))
    · have ey : ¬ y = y' := by simpa using q2
      exact PySem.W.kat_no (PySem.W.kat_one _ _ (PyProof.Rows.lt_int ⟨rfl, by rw [if_pos ex, if_neg ey]⟩))
  · have ex : ¬ x = x' := by simpa using q1
    exact PySem.W.kat_no (oneLt_int ⟨rfl, by rw [if_neg ex]⟩)
theorem trips_sortable {a : Addr} {vs : List Value} {k : Value → I3} (h0 : 0 < vs.length) (hp : ∀ v ∈ vs, IsTrip s.heap v (k v).1 (k v).2.1 (k v).2.2) (ha : ∀ o, s.heap.get? a = some o → o.cls ≠ .type "tuple") : SortableO prog w A s a vs fun v u => lexC (k v) (k u) := by
  intro h' keep
  have g : ∀ v ∈ vs, IsTrip h' v (k v).1 (k v).2.1 (k v).2.2 := fun v hm => (hp v hm).keeps fun b o e c => keep b o (fun q => by subst q; exact ha o e c) e
  obtain ⟨fs, k1, k2, k3⟩ := heads3 fun v hm => ⟨_, _, _, g v hm⟩
  refine ⟨tuples' true, fun Q E hq => ?_, trip_cmp g⟩
  refine PySem.W.kat_kind (T := .type "int") k1 (by omega) (fun f hm => ?_) (by rfl) ?_
  · obtain ⟨x, t, e⟩ := k3 f hm
    subst e
    exact PySem.W.Looks.now
  · have e : (Value.type "int" != Value.type "tuple") = true := by decide +kernel
    rw [e]
    exact hq
theorem sorted_trips {l : Addr} {vs : List Value} {k : Value → I3} {Q : Value → Shared → Prop} (hl : s.heap.IsList l vs.toArray) (hz : vs.length ≤ sizeLine) (hp : ∀ v ∈ vs, IsTrip s.heap v (k v).1 (k v).2.1 (k v).2.2)
    (h : ∀ (h' : Heap) (d : Addr) (out : List Value), Srtd (fun v u => lexC (k v) (k u)) out → out.Perm vs → (∀ b o, s.heap.get? b = some o → h'.get? b = some o) → s.heap.objs.size ≤ d → (∃ n, h'.get? d = some (seqObj "list" out.toArray n)) → Q (.ref d) { s with heap := h' }) :
    wpAny (model prog w) A (call (.builtin "sorted") [.ref l]) Q E s := by
  refine sorted_ord (swoC k) hl hz (fun h2 h₁ a ha kk => ?_) fun out hs hb => h _ _ out hs hb.perm (fun b o e => sortedAll_old e) (Nat.le_succ _) (sortedAll_at s.heap vs out.toArray)
  refine trips_sortable (s := { s with heap := h₁ }) (by omega) (fun v hm => (hp v hm).keeps fun b o e _ => (kk b o e).2) fun o e c => ?_
  cases e.symm.trans ha
  exact absurd (Value.type.inj c) (by decide)
end
/-! ### as a rule -/
abbrev T3 := P3 Int Int Int
def leT (x y : T3) : Bool := !lexC (y.a, y.b, y.c) (x.a, x.b, x.c)
theorem leT_iff {x y : T3} : leT x y = true ↔ x.a < y.a ∨ (x.a = y.a ∧ (x.b < y.b ∨ (x.b = y.b ∧ x.c ≤ y.c))) := by
  unfold leT
  rw [Bool.not_eq_true', lexC_no]
  dsimp only
  omega
theorem leT_trans {x y z : T3} (h1 : leT x y = true) (h2 : leT y z = true) : leT x z = true := by
  rw [leT_iff] at *
  omega
theorem leT_tot (x y : T3) : leT x y = true ∨ leT y x = true := by
  rw [leT_iff, leT_iff]
  omega
theorem leT_anti {x y : T3} (h1 : leT x y = true) (h2 : leT y x = true) : x = y := by
  rw [leT_iff] at *
  obtain ⟨a, b, c⟩ := x
  obtain ⟨d, e, f⟩ := y
  dsimp only at h1 h2
  have : a = d ∧ b = e ∧ c = f := by omega
  rw [this.1, this.2.1, this.2.2]
def sortT (xs : List T3) : List T3 := xs.mergeSort leT
theorem sortT_perm (xs : List T3) : (sortT xs).Perm xs := List.mergeSort_perm _ _
theorem sortT_up (xs : List T3) : (sortT xs).Pairwise fun x y => leT x y = true :=
  List.pairwise_mergeSort (le := leT) (fun a b c h1 h2 => leT_trans h1 h2) (fun a b => by rcases leT_tot a b with h | h <;> simp [h]) xs
theorem sortT_eq {ys xs : List T3} (p : ys.Perm xs) (s : ys.Pairwise fun x y => leT x y = true) : ys = sortT xs :=
  List.Perm.eq_of_pairwise (le := fun x y => leT x y = true) (fun a b _ _ h1 h2 => leT_anti h1 h2) s (sortT_up xs) (p.trans (sortT_perm xs).symm)
def keyT (H : Hp) (v : V) : I3 := match v with
  | .ref t => match H t with
    | some (.tup [.int a, .int b, .int c]) => (a, b, c)
    | _ => (0, 0, 0)
  | _ => (0, 0, 0)
def t3of (k : I3) : T3 := ⟨k.1, k.2.1, k.2.2⟩
theorem keyT_rel {K : Fg} {Z H : Hp} {v : V} {x : T3} (zh : Same Z H) (r : Enc.rel K Z v x) : keyT H v = (x.a, x.b, x.c) ∧ ∃ t, v = .ref t ∧ H t = some (.tup [.int x.a, .int x.b, .int x.c]) := by
  obtain ⟨p, v1, v2, v3, rfl, h, rfl, rfl, rfl⟩ := r
  refine ⟨?_, p, rfl, zh _ _ h⟩
  unfold keyT
  dsimp only
  rw [zh _ _ h]
theorem all2_keysT {K : Fg} {Z H : Hp} (zh : Same Z H) : ∀ {vs : List V} {xs : List T3}, All2 (Enc.rel K Z) vs xs → xs = vs.map (fun v => t3of (keyT H v))
  | [], [], _ => rfl
  | v :: vs, x :: xs, ⟨a, b⟩ => by
    rw [List.map_cons, (keyT_rel zh a).1, ← all2_keysT zh b]
    rfl
theorem all2_of_keysT {K : Fg} {Z H : Hp} : ∀ {vs : List V}, (∀ v ∈ vs, Enc.rel K Z v (t3of (keyT H v))) → All2 (Enc.rel K Z) vs (vs.map (fun v => t3of (keyT H v)))
  | [], _ => trivial
  | v :: vs, h => ⟨h v List.mem_cons_self, all2_of_keysT fun w hw => h w (List.mem_cons_of_mem _ hw)⟩
/-- sorted(xs), xs a list of triples of ints -/
def rSortedTO (K : Fg) : List V → Hp → VK → Prop := fun vs H Q => ∃ (a : Addr) (xs : List V) (k : V → I3), vs = [V.ref a] ∧ SqL K H a xs ∧ (∀ x ∈ xs, ∃ t, x = V.ref t ∧ H t = some (.tup [.int (k x).1, .int (k x).2.1, .int (k x).2.2])) ∧
  ∀ ys p, (ys.Pairwise fun x y => lexC (k y) (k x) = false) → ys.Perm xs → H p = none → Q (.ref p) (upd H p (.lst ys))
theorem vals3 {x y z : V} {us : List Value} (r : Vals [x, y, z] us) : ∃ u v w, us = [u, v, w] ∧ RelV x u ∧ RelV y v ∧ RelV z w := by
  cases r with
  | cons r1 r => cases r with
    | cons r2 r => cases r with
      | cons r3 r => cases r; exact ⟨_, _, _, rfl, r1, r2, r3⟩
theorem cr_sortedTO {X : Cx} : CallR X (.builtin "sorted") (rSortedTO X.K) := by
  intro pins s σ H vs us Q I r h
  obtain ⟨a, xs, k, rfl, hs, hx, q⟩ := h
  obtain ⟨its, rv, hl, hz⟩ := I.list hs
  obtain ⟨u, rfl, ru⟩ := vals1 r
  cases (show u = Value.ref a from ru)
  obtain ⟨e1, e2⟩ := refs_back rv fun x m => (hx x m).imp fun t h => h.1
  refine sorted_trips (k := fun u => k (backV u)) hl.isList (by rw [← rv.length]; exact hz) (fun v hv => ?_) fun h' d out h1 h2 kp hd hn => ?_
  · obtain ⟨t, rfl⟩ := e2 v hv
    obtain ⟨t', e, ht⟩ := hx (V.ref t) (by rw [e1]; exact List.mem_map.mpr ⟨_, hv, rfl⟩)
    cases e
    obtain ⟨_, its2, r2, o, ho, hc, n, hd⟩ := I.hok _ _ ht
    obtain ⟨u1, u2, u3, rfl, ⟨t1, rfl⟩, ⟨t2, rfl⟩, ⟨t3, rfl⟩⟩ := vals3 r2
    exact ⟨t, o, t1, t2, t3, n, rfl, ho, hc, hd⟩
  · have h3 : ∀ u ∈ out, ∃ a, u = Value.ref a := fun u hu => e2 u (h2.mem_iff.mp hu)
    obtain ⟨n, hn⟩ := hn
    have pm : (out.map backV).Perm xs := by rw [e1]; exact h2.map _
    refine ⟨.ref d, upd H d (.lst (out.map backV)), I.laid (t' := s.toks) kp hd ⟨?_, out, n, vals_back h3, hn⟩, rfl, q _ d (List.pairwise_map.mpr h1) pm (I.hok.fresh hd)⟩
    rw [pm.length_eq]
    exact hz
section
variable {X : Cx} {Γ : List Ent} {a : Expr} {pos p : Pos}
theorem pn_sortT {m : Option (List T3)} (hm : X.mg "sorted" = none) (ha : PL X a Γ m) (hg : Gl X "sorted" := by rfl) (hs : starEach [a] X.env = [(false, eval a X.env)] := by rfl) : PN X (.Call (.Name "sorted" p) [a] [] pos) Γ (m.map sortT) :=
  pn_of (pe_callB cr_sortedTO hg hm (by decide +kernel) (pa_cons pe_w pa_nil (by rw [hs]; rfl)) (he := by rw [hs]; rfl) (hpl := rfl)) fun F σ H Z en x hx Q q => by
    obtain ⟨xs, hi, rfl⟩ := Option.map_eq_some_iff.mp hx
    refine ha.run F σ H Z en xs hi _ fun H1 Z1 l vs s1 hl r1 => ⟨l, vs, keyT H1, rfl, SqL.of hl, fun v hv => ?_, fun ys p' up pm hp => ?_⟩
    · obtain ⟨x, _, rx⟩ := all2_mem r1 hv
      obtain ⟨e1, t, e2, e3⟩ := keyT_rel s1.zh rx
      exact ⟨t, e2, by rw [e1]; exact e3⟩
    · have ex := all2_keysT s1.zh r1
      have ey : ys.map (fun v => t3of (keyT H1 v)) = sortT xs := by
        refine sortT_eq ?_ ?_
        · rw [ex]
          exact pm.map _
        · rw [List.pairwise_map]
          exact up.imp fun {v w} h => by
            show (!lexC (keyT H1 w) (keyT H1 v)) = true
            rw [h]
            rfl
      refine q H1 Z1 p' ys s1 hp ?_
      rw [← ey]
      refine all2_of_keysT fun v hv => ?_
      obtain ⟨x, _, rx⟩ := all2_mem r1 (pm.mem_iff.mp hv)
      rw [(keyT_rel s1.zh rx).1]
      exact rx
end
/-! ### the greatest and the least of a list -/
def maxL : List Int → Option Int
  | [] => none
  | x :: xs => match maxL xs with
    | none => some x
    | some y => some (max x y)
def minL : List Int → Option Int
  | [] => none
  | x :: xs => match minL xs with
    | none => some x
    | some y => some (min x y)
theorem maxL_none : ∀ {xs : List Int}, maxL xs = none → xs = []
  | [], _ => rfl
  | x :: xs, h => by
    unfold maxL at h
    cases e : maxL xs with
    | none => rw [e] at h; cases h
    | some y => rw [e] at h; cases h
theorem minL_none : ∀ {xs : List Int}, minL xs = none → xs = []
  | [], _ => rfl
  | x :: xs, h => by
    unfold minL at h
    cases e : minL xs with
    | none => rw [e] at h; cases h
    | some y => rw [e] at h; cases h
theorem maxL_is : ∀ {xs : List Int} {m : Int}, maxL xs = some m → m ∈ xs ∧ ∀ y ∈ xs, y ≤ m
  | [], _, h => by cases h
  | x :: xs, m, h => by
    unfold maxL at h
    cases e : maxL xs with
    | none =>
      rw [e] at h
      cases h
      rw [maxL_none e]
      exact ⟨List.mem_cons_self, fun y hy => by rw [List.mem_singleton.mp hy]; exact Int.le_refl _⟩
    | some z =>
      rw [e] at h
      cases h
      obtain ⟨h1, h2⟩ := maxL_is e
      refine ⟨?_, fun y hy => ?_⟩
      · by_cases c : x ≤ z
        · rw [show max x z = z by omega]; exact List.mem_cons_of_mem _ h1
        · rw [show max x z = x by omega]; exact List.mem_cons_self
      · rcases List.mem_cons.mp hy with q | q
        · omega
        · have := h2 y q; omega
theorem minL_is : ∀ {xs : List Int} {m : Int}, minL xs = some m → m ∈ xs ∧ ∀ y ∈ xs, m ≤ y
  | [], _, h => by cases h
  | x :: xs, m, h => by
    unfold minL at h
    cases e : minL xs with
    | none =>
      rw [e] at h
      cases h
      rw [minL_none e]
      exact ⟨List.mem_cons_self, fun y hy => by rw [List.mem_singleton.mp hy]; exact Int.le_refl _⟩
    | some z =>
      rw [e] at h
      cases h
      obtain ⟨h1, h2⟩ := minL_is e
      refine ⟨?_, fun y hy => ?_⟩
      · by_cases c : x ≤ z
        · rw [show min x z = x by omega]; exact List.mem_cons_self
        · rw [show min x z = z by omega]; exact List.mem_cons_of_mem _ h1
      · rcases List.mem_cons.mp hy with q | q
        · omega
        · have := h2 y q; omega
section
variable {X : Cx} {Γ : List Ent} {a : Expr} {pos p : Pos}
theorem px_maxL {m : Option (List Int)} (hm : X.mg "max" = none) (hc : X.calm = true) (ha : PL X a Γ m) (hg : Gl X "max" := by rfl) (hs : starEach [a] X.env = [(false, eval a X.env)] := by rfl) : PX X (.Call (.Name "max" p) [a] [] pos) Γ (m.bind maxL) :=
  px_of (pe_callB (cr_max hc) hg hm (by decide +kernel) (pa_cons pe_w pa_nil (by rw [hs]; rfl)) (he := by rw [hs]; rfl) (hpl := rfl)) fun F σ H Z en x hx Q q => by
    obtain ⟨xs, hi, hx1⟩ := Option.bind_eq_some_iff.mp hx
    obtain ⟨h1, h2⟩ := maxL_is hx1
    refine ha.run F σ H Z en xs hi _ fun H1 Z1 l vs s1 hl r1 => ⟨l, xs, rfl, SqL.of (by rw [← all2_V r1]; exact hl), List.length_pos_of_mem h1, fun m g1 g2 => ?_⟩
    rw [show m = x from Int.le_antisymm (h2 m g1) (g2 x h1)]
    exact q H1 Z1 _ s1 rfl
theorem px_minL {m : Option (List Int)} (hm : X.mg "min" = none) (hc : X.calm = true) (ha : PL X a Γ m) (hg : Gl X "min" := by rfl) (hs : starEach [a] X.env = [(false, eval a X.env)] := by rfl) : PX X (.Call (.Name "min" p) [a] [] pos) Γ (m.bind minL) :=
  px_of (pe_callB (cr_min hc) hg hm (by decide +kernel) (pa_cons pe_w pa_nil (by rw [hs]; rfl)) (he := by rw [hs]; rfl) (hpl := rfl)) fun F σ H Z en x hx Q q => by
    obtain ⟨xs, hi, hx1⟩ := Option.bind_eq_some_iff.mp hx
    obtain ⟨h1, h2⟩ := minL_is hx1
    refine ha.run F σ H Z en xs hi _ fun H1 Z1 l vs s1 hl r1 => ⟨l, xs, rfl, SqL.of (by rw [← all2_V r1]; exact hl), List.length_pos_of_mem h1, fun m g1 g2 => ?_⟩
    rw [show m = x from Int.le_antisymm (g2 x h1) (h2 m g1)]
    exact q H1 Z1 _ s1 rfl
end
/-! ### lending, where what is handed back is new -/
class FlatO (C : Type) [Enc C] [Own C] : Prop where
  flo : ∀ {K : Fg} {Z Z' H : Hp} {v : V} {c : C} {fp : Fp}, (∀ a xs, Z a = some (.tup xs) → Z' a = some (.tup xs)) → Own.own K Z H v c fp → Own.own K Z' H v c fp
instance : FlatO Int := ⟨fun _ h => h⟩
instance : FlatO Bool := ⟨fun _ h => h⟩
instance : FlatO Str := ⟨fun _ h => h⟩
instance {α : Type} [Enc α] [Flat α] : FlatO (List α) := ⟨fun s ⟨l, u, h1, h2, ⟨vs, e, r⟩, h4⟩ => ⟨l, u, h1, h2, ⟨vs, e, all2_flat s r⟩, h4⟩⟩
section
variable {α β γ δ : Type} [Enc α] [Enc β] [Enc γ] [Enc δ] [Own α] [Own β] [Own γ] [Own δ] [FlatO α] [FlatO β] [FlatO γ] [FlatO δ]
instance : FlatO (P2 α β) := ⟨fun s ⟨p, v1, v2, f1, f2, e, h, r1, r2, hc, hd⟩ => ⟨p, v1, v2, f1, f2, e, s _ _ h, FlatO.flo s r1, FlatO.flo s r2, hc, hd⟩⟩
instance : FlatO (P3 α β γ) := ⟨fun s ⟨p, v1, v2, v3, f1, f2, f3, e, h, r1, r2, r3, hc, hd⟩ => ⟨p, v1, v2, v3, f1, f2, f3, e, s _ _ h, FlatO.flo s r1, FlatO.flo s r2, FlatO.flo s r3, hc, hd⟩⟩
instance : FlatO (P4 α β γ δ) := ⟨fun s ⟨p, v1, v2, v3, v4, f1, f2, f3, f4, e, h, r1, r2, r3, r4, hc, hd⟩ => ⟨p, v1, v2, v3, v4, f1, f2, f3, f4, e, s _ _ h, FlatO.flo s r1, FlatO.flo s r2, FlatO.flo s r3, FlatO.flo s r4, hc, hd⟩⟩
end
open Classical in
theorem lend_endO {H Z Zc H' Z2 : Hp} (zh : Same Z H) (tz : ∀ a xs, Zc a = some (.tup xs) → Z a = some (.tup xs)) (s : Step H Zc H' Z2) : ∃ Z', Step H Z H' Z' ∧ (∀ a xs, Z2 a = some (.tup xs) → Z' a = some (.tup xs)) ∧ ∀ a, H a = none → Z' a = Z2 a := by
  have ev : ∀ a, (H a).isSome = true → (if (H a).isSome = true then Z a else Z2 a) = Z a := fun a h => if_pos h
  have no : ∀ a, H a = none → (if (H a).isSome = true then Z a else Z2 a) = Z2 a := fun a h => if_neg (by rw [h]; simp)
  refine ⟨fun a => if (H a).isSome = true then Z a else Z2 a, ⟨s.hh, fun a o h => ?_, fun a o h => ?_, fun a o h => ?_⟩, fun a xs h => ?_, no⟩
  · show (if (H a).isSome = true then Z a else Z2 a) = some o
    rw [ev a (by rw [zh a o h]; rfl)]; exact h
  · have h : (if (H a).isSome = true then Z a else Z2 a) = some o := h
    cases e : H a with
    | none => rw [no a e] at h; exact s.zh a o h
    | some u => rw [ev a (by rw [e]; rfl)] at h; exact s.hh a o (zh a o h)
  · show (if (H a).isSome = true then Z a else Z2 a) = Z a
    exact ev a (by rw [h]; rfl)
  · show (if (H a).isSome = true then Z a else Z2 a) = some (HO.tup xs)
    by_cases e : (H a).isSome = true
    · rw [ev a e]
      obtain ⟨u, hu⟩ := Option.isSome_iff_exists.mp e
      exact tz a xs ((s.old a u hu).symm.trans h)
    · rw [if_neg e]; exact h
theorem pno_lend {X : Cx} {Γ : List Ent} {e : Expr} {C : Type} [Enc C] [Own C] [FlatO C] {m : Option C} (h : PNO X e (frzAll Γ) m) : PNO X e Γ m := .mk fun F σ H Z en x hx Q q => by
  obtain ⟨Zc, sz, tz, en'⟩ := en.lend
  refine h.run F σ H Zc en' x hx Q fun H' Z2 v fp n => ?_
  obtain ⟨Z', s', t', n'⟩ := lend_endO en.zh tz n.st
  exact q H' Z' v fp ⟨s', FlatO.flo t' n.own, fun a f => ⟨(n.out a f).1, by rw [n' a (n.out a f).1]; exact (n.out a f).2⟩⟩
end G
/-! GMath: plain facts about the mirrors' words. -/
namespace G
open PySem L2
theorem big_of {i : Int} (h : i.natAbs < 2 ^ 1024) : Big i := Nat.lt_of_lt_of_le h (Nat.pow_le_pow_right (by decide) (by decide))
theorem big62 {i : Int} (h : -4611686018427387904 ≤ i) (h2 : i ≤ 4611686018427387904) : Big i := by
  refine big_of (Nat.lt_of_lt_of_le (m := 2 ^ 63) ?_ (Nat.pow_le_pow_right (by decide) (by decide)))
  have e : (2 : Nat) ^ 63 = 9223372036854775808 := by decide
  omega
theorem big_mul {i j : Int} {a b : Nat} (h : i.natAbs < 2 ^ a) (h2 : j.natAbs < 2 ^ b) : (i * j).natAbs < 2 ^ (a + b) := by
  rw [Int.natAbs_mul, Nat.pow_add]
  exact Nat.mul_lt_mul'' h h2
theorem oMul_ok {i j : Int} (h : Big i) (h2 : Big j) : oMul (some i) (some j) = some (i * j) := by
  show (if Big i ∧ Big j then some (i * j) else none) = _
  rw [if_pos ⟨h, h2⟩]
theorem oDiv_ok {i j : Int} (h : 0 < j) (h2 : Big j) : oDiv (some i) (some j) = some (i / j) := by
  show (if 0 < j ∧ Big j then some (i / j) else none) = _
  rw [if_pos ⟨h, h2⟩]
theorem oMod_ok {i j : Int} (h : 0 < j) : oMod (some i) (some j) = some (i % j) := by
  show (if 0 < j then some (i % j) else none) = _
  rw [if_pos h]
theorem oAdd_ok {i j : Int} : oAdd (some i) (some j) = some (i + j) := rfl
theorem oSub_ok {i j : Int} : oSub (some i) (some j) = some (i - j) := rfl
theorem oNeg_ok {i : Int} : oNeg (some i) = some (-i) := rfl
theorem oLt_ok {i j : Int} : oLt (some i) (some j) = some (decide (i < j)) := rfl
theorem oLe_ok {i j : Int} : oLe (some i) (some j) = some (decide (i ≤ j)) := rfl
theorem oGt_ok {i j : Int} : oGt (some i) (some j) = some (decide (j < i)) := rfl
theorem oGe_ok {i j : Int} : oGe (some i) (some j) = some (decide (j ≤ i)) := rfl
theorem oEq_ok {α : Type} [DecidableEq α] {i j : α} : oEq (some i) (some j) = some (decide (i = j)) := rfl
theorem oNe_ok {α : Type} [DecidableEq α] {i j : α} : oNe (some i) (some j) = some (!decide (i = j)) := rfl
theorem oNot_ok {b : Bool} : oNot (some b) = some (!b) := rfl
theorem oAnd_t {m : Option Bool} : oAnd (some true) m = m := rfl
theorem oAnd_f {m : Option Bool} : oAnd (some false) m = some false := rfl
theorem oOr_t {m : Option Bool} : oOr (some true) m = some true := rfl
theorem oOr_f {m : Option Bool} : oOr (some false) m = m := rfl
theorem oAnd_ok {a b : Bool} : oAnd (some a) (some b) = some (a && b) := by cases a <;> rfl
theorem oOr_ok {a b : Bool} : oOr (some a) (some b) = some (a || b) := by cases a <;> rfl
theorem oMax_ok {i j : Int} : oMax (some i) (some j) = some (max i j) := by
  show some (if j > i then j else i) = some (max i j)
  congr 1
  rw [Int.max_def]
  split <;> split <;> omega
theorem oMin_ok {i j : Int} : oMin (some i) (some j) = some (min i j) := by
  show some (if j < i then j else i) = some (min i j)
  congr 1
  rw [Int.min_def]
  split <;> split <;> omega
theorem oLen_ok {α : Type} {xs : List α} : oLen (some xs) = some (xs.length : Int) := rfl
theorem oLenS_ok {s : Scr} : oLenS (some s) = some (s.xs.length : Int) := rfl
theorem oSum_ok {xs : List Int} : oSum (some xs) = some xs.sum := rfl
theorem oCons_ok {α : Type} {x : α} {xs : List α} : oCons (some x) (some xs) = some (x :: xs) := rfl
theorem oPair_ok {α β : Type} {x : α} {y : β} : oPair (some x) (some y) = some (x, y) := rfl
theorem oP2_ok {α β : Type} {x : α} {y : β} : oP2 (some x) (some y) = some ⟨x, y⟩ := rfl
theorem oP3_ok {α β γ : Type} {x : α} {y : β} {z : γ} : oP3 (some x) (some y) (some z) = some ⟨x, y, z⟩ := rfl
theorem oP4_ok {α β γ δ : Type} {x : α} {y : β} {z : γ} {w : δ} : oP4 (some x) (some y) (some z) (some w) = some ⟨x, y, z, w⟩ := rfl
theorem atI_ok {α : Type} {xs : List α} {i : Int} (h0 : 0 ≤ i) (h1 : i < xs.length) : atI xs i = some (xs[i.toNat]'(by omega)) := by
  unfold atI ixN
  rw [if_pos h0, if_pos h1]
  show xs[i.toNat]? = _
  rw [List.getElem?_eq_getElem]
theorem oIx_ok {α : Type} {xs : List α} {i : Int} (h0 : 0 ≤ i) (h1 : i < xs.length) : oIx (some xs) (some i) = some (xs[i.toNat]'(by omega)) := atI_ok h0 h1
theorem oIxS_ok {s : Scr} {i : Int} (h0 : 0 ≤ i) (h1 : i < s.xs.length) : oIxS (some s) (some i) = some (s.xs[i.toNat]'(by omega)) := atI_ok h0 h1
theorem oApp_ok {α : Type} {xs : List α} {x : α} (h : xs.length < 1000000) : oApp xs (some x) = some (xs ++ [x]) := by
  show (if xs.length < sizeLine then some (xs ++ [x]) else none) = _
  rw [if_pos (Nat.lt_of_lt_of_le h (by decide))]
theorem oCat_ok {α : Type} {xs ys : List α} (h : xs.length + ys.length ≤ 1000000) : oCat (some xs) (some ys) = some (xs ++ ys) := by
  show (if xs.length + ys.length ≤ sizeLine then some (xs ++ ys) else none) = _
  rw [if_pos (Nat.le_trans h (by decide))]
theorem oRng1_ok {n : Int} (h0 : 0 ≤ n) (h1 : n < 1000000) : oRng1 (some n) = some (rangeL 0 n.toNat) := by
  show (if -(2 ^ 62) ≤ n ∧ n < 2 ^ 62 then some (rangeL 0 n.toNat) else none) = _
  rw [if_pos ⟨by omega, by omega⟩]
theorem mem_rangeL {lo x : Int} {n : Nat} (h : x ∈ rangeL lo n) : lo ≤ x ∧ x < lo + n := by
  unfold rangeL at h
  obtain ⟨i, hi, rfl⟩ := List.mem_map.mp h
  have := List.mem_range.mp hi
  omega
theorem rangeL_len {lo : Int} {n : Nat} : (rangeL lo n).length = n := by unfold rangeL; simp
/-! loops -/
/-- each turn goes on, and keeps P, told of what has been gone through -/
theorem forM_inv {ι S L R : Type} {f : S → ι → Option (Fl S S R)} (P : List ι → S → Prop) : ∀ (xs pre : List ι) (s0 : S), P pre s0 → (∀ p s x q, pre ++ xs = p ++ x :: q → P p s → ∃ s', f s x = some (.nx s') ∧ P (p ++ [x]) s') → ∃ s', forM (L := L) xs f s0 = some (.nx s') ∧ P (pre ++ xs) s'
  | [], pre, s0, h0, _ => ⟨s0, rfl, by rw [List.append_nil]; exact h0⟩
  | x :: xs, pre, s0, h0, h => by
    obtain ⟨s', e, h1⟩ := h pre s0 x xs rfl h0
    obtain ⟨s2, e2, h2⟩ := forM_inv P xs (pre ++ [x]) s' h1 fun p s y q hy => h p s y q (by rw [List.append_assoc] at hy; exact hy)
    refine ⟨s2, ?_, by rw [List.append_assoc] at h2; exact h2⟩
    rw [forM, e]
    exact e2
theorem forM_fold {ι S L R : Type} {f : S → ι → Option (Fl S S R)} (g : S → ι → S) : ∀ (xs : List ι) (s0 : S), (∀ s x, x ∈ xs → f s x = some (.nx (g s x))) → forM (L := L) xs f s0 = some (.nx (xs.foldl g s0))
  | [], s0, _ => rfl
  | x :: xs, s0, h => by
    rw [forM, h s0 x List.mem_cons_self]
    exact forM_fold g xs (g s0 x) fun s y hy => h s y (List.mem_cons_of_mem _ hy)
theorem loop_ex {ι S N L R : Type} {f : S → ι → Option (Fl S S R)} {k : S → Option (Fl N L R)} {s0 : S} {xs : List ι} (Q : Option (Fl N L R) → Prop) (P : List ι → S → Prop) (h0 : P [] s0)
    (turn : ∀ pre s x post, xs = pre ++ x :: post → P pre s → ∃ s', f s x = some (.nx s') ∧ P (pre ++ [x]) s') (hk : ∀ s, P xs s → Q (k s)) : Q (thenFl (forM xs f s0) k) := by
  obtain ⟨s', e, h⟩ := forM_inv (L := L) (R := R) P xs [] s0 h0 turn
  rw [e]
  exact hk s' h
/-- turns that keep nothing but P -/
theorem loop_all {ι S N L R : Type} {f : S → ι → Option (Fl S S R)} {k : S → Option (Fl N L R)} {s0 : S} {xs : List ι} (Q : Option (Fl N L R) → Prop) (P : S → Prop) (h0 : P s0)
    (turn : ∀ s x, x ∈ xs → P s → ∃ s', f s x = some (.nx s') ∧ P s') (hk : ∀ s, P s → Q (k s)) : Q (thenFl (forM xs f s0) k) :=
  loop_ex Q (fun _ s => P s) h0 (fun pre s x post e hp => turn s x (by rw [e]; exact List.mem_append_right _ List.mem_cons_self) hp) hk
theorem compM_ok {ι β : Type} {p : ι → Option Bool} {f : ι → Option β} (P : ι → Bool) (F : ι → β) : ∀ (xs : List ι), (∀ x ∈ xs, p x = some (P x)) → (∀ x ∈ xs, f x = some (F x)) → compM xs p f = some ((xs.filter P).map F)
  | [], _, _ => rfl
  | x :: xs, h1, h2 => by
    have ih := compM_ok P F xs (fun y hy => h1 y (List.mem_cons_of_mem _ hy)) fun y hy => h2 y (List.mem_cons_of_mem _ hy)
    rw [compM, h1 x List.mem_cons_self, List.filter_cons]
    cases hp : P x with
    | true => simp only [h2 x List.mem_cons_self, ih, if_true, List.map_cons]
    | false => simp only [ih, Bool.false_eq_true, if_false]
theorem oComp_ok {ι β : Type} {p : ι → Option Bool} {f : ι → Option β} (P : ι → Bool) (F : ι → β) {xs : List ι} (hl : xs.length < 1000000) (h1 : ∀ x ∈ xs, p x = some (P x)) (h2 : ∀ x ∈ xs, f x = some (F x)) : oComp (some xs) p f = some ((xs.filter P).map F) := by
  show (if xs.length < sizeLine then compM xs p f else none) = _
  rw [if_pos (Nat.lt_of_lt_of_le hl (by decide))]
  exact compM_ok P F xs h1 h2
theorem thenFl_nx {N J L R : Type} {j : J} {k : J → Option (Fl N L R)} : thenFl (some (.nx j)) k = k j := rfl
theorem thenFl_rt {N J L R : Type} {r : R} {k : J → Option (Fl N L R)} : thenFl (some (.rt r)) k = some (.rt r) := rfl
theorem thenFl_ex {N J L R : Type} {m : Option (Fl J L R)} {k : J → Option (Fl N L R)} {v : Option (Fl N L R)} (h : ∃ j, m = some (.nx j)) (hk : ∀ j, k j = v) : thenFl m k = v := by
  obtain ⟨j, e⟩ := h
  rw [e]
  exact hk j
theorem retOf_rt {N L R : Type} {r : R} : retOf (some (.rt r) : Option (Fl N L R)) = some r := rfl
end G
/-! GMat2: more plain facts about the mirrors' words: places of lists, parts, whiles that may be left. -/
namespace G
open PySem L2
theorem oIx_get {α : Type} {xs : List α} {i : Nat} {x : α} (h : xs[i]? = some x) : oIx (some xs) (some (i : Int)) = some x := by
  have hl := (List.getElem?_eq_some_iff.mp h).1
  show atI xs (i : Int) = _
  unfold atI ixN
  rw [if_pos (by omega), if_pos (by omega)]
  exact h
theorem oIx_get1 {α : Type} {xs : List α} {i : Nat} {x : α} (h : xs[i + 1]? = some x) : oIx (some xs) (some ((i : Int) + 1)) = some x := oIx_get (i := i + 1) h
theorem oIx_last {α : Type} {l : List α} {y : α} : oIx (some (l ++ [y])) (oNeg (some (1 : Int))) = some y := by
  show (ixN (l ++ [y]).length (-1)).bind (fun j => (l ++ [y])[j]?) = some y
  unfold ixN
  rw [if_neg (by decide), if_pos (by simp only [List.length_append, List.length_singleton]; omega)]
  simp only [Option.bind_some]
  rw [show ((-1 : Int) + ((l ++ [y]).length : Int)).toNat = l.length by simp only [List.length_append, List.length_singleton]; omega]
  simp
theorem oIx_last' {α : Type} {l : List α} {y : α} (h : l.getLast? = some y) : oIx (some l) (oNeg (some (1 : Int))) = some y := by
  obtain ⟨l', rfl⟩ := List.getLast?_eq_some_iff.mp h
  exact oIx_last
theorem oSet_last {α : Type} {l : List α} {y x : α} : oSet (l ++ [y]) (oNeg (some (1 : Int))) (some x) = some (l ++ [x]) := by
  show (ixN (l ++ [y]).length (-1)).bind (fun j => some ((l ++ [y]).set j x)) = some (l ++ [x])
  unfold ixN
  rw [if_neg (by decide), if_pos (by simp only [List.length_append, List.length_singleton]; omega)]
  simp only [Option.bind_some]
  rw [show ((-1 : Int) + ((l ++ [y]).length : Int)).toNat = l.length by simp only [List.length_append, List.length_singleton]; omega]
  simp
theorem oSet_ok {α : Type} {l : List α} {i : Nat} {x : α} (h : i < l.length) : oSet l (some (i : Int)) (some x) = some (l.set i x) := by
  show (ixN l.length (i : Int)).bind (fun j => some (l.set j x)) = _
  unfold ixN
  rw [if_pos (by omega), if_pos (by omega)]
  rfl
theorem oPop_ok {α : Type} {l : List α} {y : α} : oPop (l ++ [y]) = some ⟨y, l⟩ := by
  show ((l ++ [y])[(l ++ [y]).length - 1]?).map _ = _
  rw [List.length_append, List.length_singleton, Nat.add_sub_cancel]
  simp
theorem oRng2_ok {i j : Int} (h0 : -1000000 ≤ i) (h1 : i < 1000000) (h2 : -1000000 ≤ j) (h3 : j < 1000000) : oRng2 (some i) (some j) = some (rangeL i (j - i).toNat) := by
  show (if (-(2 ^ 62) ≤ i ∧ i < 2 ^ 62) ∧ -(2 ^ 62) ≤ j ∧ j < 2 ^ 62 then some (rangeL i (j - i).toNat) else none) = _
  rw [if_pos ⟨⟨by omega, by omega⟩, by omega, by omega⟩]
theorem rangeL_at {lo : Int} {n i : Nat} (h : i < n) : (rangeL lo n)[i]? = some (lo + (i : Int)) := by
  unfold rangeL
  simp [h]
theorem mem_rangeL' {lo x : Int} {n : Nat} (h0 : lo ≤ x) (h1 : x < lo + n) : x ∈ rangeL lo n := by
  unfold rangeL
  exact List.mem_map.mpr ⟨(x - lo).toNat, List.mem_range.mpr (by omega), by omega⟩
/-- xs[:k] -/
theorem oCut_take {α : Type} {xs : List α} {k : Nat} : oCut (some xs) (some none) ((some (k : Int)).map some) = some (xs.take k) := by
  show some ((xs.drop (HT.sIx xs.length 0 none)).take (HT.sIx xs.length xs.length (some (k : Int)) - HT.sIx xs.length 0 none)) = _
  rw [HT.sIx_none, HT.sIx_nat, List.drop_zero, Nat.sub_zero]
  congr 1
  rw [← List.take_eq_take_min]
theorem whileM_B {S N L R : Type} {c : S → Option Bool} {f : S → Option (Fl S S R)} {k : S → Option (Fl N L R)} (Q : Option (Fl N L R) → Prop) (P : S → Prop) (μ : S → Nat) (test : ∀ s, P s → ∃ b, c s = some b)
    (turn : ∀ s, P s → c s = some true → (∃ s', (f s = some (.nx s') ∨ f s = some (.ct s')) ∧ P s' ∧ μ s' < μ s) ∨ (∃ s', f s = some (.br s') ∧ Q (k s')) ∨ (∃ r, f s = some (.rt r) ∧ Q (some (.rt r)))) (hk : ∀ s, P s → c s = some false → Q (k s)) : ∀ (n : Nat) (s : S), P s → μ s < n → Q (thenFl (whileM n c f s) k)
  | 0, _, _, h => absurd h (Nat.not_lt_zero _)
  | n + 1, s, hp, hn => by
    obtain ⟨b, hb⟩ := test s hp
    cases b with
    | false => simp only [whileM, hb]; exact hk s hp hb
    | true =>
      rcases turn s hp hb with ⟨s', e, hp', hm⟩ | ⟨s', e, q⟩ | ⟨r, e, q⟩
      · rcases e with e | e
        · simp only [whileM, hb, e]; exact whileM_B Q P μ test turn hk n s' hp' (by omega)
        · simp only [whileM, hb, e]; exact whileM_B Q P μ test turn hk n s' hp' (by omega)
      · simp only [whileM, hb, e]; exact q
      · simp only [whileM, hb, e]; exact q
theorem loop_while {S N L R : Type} {c : S → Option Bool} {f : S → Option (Fl S S R)} {k : S → Option (Fl N L R)} {s0 : S} {n : Nat} (Q : Option (Fl N L R) → Prop) (P : S → Prop) (μ : S → Nat) (h0 : P s0) (hn : μ s0 < n) (test : ∀ s, P s → ∃ b, c s = some b)
    (turn : ∀ s, P s → c s = some true → ∃ s', f s = some (.nx s') ∧ P s' ∧ μ s' < μ s) (hk : ∀ s, P s → c s = some false → Q (k s)) : Q (thenFl (whileM n c f s0) k) :=
  whileM_B Q P μ test (fun s hp ct => let ⟨s', e, h⟩ := turn s hp ct; .inl ⟨s', .inl e, h⟩) hk n s0 h0 hn
/-- a for that may be left -/
theorem forM_B {ι S N L R : Type} {f : S → ι → Option (Fl S S R)} {k : S → Option (Fl N L R)} (Q : Option (Fl N L R) → Prop) (P : List ι → S → Prop) : ∀ (xs pre : List ι) (s0 : S), P pre s0 →
    (∀ p s x q, pre ++ xs = p ++ x :: q → P p s → (∃ s', (f s x = some (.nx s') ∨ f s x = some (.ct s')) ∧ P (p ++ [x]) s') ∨ (∃ s', f s x = some (.br s') ∧ Q (k s')) ∨ (∃ r, f s x = some (.rt r) ∧ Q (some (.rt r)))) → (∀ s, P (pre ++ xs) s → Q (k s)) → Q (thenFl (forM xs f s0) k)
  | [], pre, s0, h0, _, hk => by rw [List.append_nil] at hk; exact hk s0 h0
  | x :: xs, pre, s0, h0, h, hk => by
    rcases h pre s0 x xs rfl h0 with ⟨s', e, h1⟩ | ⟨s', e, q⟩ | ⟨r, e, q⟩
    · have ih := forM_B Q P xs (pre ++ [x]) s' h1 (fun p s y q hy => h p s y q (by rw [List.append_assoc] at hy; exact hy)) (fun s hs => hk s (by rw [List.append_assoc] at hs; exact hs))
      rcases e with e | e
      · simp only [forM, e]; exact ih
      · simp only [forM, e]; exact ih
    · simp only [forM, e]; exact q
    · simp only [forM, e]; exact q
theorem loop_B {ι S N L R : Type} {f : S → ι → Option (Fl S S R)} {k : S → Option (Fl N L R)} {s0 : S} {xs : List ι} (Q : Option (Fl N L R) → Prop) (P : List ι → S → Prop) (h0 : P [] s0)
    (turn : ∀ p s x q, xs = p ++ x :: q → P p s → (∃ s', (f s x = some (.nx s') ∨ f s x = some (.ct s')) ∧ P (p ++ [x]) s') ∨ (∃ s', f s x = some (.br s') ∧ Q (k s')) ∨ (∃ r, f s x = some (.rt r) ∧ Q (some (.rt r)))) (hk : ∀ s, P xs s → Q (k s)) : Q (thenFl (forM xs f s0) k) :=
  forM_B Q P xs [] s0 h0 turn hk
theorem drop_get {α : Type} {l : List α} {i : Nat} {x : α} {r : List α} (h : l.drop i = x :: r) : l[i]? = some x ∧ l.drop (i + 1) = r ∧ i < l.length := by
  have hl : i < l.length := by
    apply Classical.byContradiction
    intro c
    rw [List.drop_of_length_le (by omega)] at h
    cases h
  rw [List.drop_eq_getElem_cons hl] at h
  cases h
  exact ⟨by simp [hl], rfl, hl⟩
end G
/-! GPouch: data pouches in plain Lean: good forms, merged, thinned. -/
namespace G
open PySem L2
abbrev En := P3 Int Int Int
abbrev Pch := P4 Int Int Int (List En)
/-- the entries behind one of least lo, most hp, number pn, of a pouch of size n, slack s -/
def Fm (s n : Int) : Int → Int → Option Int → List En → Prop
  | lo, hp, _, [] => lo = n ∧ hp = n
  | lo, hp, pn, x :: xs => lo < x.b ∧ hp < x.c ∧ x.b ≤ x.c ∧ x.c ≤ x.b + s ∧ (∀ p, pn = some p → p ≤ x.a) ∧ (pn = some x.a ∨ x.c ≤ lo + s + 1) ∧ (pn = none → x.b = 1 ∧ x.c = 1) ∧ Fm s n x.b x.c (some x.a) xs
structure Form (p : Pch) : Prop where
  s0 : 0 ≤ p.b
  d0 : 0 ≤ p.c
  fm : Fm p.b p.a 0 0 none p.d
/-- the most of the first one, or one more than all -/
def hd (n : Int) : List En → Int
  | [] => n + 1
  | x :: _ => x.c
theorem Fm.up {s n : Int} : ∀ {es : List En} {lo hp : Int} {p : Int}, Fm s n lo hp (some p) es → ∀ y ∈ es, p ≤ y.a
  | [], _, _, _, _, y, h => by cases h
  | x :: xs, lo, hp, p, ⟨_, _, _, _, h5, _, _, h8⟩, y, h => by
    rcases List.mem_cons.mp h with e | h
    · rw [e]; exact h5 p rfl
    · exact Int.le_trans (h5 p rfl) (Fm.up h8 y h)
theorem Fm.lows {s n : Int} : ∀ {es : List En} {lo hp : Int} {pn : Option Int}, Fm s n lo hp pn es → ∀ y ∈ es, lo < y.b ∧ hp < y.c ∧ y.b ≤ y.c ∧ y.c ≤ y.b + s ∧ y.b ≤ n ∧ y.c ≤ n
  | [], _, _, _, _, y, h => by cases h
  | x :: xs, lo, hp, pn, ⟨h1, h2, h3, h4, _, _, _, h8⟩, y, h => by
    have fin : ∀ {es : List En} {lo hp : Int} {pn : Option Int}, Fm s n lo hp pn es → lo ≤ n ∧ hp ≤ n := fun {es} => by
      induction es with
      | nil => intro lo hp pn h; exact ⟨Int.le_of_eq h.1, Int.le_of_eq h.2⟩
      | cons z zs ih => intro lo hp pn ⟨h1, h2, _, _, _, _, _, h8⟩; have := ih h8; omega
    rcases List.mem_cons.mp h with e | h
    · rw [e]; have := fin h8; omega
    · have := Fm.lows h8 y h; omega
theorem Fm.fin {s n : Int} : ∀ {es : List En} {lo hp : Int} {pn : Option Int}, Fm s n lo hp pn es → lo ≤ n ∧ hp ≤ n
  | [], _, _, _, h => ⟨Int.le_of_eq h.1, Int.le_of_eq h.2⟩
  | x :: xs, lo, hp, pn, ⟨h1, h2, _, _, _, _, _, h8⟩ => by have := Fm.fin h8; omega
theorem Form.n0 {p : Pch} (f : Form p) : 0 ≤ p.a := f.fm.fin.1
theorem Fm.hdlt {s n : Int} {es : List En} {lo hp : Int} {pn : Option Int} (h : Fm s n lo hp pn es) : hp < hd n es := by
  cases es with
  | nil => obtain ⟨_, h⟩ := h; show hp < n + 1; omega
  | cons x xs => exact h.2.1
/-- leT of the entries -/
theorem Fm.sorted {s n : Int} : ∀ {es : List En} {lo hp : Int} {pn : Option Int}, Fm s n lo hp pn es → es.Pairwise fun x y => leT x y = true
  | [], _, _, _, _ => List.Pairwise.nil
  | x :: xs, lo, hp, pn, ⟨h1, h2, h3, h4, _, _, _, h8⟩ => List.pairwise_cons.mpr ⟨fun y hy => by
      have a := Fm.up h8 y hy
      have b := Fm.lows h8 y hy
      rw [leT_iff]; omega, Fm.sorted h8⟩
theorem Fm.nums {s n : Int} : ∀ {es : List En} {lo hp : Int} {pn : Option Int}, Fm s n lo hp pn es → es.Pairwise fun x y => x.a ≤ y.a
  | [], _, _, _, _ => List.Pairwise.nil
  | x :: xs, lo, hp, pn, ⟨h1, h2, h3, h4, _, _, _, h8⟩ => List.pairwise_cons.mpr ⟨fun y hy => Fm.up h8 y hy, Fm.nums h8⟩
/-! ### merged -/
def mg (n1 n2 : Int) : Int → Int → List En → List En → List En
  | _, _, [], [] => []
  | _, lo2, x :: xs, [] => ⟨x.a, x.b + lo2, x.c + (n2 + 1) - 1⟩ :: mg n1 n2 x.b lo2 xs []
  | lo1, _, [], y :: ys => ⟨y.a, y.b + lo1, y.c + (n1 + 1) - 1⟩ :: mg n1 n2 lo1 y.b [] ys
  | lo1, lo2, x :: xs, y :: ys => if x.a ≤ y.a then ⟨x.a, x.b + lo2, x.c + y.c - 1⟩ :: mg n1 n2 x.b lo2 xs (y :: ys) else ⟨y.a, y.b + lo1, y.c + x.c - 1⟩ :: mg n1 n2 lo1 y.b (x :: xs) ys
  termination_by _ _ es1 es2 => es1.length + es2.length
theorem mg_nil {n1 n2 lo1 lo2 : Int} : mg n1 n2 lo1 lo2 [] [] = [] := by rw [mg]
/-- the first one's turn -/
theorem mg_fst {n1 n2 lo1 lo2 : Int} {x : En} {xs es2 : List En} (h : ∀ y ∈ es2.head?, x.a ≤ y.a) : mg n1 n2 lo1 lo2 (x :: xs) es2 = ⟨x.a, x.b + lo2, x.c + hd n2 es2 - 1⟩ :: mg n1 n2 x.b lo2 xs es2 := by
  cases es2 with
  | nil => rw [mg]; rfl
  | cons y ys => rw [mg, if_pos (h y rfl)]; rfl
/-- the second one's turn -/
theorem mg_snd {n1 n2 lo1 lo2 : Int} {y : En} {ys es1 : List En} (h : ∀ x ∈ es1.head?, y.a < x.a) : mg n1 n2 lo1 lo2 es1 (y :: ys) = ⟨y.a, y.b + lo1, y.c + hd n1 es1 - 1⟩ :: mg n1 n2 lo1 y.b es1 ys := by
  cases es1 with
  | nil => rw [mg]; rfl
  | cons x xs => rw [mg, if_neg (by have := h x rfl; omega)]; rfl
/-- whose turn it is -/
theorem mg_cases (es1 es2 : List En) : (es1 = [] ∧ es2 = []) ∨ (∃ x xs, es1 = x :: xs ∧ ∀ y ∈ es2.head?, x.a ≤ y.a) ∨ (∃ y ys, es2 = y :: ys ∧ ∀ x ∈ es1.head?, y.a < x.a) := by
  cases es1 with
  | nil =>
    cases es2 with
    | nil => exact .inl ⟨rfl, rfl⟩
    | cons y ys => exact .inr (.inr ⟨y, ys, rfl, fun x h => by cases h⟩)
  | cons x xs =>
    cases es2 with
    | nil => exact .inr (.inl ⟨x, xs, rfl, fun x h => by cases h⟩)
    | cons y ys =>
      by_cases c : x.a ≤ y.a
      · exact .inr (.inl ⟨x, xs, rfl, fun z h => by cases h; exact c⟩)
      · exact .inr (.inr ⟨y, ys, rfl, fun z h => by cases h; omega⟩)
theorem mg_len {n1 n2 : Int} : ∀ (k : Nat) (es1 es2 : List En) (lo1 lo2 : Int), es1.length + es2.length = k → (mg n1 n2 lo1 lo2 es1 es2).length = k
  | k, es1, es2, lo1, lo2, h => by
    rcases mg_cases es1 es2 with ⟨rfl, rfl⟩ | ⟨x, xs, rfl, hh⟩ | ⟨y, ys, rfl, hh⟩
    · rw [mg_nil]; exact h
    · cases k with
      | zero => simp at h
      | succ k =>
        rw [mg_fst hh, List.length_cons, mg_len k xs es2 _ _ (by simp only [List.length_cons] at h; omega)]
    · cases k with
      | zero => simp at h
      | succ k =>
        rw [mg_snd hh, List.length_cons, mg_len k es1 ys _ _ (by simp only [List.length_cons] at h; omega)]
theorem Fm.merge {s1 s2 n1 n2 : Int} (g1 : 0 ≤ s1) (g2 : 0 ≤ s2) : ∀ (k : Nat) (es1 es2 : List En) (lo1 hp1 lo2 hp2 hp : Int) (pn1 pn2 pn : Option Int), es1.length + es2.length = k → Fm s1 n1 lo1 hp1 pn1 es1 → Fm s2 n2 lo2 hp2 pn2 es2 → lo1 ≤ hp1 → lo2 ≤ hp2 →
    (∀ p, pn1 = some p → ∀ y ∈ es2, p ≤ y.a) → (∀ p, pn2 = some p → ∀ x ∈ es1, p < x.a) → (pn1 = none → lo1 = 0) → (pn2 = none → lo2 = 0) →
    (∀ p, pn1 = some p → ∃ q, pn = some q ∧ p ≤ q) → (∀ p, pn2 = some p → ∃ q, pn = some q ∧ p ≤ q) → (∀ q, pn = some q → pn1 = some q ∨ pn2 = some q) →
    hp < hd n1 es1 + hd n2 es2 - 1 → (es1 = [] → es2 = [] → hp = n1 + n2) → Fm (s1 + s2) (n1 + n2) (lo1 + lo2) hp pn (mg n1 n2 lo1 lo2 es1 es2)
  | k, es1, es2, lo1, hp1, lo2, hp2, hp, pn1, pn2, pn, hk, f1, f2, l1, l2, c1, c2, o1, o2, m1, m2, m3, hh, he => by
    rcases mg_cases es1 es2 with ⟨rfl, rfl⟩ | ⟨x, xs, rfl, ht⟩ | ⟨y, ys, rfl, ht⟩
    · rw [mg_nil]
      exact ⟨by rw [f1.1, f2.1], he rfl rfl⟩
    · cases k with
      | zero => simp at hk
      | succ k =>
        rw [mg_fst ht]
        obtain ⟨x1, x2, x3, x4, x5, x6, x7, x8⟩ := id f1
        have all : ∀ y ∈ es2, x.a ≤ y.a := fun y hy => by
          cases es2 with
          | nil => cases hy
          | cons z zs =>
            have h1 := ht z rfl
            rcases List.mem_cons.mp hy with e | hy
            · rw [e]; exact h1
            · exact Int.le_trans h1 (Fm.up f2.2.2.2.2.2.2.2 y hy)
        have b2 : hd n2 es2 ≤ lo2 + s2 + 1 := by
          cases es2 with
          | nil => obtain ⟨e, _⟩ := f2; show n2 + 1 ≤ _; omega
          | cons z zs =>
            rcases f2.2.2.2.2.2.1 with e | e
            · have := c2 _ e x List.mem_cons_self
              have := ht z rfl
              omega
            · exact e
        have h2 := f2.hdlt
        have h3 : x.c < hd n1 xs := x8.hdlt
        have q1 : ∀ p, pn = some p → p ≤ x.a := fun p hp => by
          rcases m3 p hp with e | e
          · exact x5 p e
          · exact Int.le_of_lt (c2 p e x List.mem_cons_self)
        change hp < x.c + hd n2 es2 - 1 at hh
        refine ⟨by dsimp only; omega, by dsimp only; omega, by dsimp only; omega, by dsimp only; omega, q1, ?_, fun e => ?_, ?_⟩
        · rcases x6 with e | e
          · obtain ⟨q, hq, hq2⟩ := m1 _ e
            rw [hq]
            refine .inl (congrArg some ?_)
            show q = x.a
            have := q1 q hq
            omega
          · right
            dsimp only
            omega
        · have e1 : pn1 = none := by
            cases hp1 : pn1 with
            | none => rfl
            | some p => obtain ⟨q, hq, _⟩ := m1 p hp1; rw [e] at hq; cases hq
          have e2 : pn2 = none := by
            cases hp2 : pn2 with
            | none => rfl
            | some p => obtain ⟨q, hq, _⟩ := m2 p hp2; rw [e] at hq; cases hq
          obtain ⟨r1, r2⟩ := x7 e1
          have r3 := o2 e2
          have r4 : hd n2 es2 = 1 := by
            cases es2 with
            | nil => obtain ⟨e, _⟩ := f2; show n2 + 1 = 1; omega
            | cons z zs => exact (f2.2.2.2.2.2.2.1 e2).2
          dsimp only
          omega
        · dsimp only
          rw [show x.b + lo2 = x.b + lo2 from rfl]
          refine Fm.merge g1 g2 k xs es2 x.b x.c lo2 hp2 _ (some x.a) pn2 _ (by simp only [List.length_cons] at hk; omega) x8 f2 x3 l2 (fun p e y hy => by cases e; exact all y hy) (fun p e z hz => c2 p e z (List.mem_cons_of_mem _ hz)) (fun e => by cases e) o2 (fun p e => by cases e; exact ⟨_, rfl, Int.le_refl _⟩) (fun p e => ⟨_, rfl, Int.le_of_lt (c2 p e x List.mem_cons_self)⟩) (fun q e => by cases e; exact .inl rfl) (by omega) fun e e2 => ?_
          subst e e2
          have := x8.2
          show x.c + (n2 + 1) - 1 = n1 + n2
          omega
    · cases k with
      | zero => simp at hk
      | succ k =>
        rw [mg_snd ht]
        obtain ⟨x1, x2, x3, x4, x5, x6, x7, x8⟩ := id f2
        have all : ∀ x ∈ es1, y.a < x.a := fun x hx => by
          cases es1 with
          | nil => cases hx
          | cons z zs =>
            have h1 := ht z rfl
            rcases List.mem_cons.mp hx with e | hx
            · rw [e]; exact h1
            · exact Int.lt_of_lt_of_le h1 (Fm.up f1.2.2.2.2.2.2.2 x hx)
        have b2 : hd n1 es1 ≤ lo1 + s1 + 1 := by
          cases es1 with
          | nil => obtain ⟨e, _⟩ := f1; show n1 + 1 ≤ _; omega
          | cons z zs =>
            rcases f1.2.2.2.2.2.1 with e | e
            · have := c1 _ e y List.mem_cons_self
              have := ht z rfl
              omega
            · exact e
        have h2 := f1.hdlt
        have h3 : y.c < hd n2 ys := x8.hdlt
        have q1 : ∀ p, pn = some p → p ≤ y.a := fun p hp => by
          rcases m3 p hp with e | e
          · exact c1 p e y List.mem_cons_self
          · exact x5 p e
        change hp < hd n1 es1 + y.c - 1 at hh
        refine ⟨by dsimp only; omega, by dsimp only; omega, by dsimp only; omega, by dsimp only; omega, q1, ?_, fun e => ?_, ?_⟩
        · rcases x6 with e | e
          · obtain ⟨q, hq, hq2⟩ := m2 _ e
            rw [hq]
            refine .inl (congrArg some ?_)
            show q = y.a
            have := q1 q hq
            omega
          · right
            dsimp only
            omega
        · have e1 : pn1 = none := by
            cases hp1 : pn1 with
            | none => rfl
            | some p => obtain ⟨q, hq, _⟩ := m1 p hp1; rw [e] at hq; cases hq
          have e2 : pn2 = none := by
            cases hp2 : pn2 with
            | none => rfl
            | some p => obtain ⟨q, hq, _⟩ := m2 p hp2; rw [e] at hq; cases hq
          obtain ⟨r1, r2⟩ := x7 e2
          have r3 := o1 e1
          have r4 : hd n1 es1 = 1 := by
            cases es1 with
            | nil => obtain ⟨e, _⟩ := f1; show n1 + 1 = 1; omega
            | cons z zs => exact (f1.2.2.2.2.2.2.1 e1).2
          dsimp only
          omega
        · dsimp only
          rw [Int.add_comm y.b lo1]
          refine Fm.merge g1 g2 k es1 ys lo1 hp1 y.b y.c _ pn1 (some y.a) _ (by simp only [List.length_cons] at hk; omega) f1 x8 l1 x3 (fun p e z hz => c1 p e z (List.mem_cons_of_mem _ hz)) (fun p e x hx => by cases e; exact all x hx) o1 (fun e => by cases e) (fun p e => ⟨_, rfl, c1 p e y List.mem_cons_self⟩) (fun p e => by cases e; exact ⟨_, rfl, Int.le_refl _⟩) (fun q e => by cases e; exact .inr rfl) (by omega) fun e e2 => ?_
          subst e e2
          have := x8.2
          show y.c + (n1 + 1) - 1 = n1 + n2
          omega
def mgP (p q : Pch) : Pch := ⟨p.a + q.a, p.b + q.b, max p.c q.c, mg p.a q.a 0 0 p.d q.d⟩
theorem Form.mer {p q : Pch} (f : Form p) (g : Form q) : Form (mgP p q) := by
  have f0 := f.s0
  have g0 := g.s0
  have f1 := f.d0
  have g1 := g.d0
  refine ⟨by show 0 ≤ p.b + q.b; omega, by show 0 ≤ max p.c q.c; omega, ?_⟩
  have h1 := f.fm.hdlt
  have h2 := g.fm.hdlt
  refine Fm.merge f.s0 g.s0 _ p.d q.d 0 0 0 0 0 none none none rfl f.fm g.fm (Int.le_refl _) (Int.le_refl _) (fun p e => by cases e) (fun p e => by cases e) (fun _ => rfl) (fun _ => rfl) (fun p e => by cases e) (fun p e => by cases e) (fun p e => by cases e) (by omega) fun e1 e2 => ?_
  have a := f.fm
  have b := g.fm
  rw [e1] at a
  rw [e2] at b
  have := a.1
  have := b.1
  omega
/-! what the rules say, entry by entry -/
def lastB (l : List En) : Int := (l.map P3.b).getLastD 0
def raise1 (q : Pch) (x : En) : En := ⟨x.a, x.b + lastB (q.d.filter fun y => decide (y.a < x.a)), x.c + hd q.a (q.d.filter fun y => decide (x.a ≤ y.a)) - 1⟩
def raise2 (p : Pch) (y : En) : En := ⟨y.a, y.b + lastB (p.d.filter fun x => decide (x.a ≤ y.a)), y.c + hd p.a (p.d.filter fun x => decide (y.a < x.a)) - 1⟩
theorem filter_split {α : Type} {f : α → Bool} {l r : List α} (h1 : ∀ x ∈ l, f x = true) (h2 : ∀ x ∈ r, f x = false) : (l ++ r).filter f = l := by
  rw [List.filter_append, List.filter_eq_self.mpr h1, List.filter_eq_nil_iff.mpr (fun x hx => by rw [h2 x hx]; decide), List.append_nil]
theorem filter_split' {α : Type} {f : α → Bool} {l r : List α} (h1 : ∀ x ∈ l, f x = false) (h2 : ∀ x ∈ r, f x = true) : (l ++ r).filter f = r := by
  rw [List.filter_append, List.filter_eq_self.mpr h2, List.filter_eq_nil_iff.mpr (fun x hx => by rw [h1 x hx]; decide), List.nil_append]
theorem mg_perm {p q : Pch} (u1 : p.d.Pairwise fun x y => x.a ≤ y.a) (u2 : q.d.Pairwise fun x y => x.a ≤ y.a) : ∀ (k : Nat) (p1 r1 p2 r2 : List En) (lo1 lo2 : Int), r1.length + r2.length = k → p.d = p1 ++ r1 → q.d = p2 ++ r2 → lo1 = lastB p1 → lo2 = lastB p2 →
    (∀ a ∈ p1, ∀ y ∈ r2, a.a ≤ y.a) → (∀ b ∈ p2, ∀ x ∈ r1, b.a < x.a) → (mg p.a q.a lo1 lo2 r1 r2).Perm (r1.map (raise1 q) ++ r2.map (raise2 p))
  | k, p1, r1, p2, r2, lo1, lo2, hk, e1, e2, h1, h2, c1, c2 => by
    rcases mg_cases r1 r2 with ⟨rfl, rfl⟩ | ⟨x, xs, rfl, ht⟩ | ⟨y, ys, rfl, ht⟩
    · rw [mg_nil]
      exact List.Perm.refl _
    · cases k with
      | zero => simp at hk
      | succ k =>
        rw [mg_fst ht, List.map_cons, List.cons_append]
        have all : ∀ y ∈ r2, x.a ≤ y.a := fun y hy => by
          cases r2 with
          | nil => cases hy
          | cons z zs =>
            have h1 := ht z rfl
            rcases List.mem_cons.mp hy with e | hy
            · rw [e]; exact h1
            · have u3 : (z :: zs).Pairwise fun x y => x.a ≤ y.a := by rw [e2] at u2; exact (List.pairwise_append.mp u2).2.1
              exact Int.le_trans h1 ((List.pairwise_cons.mp u3).1 y hy)
        have er : raise1 q x = ⟨x.a, x.b + lo2, x.c + hd q.a r2 - 1⟩ := by
          unfold raise1
          rw [e2, filter_split (fun z hz => decide_eq_true (c2 z hz x List.mem_cons_self)) (fun z hz => decide_eq_false (by have := all z hz; omega)), filter_split' (fun z hz => decide_eq_false (by have := c2 z hz x List.mem_cons_self; omega)) (fun z hz => decide_eq_true (all z hz)), h2]
        rw [er]
        refine List.Perm.cons _ (mg_perm u1 u2 k (p1 ++ [x]) xs p2 r2 x.b lo2 (by simp only [List.length_cons] at hk; omega) (by rw [e1, List.append_assoc]; rfl) e2 (by unfold lastB; simp) h2 (fun a ha y hy => ?_) (fun b hb z hz => c2 b hb z (List.mem_cons_of_mem _ hz)))
        rcases List.mem_append.mp ha with ha | ha
        · exact c1 a ha y hy
        · rw [List.mem_singleton.mp ha]; exact all y hy
    · cases k with
      | zero => simp at hk
      | succ k =>
        rw [mg_snd ht, List.map_cons]
        have all : ∀ x ∈ r1, y.a < x.a := fun x hx => by
          cases r1 with
          | nil => cases hx
          | cons z zs =>
            have h1 := ht z rfl
            rcases List.mem_cons.mp hx with e | hx
            · rw [e]; exact h1
            · have u3 : (z :: zs).Pairwise fun x y => x.a ≤ y.a := by rw [e1] at u1; exact (List.pairwise_append.mp u1).2.1
              exact Int.lt_of_lt_of_le h1 ((List.pairwise_cons.mp u3).1 x hx)
        have er : raise2 p y = ⟨y.a, y.b + lo1, y.c + hd p.a r1 - 1⟩ := by
          unfold raise2
          rw [e1, filter_split (fun z hz => decide_eq_true (c1 z hz y List.mem_cons_self)) (fun z hz => decide_eq_false (by have := all z hz; omega)), filter_split' (fun z hz => decide_eq_false (by have := c1 z hz y List.mem_cons_self; omega)) (fun z hz => decide_eq_true (all z hz)), h1]
        rw [er]
        refine List.Perm.trans (List.Perm.cons _ (mg_perm u1 u2 k p1 r1 (p2 ++ [y]) ys lo1 y.b (by simp only [List.length_cons] at hk; omega) e1 (by rw [e2, List.append_assoc]; rfl) h1 (by unfold lastB; simp) (fun a ha z hz => c1 a ha z (List.mem_cons_of_mem _ hz)) (fun b hb z hz => ?_))) List.perm_middle.symm
        rcases List.mem_append.mp hb with hb | hb
        · exact c2 b hb z hz
        · rw [List.mem_singleton.mp hb]; exact all z hz
theorem mgP_rules {p q : Pch} (f : Form p) (g : Form q) : (mgP p q).d = sortT (p.d.map (raise1 q) ++ q.d.map (raise2 p)) :=
  sortT_eq (mg_perm f.fm.nums g.fm.nums _ [] p.d [] q.d 0 0 rfl rfl rfl rfl rfl (fun a h => by cases h) (fun a h => by cases h)) (f.mer g).fm.sorted
/-! ### thinned -/
/-- x is kept, y may be the next one kept -/
def th (room : Int) : En → En → List En → List En
  | _, y, [] => [y]
  | x, y, z :: zs => if z.a = x.a ∨ z.c ≤ x.b + room then th room x z zs else y :: th room y z zs
def thL (room : Int) : List En → List En
  | [] => []
  | [x] => [x]
  | x :: y :: zs => x :: th room x y zs
def thP (p : Pch) (k : Int) : Pch := ⟨p.a, p.b + p.a / k, p.c + 1, thL (p.b + p.a / k + 1) p.d⟩
theorem Fm.thn {s t n : Int} (st : s ≤ t) : ∀ {zs : List En} {x y : En}, x.b < y.b → x.c < y.c → y.b ≤ y.c → y.c ≤ y.b + s → x.a ≤ y.a → (x.a = y.a ∨ y.c ≤ x.b + t + 1) → Fm s n y.b y.c (some y.a) zs → Fm t n x.b x.c (some x.a) (th (t + 1) x y zs)
  | [], x, y, h1, h2, h3, h4, h5, h6, h7 => ⟨h1, h2, h3, by omega, (fun p e => by cases e; exact h5), h6.imp (fun e => congrArg some e) id, (fun e => by cases e), h7⟩
  | z :: zs, x, y, h1, h2, h3, h4, h5, h6, ⟨k1, k2, k3, k4, k5, k6, k7, k8⟩ => by
    unfold G.th
    have k5 := k5 _ rfl
    by_cases c : z.a = x.a ∨ z.c ≤ x.b + (t + 1)
    · rw [if_pos c]
      exact Fm.thn st (by omega) (by omega) k3 k4 (by omega) (by omega) k8
    · rw [if_neg c]
      refine ⟨h1, h2, h3, by omega, (fun p e => by cases e; exact h5), h6.imp (fun e => congrArg some e) id, (fun e => by cases e), Fm.thn st k1 k2 k3 k4 k5 ?_ k8⟩
      rcases k6 with e | e
      · exact .inl (Option.some.inj e)
      · right; omega
theorem Fm.thnL {s t n : Int} (st : s ≤ t) {lo hp : Int} {pn : Option Int} : ∀ {es : List En}, Fm s n lo hp pn es → Fm t n lo hp pn (thL (t + 1) es)
  | [], h => h
  | [x], ⟨h1, h2, h3, h4, h5, h6, h7, h8⟩ => ⟨h1, h2, h3, by omega, h5, h6.imp id (by omega), h7, h8⟩
  | x :: y :: zs, ⟨h1, h2, h3, h4, h5, h6, h7, ⟨k1, k2, k3, k4, k5, k6, k7, k8⟩⟩ => by
    refine ⟨h1, h2, h3, by omega, h5, h6.imp id (by omega), h7, Fm.thn st k1 k2 k3 k4 (k5 _ rfl) ?_ k8⟩
    rcases k6 with e | e
    · exact .inl (Option.some.inj e)
    · right; omega
theorem Form.thin {p : Pch} (f : Form p) {k : Int} (hk : 0 < k) : Form (thP p k) := by
  have h1 := Int.ediv_nonneg f.n0 (Int.le_of_lt hk)
  have h2 := f.s0
  have h3 := f.d0
  exact ⟨by show 0 ≤ p.b + p.a / k; omega, by show 0 ≤ p.c + 1; omega, Fm.thnL (show p.b ≤ p.b + p.a / k by omega) f.fm⟩
/-- of three kept ones behind one another -/
def Far (d : Int) : List En → Prop
  | x :: y :: z :: zs => x.b + d ≤ z.b ∧ Far d (y :: z :: zs)
  | _ => True
theorem th_head {room : Int} : ∀ {zs : List En} {x y : En}, ∃ w ws, th room x y zs = w :: ws ∧ (w = y ∨ w ∈ zs)
  | [], x, y => ⟨y, [], rfl, .inl rfl⟩
  | z :: zs, x, y => by
    unfold th
    by_cases c : z.a = x.a ∨ z.c ≤ x.b + room
    · rw [if_pos c]
      obtain ⟨w, ws, e, h⟩ := th_head (room := room) (zs := zs) (x := x) (y := z)
      exact ⟨w, ws, e, .inr (by rcases h with h | h; rw [h]; exact List.mem_cons_self; exact List.mem_cons_of_mem _ h)⟩
    · rw [if_neg c]
      exact ⟨y, _, rfl, .inl rfl⟩
theorem th_far {s n room : Int} : ∀ {zs : List En} {x y : En}, Fm s n y.b y.c (some y.a) zs → Far (room - s + 1) (x :: th room x y zs)
  | [], x, y, _ => trivial
  | z :: zs, x, y, ⟨k1, k2, k3, k4, k5, k6, k7, k8⟩ => by
    unfold th
    by_cases c : z.a = x.a ∨ z.c ≤ x.b + room
    · rw [if_pos c]
      exact th_far k8
    · rw [if_neg c]
      have ih := th_far (room := room) (x := y) k8
      obtain ⟨w, ws, e, h⟩ := th_head (room := room) (zs := zs) (x := y) (y := z)
      rw [e] at ih ⊢
      refine ⟨?_, ih⟩
      rcases h with h | h
      · rw [h]; omega
      · have := Fm.lows k8 w h; omega
theorem far_len {d n : Int} (hd : 0 < d) : ∀ {es : List En} {x : En}, Far d (x :: es) → (∀ y ∈ x :: es, y.b ≤ n) → ((es.length / 2 : Nat) : Int) * d ≤ n - x.b
  | [], x, _, h => by have := h x List.mem_cons_self; simp; omega
  | [y], x, _, h => by have := h x List.mem_cons_self; simp; omega
  | y :: z :: zs, x, ⟨h1, h2⟩, h => by
    have h3 : Far d (z :: zs) := by
      cases zs with
      | nil => trivial
      | cons w ws => exact h2.2
    have ih := far_len hd h3 fun w hw => h w (List.mem_cons_of_mem _ (List.mem_cons_of_mem _ hw))
    rw [show (y :: z :: zs).length / 2 = zs.length / 2 + 1 by simp only [List.length_cons]; omega, Int.natCast_add, Int.add_mul]
    omega
theorem Form.few {p : Pch} (f : Form p) {k : Int} (hk : 0 < k) : ((thP p k).d.length : Int) ≤ 2 * k := by
  have h0 := Int.ediv_nonneg f.n0 (Int.le_of_lt hk)
  have fm := f.fm
  have s0 := f.s0
  show ((thL (p.b + p.a / k + 1) p.d).length : Int) ≤ 2 * k
  match hd : p.d, fm with
  | [], _ => show (0 : Int) ≤ _; omega
  | [x], _ => show (1 : Int) ≤ _; omega
  | x :: y :: zs, fm =>
    have fm2 := Fm.thnL (t := p.b + p.a / k) (by omega) fm
    obtain ⟨h1, h2, h3, h4, h5, h6, h7, h8⟩ := fm
    have far := th_far (room := p.b + p.a / k + 1) (x := x) h8.2.2.2.2.2.2.2
    have l := far_len (n := p.a) (d := p.b + p.a / k + 1 - p.b + 1) (by omega) far fun w hw => (Fm.lows fm2 w hw).2.2.2.2.1
    have b1 := (h7 rfl).1
    rw [b1] at l
    show (((x :: th _ x y zs).length : Nat) : Int) ≤ _
    generalize th _ x y zs = r at l ⊢
    rw [List.length_cons]
    apply Classical.byContradiction
    intro c
    have c2 : k ≤ ((r.length / 2 : Nat) : Int) := by omega
    have m1 : k * (p.b + p.a / k + 1 - p.b + 1) ≤ ((r.length / 2 : Nat) : Int) * (p.b + p.a / k + 1 - p.b + 1) := Int.mul_le_mul_of_nonneg_right c2 (by omega)
    have m2 : k * (p.b + p.a / k + 1 - p.b + 1) = k * (p.a / k) + k * 2 := by rw [← Int.mul_add]; congr 1; omega
    have m3 := Int.mul_ediv_add_emod p.a k
    have m4 := Int.emod_lt_of_pos p.a hk
    omega
theorem th_last {room : Int} : ∀ {zs : List En} {x y : En}, (th room x y zs).getLast? = (y :: zs).getLast?
  | [], x, y => rfl
  | z :: zs, x, y => by
    unfold th
    by_cases c : z.a = x.a ∨ z.c ≤ x.b + room
    · rw [if_pos c, th_last, List.getLast?_cons_cons]
    · rw [if_neg c, List.getLast?_cons_cons]
      have h := th_last (room := room) (zs := zs) (x := y) (y := z)
      obtain ⟨w, ws, e, _⟩ := th_head (room := room) (zs := zs) (x := y) (y := z)
      rw [e] at h ⊢
      rw [List.getLast?_cons_cons, h]
theorem thL_last {room : Int} : ∀ {es : List En}, (thL room es).getLast? = es.getLast?
  | [] => rfl
  | [x] => rfl
  | x :: y :: zs => by
    show (x :: th room x y zs).getLast? = _
    have h := th_last (room := room) (zs := zs) (x := x) (y := y)
    obtain ⟨w, ws, e, _⟩ := th_head (room := room) (zs := zs) (x := x) (y := y)
    rw [e] at h ⊢
    rw [List.getLast?_cons_cons, List.getLast?_cons_cons, h]
theorem th_len {room : Int} : ∀ {zs : List En} {x y : En}, (th room x y zs).length ≤ zs.length + 1
  | [], x, y => Nat.le_refl _
  | z :: zs, x, y => by
    unfold th
    split
    · exact Nat.le_succ_of_le th_len
    · exact Nat.succ_le_succ th_len
theorem thL_len {room : Int} : ∀ {es : List En}, (thL room es).length ≤ es.length
  | [] => Nat.le_refl _
  | [x] => Nat.le_refl _
  | x :: y :: zs => Nat.succ_le_succ th_len
/-! ### a run -/
def runP (x t : Int) : Pch := if t = 1 then ⟨1, 0, 0, [⟨x, 1, 1⟩]⟩ else ⟨t, 0, 0, [⟨x, 1, 1⟩, ⟨x, t, t⟩]⟩
def nilP : Pch := ⟨0, 0, 0, []⟩
theorem Form.nil_ : Form nilP := ⟨Int.le_refl _, Int.le_refl _, rfl, rfl⟩
theorem Form.run_ {x t : Int} (h : 1 ≤ t) : Form (runP x t) := by
  unfold G.runP
  by_cases c : t = 1
  · rw [if_pos c]
    exact ⟨Int.le_refl _, Int.le_refl _, by show (0 : Int) < 1; decide, by show (0 : Int) < 1; decide, Int.le_refl _, by show (1 : Int) ≤ 1 + 0; decide, (fun p e => by cases e), .inr (by show (1 : Int) ≤ 0 + 0 + 1; decide), (fun _ => ⟨rfl, rfl⟩), rfl, rfl⟩
  · rw [if_neg c]
    refine ⟨Int.le_refl _, Int.le_refl _, by show (0 : Int) < 1; omega, by show (0 : Int) < 1; omega, Int.le_refl _, by show (1 : Int) ≤ 1 + 0; omega, (fun p e => by cases e), .inr (by show (1 : Int) ≤ 0 + 0 + 1; omega), (fun _ => ⟨rfl, rfl⟩), ?_, ?_, Int.le_refl _, ?_, (fun p e => by cases e; exact Int.le_refl _), .inl rfl, (fun e => by cases e), rfl, rfl⟩
    · show (1 : Int) < t; omega
    · show (1 : Int) < t; omega
    · show t ≤ t + 0; omega
theorem runP_size (x t : Int) : (runP x t).a = t := by
  unfold runP
  by_cases c : t = 1
  · rw [if_pos c]; exact c.symm
  · rw [if_neg c]
theorem runP_len (x t : Int) : (runP x t).d.length ≤ 2 := by
  unfold runP
  split
  · exact (show 1 ≤ 2 by decide)
  · exact Nat.le_refl 2
end G
/-! GOl: lists of things that are owned each; places in them. -/
namespace G
open PySem L2
/-- items, each with its own cells -/
def OwnAll {α : Type} [Enc α] [Own α] (K : Fg) (Z H : Hp) : List V → List α → Fp → Prop
  | [], [], fp => ∀ a, ¬ fp a
  | v :: vs, x :: xs, fp => ∃ f1 f2 : Fp, Own.own K Z H v x f1 ∧ OwnAll K Z H vs xs f2 ∧ (∀ a, fp a ↔ f1 a ∨ f2 a) ∧ ∀ a, f1 a → ¬ f2 a
  | _, _, _ => False
section
variable {α : Type} [Enc α] [Own α] {K : Fg} {Z H Z' H' : Hp}
theorem OwnAll.omono (s : Same Z Z') : ∀ {vs : List V} {xs : List α} {fp : Fp}, (∀ a, fp a → H' a = H a) → OwnAll K Z H vs xs fp → OwnAll K Z' H' vs xs fp
  | [], [], _, _, h => h
  | _ :: _, _ :: _, _, g, ⟨f1, f2, h1, h2, h3, h4⟩ => ⟨f1, f2, Own.omono s (fun a q => g a ((h3 a).mpr (.inl q))) h1, OwnAll.omono s (fun a q => g a ((h3 a).mpr (.inr q))) h2, h3, h4⟩
  | [], _ :: _, _, _, h => h.elim
  | _ :: _, [], _, _, h => h.elim
theorem OwnAll.odom : ∀ {vs : List V} {xs : List α} {fp : Fp} {a : Addr}, OwnAll K Z H vs xs fp → fp a → ∃ u, H a = some u ∧ ∀ ys, u ≠ .tup ys
  | [], [], _, _, h, f => absurd f (h _)
  | _ :: _, _ :: _, _, _, ⟨f1, f2, h1, h2, h3, h4⟩, f => by
    rcases (h3 _).mp f with q | q
    · exact Own.odom h1 q
    · exact OwnAll.odom h2 q
  | [], _ :: _, _, _, h, _ => h.elim
  | _ :: _, [], _, _, h, _ => h.elim
theorem OwnAll.froz (s : Same Z Z') : ∀ {vs : List V} {xs : List α} {fp : Fp}, OwnAll K Z H vs xs fp → (∀ a, fp a → Z' a = H a) → All2 (Enc.rel K Z') vs xs
  | [], [], _, _, _ => trivial
  | _ :: _, _ :: _, _, ⟨f1, f2, h1, h2, h3, h4⟩, g => ⟨Own.froz h1 s (fun a q => g a ((h3 a).mpr (.inl q))), OwnAll.froz s h2 (fun a q => g a ((h3 a).mpr (.inr q)))⟩
  | [], _ :: _, _, h, _ => h.elim
  | _ :: _, [], _, h, _ => h.elim
theorem OwnAll.len : ∀ {vs : List V} {xs : List α} {fp : Fp}, OwnAll K Z H vs xs fp → vs.length = xs.length
  | [], [], _, _ => rfl
  | _ :: _, _ :: _, _, ⟨_, _, _, h2, _⟩ => congrArg (· + 1) (OwnAll.len h2)
  | [], _ :: _, _, h => h.elim
  | _ :: _, [], _, h => h.elim
/-- one of them is looked at: fr is what the others have -/
theorem OwnAll.focus : ∀ {vs : List V} {xs : List α} {fp : Fp} {i : Nat} {x : α}, OwnAll K Z H vs xs fp → xs[i]? = some x → ∃ (v : V) (f1 fr : Fp), vs[i]? = some v ∧ Own.own K Z H v x f1 ∧ (∀ a, fp a ↔ f1 a ∨ fr a) ∧ (∀ a, f1 a → ¬ fr a) ∧ (∀ a, fr a → ∃ u, H a = some u ∧ ∀ ys, u ≠ .tup ys) ∧
    ∀ (Z' H' : Hp) (w : V) (y : α) (f2 : Fp), Same Z Z' → (∀ a, fr a → H' a = H a) → Own.own K Z' H' w y f2 → (∀ a, f2 a → ¬ fr a) → OwnAll K Z' H' (vs.set i w) (xs.set i y) (fun a => f2 a ∨ fr a)
  | [], [], _, _, _, _, e => by simp at e
  | [], _ :: _, _, _, _, h, _ => h.elim
  | _ :: _, [], _, _, _, h, _ => h.elim
  | v :: vs, x :: xs, fp, 0, z, ⟨f1, f2, h1, h2, h3, h4⟩, e => by
    cases (show some x = some z from e)
    exact ⟨v, f1, f2, rfl, h1, h3, h4, fun a q => OwnAll.odom h2 q, fun Z' H' w y g s k o d => ⟨g, f2, o, OwnAll.omono s k h2, fun _ => Iff.rfl, d⟩⟩
  | v :: vs, x :: xs, fp, i + 1, z, ⟨f1, f2, h1, h2, h3, h4⟩, e => by
    obtain ⟨w, g1, gr, e1, o1, i1, d1, m1, k1⟩ := OwnAll.focus (i := i) h2 e
    refine ⟨w, g1, fun a => f1 a ∨ gr a, e1, o1, fun a => ?_, fun a q r => ?_, fun a q => ?_, fun Z' H' w' y g s k o d => ?_⟩
    · rw [h3 a, i1 a]
      exact ⟨fun q => by rcases q with q | q | q <;> simp [q], fun q => by rcases q with q | q | q <;> simp [q]⟩
    · rcases r with r | r
      · exact h4 a r ((i1 a).mpr (.inl q))
      · exact d1 a q r
    · rcases q with q | q
      · exact Own.odom h1 q
      · exact m1 a q
    · refine ⟨f1, fun a => g a ∨ gr a, Own.omono s (fun a q => k a (.inl q)) h1, k1 Z' H' w' y g s (fun a q => k a (.inr q)) o (fun a q r => d a q (.inr r)), fun a => ?_, fun a q r => ?_⟩
      · exact ⟨fun q => by rcases q with q | q | q <;> simp [q], fun q => by rcases q with q | q | q <;> simp [q]⟩
      · rcases r with r | r
        · exact d a r (.inl q)
        · exact h4 a q ((i1 a).mpr (.inr r))
end
/-- a list whose items are owned each -/
structure Ol (α : Type) where
  xs : List α
  deriving DecidableEq
instance {α : Type} [Enc α] : Enc (Ol α) := ⟨fun K Z v x => Enc.rel K Z v x.xs, fun s h => Enc.mono s h⟩
instance {α : Type} [Enc α] [Own α] : Own (Ol α) where
  own K Z H v x fp := ∃ (l : Addr) (vs : List V) (fe : Fp), v = .ref l ∧ H l = some (.lst vs) ∧ OwnAll K Z H vs x.xs fe ∧ (∀ a, fp a ↔ a = l ∨ fe a) ∧ ¬ fe l
  omono := fun s g ⟨l, vs, fe, e, h, o, hc, hd⟩ => ⟨l, vs, fe, e, (g l ((hc l).mpr (.inl rfl))).trans h, OwnAll.omono s (fun a q => g a ((hc a).mpr (.inr q))) o, hc, hd⟩
  odom := fun ⟨l, vs, fe, e, h, o, hc, hd⟩ f => by
    rcases (hc _).mp f with q | q
    · subst q
      exact ⟨_, h, fun ys z => by cases z⟩
    · exact OwnAll.odom o q
  froz := fun ⟨l, vs, fe, e, h, o, hc, hd⟩ s g => ⟨l, .lst vs, e, (g l ((hc l).mpr (.inl rfl))).trans h, vs, rfl, OwnAll.froz s o (fun a q => g a ((hc a).mpr (.inr q)))⟩
def Ol.put {α : Type} (x : Ol α) (i : Int) (y : α) : Ol α := ⟨x.xs.set ((ixN x.xs.length i).getD 0) y⟩
section
variable {X : Cx} {Γ : List Ent} {e a b c : Expr} {es : List Expr} {pos pos2 apos p : Pos} {α β γ δ C : Type} [Enc α] [Own α]
/-- read as a list -/
theorem px_ol {m : Option (Ol α)} (h : PX X e Γ m) : PX X e Γ (m.map Ol.xs) := .mk fun F σ H Z en x hx Q q => by
  obtain ⟨y, hy, rfl⟩ := Option.map_eq_some_iff.mp hx
  exact h.run F σ H Z en y hy Q q
theorem px_toOl {m : Option (List α)} (h : PX X e Γ m) : PX X e Γ (m.map Ol.mk) := .mk fun F σ H Z en x hx Q q => by
  obtain ⟨y, hy, rfl⟩ := Option.map_eq_some_iff.mp hx
  exact h.run F σ H Z en y hy Q q
theorem list_set_self {γ : Type} {l : List γ} {i : Nat} {v : γ} (h : l[i]? = some v) : l.set i v = l := by
  obtain ⟨hl, e⟩ := List.getElem?_eq_some_iff.mp h
  rw [← e]; exact List.set_getElem_self hl
/-- a place in such a list -/
theorem pr_olix {x : Ol α} {T : Ol α → List Ent} {mi : Option Int} {i : Int} {y : α} (h : PR X a Γ (some x) T) (hi : PX X b Γ mi) (ei : mi = some i) (ey : atI x.xs i = some y) (hpl : PlainIx b := by intro _ _; rfl) : PR X (.Subscript a b pos) Γ (some y) (fun z => T (x.put i z)) := .mk fun F σ H Z en z hz Q q pins s I => by
  cases hz
  refine (pe_ix ix_list pe_w pe_w hpl).run pins s σ H Q I ?_
  refine h.run F σ H Z en x rfl _ fun H1 Z1 v fp s1 A => hi.run F σ H1 Z1 (en.step s1) i ei _ fun H2 Z2 w s2 r2 => ?_
  have A2 := A.step s2
  obtain ⟨l, vs, fe, e, hl, o, hc, hd⟩ := A2.own
  subst e
  obtain ⟨j, ej, ey2⟩ := Option.bind_eq_some_iff.mp ey
  obtain ⟨v1, f1, fr, ev, o1, i1, d1, m1, k1⟩ := o.focus ey2
  have eput : ∀ z, x.put i z = ⟨x.xs.set j z⟩ := fun z => by unfold Ol.put; rw [ej]; rfl
  refine ⟨l, vs, i, v1, rfl, r2, SqL.of hl, by unfold atI; rw [o.len, ej]; exact ev, q H2 Z2 v1 f1 (s1.trans s2) ⟨o1, A2.zh, fun a q => A2.out a ((hc a).mpr (.inr ((i1 a).mpr (.inl q)))), fun H3 Z3 z fp2 g o2 => ?_⟩⟩
  rw [eput z]
  have nl : ∀ a, fr a → ¬ fp2 a := fun a r f => by
    obtain ⟨u, hu, _⟩ := m1 a r
    rcases (g.out a f).1 with q | q
    · exact d1 a q r
    · rw [q] at hu; cases hu
  have nf : ¬ f1 l := fun q => hd ((i1 l).mpr (.inl q))
  have nf2 : ¬ fp2 l := fun f => by
    rcases (g.out l f).1 with q | q
    · exact nf q
    · rw [q] at hl; cases hl
  have keep : ∀ a, fr a → H3 a = H2 a := fun a r => by
    obtain ⟨u, hu, _⟩ := m1 a r
    rw [hu]; exact g.hh a u hu (fun q => d1 a q r)
  refine A2.put H3 Z3 _ (fun a => a = l ∨ fp2 a ∨ fr a) ⟨fun a u hu n => g.hh a u hu (fun q => n ((hc a).mpr (.inr ((i1 a).mpr (.inl q))))), g.zz, g.zh, fun a u hu n => g.old a u hu (fun q => n ((hc a).mpr (.inr ((i1 a).mpr (.inl q))))), fun a f => ?_⟩ ⟨l, vs, fun a => fp2 a ∨ fr a, rfl, g.hh l _ hl nf, ?_, fun _ => Iff.rfl, fun f => ?_⟩
  · rcases f with q | q | q
    · subst q
      exact ⟨.inl ((hc a).mpr (.inl rfl)), (g.old a _ hl nf).trans (A2.out a ((hc a).mpr (.inl rfl))).2⟩
    · refine ⟨?_, (g.out a q).2⟩
      rcases (g.out a q).1 with q | q
      · exact .inl ((hc a).mpr (.inr ((i1 a).mpr (.inl q))))
      · exact .inr q
    · obtain ⟨u, hu, _⟩ := m1 a q
      exact ⟨.inl ((hc a).mpr (.inr ((i1 a).mpr (.inr q)))), (g.old a u hu (fun q2 => d1 a q2 q)).trans (A2.out a ((hc a).mpr (.inr ((i1 a).mpr (.inr q))))).2⟩
  · have := k1 Z3 H3 v1 z fp2 g.zz keep o2 (fun a q r => nl a r q)
    rw [list_set_self ev] at this
    exact this
  · rcases f with q | q
    · exact nf2 q
    · exact hd ((i1 l).mpr (.inr q))
/-- new things, written one behind another -/
structure PHO (X : Cx) (es : List Expr) (Γ : List Ent) {α : Type} [Enc α] [Own α] (m : Option (List α)) : Prop where
  run : ∀ (F : Frame) (σ : St) (H Z : Hp), EnvOk X.K F σ H Z Γ → ∀ x, m = some x → ∀ Q : List V → Hp → Prop, (∀ H' Z' vs fp, Step H Z H' Z' → OwnAll X.K Z' H' vs x fp → (∀ a, fp a → H a = none ∧ Z' a = none) → Q vs H') → wA X es σ H Q
theorem pho_nil : PHO X [] Γ (α := α) (some []) := .mk fun F σ H Z en x hx Q q pos pins s I => pa_nil.run pos pins s σ H Q I (by cases hx; exact q H Z [] Fp.no (Step.refl en.zh) (fun _ f => f) (fun _ f => f.elim))
theorem pho_cons {m : Option α} {ms : Option (List α)} (ha : PNO X e Γ m) (hr : PHO X es Γ ms) (hs : starEach (e :: es) X.env = (false, eval e X.env) :: starEach es X.env := by rfl) : PHO X (e :: es) Γ (oCons m ms) :=
  .mk fun F σ H Z en x hx Q q pos pins s I => (pa_cons pe_w pa_w hs).run pos pins s σ H Q I (by
    obtain ⟨y, hy, hx⟩ := Option.bind_eq_some_iff.mp hx
    obtain ⟨ys, hys, hx⟩ := Option.bind_eq_some_iff.mp hx
    cases hx
    refine ha.run F σ H Z en y hy _ fun H1 Z1 v f1 n1 => hr.run F σ H1 Z1 (en.step n1.st) ys hys _ fun H2 Z2 vs f2 s2 o2 out2 => ?_
    have n2 := n1.step s2
    refine q H2 Z2 (v :: vs) (fun a => f1 a ∨ f2 a) (n1.st.trans s2) ⟨f1, f2, n2.own, o2, fun _ => Iff.rfl, fun a q1 q2 => ?_⟩ fun a f => ?_
    · obtain ⟨u, hu, _⟩ := Own.odom n1.own q1
      rw [(out2 a q2).1] at hu; cases hu
    · rcases f with f | f
      · exact n2.out a f
      · exact ⟨n1.st.hh.free (out2 a f).1, (out2 a f).2⟩)
theorem pno_ol {m : Option (List α)} (h : PHO X es Γ m) (hz : ∀ xs, m = some xs → xs.length ≤ sizeLine) : PNO X (.List es pos) Γ (m.map Ol.mk) := .mk fun F σ H Z en x hx Q q pins s I => (pe_lst pa_w).run pins s σ H Q I (by
  obtain ⟨ys, hys, rfl⟩ := Option.map_eq_some_iff.mp hx
  refine h.run F σ H Z en ys hys _ fun H1 Z1 vs fp s1 o1 out1 => ⟨by rw [o1.len]; exact hz ys hys, fun p hp => ?_⟩
  have np : ¬ fp p := fun f => by obtain ⟨u, hu, _⟩ := o1.odom f; rw [hp] at hu; cases hu
  have s2 := Step.newH (o := .lst vs) s1.zh hp
  refine q _ Z1 (.ref p) (fun a => a = p ∨ fp a) ⟨s1.trans s2, ⟨p, vs, fp, rfl, upd_same, OwnAll.omono (Same.refl _) (fun a f => upd_ne (fun e => np (e ▸ f))) o1, fun _ => Iff.rfl, np⟩, fun a f => ?_⟩
  rcases f with f | f
  · subst f
    exact ⟨s1.hh.free hp, s1.zh.free hp⟩
  · exact out1 a f)
end
end G
/-! GMin: tuple + tuple of two each; the least of a tuple of four. -/
namespace G
open PySem L2
theorem readsAll_of {h : Heap} : ∀ {ns : List Int} {us : List Value}, Vals (ns.map V.int) us → PySem.ReadsAll h us (ns.map PyData.int) []
  | [], us, r => by cases r; exact .nil
  | n :: ns, us, r => by
    cases r with
    | cons r1 r2 =>
      obtain ⟨t, rfl⟩ := r1
      exact .cons (as := []) (bs := []) (.int n t) (readsAll_of r2)
theorem depthAll_ints : ∀ ns : List Int, PyData.depthAll (ns.map PyData.int) = 0
  | [] => rfl
  | n :: ns => by
    show max (PyData.depth (PyData.int n)) (PyData.depthAll (ns.map PyData.int)) = 0
    rw [depthAll_ints ns]
    rfl
def rMinT (K : Fg) : List V → Hp → VK → Prop := fun vs H Q => ∃ (a : Addr) (n : Int) (ns : List Int), vs = [V.ref a] ∧ SqT K H a ((n :: ns).map V.int) ∧ Q (.int (ns.foldl min n)) H
theorem cr_minT {X : Cx} (hc : X.calm = true) (hu : X.A.units + 64 < cLine) : CallR X (.builtin "min") (rMinT X.K) := by
  intro pins s σ H vs us Q I r h
  obtain ⟨a, n, ns, rfl, hs, q⟩ := h
  obtain ⟨its, rv, hl, _⟩ := I.tuple hs
  rw [Vals.ref1 r]
  refine PySem.W.min_tuple_data (x := .int n) (xs := ns.map PyData.int) (as := []) (I.ok.hd hc) hl (readsAll_of (ns := n :: ns) rv) ⟨?_, ?_⟩ (by rw [show PyData.int n :: ns.map PyData.int = (n :: ns).map PyData.int from rfl, depthAll_ints]; omega) fun i v h' tk bs _ rd hk => ?_
  · intro x hx y hy
    rw [show PyData.int n :: ns.map PyData.int = (n :: ns).map PyData.int from rfl] at hx hy
    obtain ⟨i, _, rfl⟩ := List.mem_map.mp hx
    obtain ⟨j, _, rfl⟩ := List.mem_map.mp hy
    rfl
  · intro x hx
    rw [show PyData.int n :: ns.map PyData.int = (n :: ns).map PyData.int from rfl] at hx
    obtain ⟨i, _, rfl⟩ := List.mem_map.mp hx
    intro z; cases z
  · rw [PySem.W.minD_ints] at rd
    cases rd with
    | int m t => exact ⟨.int _, H, I.kept hk, ⟨_, rfl⟩, q⟩
section
variable {X : Cx} {Γ : List Ent} {e a b : Expr} {pos p : Pos} {α β γ δ : Type} [Enc α] [Enc β] [Enc γ] [Enc δ]
def oCat22 {α β γ δ : Type} (m : Option (P2 α β)) (n : Option (P2 γ δ)) : Option (P4 α β γ δ) := m.bind fun x => n.bind fun y => some ⟨x.a, x.b, y.a, y.b⟩
theorem px_cat22 {m : Option (P2 α β)} {n : Option (P2 γ δ)} (ha : PX X a Γ m) (hb : PX X b Γ n) : PX X (.BinOp a .Add b pos) Γ (oCat22 m n) := px_of (pe_op op_catA pe_w pe_w) fun F σ H Z en x hx Q q => by
  obtain ⟨y, hy, hx1⟩ := Option.bind_eq_some_iff.mp hx
  obtain ⟨z, hz, hx2⟩ := Option.bind_eq_some_iff.mp hx1
  cases hx2
  refine ha.run F σ H Z en y hy _ fun H1 Z1 v s1 r1 => hb.run F σ H1 Z1 (en.step s1) z hz _ fun H2 Z2 w s2 r2 => ?_
  obtain ⟨p1, v1, v2, e1, h1, q1, q2⟩ := Enc.mono s2.zz r1
  obtain ⟨p2, w1, w2, e2, h2, q3, q4⟩ := r2
  refine ⟨p1, p2, [v1, v2], [w1, w2], e1, e2, SqT.of (s2.zh _ _ h1), SqT.of (s2.zh _ _ h2), by show 4 ≤ sizeLine; decide, (fun h => by cases h), (fun _ h => by cases h), fun _ _ r hr => ?_⟩
  have s4 := Step.new (o := .tup [v1, v2, w1, w2]) s2.zh hr
  exact q _ _ _ ((s1.trans s2).trans s4) ⟨r, v1, v2, w1, w2, rfl, upd_same, Enc.mono s4.zz q1, Enc.mono s4.zz q2, Enc.mono s4.zz q3, Enc.mono s4.zz q4⟩
def min4 (x : P4 Int Int Int Int) : Int := min (min (min x.a x.b) x.c) x.d
theorem px_min4 {m : Option (P4 Int Int Int Int)} (hm : X.mg "min" = none) (hc : X.calm = true) (hu : X.A.units + 64 < cLine) (ha : PX X a Γ m) (hg : Gl X "min" := by rfl) (hs : starEach [a] X.env = [(false, eval a X.env)] := by rfl) : PX X (.Call (.Name "min" p) [a] [] pos) Γ (m.map min4) :=
  px_of (pe_callB (cr_minT hc hu) hg hm (by decide +kernel) (pa_cons pe_w pa_nil (by rw [hs]; rfl)) (he := by rw [hs]; rfl) (hpl := rfl)) fun F σ H Z en x hx Q q => by
    obtain ⟨y, hy, rfl⟩ := Option.map_eq_some_iff.mp hx
    refine ha.run F σ H Z en y hy _ fun H1 Z1 v s1 ⟨t, v1, v2, v3, v4, e, h, q1, q2, q3, q4⟩ => ?_
    cases (show v1 = V.int y.a from q1)
    cases (show v2 = V.int y.b from q2)
    cases (show v3 = V.int y.c from q3)
    cases (show v4 = V.int y.d from q4)
    subst e
    exact ⟨t, y.a, [y.b, y.c, y.d], rfl, SqT.of (s1.zh _ _ h), q H1 Z1 _ s1 rfl⟩
end
end G
/-! GRef: arguments that a def changes where they lie. -/
namespace G
open PySem L2
/-- an argument that the def may change -/
structure Br (C : Type) where
  val : C
/-- the values of the names at the places is -/
def ValsAt (σ : St) : List Nat → List V → Prop
  | [], [] => True
  | i :: is, v :: bs => σ[i]? = some (some v) ∧ ValsAt σ is bs
  | _, _ => False
def setOw {C : Type} [Enc C] [Own C] (i : Nat) (c : C) (Γ : List Ent) : List Ent := match Γ[i]? with
  | some (@Ent.ow _ _ _ bv _) => Γ.set i (.ow bv c)
  | _ => Γ
theorem setOw_eq {C D : Type} [Enc C] [Own C] [Enc D] [Own D] {i : Nat} {c : C} {d : D} {bv : Option Nat} {Γ : List Ent} (h : Γ[i]? = some (.ow bv d)) : setOw i c Γ = Γ.set i (.ow bv c) := by unfold setOw; rw [h]
/-- what is lent, by the order of the arguments -/
class OwnB (B : Type) where
  own : Fg → Hp → Hp → List V → B → Fp → Prop
  omono : ∀ {K : Fg} {Z Z' H H' : Hp} {bs : List V} {b : B} {fp : Fp}, Same Z Z' → (∀ a, fp a → H' a = H a) → own K Z H bs b fp → own K Z' H' bs b fp
  odom : ∀ {K : Fg} {Z H : Hp} {bs : List V} {b : B} {fp : Fp} {a : Addr}, own K Z H bs b fp → fp a → ∃ u, H a = some u ∧ ∀ xs, u ≠ .tup xs
  blen0 : Nat
  blen : ∀ {K : Fg} {Z H : Hp} {bs : List V} {b : B} {fp : Fp}, own K Z H bs b fp → bs.length = blen0
  ins : List Nat → B → List Ent → Prop
  outs : Nat → List Nat → B → List Ent → Prop
  put : List Nat → B → List Ent → List Ent
  oin : ∀ {k : Nat} {is : List Nat} {b : B} {Γ : List Ent}, outs k is b Γ → ins is b Γ
  ovals : ∀ {k : Nat} {is : List Nat} {b : B} {Γ : List Ent} {K : Fg} {F : Frame} {σ : St} {H Z : Hp} {fp : Nat → Fp}, outs k is b Γ → (∀ (i : Nat) (e : Ent), Γ[i]? = some e → ∃ o, σ[i]? = some o ∧ EntOk K F H Z o (fp i) e) → ∃ bs r, F.bs.drop k = bs ++ r ∧ ValsAt σ is bs
  gather : ∀ {is : List Nat} {b : B} {Γ : List Ent} {K : Fg} {F : Frame} {σ : St} {H Z : Hp} {fp : Nat → Fp} {bs : List V}, ins is b Γ → is.Nodup → (∀ (i : Nat) (e : Ent), Γ[i]? = some e → ∃ o, σ[i]? = some o ∧ EntOk K F H Z o (fp i) e) → (∀ i j a, i ≠ j → fp i a → ¬ fp j a) → ValsAt σ is bs → own K Z H bs b (fun a => ∃ i, i ∈ is ∧ fp i a)
  plen : ∀ (is : List Nat) (b : B) (Γ : List Ent), (put is b Γ).length = Γ.length
  pout : ∀ (is : List Nat) (b : B) (Γ : List Ent) (j : Nat), j ∉ is → (put is b Γ)[j]? = Γ[j]?
  scatter : ∀ {is : List Nat} {b b' : B} {Γ : List Ent} {K : Fg} {F : Frame} {σ : St} {H Z H' Z' : Hp} {fp : Nat → Fp} {bs : List V} {fp' : Fp}, ins is b Γ → is.Nodup → (∀ (i : Nat) (e : Ent), Γ[i]? = some e → ∃ o, σ[i]? = some o ∧ EntOk K F H Z o (fp i) e) → ValsAt σ is bs → own K Z' H' bs b' fp' → (∀ a, fp' a → F.H0 a = none ∧ Z' a = none) →
    ∃ g : Nat → Fp, (∀ i a, i ∈ is → g i a → fp' a) ∧ (∀ i j a, i ∈ is → j ∈ is → i ≠ j → g i a → ¬ g j a) ∧ ∀ i, i ∈ is → ∀ t, (put is b' Γ)[i]? = some t → ∃ o, σ[i]? = some o ∧ EntOk K F H' Z' o (g i) t
instance : OwnB Unit where
  own _ _ _ bs _ fp := bs = [] ∧ ∀ a, ¬ fp a
  omono := fun _ _ h => h
  odom := fun h f => absurd f (h.2 _)
  blen0 := 0
  blen := fun h => by rw [h.1]; rfl
  ins is _ _ := is = []
  outs _ is _ _ := is = []
  put _ _ Γ := Γ
  oin := fun h => h
  ovals := fun {k is b Γ K F σ H Z fp} h _ => ⟨[], F.bs.drop k, rfl, by subst h; trivial⟩
  gather := fun {is b Γ K F σ H Z fp bs} h _ _ _ hv => ⟨by subst h; cases bs with | nil => rfl | cons v r => exact hv.elim, fun a ⟨i, hi, _⟩ => by subst h; cases hi⟩
  plen := fun _ _ _ => rfl
  pout := fun _ _ _ _ _ => rfl
  scatter := fun {is b b' Γ K F σ H Z H' Z' fp bs fp'} h _ _ _ _ _ => ⟨fun _ => Fp.no, fun i a hi => (by subst h; cases hi), fun i j a hi => (by subst h; cases hi), fun i hi => (by subst h; cases hi)⟩
instance {C B : Type} [Enc C] [Own C] [OwnB B] : OwnB (C × B) where
  own K Z H bs b fp := ∃ (v : V) (r : List V) (f1 f2 : Fp), bs = v :: r ∧ Own.own K Z H v b.1 f1 ∧ OwnB.own K Z H r b.2 f2 ∧ (∀ a, fp a ↔ f1 a ∨ f2 a) ∧ ∀ a, f1 a → ¬ f2 a
  omono := fun s g ⟨v, r, f1, f2, e, h1, h2, h3, h4⟩ => ⟨v, r, f1, f2, e, Own.omono s (fun a q => g a ((h3 a).mpr (.inl q))) h1, OwnB.omono s (fun a q => g a ((h3 a).mpr (.inr q))) h2, h3, h4⟩
  odom := fun ⟨v, r, f1, f2, e, h1, h2, h3, h4⟩ f => by
    rcases (h3 _).mp f with q | q
    · exact Own.odom h1 q
    · exact OwnB.odom h2 q
  blen0 := OwnB.blen0 B + 1
  blen := fun ⟨v, r, f1, f2, e, h1, h2, h3, h4⟩ => by rw [e]; exact congrArg (· + 1) (OwnB.blen h2)
  ins is b Γ := ∃ i r, is = i :: r ∧ (∃ bv, Γ[i]? = some (.ow bv b.1)) ∧ OwnB.ins r b.2 Γ
  outs k is b Γ := ∃ i r, is = i :: r ∧ Γ[i]? = some (.ow (some k) b.1) ∧ OwnB.outs (k + 1) r b.2 Γ
  put is b Γ := match is with
    | [] => Γ
    | i :: r => setOw i b.1 (OwnB.put r b.2 Γ)
  oin := fun ⟨i, r, e, h1, h2⟩ => ⟨i, r, e, ⟨_, h1⟩, OwnB.oin h2⟩
  ovals := fun {k is b Γ K F σ H Z fp} ⟨i, r, e, h1, h2⟩ en => by
    subst e
    obtain ⟨o, ho, v, e1, hb, _⟩ := en i _ h1
    obtain ⟨bs, t, h3, h4⟩ := OwnB.ovals h2 en
    have hk := hb k rfl
    refine ⟨v :: bs, t, ?_, by rw [ho, e1], h4⟩
    obtain ⟨hl, ev⟩ := List.getElem?_eq_some_iff.mp hk
    rw [List.drop_eq_getElem_cons hl, ev, h3]
    rfl
  gather := fun {is b Γ K F σ H Z fp bs} ⟨i, r, e, ⟨bv, h1⟩, h2⟩ nd en hd hv => by
    subst e
    obtain ⟨n1, n2⟩ := List.nodup_cons.mp nd
    cases bs with
    | nil => exact hv.elim
    | cons v bs =>
      obtain ⟨v1, v2⟩ := hv
      obtain ⟨o, ho, w, e1, hb, ow, _⟩ := en i _ h1
      rw [v1] at ho
      cases ho
      cases e1
      refine ⟨v, bs, fp i, fun a => ∃ j, j ∈ r ∧ fp j a, rfl, ow, OwnB.gather h2 n2 en hd v2, fun a => ⟨fun ⟨j, hj, f⟩ => ?_, fun f => ?_⟩, fun a f ⟨j, hj, f2⟩ => hd i j a (fun e => n1 (e ▸ hj)) f f2⟩
      · rcases List.mem_cons.mp hj with e | hj
        · subst e; exact .inl f
        · exact .inr ⟨j, hj, f⟩
      · rcases f with f | ⟨j, hj, f⟩
        · exact ⟨i, List.mem_cons_self, f⟩
        · exact ⟨j, List.mem_cons_of_mem _ hj, f⟩
  plen := fun is b Γ => by
    cases is with
    | nil => rfl
    | cons i r =>
      show (setOw i b.1 (OwnB.put r b.2 Γ)).length = _
      unfold setOw
      have := OwnB.plen r b.2 Γ
      split
      · rw [List.length_set]; exact this
      · exact this
  pout := fun is b Γ j hj => by
    cases is with
    | nil => rfl
    | cons i r =>
      show (setOw i b.1 (OwnB.put r b.2 Γ))[j]? = _
      have h2 : j ∉ r := fun q => hj (List.mem_cons_of_mem _ q)
      have h3 : i ≠ j := fun q => hj (by rw [q]; exact List.mem_cons_self)
      have := OwnB.pout r b.2 Γ j h2
      unfold setOw
      split
      · rw [List.getElem?_set_ne h3]; exact this
      · exact this
  scatter := fun {is b b' Γ K F σ H Z H' Z' fp bs fp'} ⟨i, r, e, ⟨bv, h1⟩, h2⟩ nd en hv ow out => by
    subst e
    obtain ⟨n1, n2⟩ := List.nodup_cons.mp nd
    cases bs with
    | nil => exact hv.elim
    | cons v bs =>
      obtain ⟨v1, v2⟩ := hv
      obtain ⟨w, t, f1, f2, e, o1, o2, o3, o4⟩ := ow
      cases e
      obtain ⟨g, g1, g2, g3⟩ := OwnB.scatter (b' := b'.2) h2 n2 en v2 o2 (fun a f => out a ((o3 a).mpr (.inr f)))
      have hi : (OwnB.put r b'.2 Γ)[i]? = some (.ow bv b.1) := by rw [OwnB.pout r b'.2 Γ i n1]; exact h1
      refine ⟨fun j => if j = i then f1 else g j, fun j a hj f => ?_, fun j k a hj hk hjk f f' => ?_, fun j hj t ht => ?_⟩
      · dsimp only at f
        by_cases c : j = i
        · rw [if_pos c] at f; exact (o3 a).mpr (.inl f)
        · rw [if_neg c] at f
          rcases List.mem_cons.mp hj with e | hj
          · exact absurd e c
          · exact (o3 a).mpr (.inr (g1 j a hj f))
      · dsimp only at f f'
        by_cases c : j = i
        · rw [if_pos c] at f
          have c2 : k ≠ i := fun e => hjk (c.trans e.symm)
          rw [if_neg c2] at f'
          rcases List.mem_cons.mp hk with e | hk
          · exact c2 e
          · exact o4 a f (g1 k a hk f')
        · rw [if_neg c] at f
          rcases List.mem_cons.mp hj with e | hj
          · exact c e
          · by_cases c2 : k = i
            · rw [if_pos c2] at f'
              exact o4 a f' (g1 j a hj f)
            · rw [if_neg c2] at f'
              rcases List.mem_cons.mp hk with e | hk
              · exact c2 e
              · exact g2 j k a hj hk hjk f f'
      · have ht : (setOw i b'.1 (OwnB.put r b'.2 Γ))[j]? = some t := ht
        rw [setOw_eq hi] at ht
        dsimp only
        rcases getElem?_set_cases ht with ⟨rfl, rfl⟩ | ⟨c, ht⟩
        · rw [if_pos rfl]
          obtain ⟨o, ho, w', e1, hb, _, _⟩ := en j _ h1
          rw [v1] at ho
          cases ho
          cases e1
          exact ⟨_, v1, v, rfl, hb, o1, fun a f => out a ((o3 a).mpr (.inl f))⟩
        · rw [if_neg c]
          rcases List.mem_cons.mp hj with e | hj
          · exact absurd e c
          · exact g3 j hj t ht
theorem EnvOk.focusB {B : Type} [OwnB B] {K : Fg} {F : Frame} {σ : St} {H Z : Hp} {Γ : List Ent} (e : EnvOk K F σ H Z Γ) {is : List Nat} {b : B} {bs : List V} (hi : OwnB.ins is b Γ) (nd : is.Nodup) (hv : ValsAt σ is bs) : ∃ fp : Fp, OwnB.own K Z H bs b fp ∧ (∀ a, fp a → F.H0 a = none ∧ Z a = none) ∧
    ∀ (H' Z' : Hp) (b' : B) (fp' : Fp), Frm H Z H' Z' fp fp' → OwnB.own K Z' H' bs b' fp' → EnvOk K F σ H' Z' (OwnB.put is b' Γ) := by
  obtain ⟨fp, h, hd⟩ := e.ent
  have dom : ∀ i a, fp i a → i < Γ.length → F.H0 a = none ∧ Z a = none ∧ ∃ u, H a = some u ∧ ∀ xs, u ≠ .tup xs := fun i a f hl => by
    obtain ⟨o, _, q⟩ := h i Γ[i] (by simp [hl])
    exact q.dom f
  have ilt : ∀ {i : Nat}, i ∈ is → i < Γ.length := by
    have go : ∀ {is : List Nat} {bs : List V}, ValsAt σ is bs → ∀ {i : Nat}, i ∈ is → i < σ.length := fun {is} => by
      induction is with
      | nil => intro bs _ i hi; cases hi
      | cons j r ih =>
        intro bs hv i hi
        cases bs with
        | nil => exact hv.elim
        | cons v bs =>
          rcases List.mem_cons.mp hi with e | hi
          · rw [e]; exact (List.getElem?_eq_some_iff.mp hv.1).1
          · exact ih hv.2 hi
    intro i hi
    rw [← e.len]
    exact go hv hi
  refine ⟨fun a => ∃ i, i ∈ is ∧ fp i a, OwnB.gather hi nd h hd hv, fun a ⟨i, hi, f⟩ => ⟨(dom i a f (ilt hi)).1, (dom i a f (ilt hi)).2.1⟩, fun H' Z' b' fp' g ow => ?_⟩
  have nin : ∀ a u, F.H0 a = some u → ¬ ∃ i, i ∈ is ∧ fp i a := fun a u ha ⟨i, hi, f⟩ => by
    rw [(dom i a f (ilt hi)).1] at ha; cases ha
  have out : ∀ a, fp' a → F.H0 a = none ∧ Z' a = none := fun a f => by
    refine ⟨?_, (g.out a f).2⟩
    rcases (g.out a f).1 with ⟨i, hi, q⟩ | q
    · exact (dom i a q (ilt hi)).1
    · exact e.hh.free q
  obtain ⟨gp, g1, g2, g3⟩ := OwnB.scatter (b' := b') hi nd h hv ow out
  refine ⟨fun a u ha => g.hh a u (e.hh a u ha) (nin a u ha), e.zz.trans g.zz, g.zh, fun a u ha => (g.old a u (e.hh a u ha) (nin a u ha)).trans (e.old a u ha), by rw [OwnB.plen]; exact e.len, fun i => if i ∈ is then gp i else if i < Γ.length then fp i else Fp.no, fun i t ht => ?_, fun i j a hij f1 f2 => ?_⟩
  · dsimp only
    by_cases c : i ∈ is
    · rw [if_pos c]; exact g3 i c t ht
    · rw [if_neg c]
      rw [OwnB.pout is b' Γ i c] at ht
      obtain ⟨o, ho, q⟩ := h i t ht
      rw [if_pos (List.getElem?_eq_some_iff.mp ht).1]
      refine ⟨o, ho, q.mono g.zz (fun a f => ?_) fun a f => ?_⟩
      · obtain ⟨_, _, u, hu, _⟩ := q.dom f
        rw [hu]; exact g.hh a u hu (fun ⟨j, hj, f2⟩ => hd i j a (fun e => c (e ▸ hj)) f f2)
      · obtain ⟨_, _, u, hu, _⟩ := q.dom f
        exact g.old a u hu (fun ⟨j, hj, f2⟩ => hd i j a (fun e => c (e ▸ hj)) f f2)
  · dsimp only at f1 f2
    have aux : ∀ i j a, i ∈ is → j ∉ is → gp i a → ¬ (if j < Γ.length then fp j else Fp.no) a := fun i j a ci cj f f' => by
      by_cases jl : j < Γ.length
      · rw [if_pos jl] at f'
        rcases (g.out a (g1 i a ci f)).1 with ⟨k, hk, q⟩ | q
        · exact hd k j a (fun e => cj (e ▸ hk)) q f'
        · obtain ⟨_, _, u, hu, _⟩ := dom j a f' jl
          rw [q] at hu; cases hu
      · rw [if_neg jl] at f'; exact f'
    by_cases ci : i ∈ is
    · rw [if_pos ci] at f1
      by_cases cj : j ∈ is
      · rw [if_pos cj] at f2
        exact g2 i j a ci cj hij f1 f2
      · rw [if_neg cj] at f2
        exact aux i j a ci cj f1 f2
    · rw [if_neg ci] at f1
      by_cases cj : j ∈ is
      · rw [if_pos cj] at f2
        exact aux j i a cj ci f2 f1
      · rw [if_neg cj] at f2
        by_cases il : i < Γ.length
        · rw [if_pos il] at f1
          by_cases jl : j < Γ.length
          · rw [if_pos jl] at f2
            exact hd i j a hij f1 f2
          · rw [if_neg jl] at f2; exact f2
        · rw [if_neg il] at f1; exact f1
/-! ### arguments -/
class ArgB (A : Type) (B : outParam Type) [OwnB B] where
  rel : Fg → Hp → List V → List V → A → Prop
  brs : A → B
  n : Nat
  len : ∀ {K : Fg} {Z : Hp} {vs bs : List V} {x : A}, rel K Z vs bs x → vs.length = n
  mono : ∀ {K : Fg} {Z Z' : Hp} {vs bs : List V} {x : A}, Same Z Z' → rel K Z vs bs x → rel K Z' vs bs x
  ents : Nat → A → List Ent
  elen : ∀ (k : Nat) (x : A), (ents k x).length = n
  start : ∀ {K : Fg} {Z H : Hp} {vs bs : List V} {x : A} {fp : Fp} {F : Frame} {k : Nat}, rel K Z vs bs x → OwnB.own K Z H bs (brs x) fp → (∃ r, F.bs.drop k = bs ++ r) → (∀ a, fp a → F.H0 a = none ∧ Z a = none) →
    ∃ g : Nat → Fp, (∀ (i : Nat) (e : Ent), (ents k x)[i]? = some e → ∃ v, vs[i]? = some v ∧ EntOk K F H Z (some v) (g i) e) ∧ (∀ i a, g i a → fp a) ∧ ∀ i j a, i ≠ j → g i a → ¬ g j a
instance : ArgB Unit Unit where
  rel _ _ vs bs _ := vs = [] ∧ bs = []
  brs _ := ()
  n := 0
  len := fun ⟨h, _⟩ => by rw [h]; rfl
  mono := fun _ h => h
  ents _ _ := []
  elen _ _ := rfl
  start := fun _ _ _ _ => ⟨fun _ => Fp.no, (fun i e h => by simp at h), (fun _ _ f => f.elim), fun _ _ _ _ f => f.elim⟩
instance {α A B : Type} [Enc α] [OwnB B] [ArgB A B] : ArgB (α × A) B where
  rel K Z vs bs x := ∃ v r, vs = v :: r ∧ Enc.rel K Z v x.1 ∧ ArgB.rel K Z r bs x.2
  brs x := ArgB.brs x.2
  n := ArgB.n A + 1
  len := fun ⟨v, r, e, _, h⟩ => by rw [e]; exact congrArg (· + 1) (ArgB.len h)
  mono := fun s ⟨v, r, e, h1, h2⟩ => ⟨v, r, e, Enc.mono s h1, ArgB.mono s h2⟩
  ents k x := .fz x.1 :: ArgB.ents k x.2
  elen k x := congrArg (· + 1) (ArgB.elen k x.2)
  start := fun {K Z H vs bs x fp F k} ⟨v, r, e, h1, h2⟩ ow hb out => by
    subst e
    obtain ⟨g, g1, g2, g3⟩ := ArgB.start h2 ow hb out
    refine ⟨fun i => match i with | 0 => Fp.no | i + 1 => g i, fun i t ht => ?_, fun i a f => ?_, fun i j a hij f f' => ?_⟩
    · cases i with
      | zero => cases ht; exact ⟨v, rfl, ⟨v, rfl, h1⟩, fun _ f => f⟩
      | succ i => exact g1 i t ht
    · cases i with
      | zero => exact f.elim
      | succ i => exact g2 i a f
    · cases i with
      | zero => exact f.elim
      | succ i =>
        cases j with
        | zero => exact f'.elim
        | succ j => exact g3 i j a (fun e => hij (congrArg (· + 1) e)) f f'
instance {C A B : Type} [Enc C] [Own C] [OwnB B] [ArgB A B] : ArgB (Br C × A) (C × B) where
  rel K Z vs bs x := ∃ v r t, vs = v :: r ∧ bs = v :: t ∧ ArgB.rel K Z r t x.2
  brs x := (x.1.val, ArgB.brs x.2)
  n := ArgB.n A + 1
  len := fun ⟨v, r, t, e, _, h⟩ => by rw [e]; exact congrArg (· + 1) (ArgB.len h)
  mono := fun s ⟨v, r, t, e, e2, h2⟩ => ⟨v, r, t, e, e2, ArgB.mono s h2⟩
  ents k x := .ow (some k) x.1.val :: ArgB.ents (k + 1) x.2
  elen k x := congrArg (· + 1) (ArgB.elen (k + 1) x.2)
  start := fun {K Z H vs bs x fp F k} ⟨v, r, t, e, e2, h2⟩ ⟨w, t', f1, f2, e3, o1, o2, o3, o4⟩ ⟨rr, hb⟩ out => by
    subst e e2
    cases e3
    have hk : F.bs[k]? = some v := by
      have : (F.bs.drop k)[0]? = some v := by rw [hb]; rfl
      simpa using this
    have hb2 : F.bs.drop (k + 1) = t ++ rr := by
      have : (F.bs.drop k).drop 1 = t ++ rr := by rw [hb]; rfl
      rw [List.drop_drop] at this
      exact this
    obtain ⟨g, g1, g2, g3⟩ := ArgB.start (k := k + 1) h2 o2 ⟨rr, hb2⟩ (fun a f => out a ((o3 a).mpr (.inr f)))
    refine ⟨fun i => match i with | 0 => f1 | i + 1 => g i, fun i s ht => ?_, fun i a f => ?_, fun i j a hij f f' => ?_⟩
    · cases i with
      | zero =>
        cases ht
        exact ⟨v, rfl, v, rfl, (fun k' e => by cases e; exact hk), o1, fun a f => out a ((o3 a).mpr (.inl f))⟩
      | succ i => exact g1 i s ht
    · cases i with
      | zero => exact (o3 a).mpr (.inl f)
      | succ i => exact (o3 a).mpr (.inr (g2 i a f))
    · cases i with
      | zero =>
        cases j with
        | zero => exact hij rfl
        | succ j => exact o4 a f (g2 j a f')
      | succ i =>
        cases j with
        | zero => exact o4 a f' (g2 i a f)
        | succ j => exact g3 i j a (fun e => hij (congrArg (· + 1) e)) f f'
/-- what is lent, changed, and what is handed back -/
structure RB (B R : Type) where
  b : B
  r : R
instance {B R : Type} [OwnB B] [Enc R] : Res (RB B R) := ⟨fun K F H Z v x => ∃ (fp : Fp) (bs r : List V), Step F.H0 F.Z0 H Z ∧ F.bs = bs ++ r ∧ OwnB.own K Z H bs x.b fp ∧ (∀ a, fp a → F.H0 a = none ∧ Z a = none) ∧ Enc.rel K Z v x.r, fun h1 h2 ⟨fp, bs, r, s, h⟩ => ⟨fp, bs, r, s.backF h1 h2, h⟩⟩
/-- a def that changes what it is lent -/
def spB (K : Fg) {A B R : Type} [OwnB B] [ArgB A B] [Enc R] (f : A → Option (RB B R)) : Sp := fun vs H Q _ =>
  ∃ Z x r bs fp, Same Z H ∧ ArgB.rel K Z vs bs x ∧ OwnB.own K Z H bs (ArgB.brs x) fp ∧ (∀ a, fp a → Z a = none) ∧ f x = some r ∧ ∀ H' Z' u fp', Frm H Z H' Z' fp fp' → OwnB.own K Z' H' bs r.b fp' → Enc.rel K Z' u r.r → Q u H'
open Classical in
theorem env_startB {A B : Type} [OwnB B] [ArgB A B] {K : Fg} {Z H : Hp} {vs bs : List V} {x : A} {fp : Fp} {N : List Str} {n : Nat} (hn : ArgB.n A + n = N.length) (zh : Same Z H) (r : ArgB.rel K Z vs bs x) (ow : OwnB.own K Z H bs (ArgB.brs x) fp) (out : ∀ a, fp a → Z a = none) :
    EnvOk K ⟨fun a => if fp a then none else H a, Z, bs⟩ (L2.start N vs) H Z (ArgB.ents 0 x ++ List.replicate n .no) := by
  have lv : vs.length = ArgB.n A := ArgB.len r
  have le := ArgB.elen 0 x
  obtain ⟨g, g1, g2, g3⟩ := ArgB.start (F := ⟨fun a => if fp a then none else H a, Z, bs⟩) (k := 0) r ow ⟨[], by simp⟩ (fun a f => ⟨if_pos f, out a f⟩)
  refine ⟨fun a u h => ?_, Same.refl _, zh, fun _ _ _ => rfl, ?_, fun i => if i < (ArgB.ents 0 x).length then g i else Fp.no, fun i e h => ?_, fun i j a hij f f' => ?_⟩
  · have h : (if fp a then none else H a) = some u := h
    by_cases c : fp a
    · rw [if_pos c] at h; cases h
    · rw [if_neg c] at h; exact h
  · unfold L2.start
    rw [List.length_append, List.length_append, List.length_map, List.length_replicate, List.length_replicate]
    omega
  · unfold L2.start
    dsimp only
    by_cases hi : i < (ArgB.ents 0 x).length
    · rw [List.getElem?_append_left hi] at h
      obtain ⟨v, h2, h3⟩ := g1 i e h
      rw [if_pos hi]
      refine ⟨some v, ?_, h3⟩
      rw [List.getElem?_append_left (by rw [List.length_map]; omega), List.getElem?_map, h2]
      rfl
    · rw [if_neg hi]
      rw [List.getElem?_append_right (by omega), List.getElem?_replicate] at h
      by_cases h2 : i - (ArgB.ents 0 x).length < n
      · rw [if_pos h2] at h
        cases h
        refine ⟨none, ?_, fun _ f => f⟩
        rw [List.getElem?_append_right (by rw [List.length_map]; omega), List.getElem?_replicate, if_pos (by rw [List.length_map]; omega)]
      · rw [if_neg h2] at h
        cases h
  · dsimp only at f f'
    by_cases hi : i < (ArgB.ents 0 x).length
    · rw [if_pos hi] at f
      by_cases hj : j < (ArgB.ents 0 x).length
      · rw [if_pos hj] at f'; exact g3 i j a hij f f'
      · rw [if_neg hj] at f'; exact f'
    · rw [if_neg hi] at f; exact f
open Classical in
theorem frm_of {H Z H' Z' : Hp} {fp fp' : Fp} (out : ∀ a, fp a → Z a = none) (s : Step (fun a => if fp a then none else H a) Z H' Z') (h : ∀ a, fp' a → (if fp a then none else H a) = none ∧ Z' a = none) : Frm H Z H' Z' fp fp' :=
  ⟨fun a u hu nf => s.hh a u (by show (if fp a then none else H a) = some u; rw [if_neg nf]; exact hu), s.zz, s.zh, fun a u hu nf => s.old a u (by show (if fp a then none else H a) = some u; rw [if_neg nf]; exact hu), fun a f => ⟨by
    have := (h a f).1
    by_cases c : fp a
    · exact .inl c
    · rw [if_neg c] at this; exact .inr this, (h a f).2⟩⟩
section
variable {P : Program} {w : World} {K : Fg} {mg : Str → Option Value} {base : Heap} {f : Addr} {fd : FuncData} {x qual : Str} {st : Stmt} {N ps : List Str} {k n : Nat} {A B R : Type} [OwnB B] [ArgB A B] [Enc R]
/-- THE RULE for a def that changes what it is lent, and hands back a value -/
theorem fn_b (F : Fun K x qual st f fd) (S : FnScope N ps (defScope st)) (fm : A → Option (RB B R)) {N1 L1 : Type} (GN : N1 → List Ent) (GL : L1 → List Ent) (hps : ArgB.n A = ps.length) (hn : ArgB.n A + n = N.length)
    (hb : ∀ (cdv : Value) (Ar : Around) (outer : List Env) (s : Shared) (H : Hp) (E : XK), Room k (Ar.deeper (PyProof.Rows.envOfC qual (defScope st) s.heap.objs.size f cdv)) → ∀ (y : A) (r : RB B R), fm y = some r →
      BX (cxOf CX0 P w K mg base N qual (defScope st) f cdv Ar outer s H E).nox W0 ER0 (defBody st) (ArgB.ents 0 y ++ List.replicate n .no) GN GL (.rt r)) :
    FnOk P w K mg base CX0 (k + 1) f fd ps (spB K fm) := by
  refine F.ok S (fun vs H Q E h => ?_) (fun cdv Ar outer s H vs Q E hr h => ?_)
  · obtain ⟨Z, y, r, bs, fp, _, h1, _⟩ := h
    rw [ArgB.len h1, hps]
  · obtain ⟨Z, y, r, bs, fp, zh, h1, h2, h3, h4, q⟩ := h
    refine ⟨_, ps_w, ?_⟩
    refine (hb cdv Ar outer s H E hr y r h4).run _ _ ?_ _ _ Z (env_startB hn zh h1 h2 h3)
    exact fun H' Z' v ⟨fp', bs', rr, s', e, o', out, r'⟩ => by
      have e : bs = bs' ++ rr := e
      have : rr = [] := by
        have l1 : bs'.length = bs.length := (OwnB.blen o').trans (OwnB.blen h2).symm
        have := congrArg List.length e
        rw [List.length_append] at this
        exact List.length_eq_zero_iff.mp (by omega)
      subst this
      rw [List.append_nil] at e
      subst e
      exact q H' Z' v fp' (frm_of h3 s' out) o' r'
end
end G
/-! GRef2: calls that change what they are lent. -/
namespace G
open PySem L2
section
variable {X : Cx} {W : WX} {ER : ExS} {rest : List Stmt} {e a b c : Expr} {es : List Expr} {pos pos' p : Pos} {Γ : List Ent} {N L R J : Type} [Res R] {GN : N → List Ent} {GL : L → List Ent} {GJ : J → List Ent} {o : Fl N L R} {α β : Type} [Enc α] [Enc β]
structure PAB (X : Cx) (es : List Expr) (Γ : List Ent) {A B : Type} [OwnB B] [ArgB A B] (m : Option A) (is : List Nat) : Prop where
  run : ∀ (F : Frame) (σ : St) (H Z : Hp), EnvOk X.K F σ H Z Γ → ∀ x, m = some x → ∀ Q : List V → Hp → Prop, (∀ H' Z' vs bs, Step H Z H' Z' → ArgB.rel X.K Z' vs bs x → ValsAt σ is bs → Q vs H') → wA X es σ H Q
  ins : ∀ x, m = some x → OwnB.ins is (ArgB.brs x) Γ
theorem pab_nil : PAB X [] Γ (some ()) [] := ⟨fun F σ H Z en x hx Q q pos pins s I => pa_nil.run pos pins s σ H Q I (q H Z [] [] (Step.refl en.zh) ⟨rfl, rfl⟩ trivial), fun _ _ => rfl⟩
theorem pab_fz {A B : Type} [OwnB B] [ArgB A B] {m : Option α} {ms : Option A} {is : List Nat} (ha : PX X e Γ m) (hr : PAB X es Γ ms is) (hs : starEach (e :: es) X.env = (false, eval e X.env) :: starEach es X.env := by rfl) : PAB X (e :: es) Γ (oPair m ms) is :=
  ⟨fun F σ H Z en x hx Q q pos pins s I => (pa_cons pe_w pa_w hs).run pos pins s σ H Q I (by
    obtain ⟨y, hy, hx⟩ := Option.bind_eq_some_iff.mp hx
    obtain ⟨ys, hys, hx⟩ := Option.bind_eq_some_iff.mp hx
    cases hx
    refine ha.run F σ H Z en y hy _ fun H1 Z1 v s1 r1 => hr.run F σ H1 Z1 (en.step s1) ys hys _ fun H2 Z2 vs bs s2 r2 vl => ?_
    exact q H2 Z2 _ bs (s1.trans s2) ⟨v, vs, rfl, Enc.mono s2.zz r1, r2⟩ vl), fun x hx => by
    obtain ⟨y, hy, hx⟩ := Option.bind_eq_some_iff.mp hx
    obtain ⟨ys, hys, hx⟩ := Option.bind_eq_some_iff.mp hx
    cases hx
    exact hr.ins ys hys⟩
theorem pab_br {A B C : Type} [Enc C] [Own C] [OwnB B] [ArgB A B] (i : Nat) {nm : Str} {bv : Option Nat} {c : C} {ms : Option A} {is : List Nat} (hr : PAB X es Γ ms is) (hΓ : Γ[i]? = some (.ow bv c) := by rfl) (hN : X.N[i]? = some nm := by rfl) (hv : Vis X.env.scope nm := by first | exact Or.inl rfl | exact Or.inr (Or.inl rfl) | exact Or.inr (Or.inr rfl)) (hd : (nm == ("__debug__" : Str)) = false := by decide)
    (hcd : (nm == ("__classdict__" : Str)) = false := by decide) (hs : starEach (.Name nm pos :: es) X.env = (false, eval (.Name nm pos) X.env) :: starEach es X.env := by rfl) : PAB X (.Name nm pos :: es) Γ (oPair (some (Br.mk c)) ms) (i :: is) :=
  ⟨fun F σ H Z en x hx Q q ps pins s I => (pa_cons (pe_var hN hv hd hcd) pa_w hs).run ps pins s σ H Q I (by
    obtain ⟨ys, hys, hx⟩ := Option.bind_eq_some_iff.mp hx
    cases hx
    obtain ⟨v, fp, e1, h⟩ := en.at hΓ
    refine ⟨v, e1, hr.run F σ H Z en ys hys _ fun H2 Z2 vs bs s2 r2 vl => ?_⟩
    exact q H2 Z2 _ (v :: bs) s2 ⟨v, vs, bs, rfl, rfl, r2⟩ ⟨e1, vl⟩), fun x hx => by
    obtain ⟨ys, hys, hx⟩ := Option.bind_eq_some_iff.mp hx
    cases hx
    exact ⟨i, is, rfl, ⟨bv, hΓ⟩, hr.ins ys hys⟩⟩
/-- an expression that changes what is owned -/
structure PXB (X : Cx) (e : Expr) (Γ : List Ent) {B α : Type} [Enc α] (m : Option (RB B α)) (T : B → List Ent) : Prop where
  run : ∀ (F : Frame) (σ : St) (H Z : Hp), EnvOk X.K F σ H Z Γ → ∀ x, m = some x → ∀ Q : VK, (∀ H' Z' v, EnvOk X.K F σ H' Z' (T x.b) → Enc.rel X.K Z' v x.r → Q v H') → wE X e σ H Q
structure PTXB (X : Cx) (e : Expr) (Γ : List Ent) {B : Type} (m : Option (RB B Bool)) (T : B → List Ent) : Prop where
  run : ∀ (F : Frame) (σ : St) (H Z : Hp), EnvOk X.K F σ H Z Γ → ∀ x, m = some x → ∀ Q : Bool → Hp → Prop, (∀ H' Z', EnvOk X.K F σ H' Z' (T x.b) → Q x.r H') → wT X e σ H Q
theorem pxb_call {nm : Str} {k : Nat} {f : Addr} {fd : FuncData} {ps : List Str} {A B R : Type} [OwnB B] [ArgB A B] [Enc R] {fm : A → Option (RB B R)} {m : Option A} {is : List Nat} {T : B → List Ent} (Fn : FnOk X.prog X.w X.K X.mg X.base CX0 k f fd ps (spB X.K fm)) (hr : Room k X.A) (hm : X.mg nm = some (.ref f)) (hk : PySem.W.keepIn X.K (.ref f) = true)
    (hb : Binds X.K fd ps []) (ha : PAB X (e :: es) Γ m is) (hT : ∀ b, OwnB.put is b Γ = T b) (nd : is.Nodup := by decide) (hg : Gl X nm := by rfl) (hdb : (nm == ("__debug__" : Str)) = false := by decide) (he : starEach (e :: es) X.env = (false, eval e X.env) :: starEach es X.env := by rfl) (hpl : (backTo pos (starEach es X.env)).any (·.1) = false := by rfl) :
    PXB X (.Call (.Name nm p) (e :: es) [] pos) Γ (m.bind fm) T := .mk fun F σ H Z en x hx Q q pins s I => (pe_call Fn hr hg hm hk hb .nil pass0 pa_w hdb he hpl).run pins s σ H Q I (by
  obtain ⟨y, hy, hx1⟩ := Option.bind_eq_some_iff.mp hx
  refine ha.run F σ H Z en y hy _ fun H1 Z1 vs bs s1 r1 vl => ?_
  rw [List.append_nil]
  obtain ⟨fp, ow, out, put⟩ := (en.step s1).focusB (ha.ins y hy) nd vl
  refine ⟨Z1, y, x, bs, fp, s1.zh, r1, ow, fun a f => (out a f).2, hx1, fun H2 Z2 u fp' g o' r' => ?_⟩
  have := put H2 Z2 x.b fp' g o'
  rw [hT] at this
  exact q H2 Z2 u this r')
theorem ptxb_val {B : Type} {m : Option (RB B Bool)} {T : B → List Ent} (h : PXB X e Γ m T) (he : ∀ whole, isTrue e X.env whole = (do let v ← whole; standAt e.pos; holding [v] (truthy v)) := by intro _; rfl) : PTXB X e Γ m T := .mk fun F σ H Z en x hx Q q pins s I => (pt_val pe_w he).run pins s σ H Q I (h.run F σ H Z en x hx _ fun H' Z' v en' r => ⟨_, r, q H' Z' en'⟩)
theorem ptxb_not {B : Type} {m : Option (RB B Bool)} {T : B → List Ent} (h : PTXB X e Γ m T) : PTXB X (.UnaryOp .Not e pos) Γ (m.map fun x => RB.mk x.b (!x.r)) T := .mk fun F σ H Z en x hx Q q pins s I => (pt_not pt_w).run pins s σ H Q I (by
  obtain ⟨y, hy, rfl⟩ := Option.map_eq_some_iff.mp hx
  exact h.run F σ H Z en y hy _ fun H' Z' en' => q H' Z' en')
/-- a call whose value is dropped -/
theorem bx_exprB {B : Type} {m : Option (RB B α)} {T : B → List Ent} {k : RB B α → Option (Fl N L R)} (hx : PXB X e Γ m T) (h : m.bind k = some o) (hr : ∀ x, k x = some o → BX X W ER rest (T x.b) GN GL o) (hs : swapsWith e none pos.line X.env = pure false := by rfl) : BX X W ER (.Expr e pos :: rest) Γ GN GL o := by
  obtain ⟨x, h2, h3⟩ := Option.bind_eq_some_iff.mp h
  exact bx_cons (ps_expr pe_w hs) fun F D ac σ H Z en => hx.run F σ H Z en x h2 _ fun H' Z' v en' r => (hr x h3).run F D ac σ H' Z' en'
/-- name = such a call -/
theorem bx_asgB (i : Nat) {nm : Str} {B : Type} {m : Option (RB B α)} {T : B → List Ent} {k : RB B α → Option (Fl N L R)} (hN : X.N.Nodup) (hx : PXB X e Γ m T) (h : m.bind k = some o) (hr : ∀ x, k x = some o → BX X W ER rest ((T x.b).set i (.fz x.r)) GN GL o)
    (hi : X.N[i]? = some nm := by rfl) (hl : Loc X.env.scope nm := by first | exact Or.inl rfl | exact Or.inr rfl) (hs : swapsWith e (some (.Name nm pos')) pos.line X.env = pure false := by rfl)
    (hf : X.fn nm = true ∨ X.env.scope.names.lookup nm = some .local := by first | exact .inl rfl | exact .inr rfl) : BX X W ER (.Assign [.Name nm pos'] e pos :: rest) Γ GN GL o := by
  obtain ⟨x, h2, h3⟩ := Option.bind_eq_some_iff.mp h
  exact bx_cons (ps_set (i := i) hN hi hl pe_w hs hf) fun F D ac σ H Z en => hx.run F σ H Z en x h2 _ fun H' Z' v en' r => (hr x h3).run F D ac _ _ Z' (en'.set_fz i r)
/-- if such a call: .. -/
theorem bx_ifB {A1 B1 : List Stmt} {B : Type} {mc : Option (RB B Bool)} {T : B → List Ent} {mA mB : B → Option (Fl J L R)} {k : J → Option (Fl N L R)} (hc : PTXB X c Γ mc T) (hA : ∀ b (o' : Fl J L R), mA b = some o' → BX X W ER A1 (T b) GJ GL o') (hB : ∀ b (o' : Fl J L R), mB b = some o' → BX X W ER B1 (T b) GJ GL o')
    (h : thenFl (mc.bind fun x => if x.r = true then mA x.b else mB x.b) k = some o) (hr : ∀ j, k j = some o → BX X W ER rest (GJ j) GN GL o) : BX X W ER (.If c A1 B1 pos :: rest) Γ GN GL o := by
  refine bx_cons (ps_if pt_w ps_w ps_w) fun F D ac σ H Z en => ?_
  cases hm : (mc.bind fun x => if x.r = true then mA x.b else mB x.b) with
  | none => rw [hm] at h; cases h
  | some o' =>
    rw [hm] at h
    obtain ⟨x, h1, h2⟩ := Option.bind_eq_some_iff.mp hm
    have ac' : Acc X W ER F GJ GL o' { D with nx := wS X rest D } := by
      cases o' with
      | nx j => exact fun σ H Z en' => (hr j h).run F D ac σ H Z en'
      | br l => cases h; exact ac
      | ct l => cases h; exact ac
      | rt r => cases h; exact ac
      | xc c f => cases h; exact ac
    refine hc.run F σ H Z en x h1 _ fun H' Z' en' => ?_
    obtain ⟨b, r⟩ := x
    cases r with
    | true => exact (hA b o' h2).run F _ ac' σ H' Z' en'
    | false => exact (hB b o' h2).run F _ ac' σ H' Z' en'
/-- return e, what is lent being so -/
theorem bx_retB {B Rr : Type} [OwnB B] [Enc Rr] {GN : N → List Ent} {GL : L → List Ent} {o : Fl N L (RB B Rr)} {m : Option Rr} {b : B} (is : List Nat) (hx : PX X e Γ m) (h : (m.bind fun x => some (.rt (RB.mk b x))) = some o) (ho : OwnB.outs 0 is b Γ) (nd : is.Nodup := by decide) : BX X W ER (.Return (some e) pos :: rest) Γ GN GL o := by
  obtain ⟨x, h1, h2⟩ := Option.bind_eq_some_iff.mp h
  cases h2
  refine bx_cons (ps_ret pe_w) fun F D ac σ H Z en => hx.run F σ H Z en x h1 _ fun H' Z' v s r => ?_
  have en' := en.step s
  obtain ⟨fp, hen, _⟩ := en'.ent
  obtain ⟨bs, rr, e1, vl⟩ := OwnB.ovals ho hen
  obtain ⟨fp', ow, out, _⟩ := en'.focusB (OwnB.oin ho) nd vl
  exact ac H' Z' v ⟨fp', bs, rr, en'.stp, by simpa using e1, ow, out, r⟩
theorem bx_retNB {B : Type} [OwnB B] {GN : N → List Ent} {GL : L → List Ent} {o : Fl N L (RB B Unit)} {b : B} (is : List Nat) (h : some (.rt (RB.mk b ())) = some o) (ho : OwnB.outs 0 is b Γ) (nd : is.Nodup := by decide) : BX X W ER (.Return none pos :: rest) Γ GN GL o := by
  cases h
  refine bx_cons ps_retN fun F D ac σ H Z en => ?_
  obtain ⟨fp, hen, _⟩ := en.ent
  obtain ⟨bs, rr, e1, vl⟩ := OwnB.ovals ho hen
  obtain ⟨fp', ow, out, _⟩ := en.focusB (OwnB.oin ho) nd vl
  exact ac H Z .non ⟨fp', bs, rr, en.stp, by simpa using e1, ow, out, rfl⟩
end
end G
/-! GMisc: is of bools, min and max of three. -/
namespace G
open PySem L2
section
variable {X : Cx} {Γ : List Ent} {a b c e : Expr} {pos pos' p : Pos}
theorem px_isnotB {m1 m2 : Option Bool} (ha : PX X a Γ m1) (hb : PX X b Γ m2) : PX X (.Compare a [.IsNot] [b] pos) Γ (oNe m1 m2) :=
  px_cmp op_isnot_bl (fun H Z v w x y z zh r1 r2 hz Q q => ⟨x, y, r1, r2, by cases hz; exact q H Z _ (Step.refl zh) rfl⟩) ha hb (nomark _)
theorem ptx_isnotB {m1 m2 : Option Bool} (ha : PX X a Γ m1) (hb : PX X b Γ m2) : PTX X (.Compare a [.IsNot] [b] pos) Γ (oNe m1 m2) :=
  ptx_cmp op_isnot_bl (fun H Z v w x y z zh r1 r2 hz Q q => ⟨x, y, r1, r2, by cases hz; exact q H Z _ (Step.refl zh) rfl⟩) ha hb (nomark _)
def oMin3 (a b c : Option Int) : Option Int := a.bind fun x => b.bind fun y => c.bind fun z => some (min (min x y) z)
def oMax3 (a b c : Option Int) : Option Int := a.bind fun x => b.bind fun y => c.bind fun z => some (max (max x y) z)
theorem nuMin2_int (i j : Int) : nuMin2 (.int i) (.int j) = some (.int (min i j)) := by
  show some (if decide (j < i) = true then V.int j else V.int i) = _
  by_cases c : j < i
  · rw [decide_eq_true c, if_pos rfl, show min i j = j by omega]
  · rw [decide_eq_false c, if_neg (by decide), show min i j = i by omega]
theorem nuMax2_int (i j : Int) : nuMax2 (.int i) (.int j) = some (.int (max i j)) := by
  show some (if decide (i < j) = true then V.int j else V.int i) = _
  by_cases c : i < j
  · rw [decide_eq_true c, if_pos rfl, show max i j = j by omega]
  · rw [decide_eq_false c, if_neg (by decide), show max i j = i by omega]
theorem px_min3 {m1 m2 m3 : Option Int} (hm : X.mg "min" = none) (hc : X.calm = true) (ha : PX X a Γ m1) (hb : PX X b Γ m2) (hcc : PX X c Γ m3) (hg : Gl X "min" := by rfl) (h1 : starEach [a, b, c] X.env = (false, eval a X.env) :: starEach [b, c] X.env := by rfl) (h2 : starEach [b, c] X.env = (false, eval b X.env) :: starEach [c] X.env := by rfl) (h3 : starEach [c] X.env = (false, eval c X.env) :: starEach [] X.env := by rfl) :
    PX X (.Call (.Name "min" p) [a, b, c] [] pos) Γ (oMin3 m1 m2 m3) := px_of (pe_callB (call_min3Nu hc) hg hm (by decide +kernel) (pa_cons pe_w (pa_cons pe_w (pa_cons pe_w pa_nil h3) h2) h1) (he := h1) (hpl := by rw [h2, h3]; rfl)) fun F σ H Z en x hx Q q => by
  obtain ⟨i, hi, hx⟩ := Option.bind_eq_some_iff.mp hx
  obtain ⟨j, hj, hx⟩ := Option.bind_eq_some_iff.mp hx
  obtain ⟨k, hk, hx⟩ := Option.bind_eq_some_iff.mp hx
  cases hx
  refine ha.run F σ H Z en i hi _ fun H1 Z1 v s1 r1 => hb.run F σ H1 Z1 (en.step s1) j hj _ fun H2 Z2 w s2 r2 => hcc.run F σ H2 Z2 (en.step (s1.trans s2)) k hk _ fun H3 Z3 u s3 r3 => ⟨.int i, .int j, .int k, _, by rw [show v = V.int i from r1, show w = V.int j from r2, show u = V.int k from r3], by unfold nuMin3; rw [nuMin2_int]; exact nuMin2_int _ _, q H3 Z3 _ ((s1.trans s2).trans s3) rfl⟩
theorem px_max3 {m1 m2 m3 : Option Int} (hm : X.mg "max" = none) (hc : X.calm = true) (ha : PX X a Γ m1) (hb : PX X b Γ m2) (hcc : PX X c Γ m3) (hg : Gl X "max" := by rfl) (h1 : starEach [a, b, c] X.env = (false, eval a X.env) :: starEach [b, c] X.env := by rfl) (h2 : starEach [b, c] X.env = (false, eval b X.env) :: starEach [c] X.env := by rfl) (h3 : starEach [c] X.env = (false, eval c X.env) :: starEach [] X.env := by rfl) :
    PX X (.Call (.Name "max" p) [a, b, c] [] pos) Γ (oMax3 m1 m2 m3) := px_of (pe_callB (call_max3Nu hc) hg hm (by decide +kernel) (pa_cons pe_w (pa_cons pe_w (pa_cons pe_w pa_nil h3) h2) h1) (he := h1) (hpl := by rw [h2, h3]; rfl)) fun F σ H Z en x hx Q q => by
  obtain ⟨i, hi, hx⟩ := Option.bind_eq_some_iff.mp hx
  obtain ⟨j, hj, hx⟩ := Option.bind_eq_some_iff.mp hx
  obtain ⟨k, hk, hx⟩ := Option.bind_eq_some_iff.mp hx
  cases hx
  refine ha.run F σ H Z en i hi _ fun H1 Z1 v s1 r1 => hb.run F σ H1 Z1 (en.step s1) j hj _ fun H2 Z2 w s2 r2 => hcc.run F σ H2 Z2 (en.step (s1.trans s2)) k hk _ fun H3 Z3 u s3 r3 => ⟨.int i, .int j, .int k, _, by rw [show v = V.int i from r1, show w = V.int j from r2, show u = V.int k from r3], by unfold nuMax3; rw [nuMax2_int]; exact nuMax2_int _ _, q H3 Z3 _ ((s1.trans s2).trans s3) rfl⟩
end
end G
/-! GExc2: exceptions that bear a field or none: raised, caught, asked. -/
namespace G
open PySem L2
/-! ### isinstance of an exception, with a dict or without one -/
section
open PySem.W PySem.Calls PyProof.Rows
variable {prog : Program} {w : World} {A : Around} {E : Value → Shared → Prop} {s : Shared} {K : Frag} {x D : Addr} {ox : Obj}
theorem found_cls {od : Option Obj} (T : ExcC K D) : findObj K D od "__class__" = some (.bind (.builtin "getset_descriptor.__get__") (.builtin "object.__class__")) := by
  have hc := T.hd
  unfold hasDictIn at hc
  cases hcl : clsIn K D with
  | none => rw [hcl] at hc; cases hc
  | some cd =>
    unfold findObj
    rw [hcl, Option.bind_some, T.ha, Option.bind_some]
    simp [T.hn, T.ht]
theorem asks_cls {od : Option Obj} (T : ExcC K D) {Q : Option Value → Shared → Prop} (X : K.In s.heap) (I : InstAt s.heap x ox D od) (q : Q (some (.ref D)) { s with toks := s.toks + 1 }) : wpAny (model prog w) A (getAttr? (.ref x) "__class__") Q E s := by
  have found := found_cls (od := od) T
  obtain ⟨hp, g, d, t, os⟩ := s
  have K0 := I.type (M := model prog w)
  have K1 := looks_findIn (M := model prog w) X T.hg
  have K2 := looks_findIn (M := model prog w) X T.hk
  have K3 := looks_find (M := model prog w) X I found
  have isE : Looks (model prog w) hp (isInstance (.ref x) (.type "BaseException")) true := K0.andThen (looks_subIn X T.hs)
  have n0 : (false && onTheHeap (Value.builtin "BaseException.__getattribute__")) = false := rfl
  have n2 : (Value.builtin "BaseException.__getattribute__" == Value.builtin "object.__getattribute__") = false := by decide +kernel
  have n1 : (onTheHeap (Value.ref D) && Value.builtin "BaseException.__getattribute__" == Value.builtin "object.__getattribute__") = false := by rw [n2]; rfl
  unfold getAttr? getAttrBy? getAttrBy
  refine wpAny_bind (wpAny_mkText (wpAny_bind ?_))
  refine wpAny_attempt (wpAny_holding (wpAny_bind (K0.at (wpAny_bind (K1.at ?_)))))
  show wpAny _ _ (if (onTheHeap (Value.ref D) && Value.builtin "BaseException.__getattribute__" == Value.builtin "object.__getattribute__") = true then _ else _) _ _ _
  rw [n1, if_neg Bool.false_ne_true]
  unfold getAttrByItsOwn hookBefore
  refine wpAny_bind ?_
  rw [if_pos (show onTheHeap (Value.ref D) = true from rfl)]
  refine K2.at (wpAny_bind (wpAny_attempt (wpAny_holding ?_)))
  unfold callGetattribute
  rw [n0, if_neg Bool.false_ne_true]
  unfold boundAndCalled
  rw [PySem.F.excAttr_ValueError.ga.bind (.ref x)]
  refine wpAny_bind (wpAny_pure ?_)
  show wpAny _ _ (call (.builtin "BaseException.__getattribute__") [.ref x, .str "__class__" t]) _ _ _
  refine wpAny_call (codeAny_call_builtin PySem.F.excAttr_ValueError.ga.plain PySem.F.entry_bexc_ga ?_)
  refine @check_slot (model prog w) _ _ ⟨hp, g, d, t + 1, os⟩ "BaseException.__getattribute__" "BaseException" "__getattribute__" (.ref x) [.str "__class__" t] [] _ (by decide +kernel) (by decide +kernel) isE (PySem.F.args_bexc_ga (.ref x) (.str "__class__" t)) ?_
  unfold Builtin.«object.__getattribute__»
  refine wpAny_bind (wpAny_of_eq (a := ((Value.ref x : Value), [Value.str "__class__" t])) (by first | rfl | (simp only [slotArgs]; rfl)) ?_)
  refine wpAny_bind (wpAny_pure (wpAny_bind (K0.at (wpAny_bind (K3.at ?_)))))
  show wpAny _ _ (holding [Value.builtin "object.__class__"] (call (.builtin "getset_descriptor.__get__") [.builtin "object.__class__", .ref x, .ref D]) >>= ret) _ _ _
  refine wpAny_bind (wpAny_holding (wpAny_call (class_get (s := ⟨hp, g, d, t + 1, os⟩) (ox := ox) (od := od) X I T.hm ?_)))
  refine wpAny_pure ?_
  show wpAny _ _ (handedOut (.ref D)) _ _ _
  rw [handedOut_of (v := .ref D) rfl]
  first
    | exact wpAny_pure (wpAny_pure q)
    | exact wpAny_pure q
    | exact wpAny_pure (wpAny_bind (wpAny_pure (wpAny_pure q)))
theorem own_there {h : Heap} (T : ExcC K D) (X : K.In h) : ∃ c dd cd sl, h.get? D = some ⟨c, dd, .cls cd, sl⟩ := by
  have hc := T.hd
  unfold hasDictIn clsIn at hc
  split at hc
  · rename_i h1
    exact ⟨_, _, _, _, X _ _ h1⟩
  · cases hc
theorem kitx_own (T : ExcC K D) : KitX K (.ref x) (.ref D) (fun h => ∃ od, InstAt h x ox D od) where
  ty := fun _ _ _ ⟨_, I⟩ => I.type
  it := fun _ _ X _ => by
    obtain ⟨c, dd, cd, sl, hget⟩ := own_there T X
    intro A' Q' E' s' k q
    unfold isType loadHead
    exact wpAny_bind (wpAny_loadPart (k _ _ hget) (wpAny_pure q))
  ne := fun h tp dd its n sl X htp => by
    obtain ⟨c', dd', cd, sl', hget⟩ := own_there T X
    refine Bool.eq_false_iff.mpr fun q => ?_
    have e : D = tp := Value.ref.inj (beq_iff_eq.mp q)
    subst e
    have z := hget.symm.trans htp
    cases z
  ca := fun X ⟨_, I⟩ q => asks_cls T X I q
end
/-- how an exception's dict tells its field -/
def exRel (fn : Str) (Z : Hp) : Option Addr → Option Int → Prop
  | none, none => True
  | some dd, some i => Z dd = some (.xd [(fn, .int i)])
  | _, _ => False
theorem exRel.mono {fn : Str} {Z Z' : Hp} (s : Same Z Z') : ∀ {d : Option Addr} {f : Option Int}, exRel fn Z d f → exRel fn Z' d f
  | none, none, h => h
  | some _, some _, h => s _ _ h
  | none, some _, h => h.elim
  | some _, none, h => h.elim
/-- the exception that a suite holds, at a, its dict at d -/
structure ExO (a : Addr) (d : Option Addr) (fn : Str) where
  f : Option Int
instance {a : Addr} {d : Option Addr} {fn : Str} : Enc (ExO a d fn) := ⟨fun _ Z v x => v = .ref a ∧ exRel fn Z d x.f, fun s ⟨h1, h2⟩ => ⟨h1, h2.mono s⟩⟩
theorem inst_of {X : Cx} {pins : List (Addr × Obj)} {σ : St} {H Z : Hp} {s : Shared} {a D : Addr} {oe : Obj} {d : Option Addr} {f : Option Int} {fn : Str} (I : L2.Inv X pins σ H s) (zh : Same Z H) (r : exRel fn Z d f) (hget : s.heap.get? a = some oe) (hz : Zc (.ref D) d oe) (hf : ∃ vs, oe.data = .fields vs) : ∃ od, PySem.W.InstAt s.heap a oe D od := by
  obtain ⟨oc, od, oda, osl⟩ := oe
  obtain ⟨vs, hv⟩ := hf
  obtain ⟨h1, h2⟩ := hz
  dsimp only at h1 h2 hv
  subst h1 h2 hv
  cases od with
  | none => exact ⟨none, hget, rfl, rfl, trivial⟩
  | some dd =>
    cases f with
    | none => exact r.elim
    | some i =>
      obtain ⟨o, ho⟩ := objOk_get (I.hok dd _ (zh _ _ (show Z dd = some (.xd [(fn, .int i)]) from r)))
      exact ⟨some o, hget, rfl, rfl, ho⟩
section
variable {X : Cx} {a D : Addr} {oe : Obj} {d : Option Addr} {fn : Str} {pn : List (Addr × Obj)} {Γ : List Ent} {e c : Expr} {es : List Expr} {pos p tpos : Pos}
/-- isinstance(e, C) -/
def rIsO (K : Fg) (D a : Addr) (d : Option Addr) (fn : Str) : List V → Hp → VK → Prop := fun xs H Q => ∃ (c : V) (cv : Value) (b : Bool) (f : Option Int) (Z : Hp), xs = [.ref a, c] ∧ (∀ u, RelV c u → u = cv) ∧ PySem.W.kitOne K (.ref D) cv = some b ∧ Same Z H ∧ exRel fn Z d f ∧ Q (.bl b) H
theorem call_isO (T : ExcC X.K D) (hz : Zc (.ref D) d oe) (hf : ∃ vs, oe.data = .fields vs) : CallR (X.suite a ((a, oe) :: pn)) (.builtin "isinstance") (rIsO X.K D a d fn) := by
  intro pins s σ H xs us Q I r h
  obtain ⟨c, cv, b, f, Z, rfl, hcv, hk, zh, rel, q⟩ := h
  obtain ⟨u1, u2, rfl, r1, r2⟩ := vals2 r
  cases (show u1 = Value.ref a from r1)
  have ec := hcv _ r2
  subst ec
  obtain ⟨hget, _⟩ := I.pin (a, oe) (List.mem_append.mpr (.inl List.mem_cons_self))
  have J := inst_of I zh rel hget hz hf
  exact PySem.W.kia_one (kitx_own T) I.kIn J hk (fun z => nomatch z) fun tk => ⟨.bl b, H, I.kept (t' := tk) fun _ _ z => z, rfl, q⟩
def rIsOT (K : Fg) (D a : Addr) (d : Option Addr) (fn : Str) : List V → Hp → VK → Prop := fun xs H Q => ∃ (tp : Addr) (cs : List V) (us : List Value) (b : Bool) (f : Option Int) (Z : Hp), xs = [.ref a, .ref tp] ∧ H tp = some (.tup cs) ∧ Paired ClsV cs us ∧ PySem.W.kitAny K (.ref D) us = some b ∧ Same Z H ∧ exRel fn Z d f ∧ Q (.bl b) H
theorem call_isOT (T : ExcC X.K D) (hz : Zc (.ref D) d oe) (hf : ∃ vs, oe.data = .fields vs) : CallR (X.suite a ((a, oe) :: pn)) (.builtin "isinstance") (rIsOT X.K D a d fn) := by
  intro pins s σ H xs us Q I r h
  obtain ⟨tp, cs, ws, b, f, Z, rfl, hT, k, hk, zh, rel, q⟩ := h
  obtain ⟨u1, u2, rfl, r1, r2⟩ := vals2 r
  cases (show u1 = Value.ref a from r1)
  cases (show u2 = Value.ref tp from r2)
  obtain ⟨hget, _⟩ := I.pin (a, oe) (List.mem_append.mpr (.inl List.mem_cons_self))
  have J := inst_of I zh rel hget hz hf
  obtain ⟨_, its, rv, o, h1, h2, n, h3⟩ := (show ObjOk X.prog X.w H s.heap tp (.tup cs) from I.hok tp _ hT)
  have e3 := ClsV.all k rv
  subst e3
  obtain ⟨oc, od, dt, sl⟩ := o
  simp only at h2 h3
  subst h2 h3
  exact PySem.W.kia_tup (kitx_own T) I.kIn J h1 hk (fun z => nomatch z) fun tk => ⟨.bl b, H, I.kept (t' := tk) fun _ _ z => z, rfl, q⟩
theorem px_isO {v : V} {u : Value} {b : Bool} {f : Option Int} (T : ExcC X.K D) (hz : Zc (.ref D) d oe) (hf : ∃ vs, oe.data = .fields vs) (hm : X.mg "isinstance" = none) (ha : PX (X.suite a ((a, oe) :: pn)) e Γ (some (⟨f⟩ : ExO a d fn))) (hc : PE (X.suite a ((a, oe) :: pn)) c (L2.tC v)) (hv : ∀ w, RelV v w → w = u) (hk : PySem.W.kitOne X.K (.ref D) u = some b)
    (hg : Gl (X.suite a ((a, oe) :: pn)) "isinstance" := by rfl) (h1 : starEach [e, c] (X.suite a ((a, oe) :: pn)).env = (false, eval e (X.suite a ((a, oe) :: pn)).env) :: starEach [c] (X.suite a ((a, oe) :: pn)).env := by rfl) (h2 : starEach [c] (X.suite a ((a, oe) :: pn)).env = (false, eval c (X.suite a ((a, oe) :: pn)).env) :: starEach [] (X.suite a ((a, oe) :: pn)).env := by rfl) :
    PX (X.suite a ((a, oe) :: pn)) (.Call (.Name "isinstance" p) [e, c] [] pos) Γ (some b) := px_of (pe_callB (call_isO T hz hf) hg hm (by decide +kernel) (pa_cons pe_w (pa_cons hc pa_nil h2) h1) (he := h1) (hpl := by rw [h2]; rfl)) fun F σ H Z en x hx Q q => by
  cases hx
  exact ha.run F σ H Z en _ rfl _ fun H1 Z1 w s1 r1 => ⟨v, u, b, f, Z1, by rw [show w = V.ref a from r1.1], hv, hk, s1.zh, r1.2, q H1 Z1 _ s1 rfl⟩
theorem px_isOT {cs : List V} {us : List Value} {t : TA} {b : Bool} {ct : Nat} {f : Option Int} (T : ExcC X.K D) (hz : Zc (.ref D) d oe) (hf : ∃ vs, oe.data = .fields vs) (hm : X.mg "isinstance" = none) (ha : PX (X.suite a ((a, oe) :: pn)) e Γ (some (⟨f⟩ : ExO a d fn))) (hc : PA (X.suite a ((a, oe) :: pn)) es t) (ht : ∀ σ H Q, Q cs H → t σ H Q) (hl : cs.length ≤ sizeLine) (hv : Paired ClsV cs us) (hk : PySem.W.kitAny X.K (.ref D) us = some b)
    (hg : Gl (X.suite a ((a, oe) :: pn)) "isinstance" := by rfl) (h1 : starEach [e, .Tuple es ct tpos] (X.suite a ((a, oe) :: pn)).env = (false, eval e (X.suite a ((a, oe) :: pn)).env) :: starEach [.Tuple es ct tpos] (X.suite a ((a, oe) :: pn)).env := by rfl) (h2 : starEach [.Tuple es ct tpos] (X.suite a ((a, oe) :: pn)).env = (false, eval (.Tuple es ct tpos) (X.suite a ((a, oe) :: pn)).env) :: starEach [] (X.suite a ((a, oe) :: pn)).env := by rfl) :
    PX (X.suite a ((a, oe) :: pn)) (.Call (.Name "isinstance" p) [e, .Tuple es ct tpos] [] pos) Γ (some b) := px_of (pe_callB (call_isOT T hz hf) hg hm (by decide +kernel) (pa_cons pe_w (pa_cons (pe_tup hc) pa_nil h2) h1) (he := h1) (hpl := by rw [h2]; rfl)) fun F σ H Z en x hx Q q => by
  cases hx
  refine ha.run F σ H Z en _ rfl _ fun H1 Z1 w s1 r1 => ht _ _ _ ⟨hl, fun tp htp => ?_⟩
  have s2 := Step.new (o := .tup cs) s1.zh htp
  exact ⟨tp, cs, us, b, f, Z1, by rw [show w = V.ref a from r1.1], upd_same, hv, hk, s1.zh.trans (Same.upd_new htp), r1.2, q _ _ _ (s1.trans s2) rfl⟩
/-- error.f -/
theorem px_xf {f : Option Int} (T : XfC X.K D) (hno : PySem.W.findIn X.K (.ref D) fn = some none) (hz : Zc (.ref D) d oe) (hf : ∃ vs, oe.data = .fields vs) (ha : PX (X.suite a ((a, oe) :: pn)) e Γ (some (⟨f⟩ : ExO a d fn)))
    (hb : attributeBase e fn (X.suite a ((a, oe) :: pn)).env (eval e (X.suite a ((a, oe) :: pn)).env) = eval e (X.suite a ((a, oe) :: pn)).env := by rfl) : PX (X.suite a ((a, oe) :: pn)) (.Attribute e fn pos) Γ f :=
  px_of (pe_xf T hno hz hf pe_w hb) fun F σ H Z en x hx Q q => by
    refine ha.run F σ H Z en _ rfl _ fun H1 Z1 w s1 r1 => ?_
    subst hx
    obtain ⟨rw1, r2⟩ := r1
    cases d with
    | none => exact r2.elim
    | some dd =>
      have r2 : Z1 dd = some (.xd [(fn, .int x)]) := r2
      exact ⟨rw1, rfl, dd, _, .int x, rfl, s1.zh _ _ r2, by simp [List.lookup], q H1 Z1 _ s1 rfl⟩
end
/-! ### __init__(self, f): self.f = f -/
def spInit (fn : Str) (K : Fg) : Sp := fun vs H Q _ => ∃ (a C : Addr) (v : V), vs = [.ref a, v] ∧ OexC K C ∧ PySem.W.findIn K (.ref C) fn = some none ∧ H a = some (exo a C none) ∧ ∀ dx, H dx = none → dx ≠ a → Q .non (upd (upd H dx (exd dx [(fn, v)])) a (exo a C (some dx)))
section
variable {X : Cx} {W : WX} {ER : ExS} {rest : List Stmt} {e : Expr} {es : List Expr} {pos p pos1 : Pos} {Γ : List Ent} {N L R : Type} [Res R] {GN : N → List Ent} {GL : L → List Ent} {o : Fl N L R}
/-- raise X(e), X with such an __init__ -/
theorem bx_raiseI {nm fn : Str} {cc : Nat} {C fI : Addr} {k : Nat} {fd : FuncData} {ps : List Str} {m : Option Int} {CX0 : CXT} (hc : X.calm = true) (tk : Takes X W) (T : OexC X.K C) (hno : PySem.W.findIn X.K (.ref C) fn = some none) (iC : PySem.W.findIn X.K (.ref C) "__init__" = some (some (.ref fI))) (tI : PySem.W.typeIn X.K (.ref fI) = some (.type "function"))
    (F1 : FnOk X.prog X.w X.K X.mg X.base CX0 k fI fd ps (spInit fn X.K)) (hr : Room (k + 1) X.A) (hb : Binds X.K fd ps []) (hx : Passes CX0 X (fun _ _ _ => False)) (hm : X.mg nm = some (.ref C)) (ha : PX X e Γ m)
    (hER : ∀ (i : Int) (Z : Hp) (d : Addr), Z d = some (.xd [(fn, .int i)]) → ER.er cc (some i) Z (.ref C) (some d)) (w : Wk Γ ER.gx) (h : (m.bind fun i => some (.xc cc (some i))) = some o) (hg : Gl X nm := by rfl) (hdb : (nm == ("__debug__" : Str)) = false := by decide)
    (he : starEach [e] X.env = (false, eval e X.env) :: starEach [] X.env := by rfl) (hpl : (backTo pos1 (starEach [] X.env)).any (·.1) = false := by rfl) : BX X W ER (.Raise (some (.Call (.Name nm p) [e] [] pos1)) none pos :: rest) Γ GN GL o := by
  obtain ⟨i, h1, h2⟩ := Option.bind_eq_some_iff.mp h
  cases h2
  refine bx_cons (ps_raise hc tk (pmk_oex T iC tI F1 hr hb .nil hx hg hm (pa_cons pe_w pa_nil he) hdb he hpl)) fun F D ac σ H Z en => ha.run F σ H Z en i h1 _ fun H1 Z1 v s1 r1 => ?_
  cases (show v = V.int i from r1)
  refine ⟨by show 1 ≤ 1000; decide, fun a hna => ⟨a, C, .int i, rfl, T, hno, upd_same, fun dx hdx hda => ⟨rfl, dx, _, upd_same, by rw [upd_ne hda, upd_same], ?_, ?_⟩⟩⟩
  · rw [upd_ne hda] at hdx; exact hdx
  · have hdx : H1 dx = none := by rw [upd_ne hda] at hdx; exact hdx
    have e1 : upd (del (upd (upd (upd H1 a (exo a C none)) dx (exd dx [(fn, .int i)])) a (exo a C (some dx))) a) dx (.xd [(fn, .int i)]) = upd H1 dx (.xd [(fn, .int i)]) := by
      funext b
      by_cases hb : b = dx
      · rw [hb, upd_same, upd_same]
      · rw [upd_ne hb, upd_ne hb]
        by_cases hba : b = a
        · rw [hba, del_same, hna]
        · rw [del_ne hba, upd_ne hba, upd_ne hb, upd_ne hba]
    rw [e1]
    have s2 := Step.new (o := .xd [(fn, .int i)]) s1.zh hdx
    exact acc_xc ac ((en.step (s1.trans s2)).wk w) (hER i _ dx upd_same)
end
/-! ### try .. except X as n -/
section
variable {X : Cx} {W : WX} {ER : ExS} {rest : List Stmt} {pos : Pos} {Γ : List Ent} {N L R J : Type} [Res R] {GN : N → List Ent} {GL : L → List Ent} {GJ : J → List Ent} {o : Fl N L R}
def tryC {N J L R : Type} (mb : Option (Fl J L R)) (caught : Nat → Bool) (ms : Nat → Option Int → Option (Fl J L R)) (k : J → Option (Fl N L R)) : Option (Fl N L R) := match mb with
  | some (.xc c f) => if caught c = true then thenFl (ms c f) k else none
  | m => thenFl m k
theorem bx_tryO (i : Nat) {n x : Str} {cl : Value} {body suite : List Stmt} {b₀ : Stmt} {np pos1 : Pos} {ERb : ExS} {mb : Option (Fl J L R)} {caught : Nat → Bool} {ms : Nat → Option Int → Option (Fl J L R)} {k : J → Option (Fl N L R)} (fnOf : Nat → Str)
    (hs : X.stack = X.env :: X.outer) (hf : X.env.frame = some X.env.locals) (hN : X.N.Nodup) (hi : X.N[i]? = some n) (hln : X.env.kindOf n = some .local) (hc : Names X x cl) (tk : Takes X W)
    (hb : ∀ (W' : WX) (pn : List (Addr × Obj)) (xe : Value → Shared → Prop), Takes (X.tr pn xe) W' → PassesOwn (model X.prog X.w) X.A X.env xe → ∀ o' : Fl J L R, mb = some o' → BX (X.tr pn xe) W' ERb body Γ GJ GL o')
    (hcl : ∀ c f Z cls d, ERb.er c f Z cls d → PySem.W.exmOne X.K cls cl = some (caught c))
    (hrl : ∀ c f Z cls d, ERb.er c f Z cls d → exRel (fnOf c) Z d f)
    (hsu : ∀ (a : Addr) (oe : Obj) (cls : Value) (d : Option Addr) (pn : List (Addr × Obj)), Zc cls d oe → (∃ vs, oe.data = .fields vs) → ∀ c f Z, ERb.er c f Z cls d → caught c = true → ∀ o' : Fl J L R, ms c f = some o' → ∀ W' : WX, BX (X.suite a ((a, oe) :: pn)) W' ER0 (b₀ :: suite) (ERb.gx.set i (.fz (⟨f⟩ : ExO a d (fnOf c)))) GJ GL o')
    (hno : ∀ j, (GJ j).set i .no = GJ j) (hnoL : ∀ l, (GL l).set i .no = GL l)
    (h : tryC mb caught ms k = some o) (hr : ∀ j, k j = some o → BX X W ER rest (GJ j) GN GL o) : BX X W ER (.Try body [.ExceptHandler (some (.Name x np)) (some n) (b₀ :: suite) pos1] [] [] pos :: rest) Γ GN GL o := by
  refine bx_cons (ps_try_as (Wout := W) (tb := fun W' D σ H => ∀ pn xe, Takes (X.tr pn xe) W' → PassesOwn (model X.prog X.w) X.A X.env xe → wS (X.tr pn xe) body D σ H)
    (ts := fun a cls d D σ H => ∀ oe pn, Zc cls d oe → (∃ vs, oe.data = .fields vs) → wS (X.suite a ((a, oe) :: pn)) (b₀ :: suite) D σ H) hs hf hN hi hln hc tk
    (fun W' pn xe t p => ⟨fun pins s σ H D I q => q pn xe t p pins s I⟩) (fun a oe cls d pn z v => ⟨fun pins s σ H D I q => q oe pn z v pins s I⟩)) fun F D ac σ H Z en pn xe t p => ?_
  cases hm : mb with
  | none => rw [hm] at h; cases h
  | some o' =>
    rw [hm] at h
    refine (hb _ pn xe t p o' hm).run F _ ?_ σ H Z en
    cases o' with
    | nx j => exact fun σ H Z en' => (hr j h).run F D ac σ H Z en'
    | br l => cases h; exact ac
    | ct l => cases h; exact ac
    | rt r => cases h; exact ac
    | xc c f =>
      intro σ1 H1 Z1 cls d en1 r1
      have ex := hcl c f Z1 cls d r1
      refine ⟨caught c, ex, fun hy a na oe pn2 z v => ?_, fun hn => ?_⟩
      · replace h : (if caught c = true then thenFl (ms c f) k else none) = some o := h
        rw [if_pos hy] at h
        cases hms : ms c f with
        | none => rw [hms] at h; cases h
        | some o2 =>
          rw [hms] at h
          refine (hsu a oe cls d pn2 z v c f Z1 r1 hy o2 hms (fun _ _ _ _ => False)).run F _ ?_ _ H1 Z1 (en1.set_fz i ⟨rfl, hrl c f Z1 cls d r1⟩)
          cases o2 with
          | nx j => exact fun σ H Z en' => (hr j h).run F D ac _ H Z (by have := en'.set_no i none; rw [hno] at this; exact this)
          | br l => cases h; exact fun σ H Z en' => ac _ H Z (by have := en'.set_no i none; rw [hnoL] at this; exact this)
          | ct l => cases h; exact fun σ H Z en' => ac _ H Z (by have := en'.set_no i none; rw [hnoL] at this; exact this)
          | rt r => cases h; exact ac
          | xc c2 f2 => exact fun σ H Z cls d en' r' => r'.elim
      · replace h : (if caught c = true then thenFl (ms c f) k else none) = some o := h
        rw [if_neg (by rw [hn]; decide)] at h
        cases h
end
end G
/-! GSum: things of one of two kinds; == of any data; parts of tuples. -/
namespace G
open PySem L2
section
variable {X : Cx} {Γ : List Ent} {e a b : Expr} {pos p2 : Pos} {α β γ δ : Type} [Enc α] [Enc β] [Enc γ] [Enc δ]
theorem px_inl {m : Option α} (h : PX X e Γ m) : PX X e Γ (m.map fun x => (Sum.inl x : α ⊕ β)) := .mk fun F σ H Z en x hx Q q => by
  obtain ⟨y, hy, rfl⟩ := Option.map_eq_some_iff.mp hx
  exact h.run F σ H Z en y hy Q q
theorem px_inr {m : Option β} (h : PX X e Γ m) : PX X e Γ (m.map fun x => (Sum.inr x : α ⊕ β)) := .mk fun F σ H Z en x hx Q q => by
  obtain ⟨y, hy, rfl⟩ := Option.map_eq_some_iff.mp hx
  exact h.run F σ H Z en y hy Q q
def outL {α β : Type} : α ⊕ β → Option α
  | .inl x => some x
  | .inr _ => none
def outR {α β : Type} : α ⊕ β → Option β
  | .inl _ => none
  | .inr x => some x
theorem px_outl {m : Option (α ⊕ β)} (h : PX X e Γ m) : PX X e Γ (m.bind outL) := .mk fun F σ H Z en x hx Q q => by
  obtain ⟨y, hy, hx⟩ := Option.bind_eq_some_iff.mp hx
  cases y with
  | inl y => cases hx; exact h.run F σ H Z en _ hy Q q
  | inr y => cases hx
theorem px_outr {m : Option (α ⊕ β)} (h : PX X e Γ m) : PX X e Γ (m.bind outR) := .mk fun F σ H Z en x hx Q q => by
  obtain ⟨y, hy, hx⟩ := Option.bind_eq_some_iff.mp hx
  cases y with
  | inr y => cases hx; exact h.run F σ H Z en _ hy Q q
  | inl y => cases hx
/-- the i-th part of a tuple -/
def Prj (i : Int) (g : α → γ) : Prop := ∀ {K : Fg} {Z : Hp} {v : V} {x : α}, Enc.rel K Z v x → ∃ p vs w, v = .ref p ∧ Z p = some (.tup vs) ∧ atI vs i = some w ∧ Enc.rel K Z w (g x)
theorem prj_2a : Prj 0 (P2.a : P2 α β → α) := fun ⟨p, v1, v2, e, h, r1, r2⟩ => ⟨p, _, v1, e, h, rfl, r1⟩
theorem prj_2b : Prj 1 (P2.b : P2 α β → β) := fun ⟨p, v1, v2, e, h, r1, r2⟩ => ⟨p, _, v2, e, h, rfl, r2⟩
theorem prj_3a : Prj 0 (P3.a : P3 α β γ → α) := fun ⟨p, v1, v2, v3, e, h, r1, r2, r3⟩ => ⟨p, _, v1, e, h, rfl, r1⟩
theorem prj_3b : Prj 1 (P3.b : P3 α β γ → β) := fun ⟨p, v1, v2, v3, e, h, r1, r2, r3⟩ => ⟨p, _, v2, e, h, rfl, r2⟩
theorem prj_3c : Prj 2 (P3.c : P3 α β γ → γ) := fun ⟨p, v1, v2, v3, e, h, r1, r2, r3⟩ => ⟨p, _, v3, e, h, rfl, r3⟩
theorem prj_same {i : Int} {f : α → γ} {g : β → γ} (h1 : Prj i f) (h2 : Prj i g) : Prj i (Sum.elim f g) := fun {K Z v x} r => by
  cases x with
  | inl x => exact h1 r
  | inr x => exact h2 r
theorem prj_each {i : Int} {f : α → γ} {g : β → δ} (h1 : Prj i f) (h2 : Prj i g) : Prj i (Sum.map f g) := fun {K Z v x} r => by
  cases x with
  | inl x => exact h1 r
  | inr x => exact h2 r
theorem px_prj {i : Int} {j} {f : α → γ} {m : Option α} (hp : Prj i f) (h : PX X a Γ m) : PX X (.Subscript a (.Constant (.int i) j p2) pos) Γ (m.map f) := px_of (pe_ix ix_tup pe_w pe_int (fun _ _ => rfl)) fun F σ H Z en x hx Q q => by
  obtain ⟨y, hy, rfl⟩ := Option.map_eq_some_iff.mp hx
  refine h.run F σ H Z en y hy _ fun H1 Z1 v s1 r1 => ?_
  obtain ⟨p, vs, w, e1, h1, h2, r2⟩ := hp r1
  exact ⟨p, vs, i, w, e1, rfl, SqT.of (s1.zh _ _ h1), h2, q H1 Z1 w s1 r2⟩
end
/-! ### == of any data -/
class DatD (α : Type) [Enc α] where
  d : α → PyData
  dp : ∀ {K : Fg} {Z H : Hp} {v : V} {x : α}, Same Z H → Enc.rel K Z v x → Dp K H v (d x)
instance : DatD Int := ⟨.int, fun s h => Dat.dp s h⟩
instance : DatD Bool := ⟨.bool, fun s h => Dat.dp s h⟩
instance : DatD Str := ⟨.str, fun s h => Dat.dp s h⟩
instance : DatD Unit := ⟨fun _ => .none, fun s h => Dat.dp s h⟩
section
variable {α β γ δ : Type} [Enc α] [Enc β] [Enc γ] [Enc δ] [DatD α] [DatD β] [DatD γ] [DatD δ]
theorem dpAllD {K : Fg} {Z H : Hp} (s : Same Z H) : ∀ {vs : List V} {xs : List α}, All2 (Enc.rel K Z) vs xs → DpAll K H vs (xs.map DatD.d)
  | [], [], _ => .nil
  | _ :: _, _ :: _, ⟨a, b⟩ => .cons (DatD.dp s a) (dpAllD s b)
instance : DatD (List α) := ⟨fun xs => .list (xs.map DatD.d), fun s ⟨p, _, e, h, vs, eo, r⟩ => by subst e eo; exact .lst (SqL.of (s _ _ h)) (dpAllD s r)⟩
instance : DatD (P2 α β) := ⟨fun x => .tuple [DatD.d x.a, DatD.d x.b], fun s ⟨p, v1, v2, e, h, r1, r2⟩ => by subst e; exact .tup (SqT.of (s _ _ h)) (.cons (DatD.dp s r1) (.cons (DatD.dp s r2) .nil))⟩
instance : DatD (P3 α β γ) := ⟨fun x => .tuple [DatD.d x.a, DatD.d x.b, DatD.d x.c], fun s ⟨p, v1, v2, v3, e, h, r1, r2, r3⟩ => by subst e; exact .tup (SqT.of (s _ _ h)) (.cons (DatD.dp s r1) (.cons (DatD.dp s r2) (.cons (DatD.dp s r3) .nil)))⟩
instance : DatD (P4 α β γ δ) := ⟨fun x => .tuple [DatD.d x.a, DatD.d x.b, DatD.d x.c, DatD.d x.d], fun s ⟨p, v1, v2, v3, v4, e, h, r1, r2, r3, r4⟩ => by subst e; exact .tup (SqT.of (s _ _ h)) (.cons (DatD.dp s r1) (.cons (DatD.dp s r2) (.cons (DatD.dp s r3) (.cons (DatD.dp s r4) .nil))))⟩
instance : DatD (Option α) := ⟨fun x => match x with | none => .none | some y => DatD.d y, fun {K Z H v x} s h => by
  cases x with
  | none => cases (show v = V.non from h); exact .non
  | some y => exact DatD.dp s h.2⟩
instance : DatD (α ⊕ β) := ⟨fun x => match x with | .inl y => DatD.d y | .inr y => DatD.d y, fun {K Z H v x} s h => by
  cases x with
  | inl y => exact DatD.dp (α := α) s h
  | inr y => exact DatD.dp (α := β) s h⟩
def oEqv (m1 : Option α) (m2 : Option β) : Option Bool := o2 m1 m2 fun x y => if (SeqAt.shaped (DatD.d x) && SeqAt.shaped (DatD.d y)) = true then some (PyData.eqv (DatD.d x) (DatD.d y)) else none
def oNev (m1 : Option α) (m2 : Option β) : Option Bool := (oEqv m1 m2).map (!·)
variable {X : Cx} {Γ : List Ent} {a b : Expr} {pos : Pos} {m1 : Option α} {m2 : Option β}
theorem opx_eqv {K : Fg} : OpX K (rEqD K) (fun (x : α) (y : β) => if (SeqAt.shaped (DatD.d x) && SeqAt.shaped (DatD.d y)) = true then some (PyData.eqv (DatD.d x) (DatD.d y)) else none) := fun H Z v w x y z zh r1 r2 hz Q q => by
  dsimp only at hz
  cases c : (SeqAt.shaped (DatD.d x) && SeqAt.shaped (DatD.d y)) with
  | false => rw [c] at hz; cases hz
  | true =>
    rw [c] at hz
    cases hz
    rw [Bool.and_eq_true] at c
    exact ⟨_, _, DatD.dp zh r1, DatD.dp zh r2, c.1, c.2, q H Z _ (Step.refl zh) rfl⟩
theorem opx_nev {K : Fg} : OpX K (rNeD K) (fun (x : α) (y : β) => (if (SeqAt.shaped (DatD.d x) && SeqAt.shaped (DatD.d y)) = true then some (PyData.eqv (DatD.d x) (DatD.d y)) else none).map (!·)) := fun H Z v w x y z zh r1 r2 hz Q q => by
  dsimp only at hz
  cases c : (SeqAt.shaped (DatD.d x) && SeqAt.shaped (DatD.d y)) with
  | false => rw [c] at hz; cases hz
  | true =>
    rw [c] at hz
    cases hz
    rw [Bool.and_eq_true] at c
    exact ⟨_, _, DatD.dp zh r1, DatD.dp zh r2, c.1, c.2, q H Z _ (Step.refl zh) rfl⟩
theorem oNev_eq : oNev m1 m2 = o2 m1 m2 fun x y => (if (SeqAt.shaped (DatD.d x) && SeqAt.shaped (DatD.d y)) = true then some (PyData.eqv (DatD.d x) (DatD.d y)) else none).map (!·) := by
  cases m1 with
  | none => rfl
  | some x => cases m2 <;> rfl
theorem px_eqv (hu : X.A.units + 64 < cLine) (ha : PX X a Γ m1) (hb : PX X b Γ m2) : PX X (.Compare a [.Eq] [b] pos) Γ (oEqv m1 m2) := px_cmp (op_eqD hu) opx_eqv ha hb (nomark _)
theorem ptx_eqv (hu : X.A.units + 64 < cLine) (ha : PX X a Γ m1) (hb : PX X b Γ m2) : PTX X (.Compare a [.Eq] [b] pos) Γ (oEqv m1 m2) := ptx_cmp (op_eqD hu) opx_eqv ha hb (nomark _)
theorem px_nev (hu : X.A.units + 64 < cLine) (ha : PX X a Γ m1) (hb : PX X b Γ m2) : PX X (.Compare a [.NotEq] [b] pos) Γ (oNev m1 m2) := by
  rw [oNev_eq]
  exact px_cmp (op_neD hu) opx_nev ha hb (nomark _)
theorem ptx_nev (hu : X.A.units + 64 < cLine) (ha : PX X a Γ m1) (hb : PX X b Γ m2) : PTX X (.Compare a [.NotEq] [b] pos) Γ (oNev m1 m2) := by
  rw [oNev_eq]
  exact ptx_cmp (op_neD hu) opx_nev ha hb (nomark _)
end
/-! ### == of texts -/
section
variable {X : Cx} {Γ : List Ent} {a b : Expr} {pos : Pos} {m1 m2 : Option Str}
theorem opx_eqS : OpX X.K rEq (fun (i j : Str) => some (decide (i = j))) := fun H Z v w x y z zh r1 r2 hz Q q => by
  cases hz
  cases (show v = V.str x from r1)
  cases (show w = V.str y from r2)
  refine ⟨rfl, ?_⟩
  have e : decide (V.str x = V.str y) = decide (x = y) := by simp
  rw [e]
  exact q H Z _ (Step.refl zh) rfl
theorem opx_neS : OpX X.K rNe (fun (i j : Str) => some (!decide (i = j))) := fun H Z v w x y z zh r1 r2 hz Q q => by
  cases hz
  cases (show v = V.str x from r1)
  cases (show w = V.str y from r2)
  refine ⟨rfl, ?_⟩
  have e : decide (V.str x = V.str y) = decide (x = y) := by simp
  rw [e]
  exact q H Z _ (Step.refl zh) rfl
theorem px_eqs (ha : PX X a Γ m1) (hb : PX X b Γ m2) : PX X (.Compare a [.Eq] [b] pos) Γ (oEq m1 m2) := px_cmp op_eq opx_eqS ha hb (nomark _)
theorem ptx_eqs (ha : PX X a Γ m1) (hb : PX X b Γ m2) : PTX X (.Compare a [.Eq] [b] pos) Γ (oEq m1 m2) := ptx_cmp op_eq opx_eqS ha hb (nomark _)
theorem px_nes (ha : PX X a Γ m1) (hb : PX X b Γ m2) : PX X (.Compare a [.NotEq] [b] pos) Γ (oNe m1 m2) := px_cmp op_ne opx_neS ha hb (nomark _)
theorem ptx_nes (ha : PX X a Γ m1) (hb : PX X b Γ m2) : PTX X (.Compare a [.NotEq] [b] pos) Γ (oNe m1 m2) := ptx_cmp op_ne opx_neS ha hb (nomark _)
end
/-! ### what may raise, in a tuple -/
section
variable {X : Cx} {W : WX} {ER : ExR} {e a b : Expr} {Γ : List Ent} {pos : Pos} {α β : Type} [Enc α] [Enc β]
def Rs.map {α β : Type} (f : α → β) : Rs α → Rs β
  | .ok x => .ok (f x)
  | .er c i => .er c i
theorem pxx_inl {m : Option (Rs α)} (h : PXX X W ER e Γ m) : PXX X W ER e Γ (m.map (Rs.map fun x => (Sum.inl x : α ⊕ β))) := .mk fun F σ H Z en x hx Q q1 q2 => by
  obtain ⟨r, hr, rfl⟩ := Option.map_eq_some_iff.mp hx
  exact h.run F σ H Z en r hr Q (fun z ez H2 Z2 w s2 r2 => by subst ez; exact q1 _ rfl H2 Z2 w s2 r2) fun c i ez H2 Z2 cls d s2 r2 => by subst ez; exact q2 c i rfl H2 Z2 cls d s2 r2
theorem pxx_inr {m : Option (Rs β)} (h : PXX X W ER e Γ m) : PXX X W ER e Γ (m.map (Rs.map fun x => (Sum.inr x : α ⊕ β))) := .mk fun F σ H Z en x hx Q q1 q2 => by
  obtain ⟨r, hr, rfl⟩ := Option.map_eq_some_iff.mp hx
  exact h.run F σ H Z en r hr Q (fun z ez H2 Z2 w s2 r2 => by subst ez; exact q1 _ rfl H2 Z2 w s2 r2) fun c i ez H2 Z2 cls d s2 r2 => by subst ez; exact q2 c i rfl H2 Z2 cls d s2 r2
/-- (a, f(..)), f(..) may raise -/
theorem pxx_p2r {ct : Nat} {m1 : Option α} {m2 : Option (Rs β)} (ha : PX X a Γ m1) (hb : PXX X W ER b Γ m2) (h1 : starEach [a, b] X.env = (false, eval a X.env) :: starEach [b] X.env := by rfl) (h2 : starEach [b] X.env = (false, eval b X.env) :: starEach [] X.env := by rfl) :
    PXX X W ER (.Tuple [a, b] ct pos) Γ (m1.bind fun x => m2.map (Rs.map fun y => (⟨x, y⟩ : P2 α β))) := .mk fun F σ H Z en x hx Q q1 q2 pins s I => (pe_tup (pa_cons pe_w (pa_cons pe_w pa_nil h2) h1)).run pins s σ H Q I (by
  obtain ⟨y, hy, hx⟩ := Option.bind_eq_some_iff.mp hx
  obtain ⟨r, hr, rfl⟩ := Option.map_eq_some_iff.mp hx
  refine ha.run F σ H Z en y hy _ fun H1 Z1 v s1 r1 => hb.run F σ H1 Z1 (en.step s1) r hr _ (fun z ez H2 Z2 w s2 r2 => ?_) fun c i ez H2 Z2 cls d s2 r2 => ?_
  · subst ez
    refine ⟨by show 2 ≤ sizeLine; decide, fun p hp => ?_⟩
    have s3 := Step.new (o := .tup [v, w]) s2.zh hp
    exact q1 _ rfl _ _ _ ((s1.trans s2).trans s3) ⟨p, v, w, rfl, upd_same, Enc.mono (s2.zz.trans s3.zz) r1, Enc.mono s3.zz r2⟩
  · subst ez
    exact q2 c i rfl H2 Z2 cls d (s1.trans s2) r2)
end
section
variable {X : Cx} {Γ : List Ent} {a : Expr} {pos p : Pos} {α β : Type} [Enc α] [Enc β]
/-- isinstance of one of two kinds -/
theorem px_isiS {tl tr : String} [Tyv α tl] [Tyv β tr] {m : Option (α ⊕ β)} {T : String} {r1 r2 : Bool} {nm : Str} {p2 : Pos} (hm : X.mg "isinstance" = none) (hT : X.mg nm = none) (ha : PX X a Γ m) (hk1 : kitB tl T = some r1 := by decide +kernel) (hk2 : kitB tr T = some r2 := by decide +kernel) (hv : bootBuiltins nm = some (.type T) := by decide +kernel)
    (hg : Gl X "isinstance" := by rfl) (hgT : Gl X nm := by rfl) (hnn : nm ≠ "__name__" := by decide) (hnd : (nm == ("__debug__" : Str)) = false := by decide)
    (h1 : starEach [a, .Name nm p2] X.env = (false, eval a X.env) :: starEach [.Name nm p2] X.env := by rfl) : PX X (.Call (.Name "isinstance" p) [a, .Name nm p2] [] pos) Γ (m.map (Sum.elim (fun _ => r1) (fun _ => r2))) :=
  px_of (pe_callB call_isi hg hm (by decide +kernel) (pa_cons pe_w (pa_cons (pe_bltn (v := .ty T) hgT hT hv rfl hnn hnd) pa_nil) h1) (he := h1) (hpl := rfl)) fun F σ H Z en x hx Q q => by
    obtain ⟨y, hy, rfl⟩ := Option.map_eq_some_iff.mp hx
    refine ha.run F σ H Z en y hy _ fun H1 Z1 v s1 w1 => ?_
    cases y with
    | inl y => exact ⟨v, .ty T, _, _, r1, rfl, .ty T, Tyv.ty (α := α) s1.zh w1, kit_ty hk1, q H1 Z1 _ s1 rfl⟩
    | inr y => exact ⟨v, .ty T, _, _, r2, rfl, .ty T, Tyv.ty (α := β) s1.zh w1, kit_ty hk2, q H1 Z1 _ s1 rfl⟩
end
end G
/-! GMix: is of bools, int of a bool. -/
namespace G
open PySem L2
section
variable {X : Cx} {Γ : List Ent} {a b c e : Expr} {pos pos' p : Pos}
theorem px_isB {m1 m2 : Option Bool} (ha : PX X a Γ m1) (hb : PX X b Γ m2) : PX X (.Compare a [.Is] [b] pos) Γ (oEq m1 m2) :=
  px_cmp op_is_bl (fun H Z v w x y z zh r1 r2 hz Q q => ⟨x, y, r1, r2, by cases hz; exact q H Z _ (Step.refl zh) rfl⟩) ha hb (nomark _)
theorem ptx_isB {m1 m2 : Option Bool} (ha : PX X a Γ m1) (hb : PX X b Γ m2) : PTX X (.Compare a [.Is] [b] pos) Γ (oEq m1 m2) :=
  ptx_cmp op_is_bl (fun H Z v w x y z zh r1 r2 hz Q q => ⟨x, y, r1, r2, by cases hz; exact q H Z _ (Step.refl zh) rfl⟩) ha hb (nomark _)
theorem px_intB {m : Option Bool} (hm : X.mg "int" = none) (ha : PX X a Γ m) (hg : Gl X "int" := by rfl) (h1 : starEach [a] X.env = (false, eval a X.env) :: [] := by rfl) :
    PX X (.Call (.Name "int" p) [a] [] pos) Γ (m.map fun b => if b then (1 : Int) else 0) :=
  px_of (pe_callTy call_int1 hg hm (by decide +kernel) (pa_cons pe_w pa_nil h1) (he := h1) (hpl := rfl)) fun F σ H Z en x hx Q q => by
    obtain ⟨y, hy, rfl⟩ := Option.map_eq_some_iff.mp hx
    refine ha.run F σ H Z en y hy _ fun H1 Z1 v s1 r1 => ?_
    exact .inr ⟨y, by rw [show v = V.bl y from r1], q H1 Z1 _ s1 rfl⟩
theorem px_globI {x : Str} {i : Int} (hm : ∃ t, X.mg x = some (.int i t)) (hg : Gl X x := by rfl) (hd : (x == ("__debug__" : Str)) = false := by decide) : PX X (.Name x pos) Γ (some i) := by
  obtain ⟨t, ht⟩ := hm
  exact px_glob ht ⟨t, rfl⟩ hg hd
variable {α β γ δ : Type} [Enc α] [Enc β] [Enc γ] [Enc δ]
instance [NonN α] [NonN β] : NonN (α ⊕ β) := ⟨fun {K Z v x} h => by
  cases x with
  | inl x => exact NonN.nn (α := α) h
  | inr x => exact NonN.nn (α := β) h⟩
end
end G
/-! GObj: instances of the program's classes, owned or still; their fields. -/
namespace G
open PySem L2
/-- an instance of the class nm; ns: the fields' names, the last one first -/
structure Ins (nm : Str) (ns : List Str) (α : Type) where
  v : α
  deriving DecidableEq
/-- still data inside of what is owned -/
structure Sd (α : Type) where
  v : α
  deriving DecidableEq
instance {α : Type} [Enc α] : Enc (Sd α) := ⟨fun K Z v x => Enc.rel K Z v x.v, fun s h => Enc.mono s h⟩
instance {α : Type} [Enc α] : Own (Sd α) := stillOwn
instance {α : Type} [Enc α] : PlainO (Sd α) := ⟨fun r => ⟨r, fun _ f => f⟩⟩
instance {α : Type} [Enc α] [Flat α] : Flat (Sd α) := ⟨fun s h => Flat.flat (α := α) s h⟩
/-- the fields by their names -/
class Flds (α : Type) where
  rel : Fg → Hp → List Str → List (Str × V) → α → Prop
  own : Fg → Hp → Hp → List Str → List (Str × V) → α → Fp → Prop
  mono : ∀ {K : Fg} {Z Z' : Hp} {ns : List Str} {fs : List (Str × V)} {x : α}, Same Z Z' → rel K Z ns fs x → rel K Z' ns fs x
  omono : ∀ {K : Fg} {Z Z' H H' : Hp} {ns : List Str} {fs : List (Str × V)} {x : α} {fp : Fp}, Same Z Z' → (∀ a, fp a → H' a = H a) → own K Z H ns fs x fp → own K Z' H' ns fs x fp
  odom : ∀ {K : Fg} {Z H : Hp} {ns : List Str} {fs : List (Str × V)} {x : α} {fp : Fp} {a : Addr}, own K Z H ns fs x fp → fp a → ∃ u, H a = some u ∧ ∀ xs, u ≠ .tup xs
  froz : ∀ {K : Fg} {Z H Z' : Hp} {ns : List Str} {fs : List (Str × V)} {x : α} {fp : Fp}, own K Z H ns fs x fp → Same Z Z' → (∀ a, fp a → Z' a = H a) → rel K Z' ns fs x
  keys : ∀ {K : Fg} {Z H : Hp} {ns : List Str} {fs : List (Str × V)} {x : α} {fp : Fp}, own K Z H ns fs x fp → fs.map Prod.fst = ns.reverse
  rkeys : ∀ {K : Fg} {Z : Hp} {ns : List Str} {fs : List (Str × V)} {x : α}, rel K Z ns fs x → fs.map Prod.fst = ns.reverse
instance : Flds Unit where
  rel _ _ ns fs _ := ns = [] ∧ fs = []
  own _ _ _ ns fs _ fp := ns = [] ∧ fs = [] ∧ ∀ a, ¬ fp a
  mono := fun _ h => h
  omono := fun _ _ h => h
  odom := fun ⟨_, _, h⟩ f => absurd f (h _)
  froz := fun ⟨h1, h2, _⟩ _ _ => ⟨h1, h2⟩
  keys := fun ⟨h1, h2, _⟩ => by rw [h1, h2]; rfl
  rkeys := fun ⟨h1, h2⟩ => by rw [h1, h2]; rfl
instance {α β : Type} [Flds α] [Enc β] [Own β] : Flds (α × β) where
  rel K Z ns fs x := ∃ n r g v, ns = n :: r ∧ fs = g ++ [(n, v)] ∧ Flds.rel K Z r g x.1 ∧ Enc.rel K Z v x.2
  own K Z H ns fs x fp := ∃ (n : Str) (r : List Str) (g : List (Str × V)) (v : V) (f1 f2 : Fp), ns = n :: r ∧ fs = g ++ [(n, v)] ∧ Flds.own K Z H r g x.1 f1 ∧ Own.own K Z H v x.2 f2 ∧ (∀ a, fp a ↔ f1 a ∨ f2 a) ∧ ∀ a, f1 a → ¬ f2 a
  mono := fun s ⟨n, r, g, v, e1, e2, h1, h2⟩ => ⟨n, r, g, v, e1, e2, Flds.mono s h1, Enc.mono s h2⟩
  omono := fun s k ⟨n, r, g, v, f1, f2, e1, e2, h1, h2, h3, h4⟩ => ⟨n, r, g, v, f1, f2, e1, e2, Flds.omono s (fun a q => k a ((h3 a).mpr (.inl q))) h1, Own.omono s (fun a q => k a ((h3 a).mpr (.inr q))) h2, h3, h4⟩
  odom := fun ⟨n, r, g, v, f1, f2, e1, e2, h1, h2, h3, h4⟩ f => by
    rcases (h3 _).mp f with q | q
    · exact Flds.odom h1 q
    · exact Own.odom h2 q
  froz := fun ⟨n, r, g, v, f1, f2, e1, e2, h1, h2, h3, h4⟩ s k => ⟨n, r, g, v, e1, e2, Flds.froz h1 s (fun a q => k a ((h3 a).mpr (.inl q))), Own.froz h2 s (fun a q => k a ((h3 a).mpr (.inr q)))⟩
  keys := fun ⟨n, r, g, v, f1, f2, e1, e2, h1, h2, h3, h4⟩ => by rw [e1, e2, List.map_append, Flds.keys h1, List.reverse_cons]; rfl
  rkeys := fun ⟨n, r, g, v, e1, e2, h1, h2⟩ => by rw [e1, e2, List.map_append, Flds.rkeys h1, List.reverse_cons]; rfl
theorem lookup_snoc_here {f : Str} {v : V} : ∀ {g : List (Str × V)}, f ∉ g.map Prod.fst → (g ++ [(f, v)]).lookup f = some v
  | [], _ => by simp
  | (n, u) :: g, h => by
    have h1 : f ≠ n := fun e => h (by rw [e]; exact List.mem_cons_self)
    have h2 : f ∉ g.map Prod.fst := fun q => h (List.mem_cons_of_mem _ q)
    show ((n, u) :: (g ++ [(f, v)])).lookup f = some v
    rw [List.lookup_cons, show (f == n) = false from beq_eq_false_iff_ne.mpr h1]
    exact lookup_snoc_here h2
theorem lookup_snoc_there {f n : Str} {u v : V} : ∀ {g : List (Str × V)}, g.lookup f = some v → (g ++ [(n, u)]).lookup f = some v
  | [], h => by simp at h
  | (m, w) :: g, h => by
    show ((m, w) :: (g ++ [(n, u)])).lookup f = some v
    rw [List.lookup_cons] at h ⊢
    cases c : (f == m) with
    | true => rw [c] at h; exact h
    | false => rw [c] at h; exact lookup_snoc_there h
theorem putF_here {f : Str} {v w : V} : ∀ {g : List (Str × V)}, f ∉ g.map Prod.fst → putF f w (g ++ [(f, v)]) = g ++ [(f, w)]
  | [], _ => by simp [putF]
  | (n, u) :: g, h => by
    have h1 : ¬ n = f := fun e => h (by rw [← e]; exact List.mem_cons_self)
    have h2 : f ∉ g.map Prod.fst := fun q => h (List.mem_cons_of_mem _ q)
    show putF f w ((n, u) :: (g ++ [(f, v)])) = _
    rw [putF, if_neg h1, putF_here h2]
    rfl
theorem putF_end {f : Str} {w : V} : ∀ {g : List (Str × V)}, f ∉ g.map Prod.fst → putF f w g = g ++ [(f, w)]
  | [], _ => rfl
  | (n, u) :: g, h => by
    have h1 : ¬ n = f := fun e => h (by rw [← e]; exact List.mem_cons_self)
    have h2 : f ∉ g.map Prod.fst := fun q => h (List.mem_cons_of_mem _ q)
    rw [putF, if_neg h1, putF_end h2]
    rfl
theorem putF_there {f n : Str} {u v w : V} : ∀ {g : List (Str × V)}, g.lookup f = some v → putF f w (g ++ [(n, u)]) = putF f w g ++ [(n, u)]
  | [], h => by simp at h
  | (m, x) :: g, h => by
    show putF f w ((m, x) :: (g ++ [(n, u)])) = _
    rw [List.lookup_cons] at h
    unfold putF
    by_cases c : m = f
    · rw [if_pos c, if_pos c]; rfl
    · rw [if_neg c, if_neg c]
      have h1 : (f == m) = false := beq_eq_false_iff_ne.mpr fun e => c e.symm
      rw [h1] at h
      rw [putF_there h]
      rfl
theorem putF_same {f : Str} {v : V} : ∀ {g : List (Str × V)}, g.lookup f = some v → putF f v g = g
  | [], h => by simp at h
  | (m, x) :: g, h => by
    rw [List.lookup_cons] at h
    unfold putF
    by_cases c : m = f
    · subst c
      rw [show (m == m) = true from beq_self_eq_true m] at h
      rw [if_pos rfl, Option.some.inj h]
    · have h1 : (f == m) = false := beq_eq_false_iff_ne.mpr fun e => c e.symm
      rw [h1] at h
      rw [if_neg c, putF_same h]
/-- a field, how it is read and put -/
structure Fld (ns : List Str) (f : Str) {α β : Type} [Flds α] [Enc β] [Own β] (get : α → β) (set : α → β → α) : Prop where
  rel : ∀ {K : Fg} {Z : Hp} {fs : List (Str × V)} {x : α}, Flds.rel K Z ns fs x → ∃ v, fs.lookup f = some v ∧ Enc.rel K Z v (get x)
  own : ∀ {K : Fg} {Z H : Hp} {fs : List (Str × V)} {x : α} {fp : Fp}, Flds.own K Z H ns fs x fp → ∃ (v : V) (f1 fr : Fp), fs.lookup f = some v ∧ Own.own K Z H v (get x) f1 ∧ (∀ a, fp a ↔ f1 a ∨ fr a) ∧ (∀ a, f1 a → ¬ fr a) ∧ (∀ a, fr a → ∃ u, H a = some u ∧ ∀ ys, u ≠ .tup ys) ∧
    ∀ (Z' H' : Hp) (w : V) (y : β) (f2 : Fp), Same Z Z' → (∀ a, fr a → H' a = H a) → Own.own K Z' H' w y f2 → (∀ a, f2 a → ¬ fr a) → Flds.own K Z' H' ns (putF f w fs) (set x y) (fun a => f2 a ∨ fr a)
section
variable {α β γ : Type} [Flds α] [Enc β] [Own β] [Enc γ] [Own γ] {ns : List Str} {f n : Str}
theorem fld_here (h : f ∉ ns) : Fld (f :: ns) f (fun x : α × β => x.2) (fun x y => (x.1, y)) where
  rel := fun ⟨n, r, g, v, e1, e2, h1, h2⟩ => by
    cases e1
    subst e2
    exact ⟨v, lookup_snoc_here (by rw [Flds.rkeys h1]; simpa using h), h2⟩
  own := fun {K Z H fs x fp} ⟨n, r, g, v, f1, f2, e1, e2, h1, h2, h3, h4⟩ => by
    cases e1
    subst e2
    have nk : f ∉ g.map Prod.fst := by rw [Flds.keys h1]; simpa using h
    refine ⟨v, f2, f1, lookup_snoc_here nk, h2, fun a => (h3 a).trans Or.comm, fun a q r => h4 a r q, fun a q => Flds.odom h1 q, fun Z' H' w y f3 s k o d => ?_⟩
    exact ⟨f, ns, g, w, f1, f3, rfl, putF_here nk, Flds.omono s (fun a q => k a q) h1, o, fun a => Or.comm, fun a q r => d a r q⟩
theorem fld_there {get : α → β} {set : α → β → α} (F : Fld ns f get set) (hne : n ≠ f) : Fld (n :: ns) f (fun x : α × γ => get x.1) (fun x y => (set x.1 y, x.2)) where
  rel := fun ⟨m, r, g, v, e1, e2, h1, h2⟩ => by
    cases e1
    subst e2
    obtain ⟨w, hl, hr⟩ := F.rel h1
    exact ⟨w, lookup_snoc_there hl, hr⟩
  own := fun {K Z H fs x fp} ⟨m, r, g, v, f1, f2, e1, e2, h1, h2, h3, h4⟩ => by
    cases e1
    subst e2
    obtain ⟨w, g1, gr, hl, o1, i1, d1, m1, k1⟩ := F.own h1
    refine ⟨w, g1, fun a => gr a ∨ f2 a, lookup_snoc_there hl, o1, fun a => ?_, fun a q r => ?_, fun a q => ?_, fun Z' H' w' y f3 s k o d => ?_⟩
    · rw [h3 a, i1 a]; exact or_assoc
    · rcases r with r | r
      · exact d1 a q r
      · exact h4 a ((i1 a).mpr (.inl q)) r
    · rcases q with q | q
      · exact m1 a q
      · exact Own.odom h2 q
    · refine ⟨n, ns, putF f w' g, v, fun a => f3 a ∨ gr a, f2, rfl, putF_there hl, k1 Z' H' w' y f3 s (fun a q => k a (.inl q)) o (fun a q r => d a q (.inl r)), Own.omono s (fun a q => k a (.inr q)) h2, fun a => ?_, fun a q r => ?_⟩
      · exact or_assoc.symm
      · rcases q with q | q
        · exact d a q (.inr r)
        · exact h4 a ((i1 a).mpr (.inr q)) r
end
def IsCls (K : Fg) (nm : Str) (C : Addr) : Prop := PySem.W.nsIn K mainGlobals nm = some (some (.ref C))
theorem IsCls.same {K : Fg} {nm : Str} {C D : Addr} (h : IsCls K nm C) (h2 : IsCls K nm D) : C = D := by
  have := h.symm.trans h2
  cases this
  rfl
instance {nm : Str} {ns : List Str} {α : Type} [Flds α] : Enc (Ins nm ns α) := ⟨fun K Z v x => ∃ (a C dx : Addr) (fs : List (Str × V)), v = .ref a ∧ Z a = some (.ins C dx fs) ∧ IsCls K nm C ∧ Flds.rel K Z ns fs x.v, fun s ⟨a, C, dx, fs, e, h, c, r⟩ => ⟨a, C, dx, fs, e, s _ _ h, c, Flds.mono s r⟩⟩
instance {nm : Str} {ns : List Str} {α : Type} [Flds α] : Own (Ins nm ns α) where
  own K Z H v x fp := ∃ (a C dx : Addr) (fs : List (Str × V)) (fe : Fp), v = .ref a ∧ H a = some (.ins C dx fs) ∧ IsCls K nm C ∧ Flds.own K Z H ns fs x.v fe ∧ (∀ b, fp b ↔ b = a ∨ fe b) ∧ ¬ fe a
  omono := fun s g ⟨a, C, dx, fs, fe, e, h, c, o, hc, hd⟩ => ⟨a, C, dx, fs, fe, e, (g a ((hc a).mpr (.inl rfl))).trans h, c, Flds.omono s (fun b q => g b ((hc b).mpr (.inr q))) o, hc, hd⟩
  odom := fun ⟨a, C, dx, fs, fe, e, h, c, o, hc, hd⟩ f => by
    rcases (hc _).mp f with q | q
    · subst q
      exact ⟨_, h, fun ys z => by cases z⟩
    · exact Flds.odom o q
  froz := fun ⟨a, C, dx, fs, fe, e, h, c, o, hc, hd⟩ s g => ⟨a, C, dx, fs, e, (g a ((hc a).mpr (.inl rfl))).trans h, c, Flds.froz o s (fun b q => g b ((hc b).mpr (.inr q)))⟩
/-- what the text says of a class -/
structure ClsF (K : Fg) (nm : Str) (C : Addr) : Prop where
  is : IsCls K nm C
  cl : Cls K C
section
variable {X : Cx} {Γ : List Ent} {e a b c : Expr} {es : List Expr} {pos pos2 apos p : Pos} {α β : Type} [Flds α] [Enc β] [Own β] {nm f : Str} {ns : List Str} {C : Addr} {get : α → β} {set : α → β → α}
theorem px_sd {γ : Type} [Enc γ] {m : Option (Sd γ)} (h : PX X e Γ m) : PX X e Γ (m.map Sd.v) := .mk fun F σ H Z en x hx Q q => by
  obtain ⟨y, hy, rfl⟩ := Option.map_eq_some_iff.mp hx
  exact h.run F σ H Z en y hy Q q
theorem px_toSd {γ : Type} [Enc γ] {m : Option γ} (h : PX X e Γ m) : PX X e Γ (m.map Sd.mk) := .mk fun F σ H Z en x hx Q q => by
  obtain ⟨y, hy, rfl⟩ := Option.map_eq_some_iff.mp hx
  exact h.run F σ H Z en y hy Q q
/-- a field of a still instance -/
theorem px_fld {m : Option (Ins nm ns α)} (c : ClsF X.K nm C) (n : NoAttr X.K C f) (F : Fld ns f get set) (h : PX X e Γ m) (hb : attributeBase e f X.env (eval e X.env) = eval e X.env := by rfl) : PX X (.Attribute e f pos) Γ (m.map fun x => get x.v) :=
  px_of (pe_fld pe_w hb) fun Fr σ H Z en x hx Q q => by
    obtain ⟨y, hy, rfl⟩ := Option.map_eq_some_iff.mp hx
    refine h.run Fr σ H Z en y hy _ fun H1 Z1 v s1 r1 => ?_
    obtain ⟨a, D, dx, fs, e1, hz, hc, r⟩ := r1
    cases hc.same c.is
    obtain ⟨w, hl, hr⟩ := F.rel r
    exact ⟨a, C, dx, fs, w, e1, s1.zh _ _ hz, c.cl, n, hl, q H1 Z1 w s1 hr⟩
/-- a field as a place -/
theorem pr_fld {x : Ins nm ns α} {T : Ins nm ns α → List Ent} (c : ClsF X.K nm C) (n : NoAttr X.K C f) (F : Fld ns f get set) (h : PR X e Γ (some x) T) (hb : attributeBase e f X.env (eval e X.env) = eval e X.env := by rfl) : PR X (.Attribute e f pos) Γ (some (get x.v)) (fun z => T ⟨set x.v z⟩) := .mk fun Fr σ H Z en z hz Q q pins s I => by
  cases hz
  refine (pe_fld pe_w hb).run pins s σ H Q I ?_
  refine h.run Fr σ H Z en x rfl _ fun H1 Z1 v fp s1 A => ?_
  obtain ⟨l, D, dx, fs, fe, e1, hl, hcl, o, hc, hd⟩ := A.own
  cases hcl.same c.is
  subst e1
  obtain ⟨v1, f1, fr, ev, o1, i1, d1, m1, k1⟩ := F.own o
  refine ⟨l, C, dx, fs, v1, rfl, hl, c.cl, n, ev, q H1 Z1 v1 f1 s1 ⟨o1, A.zh, fun a q => A.out a ((hc a).mpr (.inr ((i1 a).mpr (.inl q)))), fun H3 Z3 z fp2 g o2 => ?_⟩⟩
  have nl : ∀ a, fr a → ¬ fp2 a := fun a r f => by
    obtain ⟨u, hu, _⟩ := m1 a r
    rcases (g.out a f).1 with q | q
    · exact d1 a q r
    · rw [q] at hu; cases hu
  have nf : ¬ f1 l := fun q => hd ((i1 l).mpr (.inl q))
  have nf2 : ¬ fp2 l := fun f => by
    rcases (g.out l f).1 with q | q
    · exact nf q
    · rw [q] at hl; cases hl
  have keep : ∀ a, fr a → H3 a = H1 a := fun a r => by
    obtain ⟨u, hu, _⟩ := m1 a r
    rw [hu]; exact g.hh a u hu (fun q => d1 a q r)
  refine A.put H3 Z3 _ (fun a => a = l ∨ fp2 a ∨ fr a) ⟨fun a u hu n => g.hh a u hu (fun q => n ((hc a).mpr (.inr ((i1 a).mpr (.inl q))))), g.zz, g.zh, fun a u hu n => g.old a u hu (fun q => n ((hc a).mpr (.inr ((i1 a).mpr (.inl q))))), fun a f => ?_⟩ ⟨l, C, dx, fs, fun a => fp2 a ∨ fr a, rfl, g.hh l _ hl nf, c.is, ?_, fun _ => Iff.rfl, fun f => ?_⟩
  · rcases f with q | q | q
    · subst q
      exact ⟨.inl ((hc a).mpr (.inl rfl)), (g.old a _ hl nf).trans (A.out a ((hc a).mpr (.inl rfl))).2⟩
    · refine ⟨?_, (g.out a q).2⟩
      rcases (g.out a q).1 with q | q
      · exact .inl ((hc a).mpr (.inr ((i1 a).mpr (.inl q))))
      · exact .inr q
    · obtain ⟨u, hu, _⟩ := m1 a q
      exact ⟨.inl ((hc a).mpr (.inr ((i1 a).mpr (.inr q)))), (g.old a u hu (fun q2 => d1 a q2 q)).trans (A.out a ((hc a).mpr (.inr ((i1 a).mpr (.inr q))))).2⟩
  · have := k1 Z3 H3 v1 z fp2 g.zz keep o2 (fun a q r => nl a r q)
    rw [putF_same ev] at this
    exact this
  · rcases f with q | q
    · exact nf2 q
    · exact hd ((i1 l).mpr (.inr q))
end
end G
/-! GObj2: fields that are put, anew or as they stood. -/
namespace G
open PySem L2
section
variable {K : Fg} {F : Frame} {σ : St} {H Z H' Z' : Hp} {Γ : List Ent}
open Classical in
/-- the last entry is taken out: a new thing over what is left -/
theorem EnvOk.take {C : Type} [Enc C] [Own C] {y : C} {v : V} (e : EnvOk K F (σ ++ [some v]) H Z (Γ ++ [.ow none y])) (hl : σ.length = Γ.length) : ∃ (fp : Fp) (Hm : Hp), EnvOk K F σ Hm Z Γ ∧ NewO K Hm Z H Z v y fp := by
  obtain ⟨fps, h, hd⟩ := e.ent
  obtain ⟨o, ho, w, e1, _, ow, out⟩ := h Γ.length (.ow none y) (by rw [List.getElem?_append_right (by omega)]; simp)
  rw [List.getElem?_append_right (by omega), hl] at ho
  simp at ho
  subst ho
  cases e1
  refine ⟨fps Γ.length, fun a => if fps Γ.length a then none else H a, ⟨fun a u hu => ?_, e.zz, fun a u hu => ?_, e.old, hl, fps, fun i t ht => ?_, hd⟩, ⟨fun a u hu => ?_, Same.refl _, e.zh, fun _ _ _ => rfl⟩, ow, fun a f => ⟨if_pos f, (out a f).2⟩⟩
  · show (if fps Γ.length a then none else H a) = some u
    by_cases c : fps Γ.length a
    · rw [(out a c).1] at hu; cases hu
    · rw [if_neg c]; exact e.hh a u hu
  · show (if fps Γ.length a then none else H a) = some u
    by_cases c : fps Γ.length a
    · rw [(out a c).2] at hu; cases hu
    · rw [if_neg c]; exact e.zh a u hu
  · have hi : i < Γ.length := (List.getElem?_eq_some_iff.mp ht).1
    obtain ⟨o, ho, q⟩ := h i t (by rw [List.getElem?_append_left hi]; exact ht)
    refine ⟨o, by rw [List.getElem?_append_left (by omega)] at ho; exact ho, q.mono (Same.refl _) (fun a f => ?_) (fun _ _ => rfl)⟩
    show (if fps Γ.length a then none else H a) = H a
    rw [if_neg fun f2 => hd i Γ.length a (by omega) f f2]
  · have hu : (if fps Γ.length a then none else H a) = some u := hu
    by_cases c : fps Γ.length a
    · rw [if_pos c] at hu; cases hu
    · rw [if_neg c] at hu; exact hu
/-- what stands at a name is put anew, of another kind maybe -/
theorem EnvOk.at2 {C : Type} [Enc C] [Own C] {c : C} {i : Nat} {bv : Option Nat} (e : EnvOk K F σ H Z Γ) (hi : Γ[i]? = some (.ow bv c)) : ∃ v fp, σ[i]? = some (some v) ∧ Own.own K Z H v c fp ∧ (∀ a, fp a → F.H0 a = none ∧ Z a = none) ∧
    ∀ (H' Z' : Hp) (D : Type) (_ : Enc D) (_ : Own D) (c' : D) (fp' : Fp), Frm H Z H' Z' fp fp' → Own.own K Z' H' v c' fp' → EnvOk K F σ H' Z' (Γ.set i (.ow bv c')) := by
  obtain ⟨o, fp, ho, q0, k⟩ := e.focus hi
  obtain ⟨v, e1, hb, r, q⟩ := q0
  subst e1
  refine ⟨v, fp, ho, r, q, fun H' Z' D _ _ c' fp' g o' => ?_⟩
  have := k H' Z' (.ow bv c') (some v) fp' g.hh g.zz g.zh g.old (fun a f => (g.out a f).1) ⟨v, rfl, hb, o', fun a f => ⟨?_, (g.out a f).2⟩⟩
  · rw [set_self ho] at this; exact this
  · rcases (g.out a f).1 with q' | q'
    · exact (q a q').1
    · exact e.hh.free q'
variable {α β : Type} [Flds α] [Enc β] [Own β] {nm f : Str} {ns : List Str} {get : α → β} {set : α → β → α} {x : Ins nm ns α} {y : β} {i : Nat} {bv : Option Nat} {w : V} {f2 : Fp} {Hm : Hp}
theorem Flds.flen {fs : List (Str × V)} {z : α} {fp : Fp} (o : Flds.own K Z H ns fs z fp) : fs.length = ns.length := by
  have := congrArg List.length (Flds.keys o)
  simpa using this
/-- a field is put -/
theorem EnvOk.setF (e : EnvOk K F σ Hm Z Γ) (n : NewO K Hm Z H Z w y f2) (Fd : Fld ns f get set) (hi : Γ[i]? = some (.ow bv x)) : ∃ (l C dx : Addr) (fs : List (Str × V)), σ[i]? = some (some (.ref l)) ∧ H l = some (.ins C dx fs) ∧ IsCls K nm C ∧ fs.length = ns.length ∧
    EnvOk K F σ (upd H l (.ins C dx (putF f w fs))) Z (Γ.set i (.ow bv (⟨set x.v y⟩ : Ins nm ns α))) := by
  obtain ⟨v, fp, ev, ow, out, put⟩ := e.at2 hi
  obtain ⟨l, C, dx, fs, fe, e1, hl, hcl, o, hc, hd⟩ := ow
  subst e1
  obtain ⟨v1, f1, fr, elk, o1, i1, d1, m1, k1⟩ := Fd.own o
  have fl : fp l := (hc l).mpr (.inl rfl)
  have hne : ∀ a, f2 a → a ≠ l := fun a q z => by
    subst z
    rw [(n.out a q).1] at hl; cases hl
  refine ⟨l, C, dx, fs, ev, n.st.hh _ _ hl, hcl, Flds.flen o, put _ Z _ _ _ _ (fun b => b = l ∨ f2 b ∨ fr b) ⟨fun a u hu nf => ?_, Same.refl _, fun a u hu => ?_, fun _ _ _ _ => rfl, fun a q => ?_⟩ ⟨l, C, dx, putF f w fs, fun b => f2 b ∨ fr b, rfl, upd_same, hcl, k1 Z _ w y f2 (Same.refl _) (fun a q => ?_) (Own.omono (Same.refl _) (fun a q => upd_ne (hne a q)) n.own) (fun a q r => ?_), fun _ => Iff.rfl, fun q => ?_⟩⟩
  · rw [upd_ne (fun z => nf (by rw [z]; exact fl))]
    exact n.st.hh a u hu
  · rw [upd_ne (ne_of_none hu (out l fl).2)]
    exact n.st.hh a u (e.zh a u hu)
  · rcases q with q | q | q
    · subst q; exact ⟨.inl fl, (out a fl).2⟩
    · exact ⟨.inr (n.out a q).1, (n.out a q).2⟩
    · have : fp a := (hc a).mpr (.inr ((i1 a).mpr (.inr q)))
      exact ⟨.inl this, (out a this).2⟩
  · rw [upd_ne (fun (z : a = l) => hd ((i1 l).mpr (.inr (z ▸ q))))]
    obtain ⟨u, hu, _⟩ := m1 a q
    rw [hu]; exact n.st.hh a u hu
  · obtain ⟨u, hu, _⟩ := m1 a r
    rw [(n.out a q).1] at hu; cases hu
  · rcases q with q | q
    · exact hne l q rfl
    · exact hd ((i1 l).mpr (.inr q))
/-- a field more -/
theorem EnvOk.newF (e : EnvOk K F σ Hm Z Γ) (n : NewO K Hm Z H Z w y f2) (hf : f ∉ ns) (hi : Γ[i]? = some (.ow bv x)) : ∃ (l C dx : Addr) (fs : List (Str × V)), σ[i]? = some (some (.ref l)) ∧ H l = some (.ins C dx fs) ∧ IsCls K nm C ∧ fs.length = ns.length ∧
    EnvOk K F σ (upd H l (.ins C dx (putF f w fs))) Z (Γ.set i (.ow bv (⟨(x.v, y)⟩ : Ins nm (f :: ns) (α × β)))) := by
  obtain ⟨v, fp, ev, ow, out, put⟩ := e.at2 hi
  obtain ⟨l, C, dx, fs, fe, e1, hl, hcl, o, hc, hd⟩ := ow
  subst e1
  have fl : fp l := (hc l).mpr (.inl rfl)
  have hne : ∀ a, f2 a → a ≠ l := fun a q z => by
    subst z
    rw [(n.out a q).1] at hl; cases hl
  refine ⟨l, C, dx, fs, ev, n.st.hh _ _ hl, hcl, Flds.flen o, put _ Z _ _ _ _ (fun b => b = l ∨ fe b ∨ f2 b) ⟨fun a u hu nf => ?_, Same.refl _, fun a u hu => ?_, fun _ _ _ _ => rfl, fun a q => ?_⟩ ⟨l, C, dx, putF f w fs, fun b => fe b ∨ f2 b, rfl, upd_same, hcl, ⟨f, ns, fs, w, fe, f2, rfl, putF_end (by rw [Flds.keys o]; simpa using hf), Flds.omono (Same.refl _) (fun a q => ?_) o, Own.omono (Same.refl _) (fun a q => upd_ne (hne a q)) n.own, fun _ => Iff.rfl, fun a q r => ?_⟩, fun _ => Iff.rfl, fun q => ?_⟩⟩
  · rw [upd_ne (fun z => nf (by rw [z]; exact fl))]
    exact n.st.hh a u hu
  · rw [upd_ne (ne_of_none hu (out l fl).2)]
    exact n.st.hh a u (e.zh a u hu)
  · rcases q with q | q | q
    · subst q; exact ⟨.inl fl, (out a fl).2⟩
    · have : fp a := (hc a).mpr (.inr q)
      exact ⟨.inl this, (out a this).2⟩
    · exact ⟨.inr (n.out a q).1, (n.out a q).2⟩
  · rw [upd_ne (fun (z : a = l) => hd (z ▸ q))]
    obtain ⟨u, hu, _⟩ := Flds.odom o q
    rw [hu]; exact n.st.hh a u hu
  · obtain ⟨u, hu, _⟩ := Flds.odom o q
    rw [(n.out a r).1] at hu; cases hu
  · rcases q with q | q
    · exact hd q
    · exact hne l q rfl
end
section
variable {X : Cx} {W : WX} {ER : ExS} {rest : List Stmt} {e a b c : Expr} {es : List Expr} {pos pos' p p1 p2 : Pos} {Γ Γ' : List Ent} {N L R : Type} [Res R] {GN : N → List Ent} {GL : L → List Ent} {o : Fl N L R} {α β : Type} [Flds α] [Enc β] [Own β] {nm f vn : Str} {ns : List Str} {C : Addr} {get : α → β} {set : α → β → α}
/-- self.f = e -/
theorem bx_setF (i : Nat) {bv : Option Nat} {x : Ins nm ns α} {m : Option β} {k : β → Option (Fl N L R)} (cl : ClsF X.K nm C) (na : NoAttr X.K C f) (Fd : Fld ns f get set) (hx : PRT X e Γ Γ' m) (h : m.bind k = some o) (hr : ∀ y, k y = some o → BX X W ER rest (Γ'.set i (.ow bv (⟨set x.v y⟩ : Ins nm ns α))) GN GL o)
    (hΓ : Γ'[i]? = some (.ow bv x) := by rfl) (hlen : ns.length < 1000 := by decide) (hN : X.N[i]? = some vn := by rfl) (hv : Vis X.env.scope vn := by first | exact Or.inl rfl | exact Or.inr (Or.inl rfl) | exact Or.inr (Or.inr rfl)) (hd : (vn == ("__debug__" : Str)) = false := by decide)
    (hcd : (vn == ("__classdict__" : Str)) = false := by decide) (hs : swapsWith e (some (.Attribute (.Name vn p1) f p2)) pos.line X.env = pure false := by rfl) : BX X W ER (.Assign [.Attribute (.Name vn p1) f p2] e pos :: rest) Γ GN GL o := by
  obtain ⟨y, h2, h3⟩ := Option.bind_eq_some_iff.mp h
  refine bx_cons (ps_fld (pe_var (i := i) hN hv hd hcd) pe_w hs) fun F D ac σ H Z en => hx.run F σ [] [] H Z en.len (by rw [List.append_nil, List.append_nil]; exact en) y h2 _ fun H' Z' v s en' => ?_
  obtain ⟨fp, Hm, e2, n⟩ := EnvOk.take (σ := σ) (Γ := Γ') (by simpa using en') (by rw [hx.len]; exact en.len)
  obtain ⟨l, D', dx, fs, ev, hl, hc, hfl, e3⟩ := e2.setF n Fd hΓ
  cases hc.same cl.is
  exact ⟨_, ev, l, C, dx, fs, rfl, hl, cl.cl, na, by rw [hfl]; exact hlen, (hr y h3).run F D ac σ _ Z' e3⟩
/-- self.f = e, the first time -/
theorem bx_newF (i : Nat) {bv : Option Nat} {x : Ins nm ns α} {m : Option β} {k : β → Option (Fl N L R)} (cl : ClsF X.K nm C) (na : NoAttr X.K C f) (hf : f ∉ ns) (hx : PRT X e Γ Γ' m) (h : m.bind k = some o) (hr : ∀ y, k y = some o → BX X W ER rest (Γ'.set i (.ow bv (⟨(x.v, y)⟩ : Ins nm (f :: ns) (α × β)))) GN GL o)
    (hΓ : Γ'[i]? = some (.ow bv x) := by rfl) (hlen : ns.length < 1000 := by decide) (hN : X.N[i]? = some vn := by rfl) (hv : Vis X.env.scope vn := by first | exact Or.inl rfl | exact Or.inr (Or.inl rfl) | exact Or.inr (Or.inr rfl)) (hd : (vn == ("__debug__" : Str)) = false := by decide)
    (hcd : (vn == ("__classdict__" : Str)) = false := by decide) (hs : swapsWith e (some (.Attribute (.Name vn p1) f p2)) pos.line X.env = pure false := by rfl) : BX X W ER (.Assign [.Attribute (.Name vn p1) f p2] e pos :: rest) Γ GN GL o := by
  obtain ⟨y, h2, h3⟩ := Option.bind_eq_some_iff.mp h
  refine bx_cons (ps_fld (pe_var (i := i) hN hv hd hcd) pe_w hs) fun F D ac σ H Z en => hx.run F σ [] [] H Z en.len (by rw [List.append_nil, List.append_nil]; exact en) y h2 _ fun H' Z' v s en' => ?_
  obtain ⟨fp, Hm, e2, n⟩ := EnvOk.take (σ := σ) (Γ := Γ') (by simpa using en') (by rw [hx.len]; exact en.len)
  obtain ⟨l, D', dx, fs, ev, hl, hc, hfl, e3⟩ := e2.newF n hf hΓ
  cases hc.same cl.is
  exact ⟨_, ev, l, C, dx, fs, rfl, hl, cl.cl, na, by rw [hfl]; exact hlen, (hr y h3).run F D ac σ _ Z' e3⟩
/-- self.f op= e, whole numbers -/
theorem bx_augF (i : Nat) {op : Operator} {g : Int → Int → Int} {bv : Option Nat} {get : α → Int} {set : α → Int → α} {x : Ins nm ns α} {m m2 : Option Int} {k : Int → Option (Fl N L R)} (cl : ClsF X.K nm C) (na : NoAttr X.K C f) (Fd : Fld ns f get set) (ho : PIp X op (ipI g)) (hx : PX X e Γ m) (h : m2.bind k = some o)
    (hr : ∀ y, k y = some o → BX X W ER rest (Γ.set i (.ow bv (⟨set x.v y⟩ : Ins nm ns α))) GN GL o) (hA : m2 = m.bind fun y => some (g (get x.v) y) := by rfl)
    (hΓ : Γ[i]? = some (.ow bv x) := by rfl) (hlen : ns.length < 1000 := by decide) (hN : X.N[i]? = some vn := by rfl) (hv : Vis X.env.scope vn := by first | exact Or.inl rfl | exact Or.inr (Or.inl rfl) | exact Or.inr (Or.inr rfl)) (hd : (vn == ("__debug__" : Str)) = false := by decide)
    (hcd : (vn == ("__classdict__" : Str)) = false := by decide) : BX X W ER (.AugAssign (.Attribute (.Name vn p1) f p2) op e pos :: rest) Γ GN GL o := by
  subst hA
  obtain ⟨z, h5, h3⟩ := Option.bind_eq_some_iff.mp h
  obtain ⟨y, h2, h4⟩ := Option.bind_eq_some_iff.mp h5
  cases h4
  refine bx_cons (ps_fldaug (pe_var (i := i) hN hv hd hcd) pe_w ho) fun F D ac σ H Z en => ?_
  obtain ⟨v0, fp, ev, ow, out, put⟩ := en.at2 hΓ
  obtain ⟨l, C', dx, fs, fe, e1, hl, hcl, o1, hc, hd1⟩ := ow
  cases hcl.same cl.is
  subst e1
  obtain ⟨v1, f1, fr, elk, ow1, i1, d1, m1, k1⟩ := Fd.own o1
  refine ⟨_, ev, l, C, dx, fs, v1, rfl, hl, cl.cl, na, elk, hx.run F σ H Z en y h2 _ fun H' Z' w s r => ⟨get x.v, y, ow1.1, r, ?_⟩⟩
  obtain ⟨l2, C2, dx2, fs2, ev2, hl2, hc2, hfl2, e3⟩ := (en.step s).setF (w := .int (g (get x.v) y)) (y := g (get x.v) y) (f2 := Fp.no) ⟨Step.refl s.zh, (⟨rfl, fun _ f => f⟩ : Enc.rel X.K Z' (V.int (g (get x.v) y)) (g (get x.v) y) ∧ ∀ a, ¬ Fp.no a), fun _ f => f.elim⟩ Fd hΓ
  rw [ev] at ev2
  cases ev2
  cases hc2.same cl.is
  refine ⟨dx2, fs2, hl2, by rw [hfl2]; exact hlen, (hr _ h3).run F D ac σ _ Z' e3⟩
end
end G
/-! GObj3: methods, and how instances are made. -/
namespace G
open PySem L2
/-- a def as it stands, with or without defaults -/
structure FunA (K : Fg) (x qual : Str) (st : Stmt) (f : Addr) (fd : FuncData) : Prop where
  ex : ∃ (oc : Value) (od : Option Addr) (dV kV doc pm : Value) (an : Option Addr) (cdv ct : Value) (osl : Array (Option Value)),
    fd = PySem.W.fnOf x qual (defArgs st) (defBody st) (defScope st) dV kV doc pm an cdv ct ∧ K.lookup f = some ⟨oc, od, .func fd, osl⟩ ∧ PySem.W.codeIn K cdv qual = true
  kp : PySem.W.keepIn K (.ref f) = true
theorem toA {K : Fg} {x qual : Str} {st : Stmt} {f : Addr} {fd : FuncData} (F : Fun K x qual st f fd) : FunA K x qual st f fd := by
  obtain ⟨⟨oc, od, kV, doc, pm, an, cdv, ct, osl, h⟩, k⟩ := F
  exact ⟨⟨oc, od, .none, kV, doc, pm, an, cdv, ct, osl, h⟩, k⟩
theorem toAD {K : Fg} {x qual : Str} {st : Stmt} {f : Addr} {fd : FuncData} {dvs : List V} {kws : List (Str × V)} (F : FunD K x qual (defArgs st) (defBody st) (defScope st) dvs kws f fd) : FunA K x qual st f fd := by
  obtain ⟨⟨oc, od, dV, kV, doc, pm, an, cdv, ct, osl, h1, h2, h3, _⟩, k⟩ := F
  exact ⟨⟨oc, od, dV, kV, doc, pm, an, cdv, ct, osl, h1, h2, h3⟩, k⟩
theorem FunA.ok {P : Program} {w : World} {K : Fg} {mg : Str → Option Value} {base : Heap} {x qual : Str} {st : Stmt} {f : Addr} {fd : FuncData} {N ps : List Str} {k : Nat} {sp : Sp} (F : FunA K x qual st f fd) (S : FnScope N ps (defScope st)) (len : ∀ vs H Q E, sp vs H Q E → vs.length = ps.length)
    (hbody : ∀ (cdv : Value) (A : Around) (outer : List Env) (s : Shared) (H : Hp) (vs : List V) (Q : VK) (E : XK), Room k (A.deeper (PyProof.Rows.envOfC qual (defScope st) s.heap.objs.size f cdv)) → sp vs H Q E →
      ∃ t, PSs (cxOf CX0 P w K mg base N qual (defScope st) f cdv A outer s H E).nox (defBody st) t ∧ t { nx := fun _ H' => Q .non H', rt := Q } (L2.start N vs) H) : FnOk P w K mg base CX0 (k + 1) f fd ps sp := by
  obtain ⟨oc, od, dV, kV, doc, pm, an, cdv, ct, osl, rfl, lk, hcd⟩ := F.ex
  refine fn_of lk hcd S len fun A outer s H vs Q E hr hsp => ?_
  obtain ⟨t, h, q⟩ := hbody cdv A outer s H vs Q E hr hsp
  exact ⟨t, h.nox, q⟩
def idF {α : Type} (x : Option α) : Option α := x
theorem idF_some {α : Type} {m : Option α} {r : α} (h : idF m = some r) : m = some r := h
/-- a def that changes what it is lent, of another kind behind it maybe -/
def spM (K : Fg) {A B B' R : Type} [OwnB B] [OwnB B'] [ArgB A B] [Enc R] (f : A → Option (RB B' R)) : Sp := fun vs H Q _ =>
  ∃ Z x r bs fp, Same Z H ∧ ArgB.rel K Z vs bs x ∧ OwnB.own K Z H bs (ArgB.brs x) fp ∧ (∀ a, fp a → Z a = none) ∧ f x = some r ∧ ∀ H' Z' u fp', Frm H Z H' Z' fp fp' → OwnB.own K Z' H' bs r.b fp' → Enc.rel K Z' u r.r → Q u H'
/-- the end of a def that may fall off its end -/
def endB {B L : Type} : Option (Fl B L (RB B Unit)) → Option (RB B Unit)
  | some (.nx b) => some ⟨b, ()⟩
  | some (.rt r) => some r
  | _ => none
section
variable {P : Program} {w : World} {K : Fg} {mg : Str → Option Value} {base : Heap} {f : Addr} {fd : FuncData} {x qual : Str} {st : Stmt} {N ps : List Str} {k n : Nat} {A B B' R : Type} [OwnB B] [OwnB B'] [ArgB A B] [Enc R]
theorem fn_m (F : FunA K x qual st f fd) (S : FnScope N ps (defScope st)) (fm : A → Option (RB B' R)) {N1 L1 : Type} (GN : N1 → List Ent) (GL : L1 → List Ent) (hbl : OwnB.blen0 B' = OwnB.blen0 B) (hps : ArgB.n A = ps.length) (hn : ArgB.n A + n = N.length)
    (hb : ∀ (cdv : Value) (Ar : Around) (outer : List Env) (s : Shared) (H : Hp) (E : XK), Room k (Ar.deeper (PyProof.Rows.envOfC qual (defScope st) s.heap.objs.size f cdv)) → ∀ (y : A) (r : RB B' R), fm y = some r →
      BX (cxOf CX0 P w K mg base N qual (defScope st) f cdv Ar outer s H E).nox W0 ER0 (defBody st) (ArgB.ents 0 y ++ List.replicate n .no) GN GL (.rt r)) :
    FnOk P w K mg base CX0 (k + 1) f fd ps (spM K fm) := by
  refine F.ok S (fun vs H Q E h => ?_) (fun cdv Ar outer s H vs Q E hr h => ?_)
  · obtain ⟨Z, y, r, bs, fp, _, h1, _⟩ := h
    rw [ArgB.len h1, hps]
  · obtain ⟨Z, y, r, bs, fp, zh, h1, h2, h3, h4, q⟩ := h
    refine ⟨_, ps_w, ?_⟩
    refine (hb cdv Ar outer s H E hr y r h4).run _ _ ?_ _ _ Z (env_startB hn zh h1 h2 h3)
    exact fun H' Z' v ⟨fp', bs', rr, s', e, o', out, r'⟩ => by
      have e : bs = bs' ++ rr := e
      have : rr = [] := by
        have l1 : bs'.length = bs.length := (OwnB.blen o').trans (hbl.trans (OwnB.blen h2).symm)
        have := congrArg List.length e
        rw [List.length_append] at this
        exact List.length_eq_zero_iff.mp (by omega)
      subst this
      rw [List.append_nil] at e
      subst e
      exact q H' Z' v fp' (frm_of h3 s' out) o' r'
/-- .. one that may fall off its end -/
theorem fn_mN (F : FunA K x qual st f fd) (S : FnScope N ps (defScope st)) {L1 : Type} (body : A → Option (Fl B' L1 (RB B' Unit))) (is : List Nat) (GN : B' → List Ent) (GL : L1 → List Ent) (hN : ∀ b, OwnB.outs 0 is b (GN b)) (nd : is.Nodup) (hbl : OwnB.blen0 B' = OwnB.blen0 B) (hps : ArgB.n A = ps.length) (hn : ArgB.n A + n = N.length)
    (hb : ∀ (cdv : Value) (Ar : Around) (outer : List Env) (s : Shared) (H : Hp) (E : XK), Room k (Ar.deeper (PyProof.Rows.envOfC qual (defScope st) s.heap.objs.size f cdv)) → ∀ (y : A) (o : Fl B' L1 (RB B' Unit)), body y = some o →
      BX (cxOf CX0 P w K mg base N qual (defScope st) f cdv Ar outer s H E).nox W0 ER0 (defBody st) (ArgB.ents 0 y ++ List.replicate n .no) GN GL o) :
    FnOk P w K mg base CX0 (k + 1) f fd ps (spM K fun y => endB (body y)) := by
  refine F.ok S (fun vs H Q E h => ?_) (fun cdv Ar outer s H vs Q E hr h => ?_)
  · obtain ⟨Z, y, r, bs, fp, _, h1, _⟩ := h
    rw [ArgB.len h1, hps]
  · obtain ⟨Z, y, r, bs, fp, zh, h1, h2, h3, h4, q⟩ := h
    refine ⟨_, ps_w, ?_⟩
    replace h4 : endB (body y) = some r := h4
    have len : ∀ {bs' rr : List V} {Z' H' : Hp} {b : B'} {fp' : Fp}, bs = bs' ++ rr → OwnB.own K Z' H' bs' b fp' → rr = [] := fun {bs' rr Z' H' b fp'} e o' => by
      have l1 : bs'.length = bs.length := (OwnB.blen o').trans (hbl.trans (OwnB.blen h2).symm)
      have := congrArg List.length e
      rw [List.length_append] at this
      exact List.length_eq_zero_iff.mp (by omega)
    cases ho : body y with
    | none => rw [ho] at h4; cases h4
    | some o =>
      rw [ho] at h4
      refine (hb cdv Ar outer s H E hr y o ho).run _ _ ?_ _ _ Z (env_startB hn zh h1 h2 h3)
      cases o with
      | nx b =>
        cases h4
        exact fun σ H' Z' en => by
          obtain ⟨fp0, hen, _⟩ := en.ent
          obtain ⟨bs', rr, e1, vl⟩ := OwnB.ovals (hN b) hen
          obtain ⟨fp', ow, out, _⟩ := en.focusB (OwnB.oin (hN b)) nd vl
          have e : bs = bs' ++ rr := by simpa using e1
          have := len e ow
          subst this
          rw [List.append_nil] at e
          subst e
          exact q H' Z' .non fp' (frm_of h3 en.stp out) ow rfl
      | rt r' =>
        cases h4
        exact fun H' Z' v ⟨fp', bs', rr, s', e, o', out, r'⟩ => by
          have e : bs = bs' ++ rr := e
          have := len e o'
          subst this
          rw [List.append_nil] at e
          subst e
          exact q H' Z' v fp' (frm_of h3 s' out) o' r'
      | br l => cases h4
      | ct l => cases h4
      | xc c f => cases h4
end
section
variable {X : Cx} {W : WX} {ER : ExS} {rest : List Stmt} {e o a b c : Expr} {es : List Expr} {pos pos' p p1 p2 apos : Pos} {Γ Γ' : List Ent} {α β : Type} [Flds α] {nm m : Str} {ns : List Str} {C : Addr}
theorem lookup_none_of {f : Str} : ∀ {g : List (Str × V)}, f ∉ g.map Prod.fst → g.lookup f = none
  | [], _ => rfl
  | (n, u) :: g, h => by
    have h1 : f ≠ n := fun e => h (by rw [e]; exact List.mem_cons_self)
    have h2 : f ∉ g.map Prod.fst := fun q => h (List.mem_cons_of_mem _ q)
    rw [List.lookup_cons, show (f == n) = false from beq_eq_false_iff_ne.mpr h1]
    exact lookup_none_of h2
theorem Flds.nokey {K : Fg} {Z H : Hp} {fs : List (Str × V)} {z : α} {fp : Fp} (o : Flds.own K Z H ns fs z fp) (h : m ∉ ns) : fs.lookup m = none := lookup_none_of (by rw [Flds.keys o]; simpa using h)
theorem Flds.nokeyR {K : Fg} {Z : Hp} {fs : List (Str × V)} {z : α} (o : Flds.rel K Z ns fs z) (h : m ∉ ns) : fs.lookup m = none := lookup_none_of (by rw [Flds.rkeys o]; simpa using h)
/-- the callee's promise over a place of the caller's -/
theorem At.meth {Cc A0 A R : Type} [Enc Cc] [Own Cc] [ArgB A0 Unit] [ArgB A Unit] [Enc R] {K : Fg} {F : Frame} {σ : St} {H Z : Hp} {v : V} {x : Cc} {fp : Fp} {T : Cc → List Ent} (at_ : At K F σ H Z v x fp T) {fm : Br Cc × A → Option (RB (Cc × Unit) R)} {vs dvs : List V} {y0 : A0} {g : A0 → A} {r : RB (Cc × Unit) R} (zh : Same Z H)
    (hv : ∀ Z vs y, ArgB.rel K Z vs [] y → ArgB.rel K Z (vs ++ dvs) [] (g y)) (ra : ArgB.rel K Z vs [] y0) (hf : fm (Br.mk x, g y0) = some r) {Q : VK} {E : XK} (q : ∀ H' Z' u, EnvOk K F σ H' Z' (T r.b.1) → Enc.rel K Z' u r.r → Q u H') : spM K fm (v :: (vs ++ dvs)) H Q E := by
  refine ⟨Z, (Br.mk x, g y0), r, [v], fp, zh, ⟨v, vs ++ dvs, [], rfl, rfl, hv Z vs y0 ra⟩, ⟨v, [], fp, Fp.no, rfl, at_.own, ⟨rfl, fun _ f => f⟩, fun a => ⟨.inl, fun f => by rcases f with f | f; exact f; exact f.elim⟩, fun _ _ f => f⟩, fun a f => (at_.out a f).2, hf, fun H2 Z2 u fp2 g2 o2 r2 => ?_⟩
  obtain ⟨w, rr, f1, f2, e, o1, o2, i1, d1⟩ := o2
  cases e
  have n2 : ∀ a, ¬ f2 a := o2.2
  refine q H2 Z2 u (at_.put H2 Z2 r.b.1 f1 ⟨g2.hh, g2.zz, g2.zh, g2.old, fun a f => g2.out a ((i1 a).mpr (.inl f))⟩ o1) r2
section
variable {k : Nat} {f : Addr} {fd : FuncData} {ps : List Str} {A0 A R : Type} {dvs : List V} {ds : List Value} {g : A0 → A} {pl : Sem Bool}
/-- o.m(e, ..), o a place; the written arguments, then the defaults -/
theorem pxb_meth [ArgB A0 Unit] [ArgB A Unit] [Enc R] {fm : Br (Ins nm ns α) × A → Option (RB (Ins nm ns α × Unit) R)} {x : Ins nm ns α} {T : Ins nm ns α → List Ent} {ma : Option A0} (cl : ClsF X.K nm C) (hm : Meth X.K C m f) (hmn : m ∉ ns) (Fn : FnOk X.prog X.w X.K X.mg X.base CX0 k f fd ps (spM X.K fm)) (hr : Room k X.A)
    (hb : Binds X.K fd ps ds) (hd : Vals dvs ds) (hv : ∀ Z vs y, ArgB.rel X.K Z vs [] y → ArgB.rel X.K Z (vs ++ dvs) [] (g y)) (ho : PR X o Γ (some x) T) (ha : PAB X (e :: es) Γ ma []) (hst : starEach (e :: es) X.env = (false, eval e X.env) :: starEach es X.env := by rfl) (hpl : (backTo pos (starEach es X.env)).any (·.1) = false := by rfl)
    (ht : eval (.Call (.Attribute o m apos) (e :: es) [] pos) X.env = (do
      let ov ← eval o X.env
      standAt apos.atName
      let (f, first) ← holding [ov] (getMethod ov m pl)
      callWith pos f first (backTo pos (starEach (e :: es) X.env)) (backToKw pos (keywordEach [] X.env))) := by rfl) :
    PXB X (.Call (.Attribute o m apos) (e :: es) [] pos) Γ (ma.bind fun y => fm (Br.mk x, g y)) (fun b => T b.1) := .mk fun F σ H Z en z hx Q q pins s I => (pe_meth (pl := pl) pe_w cl.cl hm Fn hr hb hd pass0 pa_w hst hpl ht).run pins s σ H Q I (by
  obtain ⟨y, hy, hx1⟩ := Option.bind_eq_some_iff.mp hx
  refine ho.run F σ H Z en x rfl _ fun H1 Z1 v fp s1 at_ => ?_
  obtain ⟨l, D, dx, fs, fe, e1, hl, hcl, o1, hc, hd1⟩ := at_.own
  cases hcl.same cl.is
  subst e1
  refine ⟨l, dx, fs, rfl, hl, Flds.nokey o1 hmn, ha.run F σ H1 Z1 (en.step s1) y hy _ fun H2 Z2 vs bs s2 r2 vl => ?_⟩
  have hbs : bs = [] := by
    cases bs with
    | nil => rfl
    | cons v r => exact vl.elim
  subst hbs
  exact At.meth (at_.step s2) s2.zh hv r2 hx1 q)
theorem pxb_meth0 [ArgB A0 Unit] [ArgB A Unit] [Enc R] {fm : Br (Ins nm ns α) × A → Option (RB (Ins nm ns α × Unit) R)} {x : Ins nm ns α} {T : Ins nm ns α → List Ent} {y : A0} (cl : ClsF X.K nm C) (hm : Meth X.K C m f) (hmn : m ∉ ns) (Fn : FnOk X.prog X.w X.K X.mg X.base CX0 k f fd ps (spM X.K fm)) (hr : Room k X.A)
    (hb : Binds X.K fd ps ds) (hd : Vals dvs ds) (hv : ∀ Z vs y, ArgB.rel X.K Z vs [] y → ArgB.rel X.K Z (vs ++ dvs) [] (g y)) (h0 : ∀ Z, ArgB.rel X.K Z [] [] y) (ho : PR X o Γ (some x) T)
    (ht : eval (.Call (.Attribute o m apos) [] [] pos) X.env = (do
      let ov ← eval o X.env
      standAt apos.atName
      let (f, first) ← holding [ov] (getMethod ov m pl)
      callWith pos f first (backTo pos (starEach [] X.env)) (backToKw pos (keywordEach [] X.env))) := by rfl) :
    PXB X (.Call (.Attribute o m apos) [] [] pos) Γ (fm (Br.mk x, g y)) (fun b => T b.1) := .mk fun F σ H Z en z hx Q q pins s I => (pe_meth0 (pl := pl) pe_w cl.cl hm Fn hr hb hd pass0 ht).run pins s σ H Q I (by
  refine ho.run F σ H Z en x rfl _ fun H1 Z1 v fp s1 at_ => ?_
  obtain ⟨l, D, dx, fs, fe, e1, hl, hcl, o1, hc, hd1⟩ := at_.own
  cases hcl.same cl.is
  subst e1
  exact ⟨l, dx, fs, rfl, hl, Flds.nokey o1 hmn, At.meth (vs := []) (E := E0) at_ s1.zh hv (h0 Z1) hx q⟩)
/-- o.m(..), o still: what the def hands back leans on nothing new -/
theorem px_meth [EncA A] [Enc R] {fm : Ins nm ns α × A → Option R} {mo : Option (Ins nm ns α)} {ma : Option A} (cl : ClsF X.K nm C) (hm : Meth X.K C m f) (hmn : m ∉ ns) (Fn : FnOk X.prog X.w X.K X.mg X.base CX0 k f fd ps (spF X.K fm)) (hr : Room k X.A) (hb : Binds X.K fd ps []) (ho : PX X o Γ mo) (ha : PAX X (e :: es) Γ ma)
    (hst : starEach (e :: es) X.env = (false, eval e X.env) :: starEach es X.env := by rfl) (hpl : (backTo pos (starEach es X.env)).any (·.1) = false := by rfl)
    (ht : eval (.Call (.Attribute o m apos) (e :: es) [] pos) X.env = (do
      let ov ← eval o X.env
      standAt apos.atName
      let (f, first) ← holding [ov] (getMethod ov m pl)
      callWith pos f first (backTo pos (starEach (e :: es) X.env)) (backToKw pos (keywordEach [] X.env))) := by rfl) :
    PX X (.Call (.Attribute o m apos) (e :: es) [] pos) Γ ((oPair mo ma).bind fm) := px_of (pe_meth (pl := pl) pe_w cl.cl hm Fn hr hb .nil pass0 pa_w hst hpl ht) fun F σ H Z en z hx Q q => by
  obtain ⟨xy, hxy, hx1⟩ := Option.bind_eq_some_iff.mp hx
  obtain ⟨x, hxx, hxy⟩ := Option.bind_eq_some_iff.mp hxy
  obtain ⟨y, hy, hxy⟩ := Option.bind_eq_some_iff.mp hxy
  cases hxy
  refine ho.run F σ H Z en x hxx _ fun H1 Z1 v s1 r1 => ?_
  obtain ⟨l, D, dx, fs, e1, hl, hcl, o1⟩ := id r1
  cases hcl.same cl.is
  subst e1
  refine ⟨l, dx, fs, rfl, s1.zh _ _ hl, Flds.nokeyR o1 hmn, ha.run F σ H1 Z1 (en.step s1) y hy _ fun H2 Z2 vs s2 r2 => ?_⟩
  rw [List.append_nil]
  exact ⟨Z2, (x, y), z, s2.zh, ⟨_, vs, rfl, Enc.mono s2.zz r1, r2⟩, hx1, fun H3 Z3 u s3 r3 => q H3 Z3 u ((s1.trans s2).trans s3) r3⟩
theorem px_meth0 [Enc R] {fm : Ins nm ns α × Unit → Option R} {mo : Option (Ins nm ns α)} (cl : ClsF X.K nm C) (hm : Meth X.K C m f) (hmn : m ∉ ns) (Fn : FnOk X.prog X.w X.K X.mg X.base CX0 k f fd ps (spF X.K fm)) (hr : Room k X.A) (hb : Binds X.K fd ps []) (ho : PX X o Γ mo)
    (ht : eval (.Call (.Attribute o m apos) [] [] pos) X.env = (do
      let ov ← eval o X.env
      standAt apos.atName
      let (f, first) ← holding [ov] (getMethod ov m pl)
      callWith pos f first (backTo pos (starEach [] X.env)) (backToKw pos (keywordEach [] X.env))) := by rfl) :
    PX X (.Call (.Attribute o m apos) [] [] pos) Γ ((oPair mo (some ())).bind fm) := px_of (pe_meth0 (pl := pl) pe_w cl.cl hm Fn hr hb .nil pass0 ht) fun F σ H Z en z hx Q q => by
  obtain ⟨xy, hxy, hx1⟩ := Option.bind_eq_some_iff.mp hx
  obtain ⟨x, hxx, hxy⟩ := Option.bind_eq_some_iff.mp hxy
  obtain ⟨y, hy, hxy⟩ := Option.bind_eq_some_iff.mp hxy
  cases hy
  cases hxy
  refine ho.run F σ H Z en x hxx _ fun H1 Z1 v s1 r1 => ?_
  obtain ⟨l, D, dx, fs, e1, hl, hcl, o1⟩ := id r1
  cases hcl.same cl.is
  subst e1
  refine ⟨l, dx, fs, rfl, s1.zh _ _ hl, Flds.nokeyR o1 hmn, ?_⟩
  exact ⟨Z1, (x, ()), z, s1.zh, ⟨_, [], rfl, r1, rfl⟩, hx1, fun H3 Z3 u s3 r3 => q H3 Z3 u (s1.trans s3) r3⟩
/-- .. hands back something new -/
theorem pno_meth [EncA A] [Enc R] [Own R] {fm : Ins nm ns α × A → Option (Nw R)} {mo : Option (Ins nm ns α)} {ma : Option A} (cl : ClsF X.K nm C) (hm : Meth X.K C m f) (hmn : m ∉ ns) (Fn : FnOk X.prog X.w X.K X.mg X.base CX0 k f fd ps (spO X.K fm)) (hr : Room k X.A) (hb : Binds X.K fd ps []) (ho : PX X o Γ mo) (ha : PAX X (e :: es) Γ ma)
    (hst : starEach (e :: es) X.env = (false, eval e X.env) :: starEach es X.env := by rfl) (hpl : (backTo pos (starEach es X.env)).any (·.1) = false := by rfl)
    (ht : eval (.Call (.Attribute o m apos) (e :: es) [] pos) X.env = (do
      let ov ← eval o X.env
      standAt apos.atName
      let (f, first) ← holding [ov] (getMethod ov m pl)
      callWith pos f first (backTo pos (starEach (e :: es) X.env)) (backToKw pos (keywordEach [] X.env))) := by rfl) :
    PNO X (.Call (.Attribute o m apos) (e :: es) [] pos) Γ (((oPair mo ma).bind fm).map Nw.val) := .mk fun F σ H Z en z hx Q q pins s I => (pe_meth (pl := pl) pe_w cl.cl hm Fn hr hb .nil pass0 pa_w hst hpl ht).run pins s σ H Q I (by
  obtain ⟨z0, hx0, rfl⟩ := Option.map_eq_some_iff.mp hx
  obtain ⟨xy, hxy, hx1⟩ := Option.bind_eq_some_iff.mp hx0
  obtain ⟨x, hxx, hxy⟩ := Option.bind_eq_some_iff.mp hxy
  obtain ⟨y, hy, hxy⟩ := Option.bind_eq_some_iff.mp hxy
  cases hxy
  refine ho.run F σ H Z en x hxx _ fun H1 Z1 v s1 r1 => ?_
  obtain ⟨l, D, dx, fs, e1, hl, hcl, o1⟩ := id r1
  cases hcl.same cl.is
  subst e1
  refine ⟨l, dx, fs, rfl, s1.zh _ _ hl, Flds.nokeyR o1 hmn, ha.run F σ H1 Z1 (en.step s1) y hy _ fun H2 Z2 vs s2 r2 => ?_⟩
  rw [List.append_nil]
  exact ⟨Z2, (x, y), z0, s2.zh, ⟨_, vs, rfl, Enc.mono s2.zz r1, r2⟩, hx1, fun H3 Z3 u fp n => q H3 Z3 u fp (NewO.from (s1.trans s2) n)⟩)
theorem pno_meth0 [Enc R] [Own R] {fm : Ins nm ns α × Unit → Option (Nw R)} {mo : Option (Ins nm ns α)} (cl : ClsF X.K nm C) (hm : Meth X.K C m f) (hmn : m ∉ ns) (Fn : FnOk X.prog X.w X.K X.mg X.base CX0 k f fd ps (spO X.K fm)) (hr : Room k X.A) (hb : Binds X.K fd ps []) (ho : PX X o Γ mo)
    (ht : eval (.Call (.Attribute o m apos) [] [] pos) X.env = (do
      let ov ← eval o X.env
      standAt apos.atName
      let (f, first) ← holding [ov] (getMethod ov m pl)
      callWith pos f first (backTo pos (starEach [] X.env)) (backToKw pos (keywordEach [] X.env))) := by rfl) :
    PNO X (.Call (.Attribute o m apos) [] [] pos) Γ (((oPair mo (some ())).bind fm).map Nw.val) := .mk fun F σ H Z en z hx Q q pins s I => (pe_meth0 (pl := pl) pe_w cl.cl hm Fn hr hb .nil pass0 ht).run pins s σ H Q I (by
  obtain ⟨z0, hx0, rfl⟩ := Option.map_eq_some_iff.mp hx
  obtain ⟨xy, hxy, hx1⟩ := Option.bind_eq_some_iff.mp hx0
  obtain ⟨x, hxx, hxy⟩ := Option.bind_eq_some_iff.mp hxy
  obtain ⟨y, hy, hxy⟩ := Option.bind_eq_some_iff.mp hxy
  cases hy
  cases hxy
  refine ho.run F σ H Z en x hxx _ fun H1 Z1 v s1 r1 => ?_
  obtain ⟨l, D, dx, fs, e1, hl, hcl, o1⟩ := id r1
  cases hcl.same cl.is
  subst e1
  refine ⟨l, dx, fs, rfl, s1.zh _ _ hl, Flds.nokeyR o1 hmn, ?_⟩
  exact ⟨Z1, (x, ()), z0, s1.zh, ⟨_, [], rfl, r1, rfl⟩, hx1, fun H3 Z3 u fp n => q H3 Z3 u fp (NewO.from s1 n)⟩)
end
section
variable {k : Nat} {f : Addr} {fd : FuncData} {ps : List Str} {A R : Type} {ns2 : List Str} {α2 : Type} [Flds α2] {cn : Str} {N L R0 : Type} [Res R0] {GN : N → List Ent} {GL : L → List Ent} {o' : Fl N L R0}
/-- C(e, ..): a new instance -/
theorem pno_make [ArgB A Unit] {fm : Br (Ins nm [] Unit) × A → Option (RB (Ins nm ns2 α2 × Unit) Unit)} {ma : Option A} (cl : ClsF X.K nm C) (M : Mk X.K C f) (Fn : FnOk X.prog X.w X.K X.mg X.base CX0 k f fd ps (spM X.K fm)) (hr : Room (k + 1) X.A) (hm : X.mg nm = some (.ref C)) (hb : Binds X.K fd ps [])
    (ha : PAB X (e :: es) Γ ma []) (hg : Gl X nm := by rfl) (hdb : (nm == ("__debug__" : Str)) = false := by decide) (he : starEach (e :: es) X.env = (false, eval e X.env) :: starEach es X.env := by rfl) (hpl : (backTo pos (starEach es X.env)).any (·.1) = false := by rfl) :
    PNO X (.Call (.Name nm p) (e :: es) [] pos) Γ ((ma.bind fun y => fm (Br.mk ⟨()⟩, y)).map fun r => r.b.1) := .mk fun F σ H Z en z hx Q q pins s I => (pe_make M Fn hr hg hm hb .nil pass0 pa_w hdb he hpl).run pins s σ H Q I (by
  obtain ⟨z0, hx0, rfl⟩ := Option.map_eq_some_iff.mp hx
  obtain ⟨y, hy, hx1⟩ := Option.bind_eq_some_iff.mp hx0
  refine ha.run F σ H Z en y hy _ fun H1 Z1 vs bs s1 r1 vl => ?_
  have hbs : bs = [] := by
    cases bs with
    | nil => rfl
    | cons v r => exact vl.elim
  subst hbs
  rw [List.append_nil]
  intro x dx hx1' hdx hne
  have sH : Same H1 (upd (upd H1 dx (.own x)) x (.ins C dx [])) := (Same.upd_new hdx).trans (Same.upd_new (by rw [upd_ne hne.symm]; exact hx1'))
  refine ⟨Z1, (Br.mk ⟨()⟩, y), z0, [.ref x], fun a => a = x, s1.zh.trans sH, ⟨.ref x, vs, [], rfl, rfl, r1⟩, ⟨.ref x, [], fun a => a = x, Fp.no, rfl, ⟨x, C, dx, [], Fp.no, rfl, upd_same, cl.is, ⟨rfl, rfl, fun _ f => f⟩, fun a => ⟨.inl, fun f => by rcases f with f | f; exact f; exact f.elim⟩, fun f => f⟩, ⟨rfl, fun _ f => f⟩, fun a => ⟨.inl, fun f => by rcases f with f | f; exact f; exact f.elim⟩, fun _ _ f => f⟩, fun a f => by rw [f]; exact s1.zh.free hx1', hx1, fun H2 Z2 u fp2 g2 o2 r2 => ⟨r2, ?_⟩⟩
  obtain ⟨w, rr, f1, f2, e1, o1, o3, i1, d1⟩ := o2
  cases e1
  have nfx : ∀ a u, H1 a = some u → ¬ a = x := fun a u h z => by rw [z, hx1'] at h; cases h
  refine q H2 Z2 (.ref x) f1 ⟨⟨fun a u h => ?_, s1.zz.trans g2.zz, g2.zh, fun a u h => ?_⟩, o1, fun a f => ⟨?_, (g2.out a ((i1 a).mpr (.inl f))).2⟩⟩
  · have h1 := s1.hh a u h
    exact g2.hh a u (sH a u h1) (nfx a u h1)
  · have h1 := s1.hh a u h
    exact (g2.old a u (sH a u h1) (nfx a u h1)).trans (s1.old a u h)
  · apply s1.hh.free
    rcases (g2.out a ((i1 a).mpr (.inl f))).1 with c | c
    · rw [c]; exact hx1'
    · exact sH.free c)
/-- D.m(e, ..), a def read off the class D -/
theorem pe_clsf {sp : Sp} {t : TA} {E : XK} {mc : Value} {pl : Sem Bool} {x : Str} (hg : Gl X x) (hm : X.mg x = some (.ref C)) (cr : ClX.CRead X.K C mc) (cv : ClX.CVal X.K C mc m (.ref f) (.ref f)) (hk : PySem.W.keepIn X.K (.ref f) = true) (F : FnOk X.prog X.w X.K X.mg X.base CX0 k f fd ps sp) (hr : Room k X.A) (hb : Binds X.K fd ps []) (hx : Passes CX0 X E) (ha : PA X (e :: es) t)
    (hdb : (x == ("__debug__" : Str)) = false := by decide) (hst : starEach (e :: es) X.env = (false, eval e X.env) :: starEach es X.env := by rfl) (hpl : (backTo pos (starEach es X.env)).any (·.1) = false := by rfl)
    (ht : eval (.Call (.Attribute (.Name x p1) m apos) (e :: es) [] pos) X.env = (do
      let ov ← eval (.Name x p1) X.env
      standAt apos.atName
      let (f, first) ← holding [ov] (getMethod ov m pl)
      callWith pos f first (backTo pos (starEach (e :: es) X.env)) (backToKw pos (keywordEach [] X.env))) := by rfl) :
    PE X (.Call (.Attribute (.Name x p1) m apos) (e :: es) [] pos) (tCall sp [] E t) := by
  refine ⟨fun pins s σ H Q I h => ?_⟩
  refine PySem.W.methodCall_KW (pl := pl) (ld_glob I hg hm ?_ hdb) ht
  refine PySem.W.method_cls (I.tok _).kIn cr.ga (ClX.getcval_ok (I.tok _) cr cv fun s2 I2 => ?_)
  refine PySem.W.callWith_K (h₀ := X.base) I.ok.mod.kin hk (thn (ha.run pos pins _ σ H _ I2 h) fun us s1 ⟨vs, H1, I1, r, q⟩ => ⟨I1.kIn, ?_⟩) hst hpl
  exact run_fn F hr hb .nil hx I1 r q
/-- D.__init__(self, e, ..): what self is grows -/
theorem bx_init (i : Nat) {vn x : Str} {mc : Value} {pl : Sem Bool} {ns : List Str} {α : Type} [Flds α] [ArgB A Unit] {D : Addr} {bv : Option Nat} {y : Ins nm ns α} {fm : Br (Ins nm ns α) × A → Option (RB (Ins nm ns2 α2 × Unit) Unit)} {ma : Option A} {kk : RB (Ins nm ns2 α2 × Unit) Unit → Option (Fl N L R0)}
    (hm : X.mg x = some (.ref D)) (cr : ClX.CRead X.K D mc) (cv : ClX.CVal X.K D mc m (.ref f) (.ref f)) (hk : PySem.W.keepIn X.K (.ref f) = true) (Fn : FnOk X.prog X.w X.K X.mg X.base CX0 k f fd ps (spM X.K fm)) (hr : Room k X.A) (hb : Binds X.K fd ps [])
    (ha : PAB X es Γ ma []) (h : ((ma.bind fun z => fm (Br.mk y, z)).bind kk) = some o') (hrest : ∀ r, kk r = some o' → BX X W ER rest (Γ.set i (.ow bv r.b.1)) GN GL o')
    (hΓ : Γ[i]? = some (.ow bv y) := by rfl) (hN : X.N[i]? = some vn := by rfl) (hv : Vis X.env.scope vn := by first | exact Or.inl rfl | exact Or.inr (Or.inl rfl) | exact Or.inr (Or.inr rfl)) (hd : (vn == ("__debug__" : Str)) = false := by decide) (hcd : (vn == ("__classdict__" : Str)) = false := by decide)
    (hg : Gl X x := by rfl) (hdb : (x == ("__debug__" : Str)) = false := by decide) (hs0 : starEach (.Name vn p2 :: es) X.env = (false, eval (.Name vn p2) X.env) :: starEach es X.env := by rfl) (hpl : (backTo pos (starEach es X.env)).any (·.1) = false := by rfl)
    (ht : eval (.Call (.Attribute (.Name x p1) m apos) (.Name vn p2 :: es) [] pos) X.env = (do
      let ov ← eval (.Name x p1) X.env
      standAt apos.atName
      let (f, first) ← holding [ov] (getMethod ov m pl)
      callWith pos f first (backTo pos (starEach (.Name vn p2 :: es) X.env)) (backToKw pos (keywordEach [] X.env))) := by rfl)
    (hs : swapsWith (.Call (.Attribute (.Name x p1) m apos) (.Name vn p2 :: es) [] pos) none pos'.line X.env = pure false := by rfl) :
    BX X W ER (.Expr (.Call (.Attribute (.Name x p1) m apos) (.Name vn p2 :: es) [] pos) pos' :: rest) Γ GN GL o' := by
  obtain ⟨r, h2, h3⟩ := Option.bind_eq_some_iff.mp h
  obtain ⟨z, hz, h4⟩ := Option.bind_eq_some_iff.mp h2
  refine bx_cons (ps_expr (pe_clsf (pl := pl) hg hm cr cv hk Fn hr hb pass0 (pa_cons (pe_var (i := i) hN hv hd hcd) pa_w hs0) hdb hs0 hpl ht) hs) fun F D' ac σ H Z en => ?_
  obtain ⟨v, fp, ev, ow, out, put⟩ := en.at2 hΓ
  refine ⟨v, ev, ha.run F σ H Z en z hz _ fun H1 Z1 vs bs s1 r1 vl => ?_⟩
  have hbs : bs = [] := by
    cases bs with
    | nil => rfl
    | cons v r => exact vl.elim
  subst hbs
  obtain ⟨v2, fp2, ev2, ow2, out2, put2⟩ := (en.step s1).at2 hΓ
  rw [ev] at ev2
  cases ev2
  show spM X.K fm ((v :: vs) ++ []) H1 _ E0
  rw [List.append_nil]
  refine ⟨Z1, (Br.mk y, z), r, [v], fp2, s1.zh, ⟨v, vs, [], rfl, rfl, r1⟩, ⟨v, [], fp2, Fp.no, rfl, ow2, ⟨rfl, fun _ f => f⟩, fun a => ⟨.inl, fun f => by rcases f with f | f; exact f; exact f.elim⟩, fun _ _ f => f⟩, fun a f => (out2 a f).2, h4, fun H2 Z2 u fp3 g2 o2 r2 => ?_⟩
  obtain ⟨w, rr, f1, f2, e1, o1, o3, i1, d1⟩ := o2
  cases e1
  exact (hrest r h3).run F D' ac σ H2 Z2 (put2 H2 Z2 _ _ _ r.b.1 f1 ⟨g2.hh, g2.zz, g2.zh, g2.old, fun a f => g2.out a ((i1 a).mpr (.inl f))⟩ o1)
end
end
end G
/-! GObj4: comprehensions over what is lent. -/
namespace G
open PySem L2
/-- one default more -/
theorem hv1 {α : Type} [Enc α] {K : Fg} {i : Int} : ∀ (Z : Hp) (vs : List V) (y : α × Unit), ArgB.rel K Z vs [] y → ArgB.rel (A := α × Int × Unit) K Z (vs ++ [V.int i]) [] (y.1, i, ()) :=
  fun Z vs y ⟨v, r, e, h1, h2, h3⟩ => ⟨v, r ++ [V.int i], by rw [e]; rfl, h1, V.int i, [], by rw [h2]; rfl, rfl, rfl, rfl⟩
section
variable {X : Cx} {W : WX} {ER : ExS} {rest : List Stmt} {pos pos' pos2 apos : Pos} {Γ : List Ent} {N L R : Type} [Res R] {GN : N → List Ent} {GL : L → List Ent} {o : Fl N L R} {ι β : Type} [Enc ι] [Enc β] [Flat β]
theorem bx_compL (i : Nat) {nm : Str} {py spos : Pos} {elt tg iter : Expr} {ifs : List Expr} {scope : Scope} {js : List Nat} {m : Option (List ι)} {pr : ι → Option Bool} {f : ι → Option β} {T : ι → List Ent → List Ent} {k : List β → Option (Fl N L R)} (own : List (Str × Nat)) (hc : X.calm = true) (hN : X.N.Nodup)
    (ok : blkC X.N X.env.scope scope own = true) (hi : PIC X tg iter (frzAll Γ) m)
    (hg : ∀ s H C cl fp, PGX (Blk X scope s H C cl fp) tg js T) (ht : ∀ s H C cl fp (x : ι), PTXs (Blk X scope s H C cl fp) ifs (T x (wipeE (frzAll Γ) (own.map (·.2)))) (pr x)) (he : ∀ s H C cl fp (x : ι), PX (Blk X scope s H C cl fp) elt (T x (wipeE (frzAll Γ) (own.map (·.2)))) (f x))
    (h : (oComp m pr f).bind k = some o) (hr : ∀ xs, k xs = some o → BX X W ER rest (Γ.set i (.ow none xs)) GN GL o) (hsw : swapsWith (.ListComp elt [⟨tg, iter, ifs, 0⟩] scope pos) (some (.Name nm py)) spos.line X.env = pure true)
    (hi2 : X.N[i]? = some nm := by rfl) (hyl : X.env.scope.names.lookup nm = some .local := by rfl)
    (hj : ∀ j ∈ js, j ∈ own.map (·.2) := by decide) (hs : ∀ x, foldedSetIterable iter X.env x = pure x := by intro _; rfl) : BX X W ER (.Assign [.Name nm py] (.ListComp elt [⟨tg, iter, ifs, 0⟩] scope pos) spos :: rest) Γ GN GL o := by
  obtain ⟨ys, h2, h3⟩ := Option.bind_eq_some_iff.mp h
  refine bx_cons (ps_setLc (i := i) (own := own) (g := gC X scope tg) (tt := tC X scope ifs) (te := eC X scope elt) hc hN hi2 hyl hsw pi_w (blkOk_by ok) (fun s H C cl fp => ⟨fun pins s1 σ H1 v u Q I r h => h s H C cl fp pins s1 u I r⟩) (fun s H C cl fp => ⟨fun pins s1 σ H1 Q I h => pts_w.run pins s1 σ H1 Q I (h s H C cl fp)⟩)
    (fun s H C cl fp => ⟨fun pins s1 σ H1 Q I h => h s H C cl fp pins s1 I⟩) hs) fun F D ac σ H Z en => ?_
  obtain ⟨Zc, sz, tz, en'⟩ := en.lend
  exact comp_read hi hg hj ht he F σ H Zc en' ys h2 _ fun H' Z2 l us s hn r => by
    obtain ⟨Z', s', t', n'⟩ := lend_endO en.zh tz s
    exact (hr ys h3).run F D ac _ _ Z' ((en.step s').set_ow i hn (all2_flat t' r))
end
theorem keys_all2 {K : Fg} {Z : Hp} {α : Type} [Enc α] : ∀ {kvs : List (Key × V)} {xs : List (P2 Int α)}, AllK (Enc.rel K Z) kvs xs → All2 (Enc.rel K Z) (kvs.map fun kv => kV kv.1) (xs.map P2.a)
  | [], [], _ => trivial
  | kv :: _, x :: _, ⟨a, _, c⟩ => ⟨by show kV kv.1 = V.int x.a; rw [a]; rfl, keys_all2 c⟩
  | [], _ :: _, h => h.elim
  | _ :: _, [], h => h.elim
section
variable {X : Cx} {Γ : List Ent} {e : Expr} {pos p apos cpos : Pos} {α : Type} [Enc α]
/-- list(d): the keys -/
theorem pn_listD {m : Option (Dct α)} (hc : X.calm = true) (hm : X.mg "list" = none) (ha : PDR X e Γ m) (hg : Gl X "list" := by rfl) (hs : starEach [e] X.env = [(false, eval e X.env)] := by rfl) : PN X (.Call (.Name "list" p) [e] [] pos) Γ (m.map fun d => d.kvs.map P2.a) :=
  pn_of (pe_callTy (call_list_dK hc) hg hm (by decide +kernel) (pa_cons pe_w pa_nil (by rw [hs]; rfl)) (he := by rw [hs]; rfl) (hpl := rfl)) fun F σ H Z en x hx Q q => by
    obtain ⟨y, hy, rfl⟩ := Option.map_eq_some_iff.mp hx
    exact ha.run F σ H Z en y hy _ fun H1 Z1 l kvs s1 hl r => ⟨l, kvs, rfl, hl, fun v hv => q H1 Z1 v _ s1 hv (keys_all2 r)⟩
end
/-! three comparisons in a row -/
def oChain3 (f g h : Int → Int → Bool) (a b c d : Option Int) : Option Bool := a.bind fun x => b.bind fun y => if f x y = true then oChain g h (some y) c d else some false
section
variable {X : Cx} {Γ : List Ent} {a b c d : Expr} {pos : Pos}
def tChain3 (r r' r2 : R2) (ta tb tc td : TE) : TE := fun σ H Q => ta σ H fun x H1 => tb σ H1 fun y H2 => r x y H2 fun z H3 => ∃ k, z = .bl k ∧ (if k = true then tc σ H3 fun w' H4 => r' y w' H4 fun z2 H5 => ∃ k2, z2 = .bl k2 ∧ (if k2 = true then td σ H5 fun w2 H6 => r2 w' w2 H6 Q else Q (.bl false) H5) else Q (.bl false) H3)
theorem pe_chain3 {op op' op2 : CmpOp} {r r' r2 : R2} {ta tb tc td : TE} (ho : OpR X (compareOp op) r) (ho' : OpR X (compareOp op') r') (ho2 : OpR X (compareOp op2) r2) (ha : PE X a ta) (hb : PE X b tb) (hc : PE X c tc) (hd : PE X d td)
    (hm : lastMarks [op, op', op2] [b, c, d] = false := by with_unfolding_all rfl) : PE X (.Compare a [op, op', op2] [b, c, d] pos) (tChain3 r r' r2 ta tb tc td) := by
  refine ⟨fun pins s σ H Q I h => ?_⟩
  refine PyProof.Rows.Compare_chain (thn (ha.run pins s σ H _ I h) fun v s1 ⟨x, H1, I1, r1, q1⟩ => PyProof.Rows.chain_link (thn (hb.run pins s1 σ H1 _ I1 q1) fun u s2 ⟨y, H2, I2, r2', q2⟩ =>
    thn (ho pins s2 σ H2 x y v u _ I2 r1 r2' q2) fun d0 s3 ⟨z, H3, I3, r3, k, e, q3⟩ => ?_)) hm
  subst e
  cases r3
  refine wpAny_truthy_bool ?_
  cases k with
  | false => exact PyProof.Rows.ite_ff ⟨.bl false, H3, I3, rfl, q3⟩
  | true =>
    refine PyProof.Rows.ite_tt (PyProof.Rows.chain_link (thn (hc.run pins s3 σ H3 _ I3 q3) fun w' s4 ⟨z', H4, I4, r4, q4⟩ => thn (ho' pins s4 σ H4 y z' u w' _ I4 r2' r4 q4) fun d1 s5 ⟨z2, H5, I5, r5, k2, e2, q5⟩ => ?_))
    subst e2
    cases r5
    refine wpAny_truthy_bool ?_
    cases k2 with
    | false => exact PyProof.Rows.ite_ff ⟨.bl false, H5, I5, rfl, q5⟩
    | true => exact PyProof.Rows.ite_tt (PyProof.Rows.chain_last (thn (hd.run pins s5 σ H5 _ I5 q5) fun w2 s6 ⟨z3, H6, I6, r6, q6⟩ => ho2 pins s6 σ H6 z' z3 w' w2 Q I6 r4 r6 q6))
theorem px_chain3 {op op' op2 : CmpOp} {f g h : Int → Int → Bool} {m1 m2 m3 m4 : Option Int} (ho : OpR X (compareOp op) (rI0 fun i j => .bl (f i j))) (ho' : OpR X (compareOp op') (rI0 fun i j => .bl (g i j))) (ho2 : OpR X (compareOp op2) (rI0 fun i j => .bl (h i j))) (ha : PX X a Γ m1) (hb : PX X b Γ m2) (hc : PX X c Γ m3) (hd : PX X d Γ m4)
    (h1 : lastMarks [op, op', op2] [b, c, d] = false := by with_unfolding_all rfl) : PX X (.Compare a [op, op', op2] [b, c, d] pos) Γ (oChain3 f g h m1 m2 m3 m4) := px_of (pe_chain3 ho ho' ho2 pe_w pe_w pe_w pe_w h1) fun F σ H Z en x hx Q q => by
  obtain ⟨i, hi, hx⟩ := Option.bind_eq_some_iff.mp hx
  obtain ⟨j, hj, hx⟩ := Option.bind_eq_some_iff.mp hx
  refine ha.run F σ H Z en i hi _ fun H1 Z1 v s1 r1 => hb.run F σ H1 Z1 (en.step s1) j hj _ fun H2 Z2 w s2 r2 => ⟨i, j, r1, r2, f i j, rfl, ?_⟩
  cases hf : f i j with
  | true =>
    rw [hf, if_pos rfl] at hx
    obtain ⟨j', hj', hx⟩ := Option.bind_eq_some_iff.mp hx
    cases hj'
    obtain ⟨k, hk, hx⟩ := Option.bind_eq_some_iff.mp hx
    rw [if_pos rfl]
    refine hc.run F σ H2 Z2 (en.step (s1.trans s2)) k hk _ fun H3 Z3 u s3 r3 => ⟨j, k, r2, r3, g j k, rfl, ?_⟩
    cases hg : g j k with
    | true =>
      rw [hg, if_pos rfl] at hx
      obtain ⟨l, hl, hx⟩ := Option.bind_eq_some_iff.mp hx
      cases hx
      rw [if_pos rfl]
      exact hd.run F σ H3 Z3 (en.step ((s1.trans s2).trans s3)) l hl _ fun H4 Z4 u2 s4 r4 => ⟨k, l, r3, r4, q H4 Z4 _ (((s1.trans s2).trans s3).trans s4) rfl⟩
    | false =>
      rw [hg, if_neg Bool.false_ne_true] at hx
      cases hx
      rw [if_neg Bool.false_ne_true]
      exact q H3 Z3 _ ((s1.trans s2).trans s3) rfl
  | false =>
    rw [hf, if_neg Bool.false_ne_true] at hx
    cases hx
    rw [if_neg Bool.false_ne_true]
    exact q H2 Z2 _ (s1.trans s2) rfl
end
end G
/-! GSet: set(a list of ints), its length, sorted. -/
namespace G
section
open PySem PySem.Spec PyProof.Rows L2
variable {prog : Program} {w : World} {A : Around} {R : Result → Shared → Prop} {I : Addr} {fp wr : List Addr} {Gr : Array GenState → Array GenState → Prop} {n : Nat} {P : Nat → Value → Prop} {St : Nat → Shared → Prop}
theorem setR_as {h : Heap} {a : Addr} {S S' : Int → Bool} {n n' : Nat} (hS : SetR w h a S n) (e : ∀ k, S k = S' k) (en : n = n') : SetR w h a S' n' := by
  have e2 : S = S' := funext e
  rw [← e2, ← en]; exact hS
theorem setR_moved {h h' : Heap} {a : Addr} {S : Int → Bool} {n : Nat} (hS : SetR w h a S n) (k : ∀ o, h.get? a = some o → h'.get? a = some o) : SetR w h' a S n := by
  obtain ⟨o, es, ep, tb, ho, rest⟩ := hS
  exact ⟨o, es, ep, tb, k o ho, rest⟩
/-- the new set at S takes what the walk gives -/
theorem fill_set (W : WalksS prog w A.in1 I fp wr Gr n P St) (S : Addr) (out : S ∉ fp) (val : Nat → Int) (hval : ∀ i v, P i v → ∃ t, v = .int (val i) t) (hb : n + 1 < scanBound) : ∀ (k i : Nat) (s : Shared), n - i = k → i ≤ n → St i s →
    SetR w s.heap S (fun z => (firstMet val i).any (· == z)) (firstMet val i).length →
    (∀ s', Moved (S :: wr) Gr s s' → SetR w s'.heap S (fun z => (firstMet val n).any (· == z)) (firstMet val n).length → R (.ok (.ret .none)) s') →
    codeAny (model prog w) A (.builtin "set.update.loop" ⟨[.ref S, .ref I], []⟩) R s := by
  have outw : S ∉ wr := fun h => out (W.sub _ h)
  have more : ∀ b ∈ wr, b ∈ S :: wr := fun b hb => List.mem_cons_of_mem _ hb
  intro k
  induction k with
  | zero =>
    intro i s hk hi hst hS hR
    have e : i = n := by omega
    subst e
    refine codeAny_builtin F.entry_set_update_loop ?_
    rw [Around.under_plainId F.plain_set_update_loop _]
    show wpAny _ A.in1 (pyNext (.ref I) >>= _) _ _ s
    refine wpAny_bind (W.done s _ _ hst fun s' hm => ?_)
    show wpAny _ A.in1 (ret Value.none) _ _ s'
    exact wpAny_pure (hR s' (hm.mono more) (setR_moved hS fun o ho => hm.heap S o outw ho))
  | succ k ih =>
    intro i s hk hi hst hS hR
    have hlt : i < n := by omega
    refine codeAny_builtin F.entry_set_update_loop ?_
    rw [Around.under_plainId F.plain_set_update_loop _]
    show wpAny _ A.in1 (pyNext (.ref I) >>= _) _ _ s
    refine wpAny_bind (W.item i s _ _ hlt hst fun v s' hP hst' hm => ?_)
    obtain ⟨t, rfl⟩ := hval i v hP
    have hS1 := setR_moved (h' := s'.heap) hS fun o ho => hm.heap S o outw ho
    show wpAny _ A.in1 (holding [Value.int (val i) t] (setAdd S (.int (val i) t)) >>= _) _ _ s'
    refine wpAny_bind (wpAny_holding ?_)
    unfold setAdd
    refine wpAny_holding ?_
    refine wpAny_bind ((intKind prog w).pyHash (k := val i) (intKind_is _ _ _ _) ?_)
    have room : (firstMet val i).length + 1 < scanBound := by have := firstMet_length_le val i; omega
    refine setR_add_hashed (P := prog) (s := { s' with toks := s'.toks + 1 }) hS1 room fun h' sb hS2 => ?_
    have hSi : SetR w h' S (fun z => (firstMet val (i + 1)).any (· == z)) (firstMet val (i + 1)).length := setR_as hS2 (fun z => by rw [firstMet_succ, step_any]) (by rw [firstMet_succ, step_length])
    refine wpAny_pure ⟨plainId_quiet F.plain_set_update_loop _, ih (i + 1) _ (by omega) hlt (W.frame _ s' _ _ hst' (Nat.le_succ _) fun b hb o e => ?_) hSi fun s'' hm'' hS'' => ?_⟩
    · rw [sb.2 b (fun h : b = S => out (by rw [← h]; exact hb))]; exact e
    · refine hR s'' (Moved.trans W.gtrans ((hm.mono more).then_heap (Nat.le_succ _) fun b o hb e => ?_) hm'') hS''
      rw [sb.2 b (fun h : b = S => hb (by rw [h]; exact List.mem_cons_self))]; exact e
end
section
open PySem PySem.Spec PyProof.Rows L2
variable {prog : Program} {w : World} {A : Around} {E : Value → Shared → Prop} {s : Shared}
abbrev emptyS (w : World) : Obj := { cls := .type "set", dict := none, data := .set #[] 0 (.fresh 0 0 (!w.params.followText "set-order")) }
theorem new_set1 (a : Value) {Q₁ : Value → Shared → Prop} (h : Q₁ (.ref s.heap.objs.size) { s with heap := s.heap.push (emptyS w) }) :
    codeAny (model prog w) A (.call (.builtin "set.__new__") ⟨[.type "set", a], []⟩) (wants Q₁ E) s := by
  refine codeAny_of_tree ?_
  show wpAny _ A.in1 (do checkBuiltinCall "set.__new__" ⟨[.type "set", a], []⟩; again (.builtin "set.__new__" ⟨[.type "set", a], []⟩)) _ _ s
  refine wpAny_bind (wpAny_of_eq (F.newCall_set_1 a) (wpAny_pure ⟨plainId_quiet F.plain_set_new _, codeAny_builtin F.entry_set_new ?_⟩))
  rw [Around.under_plainId F.plain_set_new _]
  unfold Builtin.«set.__new__» Builtin.Frozenset.newClass
  have hsub := sub_set_self
  obtain ⟨hp, g, d, tk, os⟩ := s
  dsimp only
  wp_walk
  refine wpAny_askSetting (wpAny_pure ?_)
  dsimp only
  simp only [newObj]
  refine wpAny_bind (wpAny_alloc (wpAny_pure ?_))
  exact wpAny_pure h
set_option maxRecDepth 100000 in
set_option maxHeartbeats 3200000 in
theorem call_setL {l : Addr} {items : Array Value} {ns : List Int} {Q : Value → Shared → Prop} (hh : A.handled = none) (hl : s.heap.IsList l items) (hi : IntsAre items.toList ns) (hb : items.size + 1 < scanBound)
    (h : ∀ (h' : Heap) (tk : Nat), SetR w h' s.heap.objs.size (fun z => (firstMet (fun i => ns.getD i 0) items.size).any (· == z)) (firstMet (fun i => ns.getD i 0) items.size).length →
      (∀ b o, b < s.heap.objs.size → s.heap.get? b = some o → h'.get? b = some o) → Q (.ref s.heap.objs.size) { s with heap := h', toks := tk }) :
    wpAny (model prog w) A (call (.type "set") [.ref l]) Q E s := by
  obtain ⟨c, tl, hmro⟩ := F.called_set.mro
  have hmade := F.called_set.made
  have hsub := F.called_set.sub
  refine wpAny_call (codeAny_of_tree ?_)
  show wpAny _ _ (callAny (.type "set") _) _ _ _
  refine wpAny_pure ⟨Code.quiet_builtin _ (by decide +kernel), codeAny_builtin F.entry_type_call ?_⟩
  rw [Around.under_plain (weight_type_call_type "set" [.ref l] []) rfl]
  have h1 := F.called_set.notType
  have h2 := F.called_set.canCreate
  have hct := F.typeCall_set_1 (.ref l)
  repeat (any_goals (first | assumption | wp_step))
  refine codeAny_mono (new_set1 (.ref l) (E := E) (Q₁ := fun obj s₁ => obj = .ref s.heap.objs.size ∧ s₁ = { s with heap := s.heap.push (emptyS w) }) ⟨rfl, rfl⟩) fun r s₁ hr => ?_
  cases r with
  | error e => exact hr
  | ok fl =>
    cases fl with
    | ret obj =>
      obtain ⟨rfl, rfl⟩ := hr
      have hS : (s.heap.push (emptyS w)).get? s.heap.objs.size = some (emptyS w) := Heap.get?_push_size _ rfl
      have hT : Shared.TypeIs { s with heap := s.heap.push (emptyS w) } (.ref s.heap.objs.size) "set" := ⟨_, hS, rfl⟩
      have hli := F.called_set.init.lookup
      have hbi := F.called_set.init.bind (.ref s.heap.objs.size)
      repeat (any_goals (first | assumption | wp_step))
      refine codeAny_mono (codeAny_call_builtin (R := wants (fun r s₂ => r = .none ∧ ∃ h' tk, s₂ = { s with heap := h', toks := tk } ∧
          SetR w h' s.heap.objs.size (fun z => (firstMet (fun i => ns.getD i 0) items.size).any (· == z)) (firstMet (fun i => ns.getD i 0) items.size).length ∧
          (∀ b o, b < s.heap.objs.size → s.heap.get? b = some o → h'.get? b = some o)) E) F.called_set.init.plain F.entry_set_init (check_set_init_1 hT ?_)) fun r₂ s₂ hr₂ => ?_
      · obtain ⟨ol, hol, hcl, nl, hdl⟩ := hl
        obtain ⟨ocls, odict, odata, oslots⟩ := ol
        simp only at hcl hdl
        subst hcl; subst hdl
        have hol' : (s.heap.push (emptyS w)).get? l = some { cls := .type "list", dict := odict, data := .seq items nl, slots := oslots } := Heap.get?_push_of_some _ hol
        have hsls := F.sub_list_set
        have hslf := F.sub_list_frozenset
        have hne : (Value.type "list" == Value.type "dict") = false := by decide
        have hl1 : (s.heap.push (emptyS w)).IsList l items := ⟨_, hol', rfl, nl, rfl⟩
        unfold Builtin.«set.__init__» noKeywords Builtin.Frozenset.updateFrom
        generalize hPI : pyIter = PI
        wp_walk
        subst hPI
        refine wpAny_pyIter_list hl1 ?_
        refine wpAny_bind (wpAny_runValue ?_)
        have hlS : l < s.heap.objs.size := Heap.lt_size hol
        have hh3 : A.in1.in1.in1.handled = none := by simp [hh]
        have hneI : l ≠ (s.heap.push (emptyS w)).objs.size := by
          rw [Heap.size_push]; exact Nat.ne_of_lt (Nat.lt_succ_of_lt hlS)
        have hSf : s.heap.objs.size ∉ [(s.heap.push (emptyS w)).objs.size, l] := by
          rw [Heap.size_push]; simp only [List.mem_cons, List.mem_singleton, List.not_mem_nil, or_false, not_or]
          exact ⟨Nat.ne_of_lt (Nat.lt_succ_self _), Nat.ne_of_gt hlS⟩
        have hval : ∀ (i : Nat) (v : Value), items[i]? = some v → ∃ t, v = .int ((fun i => ns.getD i 0) i) t := fun i v hv =>
          IntsAre.int_at hi i v (by rw [Array.getElem?_toList]; exact hv)
        refine fill_set ((Walks.list hh3 _ l hneI items).toS) s.heap.objs.size hSf (fun i => ns.getD i 0) hval hb (items.size - 0) 0 _ (by omega) (Nat.zero_le _) ⟨⟨_, Heap.get?_push_size _ rfl, rfl, rfl⟩, (hl1.push _)⟩ ?hS0 ?hR
        case hS0 =>
          exact setR_as (setR_moved (setR_fresh (h := s.heap) w) fun o ho => Heap.get?_push_of_some _ ho) (fun _ => rfl) rfl
        case hR =>
          intro s' hm hS'
          obtain ⟨h', g', d', tk', os'⟩ := s'
          have eg : g' = s.gens := hm.gens
          have ed : d' = s.drawn := hm.drawn
          have eo : os' = s.os := hm.os
          subst eg; subst ed; subst eo
          show wpAny _ _ _ _ _ _
          refine wpAny_pure ?_
          show wpAny _ _ (ret Value.none) _ _ _
          refine wpAny_pure ⟨rfl, h', tk', rfl, hS', fun b o hb e => ?_⟩
          have hb1 : b ≠ s.heap.objs.size := Nat.ne_of_lt hb
          have hb2 : b ≠ (s.heap.push (emptyS w)).objs.size := by
            rw [Heap.size_push]; exact Nat.ne_of_lt (Nat.lt_succ_of_lt hb)
          exact hm.heap b o (by simp only [List.mem_cons, List.mem_singleton, List.not_mem_nil, or_false, not_or]; exact ⟨hb1, hb2⟩) (Heap.get?_push_of_some _ (Heap.get?_push_of_some _ e))
      · cases r₂ with
        | error e => exact hr₂
        | ok fl₂ =>
          cases fl₂ with
          | ret r =>
            obtain ⟨rfl, h', tk, rfl, hS', hk'⟩ := hr₂
            repeat (any_goals (first | assumption | wp_step))
            exact h _ _ hS' hk'
          | _ => exact hr₂.elim
    | _ => exact hr.elim
end
end G
/-! GSet2: sorted(set(xs)). -/
namespace G
open PySem L2 PyProof.Rows
theorem perm_of_memS {α : Type} : ∀ {l1 l2 : List α}, l1.Nodup → l2.Nodup → (∀ a, a ∈ l1 ↔ a ∈ l2) → l1.Perm l2
  | [], l2, _, _, h => by
    cases l2 with
    | nil => exact List.Perm.refl _
    | cons y ys => exact absurd ((h y).mpr List.mem_cons_self) (by simp)
  | x :: xs, l2, h1, h2, h => by
    obtain ⟨s, t, rfl⟩ := List.append_of_mem ((h x).mp List.mem_cons_self)
    have h1' := List.nodup_cons.mp h1
    have p : (s ++ x :: t).Perm (x :: (s ++ t)) := List.perm_middle
    have h3 := List.nodup_cons.mp (p.nodup_iff.mp h2)
    refine (List.Perm.cons x (perm_of_memS h1'.2 h3.2 fun a => ⟨fun ha => ?_, fun ha => ?_⟩)).trans p.symm
    · rcases List.mem_cons.mp (p.mem_iff.mp ((h a).mp (List.mem_cons_of_mem _ ha))) with e | q
      · exact absurd (by rw [← e]; exact ha) h1'.1
      · exact q
    · rcases List.mem_cons.mp ((h a).mpr (p.mem_iff.mpr (List.mem_cons_of_mem _ ha))) with e | q
      · exact absurd (by rw [← e]; exact ha) h3.1
      · exact q
/-- each number once, as they come -/
def dd (ns : List Int) : List Int := ns.foldl step_dedup []
theorem range_get (ns : List Int) : (List.range ns.length).map (fun i => ns.getD i 0) = ns := by
  apply List.ext_getElem
  · simp
  · intro i h1 h2
    simp [h2]
theorem firstMet_dd (ns : List Int) : firstMet (fun i => ns.getD i 0) ns.length = dd ns := by
  unfold firstMet dd
  rw [range_get]
theorem dd_any (ns : List Int) (z : Int) : (dd ns).any (· == z) = ns.any (· == z) := by
  rw [← firstMet_dd, firstMet_any, range_get]
theorem dd_mem {ns : List Int} {z : Int} : z ∈ dd ns ↔ z ∈ ns := by
  have := dd_any ns z
  rw [Bool.eq_iff_iff, List.any_eq_true, List.any_eq_true] at this
  constructor
  · intro h
    obtain ⟨y, hy, e⟩ := this.mp ⟨z, h, beq_self_eq_true z⟩
    rw [← beq_iff_eq.mp e]; exact hy
  · intro h
    obtain ⟨y, hy, e⟩ := this.mpr ⟨z, h, beq_self_eq_true z⟩
    rw [← beq_iff_eq.mp e]; exact hy
theorem step_nodup {l : List Int} {v : Int} (h : l.Nodup) : (step_dedup l v).Nodup := by
  unfold step_dedup
  by_cases c : l.any (· == v) = true
  · rw [if_pos c]; exact h
  · rw [if_neg c, List.nodup_append]
    refine ⟨h, by simp, fun a ha b hb => ?_⟩
    rw [List.mem_singleton] at hb
    subst hb
    intro e
    subst e
    exact c (List.any_eq_true.mpr ⟨a, ha, beq_self_eq_true a⟩)
theorem dd_nodup (ns : List Int) : (dd ns).Nodup := by
  unfold dd
  have go : ∀ (xs l : List Int), l.Nodup → (xs.foldl step_dedup l).Nodup := fun xs => by
    induction xs with
    | nil => intro l h; exact h
    | cons x xs ih => intro l h; exact ih _ (step_nodup h)
  exact go ns [] List.nodup_nil
theorem dd_len (ns : List Int) : (dd ns).length ≤ ns.length := by
  rw [← firstMet_dd]; exact firstMet_length_le _ _
/-- set(xs), xs a list of ints -/
def rSetL (K : Fg) (w : World) : List V → Hp → VK → Prop := fun xs H Q => ∃ (l : Addr) (ns : List Int), xs = [.ref l] ∧ SqL K H l (ns.map V.int) ∧ ns.length + 1 < scanBound ∧ ∀ p, H p = none → Q (.ref p) (upd H p (SetO w p (fun z => (dd ns).any (· == z)) (dd ns).length))
theorem ints_of_vals : ∀ {ns : List Int} {its : List Value}, Vals (ns.map V.int) its → IntsAre its ns
  | [], [], _ => .nil
  | n :: ns, u :: its, r => by
    cases r with
    | cons r1 r2 =>
      obtain ⟨t, rfl⟩ := r1
      exact .cons n t (ints_of_vals r2)
theorem cr_setL {X : Cx} (hc : X.calm = true) : CallR X (.type "set") (rSetL X.K X.w) := by
  intro pins s σ H xs us Q I r h
  obtain ⟨l, ns, rfl, hl, hb, q⟩ := h
  rw [Vals.ref1 r]
  obtain ⟨its, rv, pl, hz⟩ := I.list hl
  have hn : H s.heap.objs.size = none := I.hok.fresh (Nat.le_refl _)
  have hlen : its.length = ns.length := by rw [← rv.length, List.length_map]
  have hsz : its.toArray.size = ns.length := by rw [List.size_toArray, hlen]
  refine call_setL (items := its.toArray) (ns := ns) (I.ok.hd hc) pl.isList (by simpa using ints_of_vals rv) (by rw [hsz]; exact hb) fun h' tk R k => ?_
  rw [hsz, firstMet_dd] at R
  exact ⟨.ref s.heap.objs.size, upd H s.heap.objs.size (SetO X.w s.heap.objs.size (fun z => (dd ns).any (· == z)) (dd ns).length), I.laid (t' := tk) (fun b o e => k b o (Heap.lt_size e) e) (Nat.le_refl _) (setO_new R), rfl, q _ hn⟩
def oSortSet (m : Option (List Int)) : Option (List Int) := m.bind fun ns => if ns.length < 4000 ∧ (dd ns).length < 64 then some (sortI (dd ns)) else none
theorem set_sorted {ns L : List Int} (up : L.Pairwise (· < ·)) (mem : ∀ k : Int, k ∈ L ↔ (dd ns).any (· == k) = true) : L = sortI (dd ns) := by
  refine sortI_eq (perm_of_memS (up.imp fun h => Int.ne_of_lt h) (dd_nodup ns) fun a => (mem a).trans ?_) (up.imp fun h => Int.le_of_lt h)
  rw [List.any_eq_true]
  exact ⟨fun ⟨y, hy, e⟩ => by rw [← beq_iff_eq.mp e]; exact hy, fun h => ⟨a, h, beq_self_eq_true a⟩⟩
section
variable {X : Cx} {Γ : List Ent} {a : Expr} {pos p p2 q0 : Pos}
theorem pn_sortSet {m : Option (List Int)} (hc : X.calm = true) (hm : X.mg "sorted" = none) (hm2 : X.mg "set" = none) (ha : PL X a Γ m) (hg : Gl X "sorted" := by rfl) (hg2 : Gl X "set" := by rfl) (hs : starEach [a] X.env = [(false, eval a X.env)] := by rfl)
    (hs2 : starEach [.Call (.Name "set" p2) [a] [] q0] X.env = [(false, eval (.Call (.Name "set" p2) [a] [] q0) X.env)] := by rfl) : PN X (.Call (.Name "sorted" p) [.Call (.Name "set" p2) [a] [] q0] [] pos) Γ (oSortSet m) :=
  pn_of (pe_callB (cr_sortedSet hc) hg hm (by decide +kernel) (pa_cons (pe_callTy (cr_setL hc) hg2 hm2 (by decide +kernel) (pa_cons pe_w pa_nil (by rw [hs]; rfl)) (he := by rw [hs]; rfl) (hpl := rfl)) pa_nil (by rw [hs2]; rfl)) (he := by rw [hs2]; rfl) (hpl := rfl)) fun F σ H Z en x hx Q q => by
    obtain ⟨ns, hns, hx⟩ := Option.bind_eq_some_iff.mp hx
    by_cases c : ns.length < 4000 ∧ (dd ns).length < 64
    · rw [if_pos c] at hx
      cases hx
      refine ha.run F σ H Z en ns hns _ fun H1 Z1 l vs s1 hl r1 => ⟨l, ns, rfl, SqL.of (by rw [← all2_V r1]; exact hl), by have := c.1; unfold scanBound; omega, fun pq hp => ⟨pq, _, _, rfl, upd_same, c.2, fun L pl up mem _ hpl => ?_⟩⟩
      rw [set_sorted up mem]
      have s2 := Step.newH (o := SetO X.w pq (fun z => (dd ns).any (· == z)) (dd ns).length) s1.zh hp
      exact q _ Z1 pl _ (s1.trans s2) hpl All2.of_map_int
    · rw [if_neg c] at hx; cases hx
end
end G
/-! GObj5: methods that raise; walks over tuples. -/
namespace G
open PySem L2
section
variable {X : Cx} {pos p : Pos} {tg e e2 iter : Expr} {Γ : List Ent} {α β ι : Type} [Enc α] [Enc β] [Enc ι]
/-- at l a tuple of xs is to be read, as long as P holds -/
def TupAt (K : Fg) (P : Hp → Hp → Prop) (l : Addr) (xs : List α) : Prop := ∀ (H Z : Hp), P H Z → Same Z H → ∃ vs, H l = some (.tup vs) ∧ All2 (Enc.rel K Z) vs xs
theorem src_tup {K : Fg} {P : Hp → Hp → Prop} {l : Addr} {xs : List α} (h : TupAt K P l xs) : Src K (Itt K l) P xs := fun H Z hp zh i => by
  obtain ⟨vs, hl, r⟩ := h H Z hp zh
  have e := r.len
  refine ⟨fun hi => ⟨vs, vs[i]'(by omega), SqT.of hl, by simp⟩, fun hi => ⟨vs, SqT.of hl, by omega⟩, fun v H' x y hx => ?_⟩
  obtain ⟨rfl, y⟩ := y
  obtain ⟨v', h1, r1⟩ := r.get' hx
  have h2 := y vs (SqT.of hl)
  rw [h1] at h2
  cases h2
  exact ⟨Z, Step.refl zh, r1⟩
theorem tupAt_still {K : Fg} {Z1 : Hp} {l : Addr} {vs : List V} {xs : List α} (h : Z1 l = some (.tup vs)) (r : All2 (Enc.rel K Z1) vs xs) : TupAt K (fun _ Z => Same Z1 Z) l xs := fun H Z hp zh => ⟨vs, zh _ _ (hp _ _ h), all2_mono hp r⟩
theorem pif_t2 {m : Option (P2 α α)} (h : PX X iter Γ m) : PIF X tg iter Γ (m.map fun x => [x.a, x.b]) := pif_of (pi_tup pe_w) fun F σ H Z en xs hx R q => by
  obtain ⟨y, hy, rfl⟩ := Option.map_eq_some_iff.mp hx
  refine h.run F σ H Z en y hy _ fun H1 Z1 v s ⟨l, v1, v2, e, hl, r1, r2⟩ => ?_
  subst e
  exact ⟨l, rfl, ⟨_, SqT.of (s.zh _ _ hl)⟩, q _ H1 Z1 s (src_tup (tupAt_still hl ⟨r1, r2, trivial⟩))⟩
theorem pif_t3 {m : Option (P3 α α α)} (h : PX X iter Γ m) : PIF X tg iter Γ (m.map fun x => [x.a, x.b, x.c]) := pif_of (pi_tup pe_w) fun F σ H Z en xs hx R q => by
  obtain ⟨y, hy, rfl⟩ := Option.map_eq_some_iff.mp hx
  refine h.run F σ H Z en y hy _ fun H1 Z1 v s ⟨l, v1, v2, v3, e, hl, r1, r2, r3⟩ => ?_
  subst e
  exact ⟨l, rfl, ⟨_, SqT.of (s.zh _ _ hl)⟩, q _ H1 Z1 s (src_tup (tupAt_still hl ⟨r1, r2, r3, trivial⟩))⟩
theorem pif_t4 {m : Option (P4 α α α α)} (h : PX X iter Γ m) : PIF X tg iter Γ (m.map fun x => [x.a, x.b, x.c, x.d]) := pif_of (pi_tup pe_w) fun F σ H Z en xs hx R q => by
  obtain ⟨y, hy, rfl⟩ := Option.map_eq_some_iff.mp hx
  refine h.run F σ H Z en y hy _ fun H1 Z1 v s ⟨l, v1, v2, v3, v4, e, hl, r1, r2, r3, r4⟩ => ?_
  subst e
  exact ⟨l, rfl, ⟨_, SqT.of (s.zh _ _ hl)⟩, q _ H1 Z1 s (src_tup (tupAt_still hl ⟨r1, r2, r3, r4, trivial⟩))⟩
end
/-! ### methods that raise -/
section
variable {X : Cx} {CX : CXT} {k : Nat} {f C : Addr} {fd : FuncData} {ps : List Str} {sp : Sp} {E : St → XK} {x m : Str} {p pos apos : Pos} {e o : Expr} {es : List Expr} {ta : TE} {t : TA}
def tMethX (C : Addr) (m : Str) (sp : Sp) (E : St → XK) (ta : TE) (t : TA) : TE := fun σ H Q => ta σ H fun x H1 => ∃ a dx fs, x = .ref a ∧ H1 a = some (.ins C dx fs) ∧ fs.lookup m = none ∧ t σ H1 fun vs H2 => sp (x :: vs) H2 Q (E σ)
theorem pe_methX {pl : Sem Bool} (he : PE X o ta) (c : Cls X.K C) (hm : Meth X.K C m f) (F : FnOk X.prog X.w X.K X.mg X.base CX k f fd ps sp) (hr : Room k X.A) (hb : Binds X.K fd ps []) (hx : ∀ σ, PassesAt CX X σ (E σ)) (ha : PA X (e :: es) t)
    (hst : starEach (e :: es) X.env = (false, eval e X.env) :: starEach es X.env := by rfl) (hpl : (backTo pos (starEach es X.env)).any (·.1) = false := by rfl)
    (ht : eval (.Call (.Attribute o m apos) (e :: es) [] pos) X.env = (do
      let ov ← eval o X.env
      standAt apos.atName
      let (f, first) ← holding [ov] (getMethod ov m pl)
      callWith pos f first (backTo pos (starEach (e :: es) X.env)) (backToKw pos (keywordEach [] X.env))) := by rfl) :
    PE X (.Call (.Attribute o m apos) (e :: es) [] pos) (tMethX C m sp E ta t) := by
  refine ⟨fun pins s σ H Q I h => ?_⟩
  refine PySem.W.methodCall_KW (pl := pl) (thn (he.run pins s σ H _ I h) fun u s1 ⟨x, H1, I1, rx, a, dx, fs, ex, ea, l, q⟩ => ?_) ht
  subst ex
  obtain rfl : u = Value.ref a := rx
  refine getmeth_ok I1 ea c hm l ?_
  refine PySem.W.callWith_K (first := [.ref a]) (h₀ := X.base) I1.ok.mod.kin hm.kp (thn (ha.run pos pins s1 σ H1 _ I1 q) fun us s2 ⟨vs, H2, I2, r, q2⟩ => ⟨I2.kIn, ?_⟩) hst hpl
  exact run_fnS (us := .ref a :: us) (vs := .ref a :: vs) F hr hb (hx σ) I2 (.cons rfl r) q2
end
section
variable {X : Cx} {W : WX} {ER : ExS} {rest : List Stmt} {e o a b c : Expr} {es : List Expr} {pos pos' p p1 p2 apos : Pos} {Γ Γ' : List Ent} {α : Type} [Flds α] {nm m : Str} {ns : List Str} {C : Addr} {k : Nat} {f : Addr} {fd : FuncData} {ps : List Str} {A R : Type} {pl : Sem Bool}
/-- o.m(e, ..), o still; may raise -/
theorem pxx_meth [EncA A] [Enc R] {fm : Ins nm ns α × A → Option (Rs R)} {mo : Option (Ins nm ns α)} {ma : Option A} (tk : Takes X W) (cl : ClsF X.K nm C) (hm : Meth X.K C m f) (hmn : m ∉ ns) (Fn : FnOk X.prog X.w X.K X.mg X.base (L2.CX X.prog X.w) k f fd ps (spX X.K ER.er fm)) (hr : Room k X.A) (hb : Binds X.K fd ps []) (ho : PX X o Γ mo) (ha : PAX X (e :: es) Γ ma)
    (hst : starEach (e :: es) X.env = (false, eval e X.env) :: starEach es X.env := by rfl) (hpl : (backTo pos (starEach es X.env)).any (·.1) = false := by rfl)
    (ht : eval (.Call (.Attribute o m apos) (e :: es) [] pos) X.env = (do
      let ov ← eval o X.env
      standAt apos.atName
      let (f, first) ← holding [ov] (getMethod ov m pl)
      callWith pos f first (backTo pos (starEach (e :: es) X.env)) (backToKw pos (keywordEach [] X.env))) := by rfl) :
    PXX X W ER.er (.Call (.Attribute o m apos) (e :: es) [] pos) Γ ((oPair mo ma).bind fm) := .mk fun F σ H Z en z hx Q q1 q2 pins s I => (pe_methX (pl := pl) pe_w cl.cl hm Fn hr hb (fun σ => passAt tk σ) pa_w hst hpl ht).run pins s σ H Q I (by
  obtain ⟨xy, hxy, hx1⟩ := Option.bind_eq_some_iff.mp hx
  obtain ⟨x, hxx, hxy⟩ := Option.bind_eq_some_iff.mp hxy
  obtain ⟨y, hy, hxy⟩ := Option.bind_eq_some_iff.mp hxy
  cases hxy
  refine ho.run F σ H Z en x hxx _ fun H1 Z1 v s1 r1 => ?_
  obtain ⟨l, D, dx, fs, e1, hl, hcl, o1⟩ := id r1
  cases hcl.same cl.is
  subst e1
  refine ⟨l, dx, fs, rfl, s1.zh _ _ hl, Flds.nokeyR o1 hmn, ha.run F σ H1 Z1 (en.step s1) y hy _ fun H2 Z2 vs s2 r2 => ?_⟩
  exact ⟨Z2, (x, y), z, s2.zh, ⟨_, vs, rfl, Enc.mono s2.zz r1, r2⟩, hx1, fun y' e' H3 Z3 u s3 r3 => q1 y' e' H3 Z3 u ((s1.trans s2).trans s3) r3, fun c i e' H3 Z3 cls d s3 r3 => q2 c i e' H3 Z3 cls d ((s1.trans s2).trans s3) r3⟩)
/-- .. and does not -/
theorem px_methR [EncA A] [Enc R] {fm : Ins nm ns α × A → Option (Rs R)} {mo : Option (Ins nm ns α)} {ma : Option A} (cl : ClsF X.K nm C) (hm : Meth X.K C m f) (hmn : m ∉ ns) (Fn : FnOk X.prog X.w X.K X.mg X.base (L2.CX X.prog X.w) k f fd ps (spX X.K ER.er fm)) (hr : Room k X.A) (hb : Binds X.K fd ps []) (ho : PX X o Γ mo) (ha : PAX X (e :: es) Γ ma)
    (hst : starEach (e :: es) X.env = (false, eval e X.env) :: starEach es X.env := by rfl) (hpl : (backTo pos (starEach es X.env)).any (·.1) = false := by rfl)
    (ht : eval (.Call (.Attribute o m apos) (e :: es) [] pos) X.env = (do
      let ov ← eval o X.env
      standAt apos.atName
      let (f, first) ← holding [ov] (getMethod ov m pl)
      callWith pos f first (backTo pos (starEach (e :: es) X.env)) (backToKw pos (keywordEach [] X.env))) := by rfl) :
    PX X (.Call (.Attribute o m apos) (e :: es) [] pos) Γ (((oPair mo ma).bind fm).bind Rs.val) := px_of (pe_meth (pl := pl) pe_w cl.cl hm Fn hr hb .nil passL pa_w hst hpl ht) fun F σ H Z en z hx Q q => by
  obtain ⟨r, hx0, hv⟩ := Option.bind_eq_some_iff.mp hx
  obtain ⟨xy, hxy, hx1⟩ := Option.bind_eq_some_iff.mp hx0
  obtain ⟨x, hxx, hxy⟩ := Option.bind_eq_some_iff.mp hxy
  obtain ⟨y, hy, hxy⟩ := Option.bind_eq_some_iff.mp hxy
  cases hxy
  cases r with
  | er c i => cases hv
  | ok r =>
  cases hv
  refine ho.run F σ H Z en x hxx _ fun H1 Z1 v s1 r1 => ?_
  obtain ⟨l, D, dx, fs, e1, hl, hcl, o1⟩ := id r1
  cases hcl.same cl.is
  subst e1
  refine ⟨l, dx, fs, rfl, s1.zh _ _ hl, Flds.nokeyR o1 hmn, ha.run F σ H1 Z1 (en.step s1) y hy _ fun H2 Z2 vs s2 r2 => ?_⟩
  rw [List.append_nil]
  exact ⟨Z2, (x, y), .ok z, s2.zh, ⟨_, vs, rfl, Enc.mono s2.zz r1, r2⟩, hx1, fun y' e' H3 Z3 u s3 r3 => by cases e'; exact q H3 Z3 u ((s1.trans s2).trans s3) r3, fun c i e' => by cases e'⟩
end
end G
/-! GObj6: zip, count, index, pop(0), extend. -/
namespace G
open PySem L2
def zipL {α β : Type} (xs : List α) (ys : List β) : List (P2 α β) := List.zipWith (fun x y => ⟨x, y⟩) xs ys
def oZip {α β : Type} (m1 : Option (List α)) (m2 : Option (List β)) : Option (List (P2 α β)) := m1.bind fun xs => m2.map fun ys => zipL xs ys
def oCount (m : Option (List Int)) (mi : Option Int) : Option Int := m.bind fun xs => mi.map fun i => ((xs.count i : Nat) : Int)
def oIdx (m : Option (List Int)) (mi : Option Int) : Option Int := m.bind fun xs => mi.bind fun i => if i ∈ xs then some ((xs.idxOf i : Nat) : Int) else none
def oPop0 {α : Type} : List α → Option (P2 α (List α))
  | [] => none
  | x :: xs => some ⟨x, xs⟩
section
variable {X : Cx} {pos p : Pos} {tg e e2 iter : Expr} {Γ : List Ent} {α β ι : Type} [Enc α] [Enc β] [Enc ι]
theorem src_zip {K : Fg} {P : Hp → Hp → Prop} {l l2 : Addr} {xs : List α} {ys : List β} (h : LstAt K P l xs) (h2 : LstAt K P l2 ys) : Src K (Itz K l l2) P (zipL xs ys) := fun H Z hp zh i => by
  obtain ⟨vs, hl, r⟩ := h H Z hp zh
  obtain ⟨us, hl2, r2⟩ := h2 H Z hp zh
  have e := r.len
  have e2 := r2.len
  have e3 : (zipL xs ys).length = min xs.length ys.length := by unfold zipL; rw [List.length_zipWith]
  refine ⟨fun hi => ⟨vs, us, vs[i]'(by omega), us[i]'(by omega), SqL.of hl, SqL.of hl2, by simp, by simp⟩, fun hi => ⟨vs, us, SqL.of hl, SqL.of hl2, by omega⟩, fun v H' x y hx => ?_⟩
  obtain ⟨T, x1, y1, rfl, hT, rfl, y, y2⟩ := y
  unfold zipL at hx
  rw [List.getElem?_zipWith] at hx
  cases hx1 : xs[i]? with
  | none => rw [hx1] at hx; cases hx
  | some a =>
    cases hy1 : ys[i]? with
    | none => rw [hx1, hy1] at hx; cases hx
    | some b =>
      rw [hx1, hy1] at hx
      cases hx
      obtain ⟨v', h3, r1⟩ := r.get' hx1
      obtain ⟨v2', h4, r3⟩ := r2.get' hy1
      have h5 := y vs (SqL.of hl)
      have h6 := y2 us (SqL.of hl2)
      rw [h3] at h5
      rw [h4] at h6
      obtain rfl : v' = x1 := Option.some.inj h5
      obtain rfl : v2' = y1 := Option.some.inj h6
      have st := Step.new (o := .tup [v', v2']) zh hT
      exact ⟨_, st, T, _, _, rfl, upd_same, Enc.mono st.zz r1, Enc.mono st.zz r3⟩
theorem pif_zip {a b : Expr} {elts : List Expr} {kk : Nat} {tpos : Pos} {m : Option (List α)} {m2 : Option (List β)} (hm : X.mg "zip" = none) (ha : PX X a Γ m) (hb : PX X b Γ m2) (hg : Gl X "zip" := by rfl)
    (hs : starEach [a, b] X.env = (false, eval a X.env) :: starEach [b] X.env := by rfl) (hs2 : starEach [b] X.env = (false, eval b X.env) :: starEach [] X.env := by rfl) (hpl : (backTo pos (starEach [b] X.env)).any (·.1) = false := by rfl) :
    PIF X (.Tuple elts kk tpos) (.Call (.Name "zip" p) [a, b] [] pos) Γ (oZip m m2) := pif_of (pi_zip hg hm (pa_cons pe_w (pa_cons pe_w pa_nil hs2) hs) hs hpl) fun F σ H Z en xs hx R q => by
    obtain ⟨ys, hy, hx⟩ := Option.bind_eq_some_iff.mp hx
    obtain ⟨zs, hz, rfl⟩ := Option.map_eq_some_iff.mp hx
    refine ha.run F σ H Z en ys hy _ fun H1 Z1 v s ⟨l, _, e, hl, vs, eo, r⟩ => ?_
    subst e eo
    refine hb.run F σ H1 Z1 (en.step s) zs hz _ fun H2 Z2 v2 s2 ⟨l2, _, e, hl2, vs2, eo, r2⟩ => ?_
    subst e eo
    exact ⟨l, l2, vs, vs2, rfl, SqL.of (s2.zh _ _ (s2.zz _ _ hl)), SqL.of (s2.zh _ _ hl2), q _ H2 Z2 (s.trans s2) (src_zip (lstAt_still (s2.zz _ _ hl) (all2_mono s2.zz r)) (lstAt_still hl2 r2))⟩
theorem px_lcount {a b : Expr} {m : Option (List Int)} {mi : Option Int} {apos : Pos} (ha : PL X a Γ m) (hb : PX X b Γ mi) (hst : starEach [b] X.env = (false, eval b X.env) :: starEach [] X.env := by rfl) (hl : (apos.endLine == pos.line) = true := by rfl) (hbase : attributeBase a "count" X.env (eval a X.env) = eval a X.env := by rfl)
    (hpl : (backTo pos (starEach [] X.env)).any (·.1) = false := by rfl) : PX X (.Call (.Attribute a "count" apos) [b] [] pos) Γ (oCount m mi) :=
  px_of (pe_bm PySem.F.plainAttrs_list PySem.F.slot_list_count PySem.F.type_list_count mt_lcount pe_w (pa_cons pe_w pa_nil hst) (hbase := hbase) (hfew := by rw [hst]; rfl) (hline := hl) (hs := hst)) fun F σ H Z en x hx Q q => by
    obtain ⟨ys, hy, hx⟩ := Option.bind_eq_some_iff.mp hx
    obtain ⟨i, hi, rfl⟩ := Option.map_eq_some_iff.mp hx
    refine ha.run F σ H Z en ys hy _ fun H1 Z1 l vs s hl r => ?_
    refine ⟨.inl ⟨rfl, _, SqL.of hl⟩, hb.run F σ H1 Z1 (en.step s) i hi _ fun H2 Z2 w s2 r2 => ?_⟩
    have hl2 := s2.hh _ _ hl
    rw [all2_V r] at hl2
    exact ⟨l, ys, i, rfl, by rw [show w = V.int i from r2], SqL.of hl2, q H2 Z2 _ (s.trans s2) rfl⟩
theorem idx_some {xs : List Int} {i : Int} (h : i ∈ xs) : xs[xs.idxOf i]? = some i ∧ ∀ m z, m < xs.idxOf i → xs[m]? = some z → z ≠ i := by
  induction xs with
  | nil => cases h
  | cons y ys ih =>
    by_cases c : y = i
    · subst c
      simp
    · rcases List.mem_cons.mp h with e | h
      · exact absurd e.symm c
      · obtain ⟨h1, h2⟩ := ih h
        rw [List.idxOf_cons, show (y == i) = false from beq_eq_false_iff_ne.mpr c]
        refine ⟨by simpa using h1, fun m z hm hz => ?_⟩
        cases m with
        | zero => cases hz; exact c
        | succ m => exact h2 m z (by simp at hm; omega) (by simpa using hz)
theorem px_lindex {a b : Expr} {m : Option (List Int)} {mi : Option Int} {apos : Pos} (ha : PL X a Γ m) (hb : PX X b Γ mi) (hst : starEach [b] X.env = (false, eval b X.env) :: starEach [] X.env := by rfl) (hl : (apos.endLine == pos.line) = true := by rfl) (hbase : attributeBase a "index" X.env (eval a X.env) = eval a X.env := by rfl) :
    PX X (.Call (.Attribute a "index" apos) [b] [] pos) Γ (oIdx m mi) :=
  px_of (pe_bm PySem.F.plainAttrs_list PySem.F.slot_list_index PySem.F.type_list_index mt_index pe_w (pa_cons pe_w pa_nil hst) (hbase := hbase) (hfew := by rw [hst]; rfl) (hline := hl) (hs := hst)) fun F σ H Z en x hx Q q => by
    obtain ⟨ys, hy, hx⟩ := Option.bind_eq_some_iff.mp hx
    obtain ⟨i, hi, hx⟩ := Option.bind_eq_some_iff.mp hx
    by_cases c : i ∈ ys
    case neg => rw [if_neg c] at hx; cases hx
    rw [if_pos c] at hx
    cases hx
    refine ha.run F σ H Z en ys hy _ fun H1 Z1 l vs s hl r => ?_
    refine ⟨.inl ⟨rfl, _, SqL.of hl⟩, hb.run F σ H1 Z1 (en.step s) i hi _ fun H2 Z2 w s2 r2 => ?_⟩
    have hl2 := s2.hh _ _ hl
    rw [all2_V r] at hl2
    obtain ⟨g1, g2⟩ := idx_some c
    refine ⟨l, ys.map V.int, V.int i, ys.idxOf i, V.int i, rfl, by rw [show w = V.int i from r2], SqL.of hl2, rfl, by rw [List.all_map]; exact List.all_eq_true.mpr fun _ _ => rfl, by rw [List.getElem?_map, g1]; rfl, ?_, fun m z hm hz => ?_, q H2 Z2 _ (s.trans s2) rfl⟩
    · show decide (i = i) = true
      exact decide_eq_true rfl
    · rw [List.getElem?_map] at hz
      cases hz' : ys[m]? with
      | none => rw [hz'] at hz; cases hz
      | some z' =>
        rw [hz'] at hz
        cases hz
        show decide (z' = i) = false
        exact decide_eq_false (g2 m z' hm hz')
end
section
variable {X : Cx} {W : WX} {ER : ExS} {rest : List Stmt} {a b e : Expr} {pos pos' pos2 apos : Pos} {Γ : List Ent} {N L R : Type} [Res R] {GN : N → List Ent} {GL : L → List Ent} {o : Fl N L R} {α : Type} [Enc α]
theorem all2_tail {K : Fg} {Z : Hp} {vs : List V} {x : α} {xs : List α} (r : All2 (Enc.rel K Z) vs (x :: xs)) : ∃ v us, vs = v :: us ∧ Enc.rel K Z v x ∧ All2 (Enc.rel K Z) us xs := by
  cases vs with
  | nil => exact r.elim
  | cons v us => exact ⟨v, us, rfl, r.1, r.2⟩
/-- place.pop(0) -/
theorem bx_pop0 {xs : List α} {T : List α → List Ent} {k : P2 α (List α) → Option (Fl N L R)} {j : Nat} {ip : Pos} (hp : PR X a Γ (some xs) T) (h : (oPop0 xs).bind k = some o) (hr : ∀ y, k y = some o → BX X W ER rest (T y.b) GN GL o)
    (hst : starEach [.Constant (.int 0) j ip] X.env = (false, eval (.Constant (.int 0) j ip) X.env) :: starEach [] X.env := by rfl) (hl : (apos.endLine == pos2.line) = true := by rfl) (hbase : attributeBase a "pop" X.env (eval a X.env) = eval a X.env := by rfl)
    (hs : swapsWith (.Call (.Attribute a "pop" apos) [.Constant (.int 0) j ip] [] pos2) none pos.line X.env = pure false := by rfl) : BX X W ER (.Expr (.Call (.Attribute a "pop" apos) [.Constant (.int 0) j ip] [] pos2) pos :: rest) Γ GN GL o := by
  cases xs with
  | nil => cases h
  | cons x xs =>
  refine bx_cons (ps_expr (pe_bm PySem.F.plainAttrs_list PySem.F.slot_list_pop PySem.F.type_list_pop mt_popAt pe_w (pa_cons pe_int pa_nil hst) (hbase := hbase) (hfew := by rw [hst]; rfl) (hline := hl) (hs := hst)) hs) fun F D ac σ H Z en => ?_
  refine hp.run F σ H Z en (x :: xs) rfl _ fun H1 Z1 v fp s1 A => ?_
  obtain ⟨l, vs, e1, hl0, r, put⟩ := A.lst
  subst e1
  obtain ⟨u, us, rfl, ru, r2⟩ := all2_tail r
  exact ⟨.inl ⟨rfl, _, SqL.of hl0⟩, l, u :: us, 0, 0, u, rfl, rfl, hl0, by decide, by decide, by unfold seqIndex?; simp, rfl, (hr _ h).run F D ac σ _ Z1 (put _ _ r2)⟩
/-- place.extend(e) -/
theorem bx_extend {xs : List α} {T : List α → List Ent} {m : Option (List α)} {k : List α → Option (Fl N L R)} (hp : PR X a Γ (some xs) T) (hx : PL X e Γ m) (h : (oCat (some xs) m).bind k = some o) (hr : ∀ ys, k ys = some o → BX X W ER rest (T ys) GN GL o)
    (hst : starEach [e] X.env = (false, eval e X.env) :: starEach [] X.env := by rfl) (hl : (apos.endLine == pos2.line) = true := by rfl) (hbase : attributeBase a "extend" X.env (eval a X.env) = eval a X.env := by rfl)
    (hs : swapsWith (.Call (.Attribute a "extend" apos) [e] [] pos2) none pos.line X.env = pure false := by rfl) (hpl : (backTo pos2 (starEach [] X.env)).any (·.1) = false := by rfl) : BX X W ER (.Expr (.Call (.Attribute a "extend" apos) [e] [] pos2) pos :: rest) Γ GN GL o := by
  obtain ⟨ys, h2, h3⟩ := Option.bind_eq_some_iff.mp h
  obtain ⟨ws, h6, h7⟩ := Option.bind_eq_some_iff.mp h2
  replace h7 : (if xs.length + ws.length ≤ sizeLine then some (xs ++ ws) else none) = some ys := h7
  by_cases hz : xs.length + ws.length ≤ sizeLine
  case neg => rw [if_neg hz] at h7; cases h7
  rw [if_pos hz] at h7
  cases h7
  refine bx_cons (ps_expr (pe_bm PySem.F.plainAttrs_list PySem.F.slot_list_extend PySem.F.type_list_extend mt_extend pe_w (pa_cons pe_w pa_nil hst) (hbase := hbase) (hfew := by rw [hst]; rfl) (hline := hl) (hs := hst)) hs) fun F D ac σ H Z en => ?_
  refine hp.run F σ H Z en xs rfl _ fun H1 Z1 v fp s1 A => ?_
  obtain ⟨l, vs, e1, hl0, r, _⟩ := A.lst
  subst e1
  refine ⟨.inl ⟨rfl, _, SqL.of hl0⟩, hx.run F σ H1 Z1 (en.step s1) ws h6 _ fun H2 Z2 l2 us s2 hl2 r2 => ?_⟩
  obtain ⟨l', vs', e1, hl1, r1, put⟩ := (A.step s2).lst
  cases e1
  refine ⟨l, l2, vs', us, rfl, rfl, hl1, hl2, by rw [r1.len, r2.len]; exact hz, (hr _ h3).run F D ac σ _ Z2 (put _ _ (r1.append r2))⟩
end
end G
/-! GObj7: methods with defaults, the receiver still. -/
namespace G
open PySem L2
/-- one default more, behind n written arguments -/
theorem hw0I {K : Fg} {i : Int} : ∀ (Z : Hp) (vs : List V) (y : Unit), EncA.rel K Z vs y → EncA.rel (A := Int × Unit) K Z (vs ++ [V.int i]) (i, ()) := fun Z vs y h => ⟨V.int i, [], by rw [show vs = [] from h]; rfl, rfl, rfl⟩
theorem hw1I {α : Type} [Enc α] {K : Fg} {i : Int} : ∀ (Z : Hp) (vs : List V) (y : α × Unit), EncA.rel K Z vs y → EncA.rel (A := α × Int × Unit) K Z (vs ++ [V.int i]) (y.1, i, ()) := fun Z vs y ⟨v, r, e, h1, h2⟩ => ⟨v, r ++ [V.int i], by rw [e]; rfl, h1, V.int i, [], by rw [show r = [] from h2]; rfl, rfl, rfl⟩
theorem hw0N {β : Type} [Enc β] {K : Fg} : ∀ (Z : Hp) (vs : List V) (y : Unit), EncA.rel K Z vs y → EncA.rel (A := Option β × Unit) K Z (vs ++ [V.non]) (none, ()) := fun Z vs y h => ⟨V.non, [], by rw [show vs = [] from h]; rfl, rfl, rfl⟩
theorem hw1N {α β : Type} [Enc α] [Enc β] {K : Fg} : ∀ (Z : Hp) (vs : List V) (y : α × Unit), EncA.rel K Z vs y → EncA.rel (A := α × Option β × Unit) K Z (vs ++ [V.non]) (y.1, none, ()) := fun Z vs y ⟨v, r, e, h1, h2⟩ => ⟨v, r ++ [V.non], by rw [e]; rfl, h1, V.non, [], by rw [show r = [] from h2]; rfl, rfl, rfl⟩
section
variable {P : Program} {w : World} {K : Fg} {mg : Str → Option Value} {base : Heap} {f : Addr} {fd : FuncData} {x qual : Str} {st : Stmt} {N ps : List Str} {k n : Nat} {A R : Type} [EncA A] [EntsA A] [Enc R]
theorem FunA.okX {x qual : Str} {st : Stmt} {f : Addr} {fd : FuncData} {N ps : List Str} {k : Nat} {sp : Sp} (F : FunA K x qual st f fd) (S : FnScope N ps (defScope st)) (len : ∀ vs H Q E, sp vs H Q E → vs.length = ps.length)
    (hbody : ∀ (cdv : Value) (A : Around) (outer : List Env) (s : Shared) (H : Hp) (vs : List V) (Q : VK) (E : XK), Room k (A.deeper (PyProof.Rows.envOfC qual (defScope st) s.heap.objs.size f cdv)) → sp vs H Q E →
      ∃ t, PSs (cxOf (L2.CX P w) P w K mg base N qual (defScope st) f cdv A outer s H E) (defBody st) t ∧ t { nx := fun _ H' => Q .non H', rt := Q } (L2.start N vs) H) : FnOk P w K mg base (L2.CX P w) (k + 1) f fd ps sp := by
  obtain ⟨oc, od, dV, kV, doc, pm, an, cdv, ct, osl, rfl, lk, hcd⟩ := F.ex
  exact fn_of lk hcd S len fun A outer s H vs Q E hr hsp => hbody cdv A outer s H vs Q E hr hsp
theorem fn_gA (F : FunA K x qual st f fd) (S : FnScope N ps (defScope st)) (fm : A → Option R) {N1 L1 : Type} (GN : N1 → List Ent) (GL : L1 → List Ent) (hps : EncA.n A = ps.length) (hn : EncA.n A + n = N.length)
    (hb : ∀ (cdv : Value) (Ar : Around) (outer : List Env) (s : Shared) (H : Hp) (E : XK), Room k (Ar.deeper (PyProof.Rows.envOfC qual (defScope st) s.heap.objs.size f cdv)) → ∀ (y : A) (r : R), fm y = some r →
      (∀ D : Ends, (∀ σ H, ¬ D.nx σ H) → True) → BX (cxOf CX0 P w K mg base N qual (defScope st) f cdv Ar outer s H E).nox W0 ER0 (defBody st) (EntsA.ents y ++ List.replicate n .no) GN GL (.rt r)) :
    FnOk P w K mg base CX0 (k + 1) f fd ps (spF K fm) := by
  refine F.ok S (fun vs H Q E h => ?_) (fun cdv Ar outer s H vs Q E hr h => ?_)
  · obtain ⟨Z, y, r, _, h1, _⟩ := h
    rw [EncA.len h1, hps]
  · obtain ⟨Z, y, r, zh, h1, h2, q⟩ := h
    refine ⟨_, ps_w, ?_⟩
    refine (hb cdv Ar outer s H E hr y r h2 (fun _ _ => trivial)).run ⟨H, Z, []⟩ _ ?_ _ _ Z (env_start hn zh h1 rfl)
    exact fun H' Z' v ⟨s', r'⟩ => q H' Z' v s' r'
theorem fn_oA (F : FunA K x qual st f fd) (S : FnScope N ps (defScope st)) {R : Type} [Enc R] [Own R] (fm : A → Option (Nw R)) {N1 L1 : Type} (GN : N1 → List Ent) (GL : L1 → List Ent) (hps : EncA.n A = ps.length) (hn : EncA.n A + n = N.length)
    (hb : ∀ (cdv : Value) (Ar : Around) (outer : List Env) (s : Shared) (H : Hp) (E : XK), Room k (Ar.deeper (PyProof.Rows.envOfC qual (defScope st) s.heap.objs.size f cdv)) → ∀ (y : A) (r : Nw R), fm y = some r →
      (∀ D : Ends, (∀ σ H, ¬ D.nx σ H) → True) → BX (cxOf CX0 P w K mg base N qual (defScope st) f cdv Ar outer s H E).nox W0 ER0 (defBody st) (EntsA.ents y ++ List.replicate n .no) GN GL (.rt r)) :
    FnOk P w K mg base CX0 (k + 1) f fd ps (spO K fm) := by
  refine F.ok S (fun vs H Q E h => ?_) (fun cdv Ar outer s H vs Q E hr h => ?_)
  · obtain ⟨Z, y, r, _, h1, _⟩ := h
    rw [EncA.len h1, hps]
  · obtain ⟨Z, y, r, zh, h1, h2, q⟩ := h
    refine ⟨_, ps_w, ?_⟩
    refine (hb cdv Ar outer s H E hr y r h2 (fun _ _ => trivial)).run ⟨H, Z, []⟩ _ ?_ _ _ Z (env_start hn zh h1 rfl)
    exact fun H' Z' v ⟨fp, s', o', out⟩ => q H' Z' v fp ⟨s', o', out⟩
theorem fn_xA (F : FunA K x qual st f fd) (S : FnScope N ps (defScope st)) (ER : ExR) (fm : A → Option (Rs R)) {N1 L1 : Type} (GN : N1 → List Ent) (GL : L1 → List Ent) (hno : ∀ n : N1, False) (hps : EncA.n A = ps.length) (hn : EncA.n A + n = N.length)
    (hb : ∀ (cdv : Value) (Ar : Around) (outer : List Env) (s : Shared) (H : Hp) (E : XK), Room k (Ar.deeper (PyProof.Rows.envOfC qual (defScope st) s.heap.objs.size f cdv)) → ∀ (y : A) (r : Rs R), fm y = some r →
      BX (cxOf (L2.CX P w) P w K mg base N qual (defScope st) f cdv Ar outer s H E) (fun cls d _ H => E cls d H) ⟨ER, List.replicate N.length .no⟩ (defBody st) (EntsA.ents y ++ List.replicate n .no) GN GL r.fl) :
    FnOk P w K mg base (L2.CX P w) (k + 1) f fd ps (spX K ER fm) := by
  refine F.okX S (fun vs H Q E h => ?_) (fun cdv Ar outer s H vs Q E hr h => ?_)
  · obtain ⟨Z, y, r, _, h1, _⟩ := h
    rw [EncA.len h1, hps]
  · obtain ⟨Z, y, r, zh, h1, h2, q1, q2⟩ := h
    refine ⟨_, ps_w, ?_⟩
    refine (hb cdv Ar outer s H E hr y r h2).run ⟨H, Z, []⟩ _ ?_ _ _ Z (env_start hn zh h1 rfl)
    cases r with
    | ok r => exact fun H' Z' v ⟨s', r'⟩ => q1 r rfl H' Z' v s' r'
    | er c i => exact fun σ H' Z' cls d en' r' => q2 c i rfl H' Z' cls d en'.stp r'
end
section
variable {X : Cx} {W : WX} {ER : ExS} {rest : List Stmt} {e o a b c : Expr} {es : List Expr} {pos pos' p p1 p2 apos : Pos} {Γ Γ' : List Ent} {α : Type} [Flds α] {nm m : Str} {ns : List Str} {C : Addr} {k : Nat} {f : Addr} {fd : FuncData} {ps : List Str} {A0 A R : Type} {pl : Sem Bool} {dvs : List V} {ds : List Value} {g : A0 → A}
theorem px_methD [EncA A0] [EncA A] [Enc R] {fm : Ins nm ns α × A → Option R} {mo : Option (Ins nm ns α)} {ma : Option A0} (cl : ClsF X.K nm C) (hm : Meth X.K C m f) (hmn : m ∉ ns) (Fn : FnOk X.prog X.w X.K X.mg X.base CX0 k f fd ps (spF X.K fm)) (hr : Room k X.A) (hb : Binds X.K fd ps ds) (hd : Vals dvs ds) (hv : ∀ Z vs y, EncA.rel X.K Z vs y → EncA.rel X.K Z (vs ++ dvs) (g y)) (ho : PX X o Γ mo) (ha : PAX X (e :: es) Γ ma)
    (hst : starEach (e :: es) X.env = (false, eval e X.env) :: starEach es X.env := by rfl) (hpl : (backTo pos (starEach es X.env)).any (·.1) = false := by rfl)
    (ht : eval (.Call (.Attribute o m apos) (e :: es) [] pos) X.env = (do
      let ov ← eval o X.env
      standAt apos.atName
      let (f, first) ← holding [ov] (getMethod ov m pl)
      callWith pos f first (backTo pos (starEach (e :: es) X.env)) (backToKw pos (keywordEach [] X.env))) := by rfl) :
    PX X (.Call (.Attribute o m apos) (e :: es) [] pos) Γ (((oPair mo ma).map fun y => (y.1, g y.2)).bind fm) := px_of (pe_meth (pl := pl) pe_w cl.cl hm Fn hr hb hd pass0 pa_w hst hpl ht) fun F σ H Z en z hx Q q => by
  obtain ⟨xy, hxy, hx1⟩ := Option.bind_eq_some_iff.mp hx
  obtain ⟨xy', hxy', rfl⟩ := Option.map_eq_some_iff.mp hxy
  obtain ⟨x, hxx, hxy⟩ := Option.bind_eq_some_iff.mp hxy'
  obtain ⟨y, hy, hxy⟩ := Option.bind_eq_some_iff.mp hxy
  cases hxy
  refine ho.run F σ H Z en x hxx _ fun H1 Z1 v s1 r1 => ?_
  obtain ⟨l, D, dx, fs, e1, hl, hcl, o1⟩ := id r1
  cases hcl.same cl.is
  subst e1
  refine ⟨l, dx, fs, rfl, s1.zh _ _ hl, Flds.nokeyR o1 hmn, ha.run F σ H1 Z1 (en.step s1) y hy _ fun H2 Z2 vs s2 r2 => ?_⟩
  exact ⟨Z2, (x, g y), z, s2.zh, ⟨_, vs ++ dvs, rfl, Enc.mono s2.zz r1, hv Z2 vs y r2⟩, hx1, fun H3 Z3 u s3 r3 => q H3 Z3 u ((s1.trans s2).trans s3) r3⟩
theorem px_methD0 [EncA A0] [EncA A] [Enc R] {fm : Ins nm ns α × A → Option R} {mo : Option (Ins nm ns α)} {y : A0} (cl : ClsF X.K nm C) (hm : Meth X.K C m f) (hmn : m ∉ ns) (Fn : FnOk X.prog X.w X.K X.mg X.base CX0 k f fd ps (spF X.K fm)) (hr : Room k X.A) (hb : Binds X.K fd ps ds) (hd : Vals dvs ds) (hv : ∀ Z vs y, EncA.rel X.K Z vs y → EncA.rel X.K Z (vs ++ dvs) (g y)) (h0 : ∀ Z, EncA.rel X.K Z [] y) (ho : PX X o Γ mo)
    (ht : eval (.Call (.Attribute o m apos) [] [] pos) X.env = (do
      let ov ← eval o X.env
      standAt apos.atName
      let (f, first) ← holding [ov] (getMethod ov m pl)
      callWith pos f first (backTo pos (starEach [] X.env)) (backToKw pos (keywordEach [] X.env))) := by rfl) :
    PX X (.Call (.Attribute o m apos) [] [] pos) Γ ((mo.map fun x => (x, g y)).bind fm) := px_of (pe_meth0 (pl := pl) pe_w cl.cl hm Fn hr hb hd pass0 ht) fun F σ H Z en z hx Q q => by
  obtain ⟨xy, hxy, hx1⟩ := Option.bind_eq_some_iff.mp hx
  obtain ⟨x, hxx, rfl⟩ := Option.map_eq_some_iff.mp hxy
  refine ho.run F σ H Z en x hxx _ fun H1 Z1 v s1 r1 => ?_
  obtain ⟨l, D, dx, fs, e1, hl, hcl, o1⟩ := id r1
  cases hcl.same cl.is
  subst e1
  refine ⟨l, dx, fs, rfl, s1.zh _ _ hl, Flds.nokeyR o1 hmn, ?_⟩
  exact ⟨Z1, (x, g y), z, s1.zh, ⟨_, _, rfl, r1, hv Z1 [] y (h0 Z1)⟩, hx1, fun H3 Z3 u s3 r3 => q H3 Z3 u (s1.trans s3) r3⟩
theorem px_methRD [EncA A0] [EncA A] [Enc R] {fm : Ins nm ns α × A → Option (Rs R)} {mo : Option (Ins nm ns α)} {ma : Option A0} (cl : ClsF X.K nm C) (hm : Meth X.K C m f) (hmn : m ∉ ns) (Fn : FnOk X.prog X.w X.K X.mg X.base (L2.CX X.prog X.w) k f fd ps (spX X.K ER.er fm)) (hr : Room k X.A) (hb : Binds X.K fd ps ds) (hd : Vals dvs ds) (hv : ∀ Z vs y, EncA.rel X.K Z vs y → EncA.rel X.K Z (vs ++ dvs) (g y)) (ho : PX X o Γ mo) (ha : PAX X (e :: es) Γ ma)
    (hst : starEach (e :: es) X.env = (false, eval e X.env) :: starEach es X.env := by rfl) (hpl : (backTo pos (starEach es X.env)).any (·.1) = false := by rfl)
    (ht : eval (.Call (.Attribute o m apos) (e :: es) [] pos) X.env = (do
      let ov ← eval o X.env
      standAt apos.atName
      let (f, first) ← holding [ov] (getMethod ov m pl)
      callWith pos f first (backTo pos (starEach (e :: es) X.env)) (backToKw pos (keywordEach [] X.env))) := by rfl) :
    PX X (.Call (.Attribute o m apos) (e :: es) [] pos) Γ ((((oPair mo ma).map fun y => (y.1, g y.2)).bind fm).bind Rs.val) := px_of (pe_meth (pl := pl) pe_w cl.cl hm Fn hr hb hd passL pa_w hst hpl ht) fun F σ H Z en z hx Q q => by
  obtain ⟨r, hx0, hv'⟩ := Option.bind_eq_some_iff.mp hx
  obtain ⟨xy, hxy, hx1⟩ := Option.bind_eq_some_iff.mp hx0
  obtain ⟨xy', hxy', rfl⟩ := Option.map_eq_some_iff.mp hxy
  obtain ⟨x, hxx, hxy⟩ := Option.bind_eq_some_iff.mp hxy'
  obtain ⟨y, hy, hxy⟩ := Option.bind_eq_some_iff.mp hxy
  cases hxy
  cases r with
  | er c i => cases hv'
  | ok r =>
  cases hv'
  refine ho.run F σ H Z en x hxx _ fun H1 Z1 v s1 r1 => ?_
  obtain ⟨l, D, dx, fs, e1, hl, hcl, o1⟩ := id r1
  cases hcl.same cl.is
  subst e1
  refine ⟨l, dx, fs, rfl, s1.zh _ _ hl, Flds.nokeyR o1 hmn, ha.run F σ H1 Z1 (en.step s1) y hy _ fun H2 Z2 vs s2 r2 => ?_⟩
  exact ⟨Z2, (x, g y), .ok z, s2.zh, ⟨_, vs ++ dvs, rfl, Enc.mono s2.zz r1, hv Z2 vs y r2⟩, hx1, fun y' e' H3 Z3 u s3 r3 => by cases e'; exact q H3 Z3 u ((s1.trans s2).trans s3) r3, fun c i e' => by cases e'⟩
end
section
variable {X : Cx} {W : WX} {ER : ExR} {e : Expr} {Γ : List Ent} {α : Type} [Enc α] [NonN α]
theorem pxx_some {m : Option (Rs α)} (h : PXX X W ER e Γ m) : PXX X W ER e Γ (m.map (Rs.map some)) := .mk fun F σ H Z en x hx Q q1 q2 => by
  obtain ⟨r, hr, rfl⟩ := Option.map_eq_some_iff.mp hx
  refine h.run F σ H Z en r hr Q (fun y e1 H' Z' v s r1 => ?_) fun c i e1 H' Z' cls d s r1 => ?_
  · subst e1
    exact q1 _ rfl H' Z' v s ⟨NonN.nn r1, r1⟩
  · subst e1
    exact q2 c i rfl H' Z' cls d s r1
end
end G
/-! GPin: a loop over a list that the def owns, and that stands still meanwhile. -/
namespace G
open PySem L2
/-- a name that keeps its value -/
structure Pin where
instance : Enc Pin := ⟨fun _ _ _ _ => True, fun _ h => h⟩
instance : Own Pin := stillOwn
def pinE : Ent := .ow (some 0) Pin.mk
inductive NBv : List Ent → Prop
  | nil : NBv []
  | no {Γ : List Ent} : NBv Γ → NBv (.no :: Γ)
  | fz {Γ : List Ent} {α : Type} [Enc α] {x : α} : NBv Γ → NBv (.fz x :: Γ)
  | ow {Γ : List Ent} {C : Type} [Enc C] [Own C] {c : C} : NBv Γ → NBv (.ow none c :: Γ)
theorem NBv.get {Γ : List Ent} (h : NBv Γ) : ∀ {j : Nat} {C : Type} {i1 : Enc C} {i2 : Own C} {bv : Option Nat} {c : C}, Γ[j]? = some (@Ent.ow C i1 i2 bv c) → bv = none := by
  induction h with
  | nil => intro j C i1 i2 bv c e; simp at e
  | no _ ih =>
    intro j C i1 i2 bv c e
    cases j with
    | zero => cases e
    | succ j => exact ih e
  | fz _ ih =>
    intro j C i1 i2 bv c e
    cases j with
    | zero => cases e
    | succ j => exact ih e
  | ow _ ih =>
    intro j C i1 i2 bv c e
    cases j with
    | zero => cases e; rfl
    | succ j => exact ih e
theorem NBv.nal {Γ : List Ent} (h : NBv Γ) : ∀ {j k : Nat}, Γ[j]? = some (.al k) → False := by
  induction h with
  | nil => intro j k e; simp at e
  | no _ ih =>
    intro j k e
    cases j with
    | zero => cases e
    | succ j => exact ih (j := j) e
  | fz _ ih =>
    intro j k e
    cases j with
    | zero => cases e
    | succ j => exact ih (j := j) e
  | ow _ ih =>
    intro j k e
    cases j with
    | zero => cases e
    | succ j => exact ih (j := j) e
open Classical in
noncomputable def pinF (F : Frame) (H : Hp) (fp : Fp) (v : V) : Frame := ⟨fun a => if fp a then H a else F.H0 a, F.Z0, [v]⟩
theorem pinF_in {F : Frame} {H : Hp} {fp : Fp} {v : V} {a : Addr} (h : fp a) : (pinF F H fp v).H0 a = H a := if_pos h
theorem pinF_out {F : Frame} {H : Hp} {fp : Fp} {v : V} {a : Addr} {u : HO} (h : fp a → F.H0 a = none) (hu : F.H0 a = some u) : (pinF F H fp v).H0 a = some u := by
  have n : ¬ fp a := fun f => by rw [h f] at hu; cases hu
  exact (if_neg n).trans hu
theorem EntOk.pin {K : Fg} {F F' : Frame} {H Z : Hp} {o : Option V} {fp : Fp} {e : Ent} (q : EntOk K F H Z o fp e) (nb : ∀ {C : Type} {i1 : Enc C} {i2 : Own C} {bv : Option Nat} {c : C}, e = @Ent.ow C i1 i2 bv c → bv = none) (na : ∀ k, e = .al k → False) (out : ∀ a, fp a → F.H0 a = none → F'.H0 a = none) : EntOk K F' H Z o fp e := by
  cases e with
  | no => exact q
  | fz x => exact q
  | ow bv c =>
    have e := nb rfl
    subst e
    obtain ⟨v, e, _, o, h⟩ := q
    exact ⟨v, e, (fun k hk => by cases hk), o, fun a f => ⟨out a f (h a f).1, (h a f).2⟩⟩
  | al k => exact (na k rfl).elim
open Classical in
theorem EnvOk.pin {C : Type} [Enc C] [Own C] {c : C} {K : Fg} {F : Frame} {σ : St} {H Z : Hp} {Γ : List Ent} {i : Nat} (e : EnvOk K F σ H Z Γ) (nb : NBv Γ) (hi : Γ[i]? = some (.ow none c)) :
    ∃ v fp, σ[i]? = some (some v) ∧ Own.own K Z H v c fp ∧ (∀ a, fp a → F.H0 a = none ∧ Z a = none ∧ F.Z0 a = none) ∧ EnvOk K (pinF F H fp v) σ H Z (Γ.set i pinE) := by
  obtain ⟨fps, h, hd⟩ := e.ent
  obtain ⟨o, ho, v, e1, _, ow, out⟩ := h i _ hi
  subst e1
  have z0 : ∀ a, fps i a → F.Z0 a = none := fun a f => by
    cases hz : F.Z0 a with
    | none => rfl
    | some u => have := e.zz a u hz; rw [(out a f).2] at this; cases this
  refine ⟨v, fps i, ho, ow, fun a f => ⟨(out a f).1, (out a f).2, z0 a f⟩, ⟨fun a u hu => ?_, e.zz, e.zh, fun a u hu => ?_, by rw [List.length_set]; exact e.len, fun j => if j = i then Fp.no else fps j, fun j t ht => ?_, fun j k a hjk h1 h2 => ?_⟩⟩
  · have hu : (if fps i a then H a else F.H0 a) = some u := hu
    by_cases q : fps i a
    · rw [if_pos q] at hu; exact hu
    · rw [if_neg q] at hu; exact e.hh a u hu
  · have hu : (if fps i a then H a else F.H0 a) = some u := hu
    show Z a = F.Z0 a
    by_cases q : fps i a
    · rw [(out a q).2, z0 a q]
    · rw [if_neg q] at hu; exact e.old a u hu
  · show ∃ o, σ[j]? = some o ∧ EntOk K _ H Z o (if j = i then Fp.no else fps j) t
    by_cases q : j = i
    · subst q
      rw [if_pos rfl]
      have hl : j < Γ.length := (List.getElem?_eq_some_iff.mp hi).1
      rw [List.getElem?_set_self hl] at ht
      cases ht
      exact ⟨some v, ho, v, rfl, (fun k hk => by cases hk; rfl), ⟨trivial, fun _ f => f⟩, fun a f => f.elim⟩
    · rw [if_neg q]
      rw [List.getElem?_set_ne (Ne.symm q)] at ht
      obtain ⟨o, ho, qq⟩ := h j t ht
      refine ⟨o, ho, qq.pin (fun {C i1 i2 bv c} e => by subst e; exact nb.get ht) (fun k e => by subst e; exact nb.nal ht) fun a f hn => ?_⟩
      show (if fps i a then H a else F.H0 a) = none
      rw [if_neg (hd j i a q f)]
      exact hn
  · have h1 : (if j = i then Fp.no else fps j) a := h1
    have h2 : (if k = i then Fp.no else fps k) a := h2
    by_cases q : j = i
    · rw [if_pos q] at h1; exact h1
    · rw [if_neg q] at h1
      by_cases q2 : k = i
      · rw [if_pos q2] at h2; exact h2
      · rw [if_neg q2] at h2
        exact hd j k a hjk h1 h2
open Classical in
theorem EnvOk.unpin {C : Type} [Enc C] [Own C] {c : C} {K : Fg} {F : Frame} {σ : St} {H Z H1 Z1 : Hp} {Γ : List Ent} {i : Nat} {v : V} {fp : Fp} (ow : Own.own K Z1 H1 v c fp) (out : ∀ a, fp a → F.H0 a = none ∧ Z1 a = none ∧ F.Z0 a = none) (sz : Same Z1 Z) (e : EnvOk K (pinF F H1 fp v) σ H Z (Γ.set i pinE)) (nb : NBv Γ) (hi : Γ[i]? = some (.ow none c)) : EnvOk K F σ H Z Γ := by
  obtain ⟨fps, h, hd⟩ := e.ent
  have hl : i < Γ.length := (List.getElem?_eq_some_iff.mp hi).1
  obtain ⟨o, ho, v', e1, hb, _, _⟩ := h i pinE (by rw [List.getElem?_set_self hl])
  have hv : v' = v := by
    have := hb 0 rfl
    cases this; rfl
  subst hv e1
  have inH : ∀ a, fp a → ∃ u, H1 a = some u ∧ (pinF F H1 fp v').H0 a = some u := fun a f => by
    obtain ⟨u, hu, _⟩ := Own.odom ow f
    refine ⟨u, hu, ?_⟩
    show (if fp a then H1 a else F.H0 a) = some u
    rw [if_pos f]; exact hu
  have keep : ∀ a, fp a → H a = H1 a := fun a f => by
    obtain ⟨u, hu, h0⟩ := inH a f
    rw [e.hh a u h0, hu]
  have sub : ∀ a u, F.H0 a = some u → (pinF F H1 fp v').H0 a = some u := fun a u hu => by
    show (if fp a then H1 a else F.H0 a) = some u
    by_cases q : fp a
    · rw [(out a q).1] at hu; cases hu
    · rw [if_neg q]; exact hu
  refine ⟨fun a u hu => e.hh a u (sub a u hu), e.zz, e.zh, fun a u hu => e.old a u (sub a u hu), by have := e.len; rw [List.length_set] at this; exact this, fun j => if j = i then fp else if j < Γ.length then fps j else Fp.no, fun j t ht => ?_, ?_⟩
  · show ∃ o, σ[j]? = some o ∧ EntOk K F H Z o (if j = i then fp else if j < Γ.length then fps j else Fp.no) t
    by_cases q : j = i
    · subst q
      rw [if_pos rfl]
      rw [hi] at ht
      cases ht
      refine ⟨some v', ho, v', rfl, (fun k hk => by cases hk), Own.omono sz keep ow, fun a f => ⟨(out a f).1, ?_⟩⟩
      obtain ⟨u, hu, h0⟩ := inH a f
      exact (e.old a u h0).trans (out a f).2.2
    · rw [if_neg q, if_pos (List.getElem?_eq_some_iff.mp ht).1]
      obtain ⟨o, ho, qq⟩ := h j t (by rw [List.getElem?_set_ne (Ne.symm q)]; exact ht)
      refine ⟨o, ho, qq.pin (fun {C i1 i2 bv c} e => by subst e; exact nb.get ht) (fun k e => by subst e; exact nb.nal ht) fun a f hn => ?_⟩
      cases hF : F.H0 a with
      | none => rfl
      | some u => rw [sub a u hF] at hn; cases hn
  · have key : ∀ j a, j < Γ.length → fps j a → ¬ fp a := fun j a hj f q => by
      obtain ⟨u, hu, h0⟩ := inH a q
      obtain ⟨o, _, qq⟩ := h j _ (List.getElem?_eq_getElem (by rw [List.length_set]; exact hj))
      have := (qq.dom f).1
      rw [h0] at this; cases this
    intro j k a hjk h1 h2
    have h1 : (if j = i then fp else if j < Γ.length then fps j else Fp.no) a := h1
    have h2 : (if k = i then fp else if k < Γ.length then fps k else Fp.no) a := h2
    by_cases q : j = i
    · rw [if_pos q] at h1
      rw [if_neg (fun q2 => hjk (q.trans q2.symm))] at h2
      by_cases hk : k < Γ.length
      · rw [if_pos hk] at h2; exact key k a hk h2 h1
      · rw [if_neg hk] at h2; exact h2
    · rw [if_neg q] at h1
      by_cases hj : j < Γ.length
      · rw [if_pos hj] at h1
        by_cases q2 : k = i
        · rw [if_pos q2] at h2
          exact key j a hj h1 h2
        · rw [if_neg q2] at h2
          by_cases hk : k < Γ.length
          · rw [if_pos hk] at h2; exact hd j k a hjk h1 h2
          · rw [if_neg hk] at h2; exact h2
      · rw [if_neg hj] at h1; exact h1
section
variable {X : Cx} {W : WX} {ER : ExS} {rest body : List Stmt} {tg iter : Expr} {pos p p1 : Pos} {Γ : List Ent} {N L R S : Type} [Enc R] {GN : N → List Ent} {GL : L → List Ent} {GS : S → List Ent} {o : Fl N L R} {α β ι : Type} [Enc α] [Enc β] [Enc ι]
/-- what is walked, the list at slot i standing as it is -/
structure PIP (X : Cx) (tg iter : Expr) (Γ : List Ent) (i : Nat) (ys : List α) {ι : Type} [Enc ι] (m : Option (List ι)) : Prop where
  run : ∀ (F : Frame) (σ : St) (H Z : Hp), EnvOk X.K F σ H Z Γ → ∀ l vs, σ[i]? = some (some (.ref l)) → H l = some (.lst vs) → All2 (Enc.rel X.K Z) vs ys → ∀ xs, m = some xs → ∀ R : It → Hp → Prop, (∀ J H1 Z1, Step H Z H1 Z1 → Src X.K J (fun H' Z' => H' l = some (.lst vs) ∧ Same Z1 Z') xs → R J H1) → wI X tg iter σ H R
theorem lstAt_pin {K : Fg} {Z1 : Hp} {l : Addr} {vs : List V} {xs : List α} (r : All2 (Enc.rel K Z1) vs xs) : LstAt K (fun H Z => H l = some (.lst vs) ∧ Same Z1 Z) l xs := fun H Z hp zh => ⟨vs, hp.1, all2_mono hp.2 r⟩
theorem pip_list {i : Nat} {vn : Str} {ys : List α} (hN : X.N[i]? = some vn := by rfl) (hv : Vis X.env.scope vn := by first | exact Or.inl rfl | exact Or.inr (Or.inl rfl) | exact Or.inr (Or.inr rfl)) (hd : (vn == ("__debug__" : Str)) = false := by decide) (hcd : (vn == ("__classdict__" : Str)) = false := by decide) :
    PIP X tg (.Name vn p) Γ i ys (some ys) := .mk fun F σ H Z en l vs ev hl r xs hx R q pins s I => (pi_list (pe_var (i := i) hN hv hd hcd)).run pins s σ H R I (by
  cases hx
  exact ⟨.ref l, ev, l, rfl, ⟨vs, SqL.of hl⟩, q _ H Z (Step.refl en.zh) (src_list (lstAt_pin r))⟩)
theorem pip_zip {i : Nat} {vn : Str} {b : Expr} {elts : List Expr} {kk : Nat} {tpos : Pos} {ys : List α} {m2 : Option (List β)} (hm : X.mg "zip" = none) (hb : PX X b Γ m2) (hg : Gl X "zip" := by rfl)
    (hs : starEach [.Name vn p1, b] X.env = (false, eval (.Name vn p1) X.env) :: starEach [b] X.env := by rfl) (hs2 : starEach [b] X.env = (false, eval b X.env) :: starEach [] X.env := by rfl) (hpl : (backTo pos (starEach [b] X.env)).any (·.1) = false := by rfl)
    (hN : X.N[i]? = some vn := by rfl) (hv : Vis X.env.scope vn := by first | exact Or.inl rfl | exact Or.inr (Or.inl rfl) | exact Or.inr (Or.inr rfl)) (hd : (vn == ("__debug__" : Str)) = false := by decide) (hcd : (vn == ("__classdict__" : Str)) = false := by decide) :
    PIP X (.Tuple elts kk tpos) (.Call (.Name "zip" p) [.Name vn p1, b] [] pos) Γ i ys (oZip (some ys) m2) := .mk fun F σ H Z en l vs ev hl r xs hx R q pins s I => (pi_zip hg hm (pa_cons (pe_var (i := i) hN hv hd hcd) (pa_cons pe_w pa_nil hs2) hs) hs hpl).run pins s σ H R I (by
  obtain ⟨zs, hz, rfl⟩ := Option.map_eq_some_iff.mp hx
  refine ⟨.ref l, ev, hb.run F σ H Z en zs hz _ fun H2 Z2 v2 s2 ⟨l2, _, e, hl2, vs2, eo, r2⟩ => ?_⟩
  subst e eo
  exact ⟨l, l2, vs, vs2, rfl, SqL.of (s2.hh _ _ hl), SqL.of (s2.zh _ _ hl2), q _ H2 Z2 s2 (src_zip (lstAt_pin (all2_mono s2.zz r)) fun H' Z' hp zh => lstAt_still hl2 r2 H' Z' hp.2 zh)⟩)
theorem set_back {Γ : List Ent} {i : Nat} {e e2 : Ent} (h : Γ[i]? = some e2) : (Γ.set i e).set i e2 = Γ := by
  rw [List.set_set]
  apply List.ext_getElem?
  intro j
  by_cases q : i = j
  · subst q
    rw [List.getElem?_set_self (List.getElem?_eq_some_iff.mp h).1, h]
  · rw [List.getElem?_set_ne q]
/-- for target in iter: body; the list at slot i is not met in the body -/
theorem bx_forP (i : Nat) {js : List Nat} {T : ι → List Ent → List Ent} {ys : List α} {m : Option (List ι)} {f : S → ι → Option (Fl S S R)} {s0 : S} {k : S → Option (Fl N L R)} (hp : PassesOwn (model X.prog X.w) X.A X.env X.xe) (hc : X.calm = true) (hi : PIP X tg iter Γ i ys m) (hΓ : Γ[i]? = some (.ow none ys)) (hg : PGX X tg js T) (w : Wk Γ (GS s0))
    (hGS : ∀ s, (GS s)[i]? = some (.ow none ys)) (nb : ∀ s, NBv (GS s)) (hER : ∀ c f Z cls d, ¬ ER.er c f Z cls d)
    (hb : ∀ s x (o' : Fl S S R), f s x = some o' → BX X W ER body (T x ((GS s).set i pinE)) (fun s => (GS s).set i pinE) (fun s => (GS s).set i pinE) o') (h : (m.bind fun xs => thenFl (forM xs f s0) k) = some o) (hr : ∀ s, k s = some o → BX X W ER rest (GS s) GN GL o)
    (hs : ∀ x, foldedSetIterable iter X.env x = pure x := by intro _; rfl) : BX X W ER (.For tg iter body [] pos :: rest) Γ GN GL o := by
  obtain ⟨xs, h1, h2⟩ := Option.bind_eq_some_iff.mp h
  refine bx_cons (ps_for hp hc pi_w pg_w ps_w hs) fun F D ac σ H Z en => ?_
  obtain ⟨v, fpA, ev, ow0, _, _⟩ := en.at2 hΓ
  obtain ⟨l, u, e1, hl, hcr, hfp⟩ := ow0
  obtain ⟨vs, e2, hvs⟩ := hcr
  subst e1 e2
  refine hi.run F σ H Z en l vs ev hl hvs xs h1 _ fun I H1 Z1 st src => ?_
  have en1 := (en.step st).wk w
  obtain ⟨v', fp, ev', ow, out, enp⟩ := en1.pin (nb s0) (hGS s0)
  rw [ev] at ev'
  cases ev'
  obtain ⟨l', u', e1, hl1, hcr', hfp'⟩ := id ow
  cases e1
  have hl2 := st.hh _ _ hl
  have lin : (pinF F H1 fp (.ref l)).H0 l = some (.lst vs) := by
    rw [pinF_in ((hfp' l).mpr rfl)]; exact hl2
  refine ⟨fun i' n σ' H' => n = xs.length - i' ∧ i' ≤ xs.length ∧ ∃ Z' s, EnvOk X.K (pinF F H1 fp (.ref l)) σ' H' Z' ((GS s).set i pinE) ∧ Same Z1 Z' ∧ thenFl (forM (xs.drop i') f s) k = some o, ⟨xs.length, by simp, Nat.zero_le _, Z1, s0, enp, Same.refl _, h2⟩, ?_⟩
  rintro i' n σ' H' ⟨rfl, hi', Z', s, en', sz, hm⟩
  obtain ⟨go, stop, yld⟩ := src H' Z' ⟨en'.hh _ _ lin, sz⟩ en'.zh i'
  by_cases hlt : i' < xs.length
  · refine .inr ⟨go hlt, ?_⟩
    have hd : xs.drop i' = xs[i'] :: xs.drop (i' + 1) := List.drop_eq_getElem_cons hlt
    rw [hd] at hm
    cases ho : f s xs[i'] with
    | none => simp only [forM, ho, thenFl] at hm; cases hm
    | some o' =>
      refine ⟨fun σ2 H2 => ∃ Z2 s2, EnvOk X.K (pinF F H1 fp (.ref l)) σ2 H2 Z2 ((GS s2).set i pinE) ∧ Same Z1 Z2 ∧ thenFl (forM (xs.drop (i' + 1)) f s2) k = some o, fun σ2 H2 ⟨Z2, s2, a1, a2, a3⟩ => ⟨xs.length - (i' + 1), by omega, rfl, hlt, Z2, s2, a1, a2, a3⟩, fun v H2 y => ?_⟩
      obtain ⟨Z2, s2, r⟩ := yld v H2 xs[i'] y (by simp [hlt])
      have en2 := en'.step s2
      refine hg.run _ σ' H2 Z2 _ v xs[i'] en2 r _ fun σ3 en3 _ => ?_
      refine (hb s xs[i'] o' ho).run ⟨(pinF F H1 fp (.ref l)).H0, Z2, (pinF F H1 fp (.ref l)).bs⟩ _ ?_ σ3 H2 Z2 en3.here
      have z12 : Same Z1 Z2 := sz.trans s2.zz
      cases o' with
      | nx s' =>
        simp only [forM, ho] at hm
        exact fun σ4 H4 Z4 en4 => ⟨Z4, s', en3.back en4, z12.trans en4.zz, hm⟩
      | ct s' =>
        simp only [forM, ho] at hm
        exact fun σ4 H4 Z4 en4 => ⟨Z4, s', en3.back en4, z12.trans en4.zz, hm⟩
      | br s' =>
        simp only [forM, ho, thenFl] at hm
        exact fun σ4 H4 Z4 en4 => (hr s' hm).run F D ac σ4 H4 Z4 ((en3.back en4).unpin ow out (z12.trans en4.zz) (nb s') (hGS s'))
      | rt r' =>
        simp only [forM, ho, thenFl] at hm
        cases hm
        refine fun H4 Z4 v4 r4 => ac H4 Z4 v4 ?_
        obtain ⟨s4, r5⟩ := Res.back (K := X.K) (F := pinF F H1 fp (.ref l)) en3.zz en3.old r4
        refine ⟨⟨fun a u hu => s4.hh a u ?_, s4.zz, s4.zh, fun a u hu => s4.old a u ?_⟩, r5⟩
        · exact pinF_out (fun q => (out a q).1) hu
        · exact pinF_out (fun q => (out a q).1) hu
      | xc c' f' =>
        exact fun σ4 H4 Z4 cls d en4 r4 => absurd r4 (hER _ _ _ _ _)
  · have e : i' = xs.length := by omega
    subst e
    rw [List.drop_length] at hm
    simp only [forM, thenFl] at hm
    exact .inl ⟨stop (Nat.le_refl _), (hr s hm).run F D ac σ' H' Z' (en'.unpin ow out sz (nb s) (hGS s))⟩
end
end G
/-! GKeys: list(d.keys()), list(d.values()). -/
namespace L2
open PySem PySem.Spec PyProof.Rows
def tListKeysM (te : TE) : TE := fun σ H Q => te σ H fun x H1 => ∃ (d : Addr) (kvs : List (Key × V)), x = .ref d ∧ H1 d = some (.dK kvs) ∧ ∀ p, H1 p = none → Q (.ref p) (upd H1 p (.lst (kvs.map fun kv => kV kv.1)))
def tListValsM (te : TE) : TE := fun σ H Q => te σ H fun x H1 => ∃ (d : Addr) (kvs : List (Key × V)), x = .ref d ∧ H1 d = some (.dK kvs) ∧ ∀ p, H1 p = none → Q (.ref p) (upd H1 p (.lst (kvs.map fun kv => kv.2)))
section
variable {X : Cx} {e : Expr} {te : TE} {p apos cpos pos : Pos}
theorem pe_listKeysM (hc : X.calm = true) (he : PE X e te) (hg : Gl X "list") (hm : X.mg "list" = none) (hv : bootBuiltins "list" = some (.type "list")) (hbase : attributeBase e "keys" X.env (eval e X.env) = eval e X.env := by rfl) (hline : (apos.endLine == cpos.line) = true := by rfl)
    (hs : starEach [.Call (.Attribute e "keys" apos) [] [] cpos] X.env = (false, eval (.Call (.Attribute e "keys" apos) [] [] cpos) X.env) :: starEach [] X.env := by rfl) :
    PE X (.Call (.Name "list" p) [.Call (.Attribute e "keys" apos) [] [] cpos] [] pos) (tListKeysM te) := by
  refine ⟨fun pins s σ H Q I hq => ?_⟩
  refine wpAny_Call_Name_kw (ld_blt I hg hm hv ?_)
  refine PyProof.Rows.callWith_type1 ?_ hs rfl
  rw [hs]
  show wpAny _ _ (spliced ((false, eval (.Call (.Attribute e "keys" apos) [] [] cpos) X.env) :: backTo pos (starEach [] X.env))) _ _ s
  refine Calls.spliced_cons ?_
  refine wpAny_Call_method (T := "dict") (id := "dict.keys") hbase rfl hline F.plainAttrs_dict F.slot_dict_keys F.type_dict_keys (thn (he.run pins s σ H _ I hq) fun u s1 ⟨x, H1, I1, rx, d, kvs, ex, hd, q⟩ => ?_)
  subst ex
  obtain rfl : u = Value.ref d := rx
  obtain ⟨hz, hs0, vs, kv, hdo⟩ := I1.hok d _ hd
  obtain ⟨ep, hat⟩ := hdo.dictAt
  have lk : kvs.length = vs.length := Paired.length kv
  have I2 : Inv X pins σ H1 { s1 with heap := s1.heap.push { cls := .type "dict_keys", data := .fields #[.ref d] } } := I1.kept (t' := s1.toks) fun b ob q => Heap.get?_push_of_some _ q
  refine ⟨hdo.typeIs, hdo.mapOf.noDict, ?_⟩
  show wpAny _ _ (callWith cpos (.builtin "dict.keys") [.ref d] [] []) _ X.xe s1
  refine method_meetsIn F.slot_dict_keys F.entry_dict_keys rfl (PySem.evalArgs_none ⟨rfl, hdo.typeIs, F.args_dict_keys_1 _, _, PySem.W.kdl_meets_keys (mixKind X.prog X.w) d hs0, ⟨vs, hdo⟩, ?_⟩)
  refine Calls.spliced_nil ?_
  refine PySem.W.kdl_call (PySem.W.kdl_keys (knd := mixKind X.prog X.w) (kvs := vs) (ep := ep)) (I1.ok.hd hc) ⟨⟨_, Heap.get?_push_size _ rfl, rfl, rfl⟩, hat.push _⟩ (by rw [← lk]; exact hz) fun h' tk acc' c' hkeep hS hacc => ?_
  refine ⟨.ref _, upd H1 _ (.lst (kvs.map fun kv => kV kv.1)), I2.laid hkeep (Nat.le_refl _) (show ObjOk X.prog X.w _ _ _ (.lst (kvs.map fun kv => kV kv.1)) from ⟨?_, acc'.toList, c', ?_, ?_⟩), rfl, q _ (I2.hok.fresh (Nat.le_refl _))⟩
  · rw [List.length_map]; exact hz
  · have el : acc'.toList.length = acc'.size := by simp
    refine vals_of_at (by rw [List.length_map, el, hacc.1, lk]) fun j x w h1 h2 => ?_
    obtain ⟨k, y, hky, hi⟩ := hacc.2 j w (by rw [← Array.getElem?_toList]; exact h2)
    have e1 : (kvs.map (·.1))[j]? = some k := by
      rw [KV.keys kv, List.getElem?_map, hky] <;> rfl
    have e2 : (kvs.map fun kv => kV kv.1)[j]? = some (kV k) := by
      have e3 : (kvs.map fun kv => kV kv.1) = (kvs.map (·.1)).map kV := by rw [List.map_map] <;> rfl
      rw [e3, List.getElem?_map, e1] <;> rfl
    rw [e2] at h1
    cases h1
    exact keyIs_rel hi
  · rw [Array.toArray_toList]; exact hS
theorem paired_at {α β : Type} {R : α → β → Prop} : ∀ {xs : List α} {ys : List β}, Paired R xs ys → ∀ {j : Nat} {x : α} {y : β}, xs[j]? = some x → ys[j]? = some y → R x y
  | _, _, .nil, j, x, y, h, _ => by simp at h
  | _, _, .cons r t, 0, x, y, h, h2 => by cases h; cases h2; exact r
  | _, _, .cons r t, j + 1, x, y, h, h2 => paired_at t h h2
theorem pe_listValsM (hc : X.calm = true) (he : PE X e te) (hg : Gl X "list") (hm : X.mg "list" = none) (hv : bootBuiltins "list" = some (.type "list")) (hbase : attributeBase e "values" X.env (eval e X.env) = eval e X.env := by rfl) (hline : (apos.endLine == cpos.line) = true := by rfl)
    (hs : starEach [.Call (.Attribute e "values" apos) [] [] cpos] X.env = (false, eval (.Call (.Attribute e "values" apos) [] [] cpos) X.env) :: starEach [] X.env := by rfl) :
    PE X (.Call (.Name "list" p) [.Call (.Attribute e "values" apos) [] [] cpos] [] pos) (tListValsM te) := by
  refine ⟨fun pins s σ H Q I hq => ?_⟩
  refine wpAny_Call_Name_kw (ld_blt I hg hm hv ?_)
  refine PyProof.Rows.callWith_type1 ?_ hs rfl
  rw [hs]
  show wpAny _ _ (spliced ((false, eval (.Call (.Attribute e "values" apos) [] [] cpos) X.env) :: backTo pos (starEach [] X.env))) _ _ s
  refine Calls.spliced_cons ?_
  refine wpAny_Call_method (T := "dict") (id := "dict.values") hbase rfl hline F.plainAttrs_dict F.slot_dict_values F.type_dict_values (thn (he.run pins s σ H _ I hq) fun u s1 ⟨x, H1, I1, rx, d, kvs, ex, hd, q⟩ => ?_)
  subst ex
  obtain rfl : u = Value.ref d := rx
  obtain ⟨hz, hs0, vs, kv, hdo⟩ := I1.hok d _ hd
  obtain ⟨ep, hat⟩ := hdo.dictAt
  have lk : kvs.length = vs.length := Paired.length kv
  have I2 : Inv X pins σ H1 { s1 with heap := s1.heap.push { cls := .type "dict_values", data := .fields #[.ref d] } } := I1.kept (t' := s1.toks) fun b ob q => Heap.get?_push_of_some _ q
  refine ⟨hdo.typeIs, hdo.mapOf.noDict, ?_⟩
  show wpAny _ _ (callWith cpos (.builtin "dict.values") [.ref d] [] []) _ X.xe s1
  refine method_meetsIn F.slot_dict_values F.entry_dict_values rfl (PySem.evalArgs_none ⟨rfl, hdo.typeIs, F.args_dict_values_1 _, _, meets_dict_values (mixKind X.prog X.w) d hs0, ⟨vs, hdo⟩, ?_⟩)
  refine Calls.spliced_nil ?_
  refine PySem.W.kdl_call (PySem.W.kdl_values (knd := mixKind X.prog X.w) (kvs := vs) (ep := ep)) (I1.ok.hd hc) ⟨⟨_, Heap.get?_push_size _ rfl, rfl, rfl⟩, hat.push _⟩ (by rw [← lk]; exact hz) fun h' tk acc' c' hkeep hS hacc => ?_
  refine ⟨.ref _, upd H1 _ (.lst (kvs.map fun kv => kv.2)), I2.laid hkeep (Nat.le_refl _) (show ObjOk X.prog X.w _ _ _ (.lst (kvs.map fun kv => kv.2)) from ⟨?_, acc'.toList, c', ?_, ?_⟩), rfl, q _ (I2.hok.fresh (Nat.le_refl _))⟩
  · rw [List.length_map]; exact hz
  · have el : acc'.toList.length = acc'.size := by simp
    refine vals_of_at (by rw [List.length_map, el, hacc.1, lk]) fun j x w h1 h2 => ?_
    obtain ⟨k, hky⟩ := hacc.2 j w (by rw [← Array.getElem?_toList]; exact h2)
    rw [List.getElem?_map] at h1
    obtain ⟨kv1, e1, e2⟩ := Option.map_eq_some_iff.mp h1
    have := (paired_at kv e1 hky).2
    rw [← e2]
    exact this
  · rw [Array.toArray_toList]; exact hS
end
end L2
namespace G
open PySem L2
theorem vals_all2 {K : Fg} {Z : Hp} {α : Type} [Enc α] : ∀ {kvs : List (Key × V)} {xs : List (P2 Int α)}, AllK (Enc.rel K Z) kvs xs → All2 (Enc.rel K Z) (kvs.map fun kv => kv.2) (xs.map P2.b)
  | [], [], _ => trivial
  | kv :: _, x :: _, ⟨_, b, c⟩ => ⟨b, vals_all2 c⟩
  | [], _ :: _, h => h.elim
  | _ :: _, [], h => h.elim
section
variable {X : Cx} {Γ : List Ent} {e : Expr} {pos p apos cpos : Pos} {α : Type} [Enc α]
/-- list(d.keys()) -/
theorem pn_keys {m : Option (Dct α)} (hc : X.calm = true) (hm : X.mg "list" = none) (hd : PDR X e Γ m) (hg : Gl X "list" := by rfl) (hbase : attributeBase e "keys" X.env (eval e X.env) = eval e X.env := by rfl) (hline : (apos.endLine == cpos.line) = true := by rfl)
    (hs : starEach [.Call (.Attribute e "keys" apos) [] [] cpos] X.env = (false, eval (.Call (.Attribute e "keys" apos) [] [] cpos) X.env) :: starEach [] X.env := by rfl) :
    PN X (.Call (.Name "list" p) [.Call (.Attribute e "keys" apos) [] [] cpos] [] pos) Γ (m.map fun d => d.kvs.map P2.a) :=
  pn_of (pe_listKeysM hc pe_w hg hm (by decide +kernel) hbase hline hs) fun F σ H Z en x hx Q q => by
    obtain ⟨y, hy, rfl⟩ := Option.map_eq_some_iff.mp hx
    exact hd.run F σ H Z en y hy _ fun H1 Z1 l kvs s1 hl r => ⟨l, kvs, rfl, hl, fun v hv => q H1 Z1 v _ s1 hv (keys_all2 r)⟩
/-- list(d.values()) -/
theorem pn_vals {m : Option (Dct α)} (hc : X.calm = true) (hm : X.mg "list" = none) (hd : PDR X e Γ m) (hg : Gl X "list" := by rfl) (hbase : attributeBase e "values" X.env (eval e X.env) = eval e X.env := by rfl) (hline : (apos.endLine == cpos.line) = true := by rfl)
    (hs : starEach [.Call (.Attribute e "values" apos) [] [] cpos] X.env = (false, eval (.Call (.Attribute e "values" apos) [] [] cpos) X.env) :: starEach [] X.env := by rfl) :
    PN X (.Call (.Name "list" p) [.Call (.Attribute e "values" apos) [] [] cpos] [] pos) Γ (m.map fun d => d.kvs.map P2.b) :=
  pn_of (pe_listValsM hc pe_w hg hm (by decide +kernel) hbase hline hs) fun F σ H Z en x hx Q q => by
    obtain ⟨y, hy, rfl⟩ := Option.map_eq_some_iff.mp hx
    exact hd.run F σ H Z en y hy _ fun H1 Z1 l kvs s1 hl r => ⟨l, kvs, rfl, hl, fun v hv => q H1 Z1 v _ s1 hv (vals_all2 r)⟩
end
end G
/-! GJoin: methods that are lent two things, or one thing by two names; places read. -/
namespace G
open PySem L2
section
variable {K : Fg} {F : Frame} {σ : St} {H Z : Hp} {C : Type} [Enc C] [Own C] {c : C} {Γ : List Ent}
/-- two names of one thing -/
theorem EnvOk.alias {i j k : Nat} (e : EnvOk K F σ H Z Γ) (hi : Γ[i]? = some (.ow (some k) c)) (hj : Γ[j]? = some (.al k)) : ∃ v, σ[i]? = some (some v) ∧ σ[j]? = some (some v) := by
  obtain ⟨fp, h, hd⟩ := e.ent
  obtain ⟨o, ho, v, e1, hb, _⟩ := h i _ hi
  obtain ⟨o2, ho2, ⟨v2, e2, hb2⟩, _⟩ := h j _ hj
  have := hb k rfl
  rw [hb2] at this
  cases this
  exact ⟨_, by rw [ho, e1], by rw [ho2, e2]⟩
end
/-- one thing, lent by two names -/
structure Bq (C : Type) where
  val : C
instance {C A B : Type} [Enc C] [Own C] [OwnB B] [ArgB A B] : ArgB (Bq C × A) (C × B) where
  rel K Z vs bs x := ∃ v r t, vs = v :: v :: r ∧ bs = v :: t ∧ ArgB.rel K Z r t x.2
  brs x := (x.1.val, ArgB.brs x.2)
  n := ArgB.n A + 2
  len := fun ⟨v, r, t, e, _, h⟩ => by rw [e]; exact congrArg (· + 2) (ArgB.len h)
  mono := fun s ⟨v, r, t, e, e2, h2⟩ => ⟨v, r, t, e, e2, ArgB.mono s h2⟩
  ents k x := .ow (some k) x.1.val :: .al k :: ArgB.ents (k + 1) x.2
  elen k x := congrArg (· + 2) (ArgB.elen (k + 1) x.2)
  start := fun {K Z H vs bs x fp F k} ⟨v, r, t, e, e2, h2⟩ ⟨w, t', f1, f2, e3, o1, o2, o3, o4⟩ ⟨rr, hb⟩ out => by
    subst e e2
    cases e3
    have hk : F.bs[k]? = some v := by
      have : (F.bs.drop k)[0]? = some v := by rw [hb]; rfl
      simpa using this
    have hb2 : F.bs.drop (k + 1) = t ++ rr := by
      have : (F.bs.drop k).drop 1 = t ++ rr := by rw [hb]; rfl
      rw [List.drop_drop] at this
      exact this
    obtain ⟨g, g1, g2, g3⟩ := ArgB.start (k := k + 1) h2 o2 ⟨rr, hb2⟩ (fun a f => out a ((o3 a).mpr (.inr f)))
    refine ⟨fun i => match i with | 0 => f1 | 1 => Fp.no | i + 2 => g i, fun i s ht => ?_, fun i a f => ?_, fun i j a hij f f' => ?_⟩
    · match i, ht with
      | 0, ht =>
        cases ht
        exact ⟨v, rfl, v, rfl, (fun k' e => by cases e; exact hk), o1, fun a f => out a ((o3 a).mpr (.inl f))⟩
      | 1, ht =>
        cases ht
        exact ⟨v, rfl, ⟨v, rfl, hk⟩, fun a f => f⟩
      | i + 2, ht => exact g1 i s ht
    · match i, f with
      | 0, f => exact (o3 a).mpr (.inl f)
      | 1, f => exact f.elim
      | i + 2, f => exact (o3 a).mpr (.inr (g2 i a f))
    · match i, j, hij, f, f' with
      | 0, 0, hij, _, _ => exact hij rfl
      | 1, _, _, f, _ => exact f.elim
      | 0, 1, _, _, f' => exact f'.elim
      | _ + 2, 1, _, _, f' => exact f'.elim
      | 0, j + 2, _, f, f' => exact o4 a f (g2 j a f')
      | i + 2, 0, _, f, f' => exact o4 a f' (g2 i a f)
      | i + 2, j + 2, hij, f, f' => exact g3 i j a (fun e => hij (congrArg (· + 2) e)) f f'
section
variable {X : Cx} {Γ : List Ent} {e o : Expr} {es : List Expr} {pos p p1 p2 apos pos' : Pos} {C' : Type} [Enc C'] [Own C']
theorem pr_al (j i : Nat) {k : Nat} {nm : Str} {c : C'} (hj : Γ[j]? = some (.al k) := by rfl) (hi : Γ[i]? = some (.ow (some k) c) := by rfl) (hN : X.N[j]? = some nm := by rfl) (hv : Vis X.env.scope nm := by first | exact Or.inl rfl | exact Or.inr (Or.inl rfl) | exact Or.inr (Or.inr rfl)) (hd : (nm == ("__debug__" : Str)) = false := by decide)
    (hcd : (nm == ("__classdict__" : Str)) = false := by decide) : PR X (.Name nm pos) Γ (some c) (fun c' => Γ.set i (.ow (some k) c')) := .mk fun F σ H Z en y hy Q q pins s I => by
  cases hy
  obtain ⟨v, fp, e1, h⟩ := en.at hi
  obtain ⟨v2, e2, e3⟩ := en.alias hi hj
  rw [e1] at e2
  cases e2
  exact (pe_var hN hv hd hcd).run pins s σ H Q I ⟨v, e3, q H Z v fp (Step.refl en.zh) h⟩
/-- places that are read -/
theorem px_placeI {x : Int} {T : Int → List Ent} (h : PR X e Γ (some x) T) : PX X e Γ (some x) := .mk fun F σ H Z en y hy Q q => by
  cases hy
  exact h.run F σ H Z en x rfl Q fun H' Z' v fp s A => q H' Z' v s (show Enc.rel X.K Z' v x ∧ _ from A.own).1
theorem px_placeS {α : Type} [Enc α] {x : Sd α} {T : Sd α → List Ent} (h : PR X e Γ (some x) T) : PX X e Γ (some x.v) := .mk fun F σ H Z en y hy Q q => by
  cases hy
  exact h.run F σ H Z en x rfl Q fun H' Z' v fp s A => q H' Z' v s (show Enc.rel X.K Z' v x ∧ _ from A.own).1
theorem pl_place {α : Type} [Enc α] {x : List α} {T : List α → List Ent} (h : PR X e Γ (some x) T) : PL X e Γ (some x) := .mk fun F σ H Z en y hy Q q => by
  cases hy
  exact h.run F σ H Z en x rfl Q fun H' Z' v fp s A => by
    obtain ⟨l, vs, e1, h2, r, _⟩ := A.lst
    subst e1
    exact q H' Z' l vs s h2 r
end
section
variable {X : Cx} {Γ : List Ent} {e o : Expr} {es : List Expr} {pos p p1 p2 apos : Pos} {α : Type} [Flds α] {nm m : Str} {ns : List Str} {C : Addr} {k : Nat} {f : Addr} {fd : FuncData} {ps : List Str} {pl : Sem Bool}
/-- o.m(), o a place that stays as it is -/
theorem px_methP0 {R : Type} [Enc R] [Flat R] {fm : Ins nm ns α × Unit → Option R} {x : Ins nm ns α} {T : Ins nm ns α → List Ent} (cl : ClsF X.K nm C) (hm : Meth X.K C m f) (hmn : m ∉ ns) (Fn : FnOk X.prog X.w X.K X.mg X.base CX0 k f fd ps (spF X.K fm)) (hr : Room k X.A) (hb : Binds X.K fd ps []) (ho : PR X o Γ (some x) T)
    (ht : eval (.Call (.Attribute o m apos) [] [] pos) X.env = (do
      let ov ← eval o X.env
      standAt apos.atName
      let (f, first) ← holding [ov] (getMethod ov m pl)
      callWith pos f first (backTo pos (starEach [] X.env)) (backToKw pos (keywordEach [] X.env))) := by rfl) :
    PX X (.Call (.Attribute o m apos) [] [] pos) Γ (fm (x, ())) := px_of (pe_meth0 (pl := pl) pe_w cl.cl hm Fn hr hb .nil pass0 ht) fun F σ H Z en z hx Q q => by
  refine ho.run F σ H Z en x rfl _ fun H1 Z1 v fp s1 A => ?_
  obtain ⟨l, D, dx, fs, fe, e1, hl, hcl, o1, hc, hd1⟩ := id A.own
  cases hcl.same cl.is
  subst e1
  refine ⟨l, dx, fs, rfl, hl, Flds.nokey o1 hmn, ?_⟩
  classical
  have sz : Same Z1 (fun a => if fp a then H1 a else Z1 a) := fun a u h => by
    show (if fp a then H1 a else Z1 a) = some u
    by_cases c : fp a
    · have := (A.out a c).2
      rw [h] at this; cases this
    · rw [if_neg c]; exact h
  have szh : Same (fun a => if fp a then H1 a else Z1 a) H1 := fun a u h => by
    have h : (if fp a then H1 a else Z1 a) = some u := h
    by_cases c : fp a
    · rw [if_pos c] at h; exact h
    · rw [if_neg c] at h; exact A.zh a u h
  have tz : ∀ a xs, (fun a => if fp a then H1 a else Z1 a) a = some (.tup xs) → Z1 a = some (.tup xs) := fun a xs h => by
    have h : (if fp a then H1 a else Z1 a) = some (.tup xs) := h
    by_cases c : fp a
    · rw [if_pos c] at h
      obtain ⟨u, hu, nt⟩ := Own.odom A.own c
      rw [h] at hu
      cases hu
      exact absurd rfl (nt xs)
    · rw [if_neg c] at h; exact h
  have r := Own.froz A.own sz (fun a f => if_pos f)
  refine ⟨_, (x, ()), z, szh, ⟨_, [], rfl, r, rfl⟩, hx, fun H3 Z3 u s3 r3 => ?_⟩
  obtain ⟨Z', s', r'⟩ := lend_end A.zh sz tz s3 r3
  exact q H3 Z' u (s1.trans s') r'
/-- o.m(n), o and n names of one thing -/
theorem pxb_methQ (i j : Nat) {nm1 nm2 : Str} {bv : Option Nat} {R : Type} [Enc R] {fm : Bq (Ins nm ns α) × Unit → Option (RB (Ins nm ns α × Unit) R)} {x : Ins nm ns α} (cl : ClsF X.K nm C) (hm : Meth X.K C m f) (hmn : m ∉ ns) (Fn : FnOk X.prog X.w X.K X.mg X.base CX0 k f fd ps (spM X.K fm)) (hr : Room k X.A) (hb : Binds X.K fd ps [])
    (hΓ : Γ[i]? = some (.ow bv x)) (hs : ∀ F σ H Z, EnvOk X.K F σ H Z Γ → σ[j]? = σ[i]?) (hN1 : X.N[i]? = some nm1 := by rfl) (hN2 : X.N[j]? = some nm2 := by rfl) (hv1 : Vis X.env.scope nm1 := by first | exact Or.inl rfl | exact Or.inr (Or.inl rfl) | exact Or.inr (Or.inr rfl)) (hv2 : Vis X.env.scope nm2 := by first | exact Or.inl rfl | exact Or.inr (Or.inl rfl) | exact Or.inr (Or.inr rfl))
    (hd1 : (nm1 == ("__debug__" : Str)) = false := by decide) (hcd1 : (nm1 == ("__classdict__" : Str)) = false := by decide) (hd2 : (nm2 == ("__debug__" : Str)) = false := by decide) (hcd2 : (nm2 == ("__classdict__" : Str)) = false := by decide)
    (hst : starEach [.Name nm2 p2] X.env = (false, eval (.Name nm2 p2) X.env) :: starEach [] X.env := by rfl) (hpl : (backTo pos (starEach [] X.env)).any (·.1) = false := by rfl)
    (ht : eval (.Call (.Attribute (.Name nm1 p1) m apos) [.Name nm2 p2] [] pos) X.env = (do
      let ov ← eval (.Name nm1 p1) X.env
      standAt apos.atName
      let (f, first) ← holding [ov] (getMethod ov m pl)
      callWith pos f first (backTo pos (starEach [.Name nm2 p2] X.env)) (backToKw pos (keywordEach [] X.env))) := by rfl) :
    PXB X (.Call (.Attribute (.Name nm1 p1) m apos) [.Name nm2 p2] [] pos) Γ (fm (Bq.mk x, ())) (fun b => Γ.set i (.ow bv b.1)) := .mk fun F σ H Z en z hx Q q pins s I => (pe_meth (pl := pl) (pe_var hN1 hv1 hd1 hcd1) cl.cl hm Fn hr hb .nil pass0 (pa_cons (pe_var hN2 hv2 hd2 hcd2) pa_nil hst) hst hpl ht).run pins s σ H Q I (by
  obtain ⟨v, fp, e1, A⟩ := en.at hΓ
  have e2 := (hs F σ H Z en).trans e1
  obtain ⟨l, D, dx, fs, fe, e3, hl, hcl, o1, hc, hd⟩ := id A.own
  cases hcl.same cl.is
  subst e3
  refine ⟨.ref l, e1, l, dx, fs, rfl, hl, Flds.nokey o1 hmn, .ref l, e2, ?_⟩
  refine ⟨Z, (Bq.mk x, ()), z, [.ref l], fp, en.zh, ⟨_, [], [], rfl, rfl, rfl, rfl⟩, ⟨.ref l, [], fp, Fp.no, rfl, A.own, ⟨rfl, fun _ f => f⟩, fun a => ⟨.inl, fun f => by rcases f with f | f; exact f; exact f.elim⟩, fun _ _ f => f⟩, fun a f => (A.out a f).2, hx, fun H2 Z2 u fp2 g2 o2 r2 => ?_⟩
  obtain ⟨w, rr, f1, f2, e, o1, o2, i1, d1⟩ := o2
  cases e
  exact q H2 Z2 u (A.put H2 Z2 z.b.1 f1 ⟨g2.hh, g2.zz, g2.zh, g2.old, fun a f => g2.out a ((i1 a).mpr (.inl f))⟩ o1) r2)
/-- o.m(e, ..), o a name, lent things among the others -/
theorem pxb_methB (i : Nat) {nm1 : Str} {bv : Option Nat} {A B R : Type} [OwnB B] [ArgB A B] [Enc R] {fm : Br (Ins nm ns α) × A → Option (RB (Ins nm ns α × B) R)} {x : Ins nm ns α} {ma : Option A} {is : List Nat} {T : Ins nm ns α × B → List Ent} (cl : ClsF X.K nm C) (hm : Meth X.K C m f) (hmn : m ∉ ns) (Fn : FnOk X.prog X.w X.K X.mg X.base CX0 k f fd ps (spM X.K fm)) (hr : Room k X.A) (hb : Binds X.K fd ps [])
    (hΓ : Γ[i]? = some (.ow bv x)) (ha : PAB X (e :: es) Γ ma is) (hT : ∀ b, OwnB.put (i :: is) b Γ = T b) (nd : (i :: is).Nodup := by decide) (hN1 : X.N[i]? = some nm1 := by rfl) (hv1 : Vis X.env.scope nm1 := by first | exact Or.inl rfl | exact Or.inr (Or.inl rfl) | exact Or.inr (Or.inr rfl))
    (hd1 : (nm1 == ("__debug__" : Str)) = false := by decide) (hcd1 : (nm1 == ("__classdict__" : Str)) = false := by decide)
    (hst : starEach (e :: es) X.env = (false, eval e X.env) :: starEach es X.env := by rfl) (hpl : (backTo pos (starEach es X.env)).any (·.1) = false := by rfl)
    (ht : eval (.Call (.Attribute (.Name nm1 p1) m apos) (e :: es) [] pos) X.env = (do
      let ov ← eval (.Name nm1 p1) X.env
      standAt apos.atName
      let (f, first) ← holding [ov] (getMethod ov m pl)
      callWith pos f first (backTo pos (starEach (e :: es) X.env)) (backToKw pos (keywordEach [] X.env))) := by rfl) :
    PXB X (.Call (.Attribute (.Name nm1 p1) m apos) (e :: es) [] pos) Γ (ma.bind fun y => fm (Br.mk x, y)) T := .mk fun F σ H Z en z hx Q q pins s I => (pe_meth (pl := pl) (pe_var hN1 hv1 hd1 hcd1) cl.cl hm Fn hr hb .nil pass0 pa_w hst hpl ht).run pins s σ H Q I (by
  obtain ⟨y, hy, hx1⟩ := Option.bind_eq_some_iff.mp hx
  obtain ⟨v, fp, e1, A⟩ := en.at hΓ
  obtain ⟨l, D, dx, fs, fe, e3, hl, hcl, o1, hc, hd⟩ := id A.own
  cases hcl.same cl.is
  subst e3
  refine ⟨.ref l, e1, l, dx, fs, rfl, hl, Flds.nokey o1 hmn, ha.run F σ H Z en y hy _ fun H1 Z1 vs bs s1 r1 vl => ?_⟩
  rw [List.append_nil]
  have hin : OwnB.ins (B := Ins nm ns α × B) (i :: is) (x, ArgB.brs y) Γ := ⟨i, is, rfl, ⟨bv, hΓ⟩, ha.ins y hy⟩
  obtain ⟨fp2, ow, out, put⟩ := (en.step s1).focusB (bs := .ref l :: bs) hin nd ⟨e1, vl⟩
  refine ⟨Z1, (Br.mk x, y), z, .ref l :: bs, fp2, s1.zh, ⟨_, _, _, rfl, rfl, r1⟩, ow, fun a f => (out a f).2, hx1, fun H2 Z2 u fp' g o' r' => ?_⟩
  have := put H2 Z2 z.b fp' g o'
  rw [hT] at this
  exact q H2 Z2 u this r')
end
/-! two items of a list of owned things -/
/-- two of them are looked at -/
def Two {α : Type} [Enc α] [Own α] (K : Fg) (Z H : Hp) (vs : List V) (xs : List α) (fp : Fp) (a b : Nat) (y z : α) : Prop :=
  ∃ (v w : V) (f1 f2 fr : Fp), vs[a]? = some v ∧ vs[b]? = some w ∧ Own.own K Z H v y f1 ∧ Own.own K Z H w z f2 ∧ (∀ p, fp p ↔ f1 p ∨ f2 p ∨ fr p) ∧ (∀ p, (f1 p → ¬ f2 p) ∧ (f1 p → ¬ fr p) ∧ (f2 p → ¬ fr p)) ∧ (∀ p, fr p → ∃ u, H p = some u) ∧
    ∀ (Z' H' : Hp) (y' z' : α) (g1 g2 : Fp), Same Z Z' → (∀ p, fr p → H' p = H p) → Own.own K Z' H' v y' g1 → Own.own K Z' H' w z' g2 → (∀ p, (g1 p → ¬ g2 p) ∧ (g1 p → ¬ fr p) ∧ (g2 p → ¬ fr p)) → OwnAll K Z' H' vs ((xs.set a y').set b z') (fun p => g1 p ∨ g2 p ∨ fr p)
section
variable {α : Type} [Enc α] [Own α] {K : Fg} {Z H : Hp}
theorem OwnAll.fpx : ∀ {vs : List V} {xs : List α} {fp fp' : Fp}, OwnAll K Z H vs xs fp → (∀ p, fp' p ↔ fp p) → OwnAll K Z H vs xs fp'
  | [], [], _, _, h, e => fun a f => h a ((e a).mp f)
  | _ :: _, _ :: _, _, _, ⟨f1, f2, h1, h2, h3, h4⟩, e => ⟨f1, f2, h1, h2, fun a => (e a).trans (h3 a), h4⟩
  | [], _ :: _, _, _, h, _ => h.elim
  | _ :: _, [], _, _, h, _ => h.elim
theorem Two.swap {vs : List V} {xs : List α} {fp : Fp} {a b : Nat} {y z : α} (hab : a ≠ b) (h : Two K Z H vs xs fp a b y z) : Two K Z H vs xs fp b a z y := by
  obtain ⟨v, w, f1, f2, fr, e1, e2, o1, o2, i, d, m, k⟩ := h
  refine ⟨w, v, f2, f1, fr, e2, e1, o2, o1, fun p => (i p).trans ⟨fun h => ?_, fun h => ?_⟩, fun p => ⟨fun h h' => (d p).1 h' h, (d p).2.2, (d p).2.1⟩, m, fun Z' H' z' y' g2 g1 s kp ow1 ow2 dj => ?_⟩
  · rcases h with h | h | h <;> simp [h]
  · rcases h with h | h | h <;> simp [h]
  · have := k Z' H' y' z' g1 g2 s kp ow2 ow1 fun p => ⟨fun h h' => (dj p).1 h' h, (dj p).2.2, (dj p).2.1⟩
    rw [List.set_comm _ _ hab] at this
    exact this.fpx fun p => ⟨fun h => by rcases h with h | h | h <;> simp [h], fun h => by rcases h with h | h | h <;> simp [h]⟩
theorem OwnAll.two0 {v : V} {vs : List V} {x : α} {xs : List α} {fp : Fp} {b : Nat} {z : α} (h : OwnAll K Z H (v :: vs) (x :: xs) fp) (hz : xs[b]? = some z) : Two K Z H (v :: vs) (x :: xs) fp 0 (b + 1) x z := by
  obtain ⟨f1, f2, h1, h2, h3, h4⟩ := h
  obtain ⟨w, g1, gr, e1, o1, i1, d1, m1, k1⟩ := h2.focus hz
  refine ⟨v, w, f1, g1, gr, rfl, e1, h1, o1, fun p => (h3 p).trans ⟨fun h => ?_, fun h => ?_⟩, fun p => ⟨fun a b => h4 p a ((i1 p).mpr (.inl b)), fun a b => h4 p a ((i1 p).mpr (.inr b)), d1 p⟩, fun p q => ?_, fun Z' H' y' z' u1 u2 s kp ow1 ow2 dj => ?_⟩
  · rcases h with h | h
    · exact .inl h
    · rcases (i1 p).mp h with h | h <;> simp [h]
  · rcases h with h | h | h
    · exact .inl h
    · exact .inr ((i1 p).mpr (.inl h))
    · exact .inr ((i1 p).mpr (.inr h))
  · obtain ⟨u, hu, _⟩ := m1 p q
    exact ⟨u, hu⟩
  · have := k1 Z' H' w z' u2 s kp ow2 (fun p => (dj p).2.2)
    rw [list_set_self e1] at this
    refine ⟨u1, fun p => u2 p ∨ gr p, ow1, this, fun p => Iff.rfl, fun p a b => ?_⟩
    rcases b with b | b
    · exact (dj p).1 a b
    · exact (dj p).2.1 a b
theorem OwnAll.two : ∀ {vs : List V} {xs : List α} {fp : Fp} {a b : Nat} {y z : α}, OwnAll K Z H vs xs fp → xs[a]? = some y → xs[b]? = some z → a ≠ b → Two K Z H vs xs fp a b y z
  | [], [], _, _, _, _, _, _, e, _, _ => by simp at e
  | [], _ :: _, _, _, _, _, _, h, _, _, _ => h.elim
  | _ :: _, [], _, _, _, _, _, h, _, _, _ => h.elim
  | v :: vs, x :: xs, fp, 0, 0, _, _, h, e, e2, n => absurd rfl n
  | v :: vs, x :: xs, fp, 0, b + 1, y, z, h, e, e2, n => by
    cases (show some x = some y from e)
    exact h.two0 e2
  | v :: vs, x :: xs, fp, a + 1, 0, y, z, h, e, e2, n => by
    cases (show some x = some z from e2)
    exact Two.swap (by omega) (h.two0 e)
  | v :: vs, x :: xs, fp, a + 1, b + 1, y, z, ⟨f1, f2, h1, h2, h3, h4⟩, e, e2, n => by
    obtain ⟨w1, w2, g1, g2, gr, e1, e3, o1, o2, i1, d1, m1, k1⟩ := OwnAll.two (a := a) (b := b) h2 e e2 (fun q => n (congrArg (· + 1) q))
    have fo : ∀ p, f1 p → ¬ g1 p ∧ ¬ g2 p ∧ ¬ gr p := fun p q => ⟨fun r => h4 p q ((i1 p).mpr (.inl r)), fun r => h4 p q ((i1 p).mpr (.inr (.inl r))), fun r => h4 p q ((i1 p).mpr (.inr (.inr r)))⟩
    refine ⟨w1, w2, g1, g2, fun p => f1 p ∨ gr p, e1, e3, o1, o2, fun p => (h3 p).trans ⟨fun h => ?_, fun h => ?_⟩, fun p => ⟨(d1 p).1, fun q r => ?_, fun q r => ?_⟩, fun p q => ?_, fun Z' H' y' z' u1 u2 s kp ow1 ow2 dj => ?_⟩
    · rcases h with h | h
      · simp [h]
      · rcases (i1 p).mp h with h | h | h <;> simp [h]
    · rcases h with h | h | h | h
      · exact .inr ((i1 p).mpr (.inl h))
      · exact .inr ((i1 p).mpr (.inr (.inl h)))
      · exact .inl h
      · exact .inr ((i1 p).mpr (.inr (.inr h)))
    · rcases r with r | r
      · exact (fo p r).1 q
      · exact (d1 p).2.1 q r
    · rcases r with r | r
      · exact (fo p r).2.1 q
      · exact (d1 p).2.2 q r
    · rcases q with q | q
      · obtain ⟨u, hu, _⟩ := Own.odom h1 q
        exact ⟨u, hu⟩
      · exact m1 p q
    · refine ⟨f1, fun p => u1 p ∨ u2 p ∨ gr p, Own.omono s (fun p q => kp p (.inl q)) h1, k1 Z' H' y' z' u1 u2 s (fun p q => kp p (.inr q)) ow1 ow2 (fun p => ⟨(dj p).1, fun q r => (dj p).2.1 q (.inr r), fun q r => (dj p).2.2 q (.inr r)⟩), fun p => ⟨fun h => ?_, fun h => ?_⟩, fun p q r => ?_⟩
      · rcases h with h | h | h | h <;> simp [h]
      · rcases h with h | h | h | h <;> simp [h]
      · rcases r with r | r | r
        · exact (dj p).2.1 r (.inl q)
        · exact (dj p).2.2 r (.inl q)
        · exact (fo p q).2.2 r
end
/-- either of two promises -/
def spOr (a b : Sp) : Sp := fun vs H Q E => a vs H Q E ∨ b vs H Q E
theorem fn_or {P : Program} {w : World} {K : Fg} {mg : Str → Option Value} {base : Heap} {CX : CXT} {k : Nat} {f : Addr} {fd : FuncData} {ps : List Str} {a b : Sp} (A : FnOk P w K mg base CX k f fd ps a) (B : FnOk P w K mg base CX k f fd ps b) : FnOk P w K mg base CX k f fd ps (spOr a b) :=
  ⟨fun vs H Q E h => h.elim (A.len vs H Q E) (B.len vs H Q E), fun Ar outer s H args us vs Q E hr he hb hv hs => hs.elim (A.run Ar outer s H args us vs Q E hr he hb hv) (B.run Ar outer s H args us vs Q E hr he hb hv)⟩
/-- o[i].m(o[j]): of one, or of two -/
def oIx2 {C R : Type} (fQ : Bq C × Unit → Option (RB (C × Unit) R)) (f2 : Br C × Br C × Unit → Option (RB (C × C × Unit) R)) (x : Ol C) (mi mj : Option Int) : Option (RB (Ol C) R) :=
  mi.bind fun i => mj.bind fun j => (ixN x.xs.length i).bind fun a => (ixN x.xs.length j).bind fun b => (x.xs[a]?).bind fun y => (x.xs[b]?).bind fun z =>
    if a = b then (fQ (Bq.mk y, ())).map fun r => RB.mk ⟨x.xs.set a r.b.1⟩ r.r
    else (f2 (Br.mk y, Br.mk z, ())).map fun r => RB.mk ⟨(x.xs.set a r.b.1).set b r.b.2.1⟩ r.r
section
variable {X : Cx} {Γ : List Ent} {b c : Expr} {pos p p1 p2 q1 q2 apos : Pos} {α : Type} [Flds α] {nm m : Str} {ns : List Str} {C : Addr} {k : Nat} {f : Addr} {fd : FuncData} {ps : List Str} {pl : Sem Bool}
theorem we_ix {F : Frame} {σ : St} {H Z : Hp} {i0 : Nat} {nm1 : Str} {l : Addr} {vs : List V} {v : V} {mi : Option Int} {i : Int} {Q : VK} (en : EnvOk X.K F σ H Z Γ) (hN : X.N[i0]? = some nm1) (hv : Vis X.env.scope nm1) (hd : (nm1 == ("__debug__" : Str)) = false) (hcd : (nm1 == ("__classdict__" : Str)) = false) (hpl : PlainIx b)
    (hσ : σ[i0]? = some (some (.ref l))) (hl : H l = some (.lst vs)) (hi : PX X b Γ mi) (ei : mi = some i) (ev : atI vs i = some v) (q : ∀ H' Z', Step H Z H' Z' → Q v H') : wE X (.Subscript (.Name nm1 p) b pos) σ H Q := fun pins s I =>
  (pe_ix ix_list (pe_var hN hv hd hcd) pe_w hpl).run pins s σ H Q I ⟨.ref l, hσ, hi.run F σ H Z en i ei _ fun H2 Z2 w s2 r2 => ⟨l, vs, i, v, rfl, r2, SqL.of (s2.hh _ _ hl), ev, q H2 Z2 s2⟩⟩
theorem pxb_methIx2 (i0 : Nat) {nm1 : Str} {bv : Option Nat} {R : Type} [Enc R] {fQ : Bq (Ins nm ns α) × Unit → Option (RB (Ins nm ns α × Unit) R)} {f2 : Br (Ins nm ns α) × Br (Ins nm ns α) × Unit → Option (RB (Ins nm ns α × Ins nm ns α × Unit) R)} {x : Ol (Ins nm ns α)} {mi mj : Option Int} (cl : ClsF X.K nm C) (hm : Meth X.K C m f) (hmn : m ∉ ns)
    (FQ : FnOk X.prog X.w X.K X.mg X.base CX0 k f fd ps (spM X.K fQ)) (F2 : FnOk X.prog X.w X.K X.mg X.base CX0 k f fd ps (spM X.K f2)) (hr : Room k X.A) (hb : Binds X.K fd ps [])
    (hΓ : Γ[i0]? = some (.ow bv x)) (hi : PX X b Γ mi) (hj : PX X c Γ mj) (hpb : PlainIx b := by intro _ _; rfl) (hpc : PlainIx c := by intro _ _; rfl) (hN : X.N[i0]? = some nm1 := by rfl) (hv : Vis X.env.scope nm1 := by first | exact Or.inl rfl | exact Or.inr (Or.inl rfl) | exact Or.inr (Or.inr rfl))
    (hd : (nm1 == ("__debug__" : Str)) = false := by decide) (hcd : (nm1 == ("__classdict__" : Str)) = false := by decide)
    (hst : starEach [.Subscript (.Name nm1 q2) c p2] X.env = (false, eval (.Subscript (.Name nm1 q2) c p2) X.env) :: starEach [] X.env := by rfl) (hpl : (backTo pos (starEach [] X.env)).any (·.1) = false := by rfl)
    (ht : eval (.Call (.Attribute (.Subscript (.Name nm1 q1) b p1) m apos) [.Subscript (.Name nm1 q2) c p2] [] pos) X.env = (do
      let ov ← eval (.Subscript (.Name nm1 q1) b p1) X.env
      standAt apos.atName
      let (f, first) ← holding [ov] (getMethod ov m pl)
      callWith pos f first (backTo pos (starEach [.Subscript (.Name nm1 q2) c p2] X.env)) (backToKw pos (keywordEach [] X.env))) := by rfl) :
    PXB X (.Call (.Attribute (.Subscript (.Name nm1 q1) b p1) m apos) [.Subscript (.Name nm1 q2) c p2] [] pos) Γ (oIx2 fQ f2 x mi mj) (fun y => Γ.set i0 (.ow bv y)) := .mk fun F σ H Z en z hx Q q pins s I => (pe_meth (pl := pl) pe_w cl.cl hm (fn_or FQ F2) hr hb .nil pass0 (pa_cons pe_w pa_nil hst) hst hpl ht).run pins s σ H Q I (by
  obtain ⟨i, ei, hx⟩ := Option.bind_eq_some_iff.mp hx
  obtain ⟨j, ej, hx⟩ := Option.bind_eq_some_iff.mp hx
  obtain ⟨a, ea, hx⟩ := Option.bind_eq_some_iff.mp hx
  obtain ⟨a2, ea2, hx⟩ := Option.bind_eq_some_iff.mp hx
  obtain ⟨y, ey, hx⟩ := Option.bind_eq_some_iff.mp hx
  obtain ⟨y2, ey2, hx⟩ := Option.bind_eq_some_iff.mp hx
  obtain ⟨v0, fp0, hσ, A0⟩ := en.at hΓ
  obtain ⟨l, vs, fe, e0, hl, o, hc, hdl⟩ := id A0.own
  subst e0
  obtain ⟨v, _, _, ev, ov, _⟩ := o.focus ey
  obtain ⟨w, _, _, ew, _⟩ := o.focus ey2
  have av : atI vs i = some v := by unfold atI; rw [o.len, ea]; exact ev
  have aw : atI vs j = some w := by unfold atI; rw [o.len, ea2]; exact ew
  refine we_ix en hN hv hd hcd hpb hσ hl hi ei av fun H1 Z1 s1 => ?_
  have A1 := A0.step s1
  obtain ⟨l1, vs1, fe1, e1, hl1, o1, hc1, hdl1⟩ := id A1.own
  cases e1
  obtain ⟨v', f1, fr, ev', ov1, i1, d1, m1, k1⟩ := o1.focus ey
  have hvs : vs1 = vs := by
    have := s1.hh _ _ hl
    rw [hl1] at this
    cases this
    rfl
  subst hvs
  rw [ev] at ev'
  cases ev'
  obtain ⟨lx, D, dx, fs, fe3, e3, hlx, hcl, of1, hcx, hdx⟩ := id ov1
  cases hcl.same cl.is
  subst e3
  refine ⟨lx, dx, fs, rfl, hlx, Flds.nokey of1 hmn, we_ix (en.step s1) hN hv hd hcd hpc hσ hl1 hj ej aw fun H2 Z2 s2 => ?_⟩
  have A2 := A1.step s2
  obtain ⟨l2, vs2, fe2, e2, hl2, o2, hc2, hdl2⟩ := id A2.own
  cases e2
  have hvs2 : vs2 = vs1 := by
    have := s2.hh _ _ hl1
    rw [hl2] at this
    cases this
    rfl
  subst hvs2
  by_cases hab : a = a2
  · subst hab
    rw [if_pos rfl] at hx
    obtain ⟨r, hr1, rfl⟩ := Option.map_eq_some_iff.mp hx
    rw [ev] at ew
    cases ew
    obtain ⟨v2, f1, fr, ev2, ow, i1, d1, m1, k1⟩ := o2.focus ey
    rw [ev] at ev2
    cases ev2
    show spOr (spM X.K fQ) (spM X.K f2) [V.ref lx, V.ref lx] H2 Q E0
    refine Or.inl ⟨Z2, (Bq.mk y, ()), r, [.ref lx], f1, s2.zh, ⟨_, [], [], rfl, rfl, rfl, rfl⟩, ⟨.ref lx, [], f1, Fp.no, rfl, ow, ⟨rfl, fun _ f => f⟩, fun a => ⟨.inl, fun f => by rcases f with f | f; exact f; exact f.elim⟩, fun _ _ f => f⟩, fun p f => (A2.out p ((hc2 p).mpr (.inr ((i1 p).mpr (.inl f))))).2, hr1, fun H3 Z3 u fp2 g oo r3 => ?_⟩
    obtain ⟨w', rr, t1, t2, e, ow1, ow2, i2, d2⟩ := oo
    cases e
    have n2 : ∀ p, ¬ t2 p := ow2.2
    have g1 : ∀ p, t1 p → (f1 p ∨ H2 p = none) ∧ Z3 p = none := fun p f => g.out p ((i2 p).mpr (.inl f))
    have nl : ∀ p, fr p → ¬ t1 p := fun p r f => by
      obtain ⟨u, hu, _⟩ := m1 p r
      rcases (g1 p f).1 with q | q
      · exact d1 p q r
      · rw [q] at hu; cases hu
    have nf : ¬ f1 l := fun q => hdl2 ((i1 l).mpr (.inl q))
    have nf2 : ¬ t1 l := fun f => by
      rcases (g1 l f).1 with q | q
      · exact nf q
      · rw [q] at hl2; cases hl2
    have keep : ∀ p, fr p → H3 p = H2 p := fun p r => by
      obtain ⟨u, hu, _⟩ := m1 p r
      rw [hu]; exact g.hh p u hu (fun q => d1 p q r)
    refine q H3 Z3 u (A2.put H3 Z3 ⟨x.xs.set a r.b.1⟩ (fun p => p = l ∨ t1 p ∨ fr p) ⟨fun p u hu n => g.hh p u hu (fun q => n ((hc2 p).mpr (.inr ((i1 p).mpr (.inl q))))), g.zz, g.zh, fun p u hu n => g.old p u hu (fun q => n ((hc2 p).mpr (.inr ((i1 p).mpr (.inl q))))), fun p f => ?_⟩ ⟨l, vs2, fun p => t1 p ∨ fr p, rfl, g.hh l _ hl2 nf, ?_, fun _ => Iff.rfl, fun f => ?_⟩) r3
    · rcases f with q | q | q
      · subst q
        exact ⟨.inl ((hc2 p).mpr (.inl rfl)), (g.old p _ hl2 nf).trans (A2.out p ((hc2 p).mpr (.inl rfl))).2⟩
      · refine ⟨?_, (g1 p q).2⟩
        rcases (g1 p q).1 with q | q
        · exact .inl ((hc2 p).mpr (.inr ((i1 p).mpr (.inl q))))
        · exact .inr q
      · obtain ⟨u, hu, _⟩ := m1 p q
        exact ⟨.inl ((hc2 p).mpr (.inr ((i1 p).mpr (.inr q)))), (g.old p u hu (fun q2 => d1 p q2 q)).trans (A2.out p ((hc2 p).mpr (.inr ((i1 p).mpr (.inr q))))).2⟩
    · have := k1 Z3 H3 (.ref lx) r.b.1 t1 g.zz keep ow1 (fun p q r => nl p r q)
      rw [list_set_self ev] at this
      exact this
    · rcases f with q | q
      · exact nf2 q
      · exact hdl2 ((i1 l).mpr (.inr q))
  · rw [if_neg hab] at hx
    obtain ⟨r, hr1, rfl⟩ := Option.map_eq_some_iff.mp hx
    obtain ⟨v2, w2, f1, f2, fr, ev2, ew2, ow, ow', i1, d1, m1, k1⟩ := o2.two ey ey2 hab
    rw [ev] at ev2
    cases ev2
    rw [ew] at ew2
    cases ew2
    have inl : ∀ p, f1 p ∨ f2 p → fp0 p := fun p f => (hc2 p).mpr (.inr ((i1 p).mpr (by rcases f with f | f <;> simp [f])))
    show spOr _ (spM X.K _) [V.ref lx, w] H2 Q E0
    refine Or.inr ⟨Z2, (Br.mk y, Br.mk y2, ()), r, [.ref lx, w], (fun p => f1 p ∨ f2 p), s2.zh, ⟨_, _, _, rfl, rfl, _, _, _, rfl, rfl, rfl, rfl⟩, ⟨.ref lx, [w], f1, f2, rfl, ow, ⟨w, [], f2, Fp.no, rfl, ow', ⟨rfl, fun _ f => f⟩, fun a => ⟨.inl, fun f => by rcases f with f | f; exact f; exact f.elim⟩, fun _ _ f => f⟩, fun _ => Iff.rfl, fun p => (d1 p).1⟩, fun p f => (A2.out p (inl p f)).2, hr1, fun H3 Z3 u fp2 g oo r3 => ?_⟩
    obtain ⟨w', rr, t1, tt, e, ow1, oo2, i2, d2⟩ := oo
    cases e
    obtain ⟨w'', rr2, t2, t3, e, ow2, oo3, i3, d3⟩ := oo2
    cases e
    have n3 : ∀ p, ¬ t3 p := oo3.2
    have g12 : ∀ p, t1 p ∨ t2 p → ((f1 p ∨ f2 p) ∨ H2 p = none) ∧ Z3 p = none := fun p f => g.out p ((i2 p).mpr (by
      rcases f with f | f
      · exact .inl f
      · exact .inr ((i3 p).mpr (.inl f))))
    have dd : ∀ p, fr p → ¬ (f1 p ∨ f2 p) := fun p r f => by
      rcases f with f | f
      · exact (d1 p).2.1 f r
      · exact (d1 p).2.2 f r
    have nl : ∀ p, fr p → ¬ (t1 p ∨ t2 p) := fun p r f => by
      obtain ⟨u, hu⟩ := m1 p r
      rcases (g12 p f).1 with q | q
      · exact dd p r q
      · rw [q] at hu; cases hu
    have nf : ¬ (f1 l ∨ f2 l) := fun q => hdl2 ((i1 l).mpr (by rcases q with q | q <;> simp [q]))
    have nf2 : ¬ (t1 l ∨ t2 l) := fun f => by
      rcases (g12 l f).1 with q | q
      · exact nf q
      · rw [q] at hl2; cases hl2
    have keep : ∀ p, fr p → H3 p = H2 p := fun p r => by
      obtain ⟨u, hu⟩ := m1 p r
      rw [hu]; exact g.hh p u hu (dd p r)
    refine q H3 Z3 u (A2.put H3 Z3 ⟨(x.xs.set a r.b.1).set a2 r.b.2.1⟩ (fun p => p = l ∨ t1 p ∨ t2 p ∨ fr p) ⟨fun p u hu n => g.hh p u hu (fun q => n (inl p q)), g.zz, g.zh, fun p u hu n => g.old p u hu (fun q => n (inl p q)), fun p f => ?_⟩ ⟨l, vs2, fun p => t1 p ∨ t2 p ∨ fr p, rfl, g.hh l _ hl2 nf, ?_, fun _ => Iff.rfl, fun f => ?_⟩) r3
    · have both : t1 p ∨ t2 p → (fp0 p ∨ H2 p = none) ∧ Z3 p = none := fun q => by
        refine ⟨?_, (g12 p q).2⟩
        rcases (g12 p q).1 with q | q
        · exact .inl (inl p q)
        · exact .inr q
      rcases f with q | q | q | q
      · subst q
        exact ⟨.inl ((hc2 p).mpr (.inl rfl)), (g.old p _ hl2 nf).trans (A2.out p ((hc2 p).mpr (.inl rfl))).2⟩
      · exact both (.inl q)
      · exact both (.inr q)
      · obtain ⟨u, hu⟩ := m1 p q
        have := (hc2 p).mpr (.inr ((i1 p).mpr (.inr (.inr q))))
        exact ⟨.inl this, (g.old p u hu (dd p q)).trans (A2.out p this).2⟩
    · exact k1 Z3 H3 r.b.1 r.b.2.1 t1 t2 g.zz keep ow1 ow2 (fun p => ⟨fun a b => d2 p a ((i3 p).mpr (.inl b)), fun a b => nl p b (.inl a), fun a b => nl p b (.inr a)⟩)
    · rcases f with q | q | q
      · exact nf2 (.inl q)
      · exact nf2 (.inr q)
      · exact hdl2 ((i1 l).mpr (.inr (.inr q))))
end
end G
/-! GUnp: a tuple of three owned things, taken apart. -/
namespace G
open PySem L2
theorem EnvOk.split3 {K : Fg} {F : Frame} {σ : St} {H Z : Hp} {Γ : List Ent} {α β γ : Type} [Enc α] [Enc β] [Enc γ] [Own α] [Own β] [Own γ] {v : V} {x : P3 α β γ} (hl : σ.length = Γ.length) (e : EnvOk K F (σ ++ [some v]) H Z (Γ ++ [.ow none x])) :
    ∃ p v1 v2 v3, v = .ref p ∧ Z p = some (.tup [v1, v2, v3]) ∧ EnvOk K F (σ ++ [some v1, some v2, some v3]) H Z (Γ ++ [.ow none x.a, .ow none x.b, .ow none x.c]) := by
  obtain ⟨fp, h, hd⟩ := e.ent
  obtain ⟨o, ho, w, e1, _, ⟨p, v1, v2, v3, f1, f2, f3, e2, hz, r1, r2, r3, hc, hdd⟩, q⟩ := h Γ.length (.ow none x) (by rw [List.getElem?_append_right (Nat.le_refl _)]; simp)
  rw [List.getElem?_append_right (by omega)] at ho
  simp [hl] at ho
  rw [← ho] at e1
  cases e1
  refine ⟨p, v1, v2, v3, e2, hz, e.hh, e.zz, e.zh, e.old, by simp only [List.length_append, List.length_cons, List.length_nil]; omega, fun j => if j < Γ.length then fp j else if j = Γ.length then f1 else if j = Γ.length + 1 then f2 else if j = Γ.length + 2 then f3 else Fp.no, fun j t ht => ?_, fun j k a hjk g1 g2 => ?_⟩
  · dsimp only
    by_cases jl : j < Γ.length
    · rw [List.getElem?_append_left jl] at ht
      obtain ⟨o2, ho2, q2⟩ := h j t (by rw [List.getElem?_append_left jl]; exact ht)
      rw [List.getElem?_append_left (by omega)] at ho2
      exact ⟨o2, by rw [List.getElem?_append_left (by omega)]; exact ho2, by rw [if_pos jl]; exact q2⟩
    · rw [List.getElem?_append_right (by omega)] at ht
      rw [List.getElem?_append_right (by omega), hl, if_neg jl]
      rcases hj : j - Γ.length with _ | _ | _ | n
      · rw [hj] at ht
        cases ht
        rw [if_pos (by omega)]
        exact ⟨_, rfl, v1, rfl, (fun _ h => by cases h), r1, fun a f => q a ((hc a).mpr (.inl f))⟩
      · rw [hj] at ht
        cases ht
        rw [if_neg (by omega), if_pos (by omega)]
        exact ⟨_, rfl, v2, rfl, (fun _ h => by cases h), r2, fun a f => q a ((hc a).mpr (.inr (.inl f)))⟩
      · rw [hj] at ht
        cases ht
        rw [if_neg (by omega), if_neg (by omega), if_pos (by omega)]
        exact ⟨_, rfl, v3, rfl, (fun _ h => by cases h), r3, fun a f => q a ((hc a).mpr (.inr (.inr f)))⟩
      · rw [hj] at ht
        cases ht
  · dsimp only at g1 g2
    have key : ∀ j a, (if j < Γ.length then fp j else if j = Γ.length then f1 else if j = Γ.length + 1 then f2 else if j = Γ.length + 2 then f3 else Fp.no) a → (j < Γ.length ∧ fp j a) ∨ (j = Γ.length ∧ f1 a) ∨ (j = Γ.length + 1 ∧ f2 a) ∨ (j = Γ.length + 2 ∧ f3 a) := fun j a f => by
      by_cases c1 : j < Γ.length
      · rw [if_pos c1] at f; exact .inl ⟨c1, f⟩
      · rw [if_neg c1] at f
        by_cases c2 : j = Γ.length
        · rw [if_pos c2] at f; exact .inr (.inl ⟨c2, f⟩)
        · rw [if_neg c2] at f
          by_cases c3 : j = Γ.length + 1
          · rw [if_pos c3] at f; exact .inr (.inr (.inl ⟨c3, f⟩))
          · rw [if_neg c3] at f
            by_cases c4 : j = Γ.length + 2
            · rw [if_pos c4] at f; exact .inr (.inr (.inr ⟨c4, f⟩))
            · rw [if_neg c4] at f; exact f.elim
    have up : ∀ j a, (j = Γ.length ∧ f1 a) ∨ (j = Γ.length + 1 ∧ f2 a) ∨ (j = Γ.length + 2 ∧ f3 a) → fp Γ.length a := fun j a f => (hc a).mpr (by rcases f with ⟨_, f⟩ | ⟨_, f⟩ | ⟨_, f⟩ <;> simp [f])
    rcases key j a g1 with ⟨j1, g1⟩ | jj
    · rcases key k a g2 with ⟨k1, g2⟩ | kk
      · exact hd j k a hjk g1 g2
      · exact hd j _ a (by omega) g1 (up k a kk)
    · rcases key k a g2 with ⟨k1, g2⟩ | kk
      · exact hd k _ a (by omega) g2 (up j a jj)
      · have d := hdd a
        rcases jj with ⟨j1, g1⟩ | ⟨j1, g1⟩ | ⟨j1, g1⟩ <;> rcases kk with ⟨k1, g2⟩ | ⟨k1, g2⟩ | ⟨k1, g2⟩
        · omega
        · exact d.1 g1 g2
        · exact d.2.1 g1 g2
        · exact d.1 g2 g1
        · omega
        · exact d.2.2 g1 g2
        · exact d.2.1 g2 g1
        · exact d.2.2 g2 g1
        · omega
section
variable {X : Cx} {W : WX} {ER : ExS} {rest : List Stmt} {e : Expr} {pos pos2 : Pos} {Γ : List Ent} {N L R : Type} [Res R] {GN : N → List Ent} {GL : L → List Ent} {o : Fl N L R} {α β γ : Type} [Enc α] [Enc β] [Enc γ]
theorem bx_unp3 (i j k' : Nat) {n1 n2 n3 : Str} {p1 p2 p3 p4 : Pos} {ct : Nat} {Γ' : List Ent} [Own α] [Own β] [Own γ] {m : Option (P3 α β γ)} {k : P3 α β γ → Option (Fl N L R)} (hN : X.N.Nodup) (hc : X.calm = true) (hx : PRT X e Γ Γ' m) (h : m.bind k = some o) (hr : ∀ x, k x = some o → BX X W ER rest (((Γ'.set i (.ow none x.a)).set j (.ow none x.b)).set k' (.ow none x.c)) GN GL o)
    (hi : X.N[i]? = some n1 := by rfl) (hj : X.N[j]? = some n2 := by rfl) (hk : X.N[k']? = some n3 := by rfl) (hl1 : Loc X.env.scope n1 := by first | exact Or.inl rfl | exact Or.inr rfl) (hl2 : Loc X.env.scope n2 := by first | exact Or.inl rfl | exact Or.inr rfl) (hl3 : Loc X.env.scope n3 := by first | exact Or.inl rfl | exact Or.inr rfl)
    (hf1 : X.fn n1 = true ∨ X.env.scope.names.lookup n1 = some .local := by first | exact .inl rfl | exact .inr rfl) (hf2 : X.fn n2 = true ∨ X.env.scope.names.lookup n2 = some .local := by first | exact .inl rfl | exact .inr rfl) (hf3 : X.fn n3 = true ∨ X.env.scope.names.lookup n3 = some .local := by first | exact .inl rfl | exact .inr rfl)
    (hs : swapsWithSole [.Tuple [.Name n1 p1, .Name n2 p2, .Name n3 p3] ct p4] e pos.line X.env = pure false := by rfl) (hw : swappedStores [.Tuple [.Name n1 p1, .Name n2 p2, .Name n3 p3] ct p4] e X.env = pure none := by rfl) (h0 : (assignEach [.Tuple [.Name n1 p1, .Name n2 p2, .Name n3 p3] ct p4] X.env).map (·.2) = [assign (.Tuple [.Name n1 p1, .Name n2 p2, .Name n3 p3] ct p4) X.env] := by rfl)
    (hn : (assignEach [.Name n1 p1, .Name n2 p2, .Name n3 p3] X.env).length = 3 := by rfl) (hst : (assignEach [.Name n1 p1, .Name n2 p2, .Name n3 p3] X.env).findIdx? (·.1) = none := by rfl) (h1 : (assignEach [.Name n1 p1, .Name n2 p2, .Name n3 p3] X.env).map (·.2) = assign (.Name n1 p1) X.env :: (assignEach [.Name n2 p2, .Name n3 p3] X.env).map (·.2) := by rfl)
    (h2 : (assignEach [.Name n2 p2, .Name n3 p3] X.env).map (·.2) = assign (.Name n2 p2) X.env :: (assignEach [.Name n3 p3] X.env).map (·.2) := by rfl) (h3' : (assignEach [.Name n3 p3] X.env).map (·.2) = assign (.Name n3 p3) X.env :: (assignEach [] X.env).map (·.2) := by rfl) : BX X W ER (.Assign [.Tuple [.Name n1 p1, .Name n2 p2, .Name n3 p3] ct p4] e pos :: rest) Γ GN GL o := by
  obtain ⟨x, h3, h4⟩ := Option.bind_eq_some_iff.mp h
  refine bx_cons (ps_asg pe_w (pg_tup hc (pgs_cons (pg_name hN hi hl1 hf1) (pgs_cons (pg_name hN hj hl2 hf2) (pgs_cons (pg_name hN hk hl3 hf3) pgs_nil h3') h2) h1) hn hst) hs hw h0) fun F D ac σ H Z en => hx.run F σ [] [] H Z en.len (by rw [List.append_nil, List.append_nil]; exact en) x h3 _ fun H' Z' v s en' => ?_
  have hl : σ.length = Γ'.length := by rw [hx.len]; exact en.len
  obtain ⟨p, v1, v2, v3, e1, hz, en2⟩ := EnvOk.split3 hl en'
  subst e1
  refine ⟨p, [v1, v2, v3], rfl, SqT.of (en'.zh _ _ hz), rfl, v1, [v2, v3], rfl, v2, [v3], rfl, v3, [], rfl, rfl, ?_⟩
  have en3 := EnvOk.settle i hl en2
  have en4 := EnvOk.settle j (by rw [List.length_set, List.length_set]; exact hl) en3
  have en5 := EnvOk.settle k' (by rw [List.length_set, List.length_set, List.length_set, List.length_set]; exact hl) en4
  rw [List.append_nil, List.append_nil] at en5
  exact (hr x h4).run F D ac _ _ Z' en5
end
end G
/-! GHl: a list of so many things, each of its kind. -/
namespace G
open PySem L2
structure Hl (B : Type) where
  x : B
class OwnH (B : Type) [OwnB B] [EncA B] : Prop where
  froz : ∀ {K : Fg} {Z H Z' : Hp} {vs : List V} {b : B} {fp : Fp}, OwnB.own K Z H vs b fp → Same Z Z' → (∀ a, fp a → Z' a = H a) → EncA.rel K Z' vs b
instance : OwnH Unit := ⟨fun h _ _ => h.1⟩
instance {C B : Type} [Enc C] [Own C] [OwnB B] [EncA B] [OwnH B] : OwnH (C × B) := ⟨fun ⟨v, r, f1, f2, e, h1, h2, h3, h4⟩ s g => ⟨v, r, e, Own.froz h1 s (fun a q => g a ((h3 a).mpr (.inl q))), OwnH.froz h2 s (fun a q => g a ((h3 a).mpr (.inr q)))⟩⟩
class FlatH (B : Type) [OwnB B] : Prop where
  flo : ∀ {K : Fg} {Z Z' H : Hp} {vs : List V} {b : B} {fp : Fp}, (∀ a xs, Z a = some (.tup xs) → Z' a = some (.tup xs)) → OwnB.own K Z H vs b fp → OwnB.own K Z' H vs b fp
instance : FlatH Unit := ⟨fun _ h => h⟩
instance {C B : Type} [Enc C] [Own C] [FlatO C] [OwnB B] [FlatH B] : FlatH (C × B) := ⟨fun s ⟨v, r, f1, f2, e, h1, h2, h3, h4⟩ => ⟨v, r, f1, f2, e, FlatO.flo s h1, FlatH.flo s h2, h3, h4⟩⟩
instance {B : Type} [EncA B] : Enc (Hl B) := ⟨fun K Z v x => ∃ l vs, v = .ref l ∧ Z l = some (.lst vs) ∧ EncA.rel K Z vs x.x, fun s ⟨l, vs, e, h, r⟩ => ⟨l, vs, e, s _ _ h, EncA.mono s r⟩⟩
section
variable {B : Type} [OwnB B] [EncA B] [OwnH B]
instance : Own (Hl B) where
  own K Z H v x fp := ∃ (l : Addr) (vs : List V) (fe : Fp), v = .ref l ∧ H l = some (.lst vs) ∧ OwnB.own K Z H vs x.x fe ∧ (∀ a, fp a ↔ a = l ∨ fe a) ∧ ¬ fe l
  omono := fun s g ⟨l, vs, fe, e, h, o, hc, hd⟩ => ⟨l, vs, fe, e, (g l ((hc l).mpr (.inl rfl))).trans h, OwnB.omono s (fun a q => g a ((hc a).mpr (.inr q))) o, hc, hd⟩
  odom := fun ⟨l, vs, fe, e, h, o, hc, hd⟩ f => by
    rcases (hc _).mp f with q | q
    · subst q
      exact ⟨_, h, fun ys z => by cases z⟩
    · exact OwnB.odom o q
  froz := fun ⟨l, vs, fe, e, h, o, hc, hd⟩ s g => ⟨l, vs, e, (g l ((hc l).mpr (.inl rfl))).trans h, OwnH.froz o s (fun a q => g a ((hc a).mpr (.inr q)))⟩
instance [FlatH B] : FlatO (Hl B) := ⟨fun s ⟨l, vs, fe, e, h, o, hc, hd⟩ => ⟨l, vs, fe, e, h, FlatH.flo s o, hc, hd⟩⟩
end
section
variable {X : Cx} {Γ : List Ent} {e : Expr} {es : List Expr} {pos : Pos}
/-- new things, each of its kind, written one behind another -/
structure PHB (X : Cx) (es : List Expr) (Γ : List Ent) {B : Type} [OwnB B] (m : Option B) : Prop where
  run : ∀ (F : Frame) (σ : St) (H Z : Hp), EnvOk X.K F σ H Z Γ → ∀ x, m = some x → ∀ Q : List V → Hp → Prop, (∀ H' Z' vs fp, Step H Z H' Z' → OwnB.own X.K Z' H' vs x fp → (∀ a, fp a → H a = none ∧ Z' a = none) → Q vs H') → wA X es σ H Q
theorem phb_nil : PHB X [] Γ (some ()) := .mk fun F σ H Z en x hx Q q pos pins s I => pa_nil.run pos pins s σ H Q I (by cases hx; exact q H Z [] Fp.no (Step.refl en.zh) ⟨rfl, fun _ f => f⟩ (fun _ f => f.elim))
theorem phb_cons {C B : Type} [Enc C] [Own C] [OwnB B] {m : Option C} {ms : Option B} (ha : PNO X e Γ m) (hr : PHB X es Γ ms) (hs : starEach (e :: es) X.env = (false, eval e X.env) :: starEach es X.env := by rfl) : PHB X (e :: es) Γ (oPair m ms) :=
  .mk fun F σ H Z en x hx Q q pos pins s I => (pa_cons pe_w pa_w hs).run pos pins s σ H Q I (by
    obtain ⟨y, hy, hx⟩ := Option.bind_eq_some_iff.mp hx
    obtain ⟨ys, hys, hx⟩ := Option.bind_eq_some_iff.mp hx
    cases hx
    refine ha.run F σ H Z en y hy _ fun H1 Z1 v f1 n1 => hr.run F σ H1 Z1 (en.step n1.st) ys hys _ fun H2 Z2 vs f2 s2 o2 out2 => ?_
    have n2 := n1.step s2
    refine q H2 Z2 (v :: vs) (fun a => f1 a ∨ f2 a) (n1.st.trans s2) ⟨v, vs, f1, f2, rfl, n2.own, o2, fun _ => Iff.rfl, fun a q1 q2 => ?_⟩ fun a f => ?_
    · obtain ⟨u, hu, _⟩ := Own.odom n1.own q1
      rw [(out2 a q2).1] at hu; cases hu
    · rcases f with f | f
      · exact n2.out a f
      · exact ⟨n1.st.hh.free (out2 a f).1, (out2 a f).2⟩)
theorem pno_hl {B : Type} [OwnB B] [EncA B] [OwnH B] {m : Option B} (h : PHB X es Γ m) (hz : OwnB.blen0 B ≤ sizeLine := by decide) : PNO X (.List es pos) Γ (m.map Hl.mk) := .mk fun F σ H Z en x hx Q q pins s I => (pe_lst pa_w).run pins s σ H Q I (by
  obtain ⟨ys, hys, rfl⟩ := Option.map_eq_some_iff.mp hx
  refine h.run F σ H Z en ys hys _ fun H1 Z1 vs fp s1 o1 out1 => ⟨by rw [OwnB.blen o1]; exact hz, fun p hp => ?_⟩
  have np : ¬ fp p := fun f => by obtain ⟨u, hu, _⟩ := OwnB.odom o1 f; rw [hp] at hu; cases hu
  have s2 := Step.newH (o := .lst vs) s1.zh hp
  refine q _ Z1 (.ref p) (fun a => a = p ∨ fp a) ⟨s1.trans s2, ⟨p, vs, fp, rfl, upd_same, OwnB.omono (Same.refl _) (fun a f => upd_ne (fun e => np (e ▸ f))) o1, fun _ => Iff.rfl, np⟩, fun a f => ?_⟩
  rcases f with f | f
  · subst f
    exact ⟨s1.hh.free hp, s1.zh.free hp⟩
  · exact out1 a f)
end
/-! == of them -/
class DatA (B : Type) [EncA B] where
  ds : B → List PyData
  dps : ∀ {K : Fg} {Z H : Hp} {vs : List V} {x : B}, Same Z H → EncA.rel K Z vs x → DpAll K H vs (ds x)
instance : DatA Unit := ⟨fun _ => [], fun s h => by have h : _ = [] := h; subst h; exact .nil⟩
instance {α B : Type} [Enc α] [DatD α] [EncA B] [DatA B] : DatA (α × B) := ⟨fun x => DatD.d x.1 :: DatA.ds x.2, fun s ⟨v, r, e, h1, h2⟩ => by subst e; exact .cons (DatD.dp s h1) (DatA.dps s h2)⟩
instance {B : Type} [EncA B] [DatA B] : DatD (Hl B) := ⟨fun x => .list (DatA.ds x.x), fun s ⟨l, vs, e, h, r⟩ => by subst e; exact .lst (SqL.of (s _ _ h)) (DatA.dps s r)⟩
end G
namespace G
open PySem L2
section
variable {X : Cx} {W : WX} {ER : ExS} {rest : List Stmt} {e : Expr} {pos : Pos} {Γ : List Ent} {N L : Type}
/-- return f(..), f changes what it is lent -/
theorem bx_retBx {B B' Rr : Type} [OwnB B'] [Enc Rr] {GN : N → List Ent} {GL : L → List Ent} {o : Fl N L (RB B' Rr)} {m : Option (RB B Rr)} {T : B → List Ent} {g : B → B'} (is : List Nat) (hx : PXB X e Γ m T) (h : (m.bind fun x => some (.rt (RB.mk (g x.b) x.r))) = some o) (ho : ∀ b, OwnB.outs 0 is (g b) (T b)) (nd : is.Nodup := by decide) : BX X W ER (.Return (some e) pos :: rest) Γ GN GL o := by
  obtain ⟨x, h1, h2⟩ := Option.bind_eq_some_iff.mp h
  cases h2
  refine bx_cons (ps_ret pe_w) fun F D ac σ H Z en => hx.run F σ H Z en x h1 _ fun H' Z' v en' r => ?_
  obtain ⟨fp, hen, _⟩ := en'.ent
  obtain ⟨bs, rr, e1, vl⟩ := OwnB.ovals (ho x.b) hen
  obtain ⟨fp', ow, out, _⟩ := en'.focusB (OwnB.oin (ho x.b)) nd vl
  exact ac H' Z' v ⟨fp', bs, rr, en'.stp, by simpa using e1, ow, out, r⟩
end
end G
/-! GEnumRev: enumerate(reversed(list)). -/
namespace PySem
open Sem (wp)
open AutoSeq1 (wpAny_loadPart')
section
variable {prog : Program} {w : World} {A : Around} {E : Value → Shared → Prop} {s : Shared}
theorem wpAny_nextOf_rev_item {it l : Addr} {i : Nat} {items : Array Value} {x : Value} {Q : Value → Shared → Prop} (hit : s.heap.IsRevIter it l (i : Int)) (hl : s.heap.IsList l items) (hx : items[i]? = some x)
    (hQ : ∀ h', h'.IsRevIter it l ((i : Int) - 1) → Heap.SameBut it s.heap h' → Q x { s with heap := h' }) : wpAny (model prog w) A (Builtin.SmallTypes.nextOf (.ref it)) Q E s := by
  obtain ⟨o, ho, hc, hd⟩ := id hit
  obtain ⟨ol, hol, _, nl, hdl⟩ := hl
  unfold Builtin.SmallTypes.nextOf
  refine wpAny_bind (wpAny_callSpecial?_slot (name := Str.ofString "__next__") hit.typeIs F.slot_lri_next
    (wpAny_call_entry F.slot_lri_next hit.typeIs F.entry_lri_next ?_ (F.args_lri_next_1 _)))
  unfold Builtin.«list_reverseiterator.__next__»
  refine wpAny_bind (wpAny_of_eq (a := (Value.ref it, [])) rfl ?_)
  try dsimp only
  refine wpAny_bind (wpAny_field ho hd (x := rawInt (i : Int)) rfl ?_)
  show wpAny _ _ (if (i : Int) < 0 then _ else _) _ _ s
  rw [if_neg (by omega)]
  show wpAny _ _ (field (.ref it) 0 >>= _) _ _ s
  refine wpAny_bind (wpAny_field ho hd (x := .ref l) rfl ?_)
  show wpAny _ _ (seqItems? (.ref l) >>= _) _ _ s
  refine wpAny_bind (wpAny_seqItems hol hdl ?_)
  simp only [Int.toNat_natCast, hx]
  refine wpAny_bind (wpAny_setField ho hd (by simp) ?_)
  first
  | refine wpAny_pure ⟨x, rfl, wpAny_pure (hQ _ ?_ (Heap.SameBut.update ..))⟩
  | refine wpAny_bind (wpAny_pure (wpAny_pure ⟨x, rfl, wpAny_pure (hQ _ ?_ (Heap.SameBut.update ..))⟩))
  exact ⟨_, Heap.get?_update_self _ ho (Obj.isFreed_of_fields (Obj.data_mapFields hd _)), (Obj.cls_mapFields ..).trans hc, by
    rw [Obj.data_mapFields hd]; simp⟩
theorem wpAny_nextOf_rev_end {it l : Addr} {Q : Value → Shared → Prop} (hh : A.handled = none) (hit : s.heap.IsRevIter it l (-1))
    (hE : ∀ h' e, Heap.ExtBut it s.heap h' → (∃ o, h'.get? e = some o ∧ o.cls = .type "StopIteration") → E (.ref e) { s with heap := h' }) : wpAny (model prog w) A (Builtin.SmallTypes.nextOf (.ref it)) Q E s := by
  obtain ⟨o, ho, hc, hd⟩ := id hit
  unfold Builtin.SmallTypes.nextOf
  refine wpAny_bind (wpAny_callSpecial?_slot (name := Str.ofString "__next__") hit.typeIs F.slot_lri_next
    (wpAny_call_entry F.slot_lri_next hit.typeIs F.entry_lri_next ?_ (F.args_lri_next_1 _)))
  unfold Builtin.«list_reverseiterator.__next__»
  refine wpAny_bind (wpAny_of_eq (a := (Value.ref it, [])) rfl ?_)
  try dsimp only
  refine wpAny_bind (wpAny_field ho hd (x := rawInt (-1)) rfl ?_)
  show wpAny _ _ (if (-1 : Int) < 0 then _ else _) _ _ s
  rw [if_pos (by decide)]
  refine wpAny_bind (wpAny_rule ?_)
  first
  | show wpAny _ _ (newExc (.type "StopIteration") [] >>= _) _ _ _
  | (refine wpAny_bind ?_; show wpAny _ _ (newExc (.type "StopIteration") [] >>= _) _ _ _)
  refine wpAny_bind ?_
  simp only [newExc, newTuple]
  refine wpAny_bind (wpAny_newObj_type ?_ (by size_fits))
  refine wpAny_bind (m := firstArgMember _ _) (wpAny_of_eq (a := Value.none) (by first | rfl | (simp only [firstArgMember]; rfl)) ?_)
  refine wpAny_newObj_type ?_ (by size_fits)
  simp only [raiseNew]
  refine wpAny_bind (wpAny_handled ?_)
  first | rw [show A.in1.handled = none from hh] | rw [hh]
  refine wpAny_bind (wpAny_pure (wpAny_throw ?_))
  exact hE _ _ (((Heap.ExtBut.refl _ _).push _).push _) ⟨_, Heap.get?_push_size _ rfl, rfl⟩
end
theorem Draws.rev {prog : Program} {w : World} {A : Around} (hh : A.handled = none) (it l : Addr) (hne : l ≠ it) (items : Array Value) :
    Draws prog w A it [it, l] items.size (fun i v => items[items.size - 1 - i]? = some v) (fun i h => i ≤ items.size ∧ h.IsRevIter it l ((items.size : Int) - 1 - (i : Int)) ∧ h.IsList l items) where
  live := fun _ _ st => let ⟨o, ho, _⟩ := st.2.1; ⟨o, ho⟩
  frame := fun _ _ _ st hk => ⟨st.1, st.2.1.at fun o e => hk it (by simp) o e, st.2.2.at fun o e => hk l (by simp) o e⟩
  item := fun i s Q E hi st hQ => by
    have e : (items.size : Int) - 1 - (i : Int) = ((items.size - 1 - i : Nat) : Int) := by omega
    have hit := st.2.1
    rw [e] at hit
    have hx : items[items.size - 1 - i]? = some (items[items.size - 1 - i]'(by omega)) := Array.getElem?_eq_getElem (by omega)
    refine wpAny_nextOf_rev_item hit st.2.2 hx fun h' hit' hs' => ?_
    have e2 : ((items.size - 1 - i : Nat) : Int) - 1 = (items.size : Int) - 1 - ((i + 1 : Nat) : Int) := by omega
    rw [e2] at hit'
    exact hQ _ h' s.toks hx ⟨hi, hit', st.2.2.extBut hs'.extBut hne⟩ hs'
  done := fun s Q E st hE => by
    have e : (items.size : Int) - 1 - (items.size : Int) = -1 := by omega
    have hit := st.2.1
    rw [e] at hit
    exact wpAny_nextOf_rev_end hh hit hE
theorem Draws.revEnd {prog : Program} {w : World} {A : Around} (hh : A.handled = none) (it l : Addr) :
    Draws prog w A it [it] 0 (fun _ _ => False) (fun i h => h.IsRevIter it l (-1)) where
  live := fun _ _ st => let ⟨o, ho, _⟩ := st; ⟨o, ho⟩
  frame := fun _ _ _ st hk => st.at fun o e => hk it (by simp) o e
  item := fun i s Q E hi st hQ => absurd hi (Nat.not_lt_zero _)
  done := fun s Q E st hE => wpAny_nextOf_rev_end hh st hE
theorem meets_enumerate_newR (r l : Addr) (i : Int) (dct : Option Addr) (sl : Array (Option Value)) :
    Meets (Builtin.«enumerate.__new__» ⟨[.type "enumerate", .ref r], []⟩) (fun _ R s => s.heap.get? r = some { cls := .type "list_reverseiterator", dict := dct, data := .fields #[.ref l, rawInt i], slots := sl } ∧
      R (.ok (.ret (.ref s.heap.objs.size)))
        { s with heap := s.heap.push { cls := .type "enumerate", data := .fields #[.none, .bool false, .ref r, rawInt 0, .none, .none] } }) :=
  .of_wp fun prog w A R s h => by
    obtain ⟨hp, g, d, tk, os⟩ := s; obtain ⟨hl, h⟩ := h
    have hsub := sub_enumerate
    have hL : Heap.IsRevIter (Shared.heap ⟨hp, g, d, tk, os⟩) r l i := ⟨_, hl, rfl, rfl⟩
    wp_walk using wpAny_loadPart' hl
    refine wpAny_stack_any fun st => wpAny_pure ?_
    split
    · rename_i c _ _ _ _ _
      cases (c == Value.type "enumerate")
      · wp_walk using wpAny_loadPart' hl, wpAny_pyIter_revIter hL
        exact ⟨_, rfl, h⟩
      · wp_walk using wpAny_loadPart' hl, wpAny_pyIter_revIter hL
        exact ⟨_, rfl, h⟩
    · wp_walk using wpAny_loadPart' hl, wpAny_pyIter_revIter hL
      exact ⟨_, rfl, h⟩
theorem call_enumerate_rev {prog : Program} {w : World} {A : Around} {E : Value → Shared → Prop} {s : Shared} {r l : Addr} {i : Int} {Q : Value → Shared → Prop} (hL : s.heap.IsRevIter r l i)
    (h : ∀ h', IsEnum h' s.heap.objs.size r 0 .none → h'.objs.size = s.heap.objs.size + 1 → (∀ b o, s.heap.get? b = some o → h'.get? b = some o) → Q (.ref s.heap.objs.size) { s with heap := h' }) :
    wpAny (model prog w) A (call (.type "enumerate") [.ref r]) Q E s := by
  obtain ⟨⟨c, dct, dt, sl⟩, hl, hc, hd⟩ := hL
  replace hc : c = .type "list_reverseiterator" := hc
  replace hd : dt = .fields #[.ref l, rawInt i] := hd
  subst hc hd
  refine callType_new F.called_enumerate (by decide) (F.typeCall_enumerate_1 _) (F.newCall_enumerate_1 _) (fun obj => F.args_object_init_2 obj _) F.entry_enumerate_new
    (meets_enumerate_newR r l i dct sl) ⟨hl, ?_⟩
  have he : IsEnum (s.heap.push { cls := .type "enumerate", data := .fields #[.none, .bool false, .ref r, rawInt 0, .none, .none] }) s.heap.objs.size r 0 .none :=
    Heap.get?_push_size _ rfl
  exact ⟨⟨_, he, rfl⟩, h _ he (by rw [Heap.size_push]) fun b o x => Heap.get?_push_of_some _ x⟩
end PySem
namespace L2
open PySem PySem.Spec PyProof.Rows
/-- the list at a from its end, each item in a new pair -/
def Iter (K : PySem.W.Frag) (a : Addr) (n : Nat) : It :=
  ⟨fun i H => i < n ∧ ∃ (xs : List V) (x : V), SqL K H a xs ∧ xs[n - 1 - i]? = some x, fun i H v H' => ∃ T x, v = .ref T ∧ H T = none ∧ H' = upd H T (.tup [.int (i : Nat), x]) ∧ ∀ xs, SqL K H a xs → xs[n - 1 - i]? = some x, fun i _ => n ≤ i⟩
theorem turn_enumRev {P : Program} {w : World} {K : PySem.W.Frag} {elts : List Expr} {kk : Nat} {tpos : Pos} (a e it : Addr) (n : Nat) :
    Turn P w K (.Tuple elts kk tpos) (Iter K a n) [e, it] e (fun i h => i ≤ n ∧ (∃ old, IsEnum h e it ((i : Nat) : Int) old) ∧ h.IsRevIter it a ((n : Int) - 1 - (i : Nat)) ∧ e ≠ it) where
  mem := by simp
  obj := fun i h st b hb => by
    obtain ⟨_, ⟨old, he⟩, ⟨o, ho, hc, hd⟩, _⟩ := st
    have e' : b = e ∨ b = it := by simpa using hb
    rcases e' with z | z
    · rw [z]; exact ⟨_, he, fun v q => nomatch q⟩
    · rw [z]; exact ⟨o, ho, fun v q => by rw [hd] at q; cases q⟩
  keep := fun i h h' st k => let ⟨hn, ⟨old, he⟩, hi, hne⟩ := st; ⟨hn, ⟨old, k e (by simp) _ he⟩, hi.at fun o q => k it (by simp) o q, hne⟩
  item := by
    intro X hP hw hK hc i pins s σ H E I hf st hg
    subst hP hw hK
    obtain ⟨hn, ⟨old, he⟩, hit, hne⟩ := st
    obtain ⟨hin, xs, x, hq, hx⟩ := hg
    obtain ⟨its, rv, p, hz⟩ := I.list hq
    obtain ⟨u, hu, ru⟩ := rv.get hx
    have hul : n - 1 - i < its.length := (List.getElem?_eq_some_iff.mp hu).1
    have hel : e < s.heap.objs.size := Heap.lt_size he
    have hil : it < s.heap.objs.size := by obtain ⟨_, q, _⟩ := hit; exact Heap.lt_size q
    have hea : e ≠ a := fun z => by
      obtain ⟨ol, hol, hcl, _⟩ := p.isList
      rw [← z] at hol
      have := (show s.heap.get? e = _ from he).symm.trans hol
      cases this
      exact absurd (Value.type.inj hcl) (by decide)
    have hai : a ≠ it := fun z => by
      obtain ⟨ol, hol, hcl, _⟩ := p.isList
      obtain ⟨o, ho, hc2, _⟩ := hit
      rw [z, ho] at hol
      cases hol
      rw [hc2] at hcl
      exact absurd (Value.type.inj hcl) (by decide)
    have hsz : its.toArray.size = its.length := by simp
    have e1 : (n : Int) - 1 - ((i : Nat) : Int) = (its.toArray.size : Int) - 1 - ((its.length - 1 - (n - 1 - i) : Nat) : Int) := by rw [hsz]; omega
    rw [e1] at hit
    refine wpAny_pyNext_enum_itemC (Draws.rev (by exact I.ok.hd hc) it a hai its.toArray) (c := (i : Int)) (i := its.length - 1 - (n - 1 - i)) he ⟨by rw [hsz]; omega, hit, p.isList⟩ (by rw [hsz]; omega) hne (by simp [hne, hea]) fun x' h' tk hP ho hs' hT hsz' hk => ?_
    have ex : x' = u := by
      have hP : its.toArray[its.toArray.size - 1 - (its.length - 1 - (n - 1 - i))]? = some x' := hP
      rw [hsz, show its.length - 1 - (its.length - 1 - (n - 1 - i)) = n - 1 - i by omega] at hP
      have : its[n - 1 - i]? = some x' := by simpa using hP
      rw [hu] at this
      cases this
      rfl
    subst ex
    refine ⟨_, rfl, wpAny_letOwnedTupleGo_enum (s := { s with heap := h', toks := tk + 1 }) ho fun h'' he' sb => ?_⟩
    have hT2 : h''.get? s.heap.objs.size = some { cls := .type "tuple", data := .seq #[.int i tk, x'] } := (sb.2 _ (Nat.ne_of_gt hel)).trans hT
    have new : ObjOk X.prog X.w (upd H s.heap.objs.size (.tup [.int (i : Nat), x])) h'' s.heap.objs.size (.tup [.int (i : Nat), x]) :=
      ⟨by show 2 ≤ sizeLine; decide, [.int i tk, x'], .cons ⟨_, rfl⟩ (.cons ru .nil), ⟨_, hT2, rfl, _, rfl⟩⟩
    have I1 : Inv X pins σ (upd H s.heap.objs.size (.tup [.int (i : Nat), x])) { s with heap := h'', toks := tk + 1 } :=
      I.turnedNew (ch := [e, it]) (fun b ob hb q => (sb.2 b (fun z => hb (by simp [z]))).trans (hk b ob (fun z => hb (by simp [z])) (fun z => hb (by simp [z])) q)) hf (Nat.le_refl _) new
    have hit' := hs'.2.1
    refine ⟨.ref s.heap.objs.size, _, I1, rfl, ⟨_, x, rfl, I.hok.fresh (Nat.le_refl _), rfl, fun ys hy => by rw [I.list_inj hy hq]; exact hx⟩, ⟨hin, ⟨x', ?_⟩, ?_, hne⟩, fun b hb => ?_⟩
    · have e1 : ((i + 1 : Nat) : Int) = (i : Int) + 1 := by omega
      rw [e1]; exact he'
    · have e2 : (n : Int) - 1 - ((i + 1 : Nat) : Int) = (its.toArray.size : Int) - 1 - ((its.length - 1 - (n - 1 - i) + 1 : Nat) : Int) := by rw [hsz]; omega
      rw [e2]
      exact hit'.at fun o q => (sb.2 it (Ne.symm hne)).trans q
    · have hb' : b < s.heap.objs.size := by
        have e' : b = e ∨ b = it := by simpa using hb
        rcases e' with z | z
        · rw [z]; exact hel
        · rw [z]; exact hil
      rw [upd_ne (Nat.ne_of_lt hb')]
      exact (hf b hb).1
  done := by
    intro X hP hw hK hc i pins s σ H E I hf st hg
    subst hP hw hK
    obtain ⟨hn, ⟨old, he⟩, hit, hne⟩ := st
    have hge : n ≤ i := hg
    obtain ⟨f0, f1, f2, f3, f4, f5⟩ := hf it (by simp)
    have e1 : (n : Int) - 1 - ((i : Nat) : Int) = -1 := by omega
    rw [e1] at hit
    exact wpAny_pyNext_enum_endD (Draws.revEnd (by exact I.ok.hd hc) it a) he hit fun h' eb => ⟨rfl, I.turned (t' := s.toks) (fun b o hb q => eb b o hb q) f0 f1 f3 f4 f5⟩
  self := fun A i s Q E st h => let ⟨_, ⟨_, he⟩, _⟩ := st; wpAny_pyIter_enum he h
def iEnumRev (K : PySem.W.Frag) (ta : TA) : TI := fun σ H R => ta σ H fun vs H1 => ∃ a xs, vs = [.ref a] ∧ SqL K H1 a xs ∧ R (Iter K a xs.length) H1
theorem pi_enumRev {X : Cx} {e : Expr} {ta : TA} {p p1 pos pos1 tpos : Pos} {elts : List Expr} {kk : Nat} (hg : Gl X "enumerate") (hm : X.mg "enumerate" = none) (hg2 : Gl X "reversed") (hm2 : X.mg "reversed" = none) (ha : PA X [e] ta) (hs : starEach [e] X.env = [(false, eval e X.env)] := by rfl)
    (hs2 : starEach [.Call (.Name "reversed" p1) [e] [] pos1] X.env = (false, eval (.Call (.Name "reversed" p1) [e] [] pos1) X.env) :: starEach [] X.env := by rfl) :
    PI X (.Tuple elts kk tpos) (.Call (.Name "enumerate" p) [.Call (.Name "reversed" p1) [e] [] pos1] [] pos) (iEnumRev X.K ta) := by
  refine ⟨fun pins s σ H R I h => ?_⟩
  refine Call_ (ld_blt I hg hm boot_enumerate (PyProof.Rows.callWith_type1 ?_ hs2 rfl))
  rw [hs2]
  show wpAny _ _ (spliced ((false, eval (.Call (.Name "reversed" p1) [e] [] pos1) X.env) :: backTo pos (starEach [] X.env))) _ _ s
  refine Calls.spliced_cons ?_
  refine Call_ (ld_blt I hg2 hm2 PyProof.Rows.boot_reversed (PyProof.Rows.callWith_type1 (thn (ha.run pos1 pins s σ H _ I h) fun us s1 ⟨vs, H1, I1, r1, q1⟩ => ?_) hs rfl))
  obtain ⟨a, xs, ex, hq, q⟩ := q1
  subst ex
  cases r1 with
  | cons r rr =>
    cases rr
    cases r
    obtain ⟨its, rv, p', hz⟩ := I1.list hq
    have hl := rv.length
    refine call_reversed_list p'.isList ?_
    refine Calls.spliced_nil ?_
    have hR : (s1.heap.push (revObj a ((its.toArray.size : Int) - 1))).IsRevIter s1.heap.objs.size a ((its.toArray.size : Int) - 1) := ⟨_, Heap.get?_push_size _ rfl, rfl, rfl⟩
    have hps : (s1.heap.push (revObj a ((its.toArray.size : Int) - 1))).objs.size = s1.heap.objs.size + 1 := Heap.size_push ..
    refine call_enumerate_rev (s := { s1 with heap := s1.heap.push (revObj a ((its.toArray.size : Int) - 1)) }) hR fun h' he hsz hk => wpAny_pyIter_enum he ?_
    have hk2 : ∀ b o, s1.heap.get? b = some o → h'.get? b = some o := fun b o q => hk b o (Heap.get?_push_of_some _ q)
    have I2 : Inv X pins σ H1 { s1 with heap := h' } := I1.kept (t' := s1.toks) hk2
    have hR' : h'.IsRevIter s1.heap.objs.size a ((xs.length : Int) - 1 - ((0 : Nat) : Int)) := by
      have e1 : (xs.length : Int) - 1 - ((0 : Nat) : Int) = (its.toArray.size : Int) - 1 := by simp only [List.size_toArray]; omega
      rw [e1]
      exact hR.at fun o q => hk _ o q
    have hp : (s1.heap.push (revObj a ((its.toArray.size : Int) - 1))).objs.size = s1.heap.objs.size + 1 := hps
    refine ⟨_, [(s1.heap.push (revObj a ((its.toArray.size : Int) - 1))).objs.size, s1.heap.objs.size], _, _, H1, rfl, I2, turn_enumRev a _ s1.heap.objs.size xs.length, ⟨Nat.zero_le _, ⟨.none, he⟩, hR', by rw [hp]; exact Nat.succ_ne_self _⟩, fun b hb => ?_, q⟩
    have e' : b = (s1.heap.push (revObj a ((its.toArray.size : Int) - 1))).objs.size ∨ b = s1.heap.objs.size := by simpa using hb
    have hle : s1.heap.objs.size ≤ b := by
      rcases e' with z | z
      · rw [z, hp]; exact Nat.le_add_right _ _
      · rw [z]; exact Nat.le_refl _
    exact I1.fpOk hle (I1.hok.fresh hle)
end L2
namespace G
open PySem L2
section
variable {α : Type} [Enc α]
theorem src_enumRev {K : Fg} {P : Hp → Hp → Prop} {l : Addr} {xs : List α} (h : LstAt K P l xs) : Src K (L2.Iter K l xs.length) P (enumL 0 xs.reverse) := fun H Z hp zh i => by
  obtain ⟨vs, hl, r⟩ := h H Z hp zh
  have e := r.len
  have e2 := enumL_len 0 xs.reverse
  rw [List.length_reverse] at e2
  refine ⟨fun hi => ?_, fun hi => (by rw [e2] at hi; exact hi), fun v H' x y hx => ?_⟩
  · rw [e2] at hi
    exact ⟨hi, vs, vs[xs.length - 1 - i]'(by omega), SqL.of hl, by simp⟩
  · obtain ⟨T, x1, rfl, hT, rfl, y⟩ := y
    obtain ⟨x2, h1, rfl⟩ := enumL_get 0 xs.reverse i x hx
    have hi : i < xs.length := by
      have := (List.getElem?_eq_some_iff.mp h1).1
      rw [List.length_reverse] at this; exact this
    rw [List.getElem?_reverse hi] at h1
    obtain ⟨v', h3, r1⟩ := r.get' h1
    have h2 := y vs (SqL.of hl)
    rw [h3] at h2
    obtain rfl : v' = x1 := Option.some.inj h2
    have st := Step.new (o := .tup [.int (i : Nat), v']) zh hT
    exact ⟨_, st, T, _, _, rfl, upd_same, by show V.int _ = V.int _; rw [Nat.zero_add], Enc.mono st.zz r1⟩
variable {X : Cx} {Γ : List Ent} {p p1 pos pos1 tpos : Pos}
theorem pif_enumRev {a : Expr} {elts : List Expr} {kk : Nat} {m : Option (List α)} (hm : X.mg "enumerate" = none) (hm2 : X.mg "reversed" = none) (ha : PX X a Γ m) (hg : Gl X "enumerate" := by rfl) (hg2 : Gl X "reversed" := by rfl) (hs : starEach [a] X.env = [(false, eval a X.env)] := by rfl)
    (hs2 : starEach [.Call (.Name "reversed" p1) [a] [] pos1] X.env = (false, eval (.Call (.Name "reversed" p1) [a] [] pos1) X.env) :: starEach [] X.env := by rfl) :
    PIF X (.Tuple elts kk tpos) (.Call (.Name "enumerate" p) [.Call (.Name "reversed" p1) [a] [] pos1] [] pos) Γ (oEnum (m.map List.reverse)) := pif_of (pi_enumRev hg hm hg2 hm2 (pa_cons pe_w pa_nil (by rw [hs]; rfl)) hs hs2) fun F σ H Z en xs hx R q => by
    obtain ⟨ys, hy, rfl⟩ := Option.map_eq_some_iff.mp hx
    obtain ⟨zs, hz, rfl⟩ := Option.map_eq_some_iff.mp hy
    refine ha.run F σ H Z en zs hz _ fun H1 Z1 v s ⟨l, _, e, hl, vs, eo, r⟩ => ?_
    subst e eo
    refine ⟨l, vs, rfl, SqL.of (s.zh _ _ hl), ?_⟩
    rw [r.len]
    exact q _ H1 Z1 s (src_enumRev (lstAt_still hl r))
end
/-! dict displays with int keys -/
section
variable {X : Cx} {Γ : List Ent} {pos : Pos} {k1 k2 v1 v2 : Expr} {α : Type} [Enc α]
def oDisp2 {α : Type} (a : Option Int) (x : Option α) (b : Option Int) (y : Option α) : Option (Dct α) := a.bind fun i => x.bind fun p => b.bind fun j => y.bind fun q => some ⟨putD (putD [] i p) j q⟩
/-- {a: x, b: y} -/
theorem pno_disp2 {ma mb : Option Int} {mx my : Option α} (h1 : PX X k1 Γ ma) (h2 : PX X v1 Γ mx) (h3 : PX X k2 Γ mb) (h4 : PX X v2 Γ my) : PNO X (.Dict [some k1, some k2] [v1, v2] pos) Γ (oDisp2 ma mx mb my) := .mk fun F σ H Z en x hx Q q pins s I =>
  (pe_disp (pps_cons pe_w pe_w (pps_cons pe_w pe_w pps_nil)) rfl rfl (by simp) (by simp)).run pins s σ H Q I fun l hl => by
  obtain ⟨i, e1, hx⟩ := Option.bind_eq_some_iff.mp hx
  obtain ⟨p, e2, hx⟩ := Option.bind_eq_some_iff.mp hx
  obtain ⟨j, e3, hx⟩ := Option.bind_eq_some_iff.mp hx
  obtain ⟨z, e4, hx⟩ := Option.bind_eq_some_iff.mp hx
  cases hx
  have s0 := Step.newH (o := .dK []) en.zh hl
  refine h1.run F σ _ Z (en.step s0) i e1 _ fun H1 Z1 w1 s1 r1 => h2.run F σ H1 Z1 ((en.step s0).step s1) p e2 _ fun H2 Z2 w2 s2 r2 => h3.run F σ H2 Z2 (((en.step s0).step s1).step s2) j e3 _ fun H3 Z3 w3 s3 r3 => h4.run F σ H3 Z3 ((((en.step s0).step s1).step s2).step s3) z e4 _ fun H4 Z4 w4 s4 r4 => ?_
  cases r1
  cases r3
  have st := (((s0.trans s1).trans s2).trans s3).trans s4
  have sl := ((s1.trans s2).trans s3).trans s4
  have hz : Z4 l = none := by
    rw [sl.old l _ upd_same]
    exact en.zh.free hl
  refine ⟨sl.hh l _ upd_same, [(.inl i, w2), (.inl j, w4)], rfl, by simp, ?_⟩
  have ra : AllK (Enc.rel X.K Z4) (mergeK [] [(.inl i, w2), (.inl j, w4)]) (putD (putD [] i p) j z) := AllK.put r4 (AllK.put (Enc.mono (s3.zz.trans s4.zz) r2) trivial)
  have zh4 := sl.zh
  refine q _ Z4 (.ref l) (fun a => a = l) ⟨⟨fun a u h => ?_, st.zz, fun a u h => ?_, st.old⟩, ⟨l, _, rfl, upd_same, ⟨_, rfl, ra⟩, fun _ => Iff.rfl⟩, fun a h => ?_⟩
  · have : a ≠ l := fun e => by rw [e, hl] at h; cases h
    rw [upd_ne this]
    exact st.hh a u h
  · have : a ≠ l := fun e => by rw [e, hz] at h; cases h
    rw [upd_ne this]
    exact zh4 a u h
  · cases h
    exact ⟨hl, hz⟩
end
end G
/-! GCompO: a comprehension that makes owned things. -/
namespace G
open PySem L2
theorem OwnAll.snoc {α : Type} [Enc α] [Own α] {K : Fg} {Z H : Hp} {w : V} {y : α} {f1 : Fp} (hw : Own.own K Z H w y f1) : ∀ {vs : List V} {xs : List α} {fp : Fp}, OwnAll K Z H vs xs fp → (∀ a, fp a → ¬ f1 a) → OwnAll K Z H (vs ++ [w]) (xs ++ [y]) (fun a => fp a ∨ f1 a)
  | [], [], fp, h, _ => ⟨f1, Fp.no, hw, fun _ f => f, fun a => ⟨fun f => by
      rcases f with f | f
      · exact absurd f (h a)
      · exact .inl f, fun f => by
      rcases f with f | f
      · exact .inr f
      · exact f.elim⟩, fun _ _ f => f⟩
  | v :: vs, x :: xs, fp, ⟨g1, g2, h1, h2, h3, h4⟩, d => by
    refine ⟨g1, fun a => g2 a ∨ f1 a, h1, OwnAll.snoc hw h2 (fun a q => d a ((h3 a).mpr (.inr q))), fun a => ⟨fun f => ?_, fun f => ?_⟩, fun a q f => ?_⟩
    · rcases f with f | f
      · rcases (h3 a).mp f with f | f <;> simp [f]
      · simp [f]
    · rcases f with f | f | f
      · exact .inl ((h3 a).mpr (.inl f))
      · exact .inl ((h3 a).mpr (.inr f))
      · exact .inr f
    · rcases f with f | f
      · exact h4 a q f
      · exact d a ((h3 a).mpr (.inl q)) f
  | [], _ :: _, _, h, _ => h.elim
  | _ :: _, [], _, h, _ => h.elim
section
variable {X : Cx} {Γ : List Ent} {pos : Pos} {ι β : Type} [Enc ι] [Enc β] [Own β]
theorem comp_readO {elt tg iter : Expr} {ifs : List Expr} {scope : Scope} {vs js : List Nat} {m : Option (List ι)} {pr : ι → Option Bool} {f : ι → Option β} {T : ι → List Ent → List Ent} (hi : PIC X tg iter Γ m)
    (hg : ∀ s H C cl fp, PGX (Blk X scope s H C cl fp) tg js T) (hj : ∀ j ∈ js, j ∈ vs)
    (ht : ∀ s H C cl fp (x : ι), PTXs (Blk X scope s H C cl fp) ifs (T x (wipeE Γ vs)) (pr x)) (he : ∀ s H C cl fp (x : ι), PNO (Blk X scope s H C cl fp) elt (T x (wipeE Γ vs)) (f x))
    (F : Frame) (σ : St) (H Z : Hp) (en : EnvOk X.K F σ H Z Γ) (ys : List β) (hy : oComp m pr f = some ys) (Q : VK) (q : ∀ H' Z' l us fe, Step H Z H' Z' → H' l = none → OwnAll X.K Z' H' us ys fe → (∀ a, fe a → H a = none ∧ Z' a = none) → Q (.ref l) (upd H' l (.lst us))) :
    tLc (wI X tg iter) (gC X scope tg) (tC X scope ifs) (eC X scope elt) vs σ H Q := by
  obtain ⟨xs, h1, h2⟩ := Option.bind_eq_some_iff.mp hy
  by_cases hz : xs.length < sizeLine
  case neg => rw [if_neg hz] at h2; cases h2
  rw [if_pos hz] at h2
  refine hi.run F σ H Z en xs h1 _ fun J H1 Z1 s1 src D hD => ?_
  have en1 := en.step s1
  refine ⟨fun i n H' => n = xs.length - i ∧ i ≤ xs.length ∧ ∃ Hc Zc us done todo fe, Step H1 Z1 Hc Zc ∧ Hc D = none ∧ H' = upd Hc D (.lst us) ∧ OwnAll X.K Zc Hc us done fe ∧ (∀ a, fe a → H1 a = none ∧ Zc a = none) ∧ compM (xs.drop i) pr f = some todo ∧ ys = done ++ todo ∧ done.length ≤ i,
    ⟨xs.length, by simp, Nat.zero_le _, H1, Z1, [], [], ys, Fp.no, Step.refl s1.zh, hD, rfl, fun _ f => f, fun _ f => f.elim, h2, rfl, Nat.le_refl _⟩, ?_⟩
  rintro i n H' ⟨rfl, hi', Hc, Zc, us, done, todo, fe, st, hc, rfl, ra, rb, hm, ey, hl⟩
  have sn : Step Hc Zc (upd Hc D (.lst us)) Zc := Step.newH st.zh hc
  have s12 : Step H1 Z1 (upd Hc D (.lst us)) Zc := st.trans sn
  obtain ⟨go, stop, yld⟩ := src _ Zc ⟨s12.hh, s12.zz⟩ s12.zh i
  by_cases hlt : i < xs.length
  · refine .inr ⟨go hlt, ?_⟩
    have hd : xs.drop i = xs[i] :: xs.drop (i + 1) := List.drop_eq_getElem_cons hlt
    rw [hd] at hm
    refine ⟨fun H' => ∃ Hc Zc us done todo fe, Step H1 Z1 Hc Zc ∧ Hc D = none ∧ H' = upd Hc D (.lst us) ∧ OwnAll X.K Zc Hc us done fe ∧ (∀ a, fe a → H1 a = none ∧ Zc a = none) ∧ compM (xs.drop (i + 1)) pr f = some todo ∧ ys = done ++ todo ∧ done.length ≤ i + 1, fun H' p => ⟨xs.length - (i + 1), by omega, rfl, hlt, p⟩, fun v H2 y => ?_⟩
    obtain ⟨Z2, s2, r⟩ := yld v H2 xs[i] y (by simp [hlt])
    have enw : EnvOk X.K F (L2.wipe σ vs) H2 Z2 (wipeE Γ vs) := ((en1.step s12).step s2).wipe vs
    intro s0 H0 C cl fp
    refine (hg s0 H0 C cl fp).run F _ H2 Z2 _ v xs[i] enw r _ fun σ3 en3 ag => ⟨wipe_ag ag hj, ?_⟩
    intro s0 H0 C cl fp
    cases hp : pr xs[i] with
    | none => simp only [compM, hp] at hm; cases hm
    | some b =>
      refine (ht s0 H0 C cl fp xs[i]).run F σ3 H2 Z2 en3 b hp _ fun H3 Z3 s3 => ?_
      have hide : ∀ {H4 Z4 : Hp}, Step (upd Hc D (.lst us)) Zc H4 Z4 → Step H1 Z1 (fun a => if a = D then none else H4 a) Z4 ∧ H4 D = some (.lst us) ∧ (∀ o, upd (fun a => if a = D then none else H4 a) D o = upd H4 D o) ∧ OwnAll X.K Z4 (fun a => if a = D then none else H4 a) us done fe ∧ ∀ a, fe a → Z4 a = none ∧ ∃ u, H4 a = some u := fun {H4 Z4} s4 => by
        have live : ∀ a, fe a → a ≠ D ∧ ∃ u, Hc a = some u ∧ H4 a = some u ∧ upd Hc D (.lst us) a = some u := fun a q => by
          obtain ⟨u, hu, _⟩ := ra.odom q
          have ne : a ≠ D := fun e => by rw [e, hc] at hu; cases hu
          have h1 : upd Hc D (.lst us) a = some u := by rw [upd_ne ne]; exact hu
          exact ⟨ne, u, hu, s4.hh a u h1, h1⟩
        refine ⟨Step.hide st hc s4, s4.hh D _ upd_same, fun o => ?_, OwnAll.omono s4.zz (fun a q => ?_) ra, fun a q => ?_⟩
        · funext a
          by_cases e : a = D
          · subst e; rw [upd_same, upd_same]
          · rw [upd_ne e, upd_ne e, if_neg e]
        · obtain ⟨ne, u, hu, h4, _⟩ := live a q
          rw [if_neg ne, h4, hu]
        · obtain ⟨ne, u, hu, h4, h5⟩ := live a q
          exact ⟨by rw [s4.old a u h5]; exact (rb a q).2, u, h4⟩
      cases b with
      | false =>
        simp only [compM, hp] at hm
        obtain ⟨a1, a2, a3, a4, a5⟩ := hide (s2.trans s3)
        refine ⟨_, Z3, us, done, todo, fe, a1, if_pos rfl, ?_, a4, fun a q => ⟨(rb a q).1, (a5 a q).1⟩, hm, ey, Nat.le_succ_of_le hl⟩
        rw [a3]
        funext a
        by_cases e : a = D
        · subst e; rw [upd_same]; exact a2
        · rw [upd_ne e]
      | true =>
        intro s0 H0 C cl fp
        cases hf : f xs[i] with
        | none => simp only [compM, hp, hf] at hm; cases hm
        | some y0 =>
          refine (he s0 H0 C cl fp xs[i]).run F σ3 H3 Z3 (en3.step s3) y0 hf _ fun H4 Z4 w f1 nw => ?_
          have s4 := nw.st
          obtain ⟨b1, b2, b3, b4, b5⟩ := hide (s2.trans s3)
          obtain ⟨a1, a2, a3, a4, a5⟩ := hide ((s2.trans s3).trans s4)
          cases hc2 : compM (xs.drop (i + 1)) pr f with
          | none => simp only [compM, hp, hf, hc2] at hm; cases hm
          | some td =>
            simp only [compM, hp, hf, hc2] at hm
            cases hm
            have neD : ∀ a, f1 a → a ≠ D := fun a q e => by
              have := (nw.out a q).1
              rw [e, b2] at this
              cases this
            have own2 : Own.own X.K Z4 (fun a => if a = D then none else H4 a) w y0 f1 := Own.omono (Same.refl _) (fun a q => by rw [if_neg (neD a q)]) nw.own
            have h13 : ∀ a, H3 a = none → H1 a = none := fun a h => by
              have := ((s12.trans s2).trans s3).hh
              exact this.free h
            refine ⟨us, a2, by rw [ra.len]; omega, _, Z4, us ++ [w], done ++ [y0], td, fun a => fe a ∨ f1 a, a1, if_pos rfl, (a3 _).symm, OwnAll.snoc own2 a4 (fun a q q2 => ?_), fun a q => ?_, rfl, by rw [ey, List.append_assoc]; rfl, by rw [List.length_append]; exact Nat.succ_le_succ hl⟩
            · obtain ⟨u, hu⟩ := (b5 a q).2
              rw [(nw.out a q2).1] at hu
              cases hu
            · rcases q with q | q
              · exact ⟨(rb a q).1, (a5 a q).1⟩
              · exact ⟨h13 a (nw.out a q).1, (nw.out a q).2⟩
  · have e : i = xs.length := by omega
    subst e
    rw [List.drop_length, compM] at hm
    cases hm
    rw [List.append_nil] at ey
    subst ey
    exact .inl ⟨stop (Nat.le_refl _), q Hc Zc D us fe (s1.trans st) hc ra fun a q => ⟨s1.hh.free (rb a q).1, (rb a q).2⟩⟩
variable {W : WX} {ER : ExS} {rest : List Stmt} {N L R : Type} [Res R] {GN : N → List Ent} {GL : L → List Ent} {o : Fl N L R}
/-- name = [C(..) for ..] -/
theorem bx_compO (i : Nat) {nm : Str} {py spos : Pos} {elt tg iter : Expr} {ifs : List Expr} {scope : Scope} {js : List Nat} {m : Option (List ι)} {pr : ι → Option Bool} {f : ι → Option β} {T : ι → List Ent → List Ent} {k : Ol β → Option (Fl N L R)} (own : List (Str × Nat)) (hc : X.calm = true) (hN : X.N.Nodup)
    (ok : blkC X.N X.env.scope scope own = true) (hi : PIC X tg iter Γ m)
    (hg : ∀ s H C cl fp, PGX (Blk X scope s H C cl fp) tg js T) (ht : ∀ s H C cl fp (x : ι), PTXs (Blk X scope s H C cl fp) ifs (T x (wipeE Γ (own.map (·.2)))) (pr x)) (he : ∀ s H C cl fp (x : ι), PNO (Blk X scope s H C cl fp) elt (T x (wipeE Γ (own.map (·.2)))) (f x))
    (h : ((oComp m pr f).map Ol.mk).bind k = some o) (hr : ∀ xs, k xs = some o → BX X W ER rest (Γ.set i (.ow none xs)) GN GL o) (hsw : swapsWith (.ListComp elt [⟨tg, iter, ifs, 0⟩] scope pos) (some (.Name nm py)) spos.line X.env = pure true)
    (hi2 : X.N[i]? = some nm := by rfl) (hyl : X.env.scope.names.lookup nm = some .local := by rfl)
    (hj : ∀ j ∈ js, j ∈ own.map (·.2) := by decide) (hs : ∀ x, foldedSetIterable iter X.env x = pure x := by intro _; rfl) : BX X W ER (.Assign [.Name nm py] (.ListComp elt [⟨tg, iter, ifs, 0⟩] scope pos) spos :: rest) Γ GN GL o := by
  obtain ⟨zs, h2, h3⟩ := Option.bind_eq_some_iff.mp h
  obtain ⟨ys, h4, rfl⟩ := Option.map_eq_some_iff.mp h2
  refine bx_cons (ps_setLc (i := i) (own := own) (g := gC X scope tg) (tt := tC X scope ifs) (te := eC X scope elt) hc hN hi2 hyl hsw pi_w (blkOk_by ok) (fun s H C cl fp => ⟨fun pins s1 σ H1 v u Q I r h => h s H C cl fp pins s1 u I r⟩) (fun s H C cl fp => ⟨fun pins s1 σ H1 Q I h => pts_w.run pins s1 σ H1 Q I (h s H C cl fp)⟩)
    (fun s H C cl fp => ⟨fun pins s1 σ H1 Q I h => h s H C cl fp pins s1 I⟩) hs) fun F D ac σ H Z en => ?_
  exact comp_readO hi hg hj ht he F σ H Z en ys h4 _ fun H' Z' l us fe s hn oa out => by
    have nl : ¬ fe l := fun q => by
      obtain ⟨u, hu, _⟩ := oa.odom q
      rw [hn] at hu
      cases hu
    have s2 := Step.newH (o := .lst us) s.zh hn
    have hz : Z' l = none := s.zh.free hn
    have nO : NewO X.K H Z (upd H' l (.lst us)) Z' (.ref l) (⟨ys⟩ : Ol β) (fun a => a = l ∨ fe a) := ⟨s.trans s2, ⟨l, us, fe, rfl, upd_same, OwnAll.omono (Same.refl _) (fun a q => upd_ne (fun e => nl (e ▸ q))) oa, fun _ => Iff.rfl, nl⟩, fun a q => by
      rcases q with q | q
      · subst q; exact ⟨s.hh.free hn, hz⟩
      · exact out a q⟩
    exact (hr ⟨ys⟩ h3).run F D ac _ _ Z' (en.set_own i nO)
end
end G
namespace G
open PySem L2
/-! four comparisons in a row -/
def oChain4 (f g h h2 : Int → Int → Bool) (a b c d e : Option Int) : Option Bool := a.bind fun x => b.bind fun y => if f x y = true then oChain3 g h h2 (some y) c d e else some false
section
variable {X : Cx} {Γ : List Ent} {a b c d e5 : Expr} {pos : Pos}
def tChain4 (r r' r2 r3' : R2) (ta tb tc td t5 : TE) : TE := fun σ H Q => ta σ H fun x H1 => tb σ H1 fun y H2 => r x y H2 fun z H3 => ∃ k, z = .bl k ∧ (if k = true then tc σ H3 fun w' H4 => r' y w' H4 fun z2 H5 => ∃ k2, z2 = .bl k2 ∧ (if k2 = true then td σ H5 fun w2 H6 => r2 w' w2 H6 fun z3 H7 => ∃ k3, z3 = .bl k3 ∧ (if k3 = true then t5 σ H7 fun w3 H8 => r3' w2 w3 H8 Q else Q (.bl false) H7) else Q (.bl false) H5) else Q (.bl false) H3)
theorem pe_chain4 {op op' op2 op3 : CmpOp} {r r' r2 r3' : R2} {ta tb tc td t5 : TE} (ho : OpR X (compareOp op) r) (ho' : OpR X (compareOp op') r') (ho2 : OpR X (compareOp op2) r2) (ho3 : OpR X (compareOp op3) r3') (ha : PE X a ta) (hb : PE X b tb) (hc : PE X c tc) (hd : PE X d td) (h5 : PE X e5 t5)
    (hm : lastMarks [op, op', op2, op3] [b, c, d, e5] = false := by with_unfolding_all rfl) : PE X (.Compare a [op, op', op2, op3] [b, c, d, e5] pos) (tChain4 r r' r2 r3' ta tb tc td t5) := by
  refine ⟨fun pins s σ H Q I h => ?_⟩
  refine PyProof.Rows.Compare_chain (thn (ha.run pins s σ H _ I h) fun v s1 ⟨x, H1, I1, r1, q1⟩ => PyProof.Rows.chain_link (thn (hb.run pins s1 σ H1 _ I1 q1) fun u s2 ⟨y, H2, I2, r2', q2⟩ =>
    thn (ho pins s2 σ H2 x y v u _ I2 r1 r2' q2) fun d0 s3 ⟨z, H3, I3, r3, k, e, q3⟩ => ?_)) hm
  subst e
  cases r3
  refine wpAny_truthy_bool ?_
  cases k with
  | false => exact PyProof.Rows.ite_ff ⟨.bl false, H3, I3, rfl, q3⟩
  | true =>
    refine PyProof.Rows.ite_tt (PyProof.Rows.chain_link (thn (hc.run pins s3 σ H3 _ I3 q3) fun w' s4 ⟨z', H4, I4, r4, q4⟩ => thn (ho' pins s4 σ H4 y z' u w' _ I4 r2' r4 q4) fun d1 s5 ⟨z2, H5, I5, r5, k2, e2, q5⟩ => ?_))
    subst e2
    cases r5
    refine wpAny_truthy_bool ?_
    cases k2 with
    | false => exact PyProof.Rows.ite_ff ⟨.bl false, H5, I5, rfl, q5⟩
    | true =>
      refine PyProof.Rows.ite_tt (PyProof.Rows.chain_link (thn (hd.run pins s5 σ H5 _ I5 q5) fun w2 s6 ⟨z3, H6, I6, r6, q6⟩ => thn (ho2 pins s6 σ H6 z' z3 w' w2 _ I6 r4 r6 q6) fun d2 s7 ⟨z4, H7, I7, r7, k3, e3, q7⟩ => ?_))
      subst e3
      cases r7
      refine wpAny_truthy_bool ?_
      cases k3 with
      | false => exact PyProof.Rows.ite_ff ⟨.bl false, H7, I7, rfl, q7⟩
      | true => exact PyProof.Rows.ite_tt (PyProof.Rows.chain_last (thn (h5.run pins s7 σ H7 _ I7 q7) fun w3 s8 ⟨z5, H8, I8, r8, q8⟩ => ho3 pins s8 σ H8 z3 z5 w2 w3 Q I8 r6 r8 q8))
theorem px_chain4 {op op' op2 op3 : CmpOp} {f g h h2 : Int → Int → Bool} {m1 m2 m3 m4 m5 : Option Int} (ho : OpR X (compareOp op) (rI0 fun i j => .bl (f i j))) (ho' : OpR X (compareOp op') (rI0 fun i j => .bl (g i j))) (ho2 : OpR X (compareOp op2) (rI0 fun i j => .bl (h i j))) (ho3 : OpR X (compareOp op3) (rI0 fun i j => .bl (h2 i j))) (ha : PX X a Γ m1) (hb : PX X b Γ m2) (hc : PX X c Γ m3) (hd : PX X d Γ m4) (h5 : PX X e5 Γ m5)
    (h1 : lastMarks [op, op', op2, op3] [b, c, d, e5] = false := by with_unfolding_all rfl) : PX X (.Compare a [op, op', op2, op3] [b, c, d, e5] pos) Γ (oChain4 f g h h2 m1 m2 m3 m4 m5) := px_of (pe_chain4 ho ho' ho2 ho3 pe_w pe_w pe_w pe_w pe_w h1) fun F σ H Z en x hx Q q => by
  obtain ⟨i, hi, hx⟩ := Option.bind_eq_some_iff.mp hx
  obtain ⟨j, hj, hx⟩ := Option.bind_eq_some_iff.mp hx
  refine ha.run F σ H Z en i hi _ fun H1 Z1 v s1 r1 => hb.run F σ H1 Z1 (en.step s1) j hj _ fun H2 Z2 w s2 r2 => ⟨i, j, r1, r2, f i j, rfl, ?_⟩
  cases hf : f i j with
  | true =>
    rw [hf, if_pos rfl] at hx
    obtain ⟨j', hj', hx⟩ := Option.bind_eq_some_iff.mp hx
    cases hj'
    obtain ⟨k, hk, hx⟩ := Option.bind_eq_some_iff.mp hx
    rw [if_pos rfl]
    refine hc.run F σ H2 Z2 (en.step (s1.trans s2)) k hk _ fun H3 Z3 u s3 r3 => ⟨j, k, r2, r3, g j k, rfl, ?_⟩
    cases hg : g j k with
    | true =>
      rw [hg, if_pos rfl] at hx
      obtain ⟨k', hk', hx⟩ := Option.bind_eq_some_iff.mp hx
      cases hk'
      obtain ⟨l, hl, hx⟩ := Option.bind_eq_some_iff.mp hx
      rw [if_pos rfl]
      refine hd.run F σ H3 Z3 (en.step ((s1.trans s2).trans s3)) l hl _ fun H4 Z4 u2 s4 r4 => ⟨k, l, r3, r4, h k l, rfl, ?_⟩
      cases hh : h k l with
      | true =>
        rw [hh, if_pos rfl] at hx
        obtain ⟨n, hn, hx⟩ := Option.bind_eq_some_iff.mp hx
        cases hx
        rw [if_pos rfl]
        exact h5.run F σ H4 Z4 (en.step (((s1.trans s2).trans s3).trans s4)) n hn _ fun H5 Z5 u3 s5 r5 => ⟨l, n, r4, r5, q H5 Z5 _ ((((s1.trans s2).trans s3).trans s4).trans s5) rfl⟩
      | false =>
        rw [hh, if_neg Bool.false_ne_true] at hx
        cases hx
        rw [if_neg Bool.false_ne_true]
        exact q H4 Z4 _ (((s1.trans s2).trans s3).trans s4) rfl
    | false =>
      rw [hg, if_neg Bool.false_ne_true] at hx
      cases hx
      rw [if_neg Bool.false_ne_true]
      exact q H3 Z3 _ ((s1.trans s2).trans s3) rfl
  | false =>
    rw [hf, if_neg Bool.false_ne_true] at hx
    cases hx
    rw [if_neg Bool.false_ne_true]
    exact q H2 Z2 _ (s1.trans s2) rfl
end
end G
/-! GScr: the script against a list; list(script). -/
namespace G
open PySem L2
instance : DecidableEq Scr := fun a b => if h : a.xs = b.xs then .isTrue (by cases a; cases b; cases h; rfl) else .isFalse (fun e => h (by rw [e]))
theorem dpInts {K : Fg} {H : Hp} : ∀ xs : List Int, DpAll K H (xs.map V.int) (xs.map PyData.int)
  | [] => .nil
  | x :: xs => .cons (.int x) (dpInts xs)
instance : Dat Scr := ⟨fun s => .list (s.xs.map (Dat.d (α := Int))), fun s ⟨p, e, h⟩ => by subst e; exact .lst (s.seq h) (dpInts _), 1,
  fun x => by have := depAll (α := Int) x.xs; simp only [PyData.depth]; have : Dat.n Int = 0 := rfl; omega, fun x y => by
    rw [PyData.eqv]
    obtain ⟨x⟩ := x
    obtain ⟨y⟩ := y
    exact (eqvAll x y).trans ⟨fun h => by rw [h], fun h => by cases h; rfl⟩⟩
instance : DatC Scr := ⟨fun x => by show PyData.canLay0 (.list _) = true; rw [PyData.canLay0]; exact canAll x.xs⟩
section
variable {X : Cx} {Γ : List Ent} {a : Expr} {p pos : Pos}
theorem pn_listS {m : Option Scr} (hm : X.mg "list" = none) (ha : PX X a Γ m) (hg : Gl X "list" := by rfl) (hs : starEach [a] X.env = [(false, eval a X.env)] := by rfl) : PN X (.Call (.Name "list" p) [a] [] pos) Γ (m.map Scr.xs) :=
  pn_of (pe_callTy call_list_of hg hm (by decide +kernel) (pa_cons pe_w pa_nil (by rw [hs]; rfl)) (he := by rw [hs]; rfl) (hpl := rfl)) fun F σ H Z en x hx Q q => by
    obtain ⟨y, hy, rfl⟩ := Option.map_eq_some_iff.mp hx
    exact ha.run F σ H Z en y hy _ fun H1 Z1 v s1 ⟨l, e, h⟩ => ⟨l, y.xs.map V.int, congrArg (fun z => [z]) e, .inl (s1.zh.seq h), fun l' hl' => q H1 Z1 l' _ s1 hl' All2.of_map_int⟩
end
end G
/-! GUnl: unpacking a list. -/
namespace G
open PySem L2
/-- a list of two, of three -/
structure L2x (α : Type) where
  a : α
  b : α
structure L3x (α : Type) where
  a : α
  b : α
  c : α
def toL2 {α : Type} : List α → Option (L2x α)
  | [a, b] => some ⟨a, b⟩
  | _ => none
def toL3 {α : Type} : List α → Option (L3x α)
  | [a, b, c] => some ⟨a, b, c⟩
  | _ => none
section
variable {α : Type} [Enc α]
instance : Enc (L2x α) := ⟨fun K Z v x => ∃ l v1 v2, v = .ref l ∧ Z l = some (.lst [v1, v2]) ∧ Enc.rel K Z v1 x.a ∧ Enc.rel K Z v2 x.b, fun s ⟨l, v1, v2, e, h, r1, r2⟩ => ⟨l, v1, v2, e, s _ _ h, Enc.mono s r1, Enc.mono s r2⟩⟩
instance : Enc (L3x α) := ⟨fun K Z v x => ∃ l v1 v2 v3, v = .ref l ∧ Z l = some (.lst [v1, v2, v3]) ∧ Enc.rel K Z v1 x.a ∧ Enc.rel K Z v2 x.b ∧ Enc.rel K Z v3 x.c, fun s ⟨l, v1, v2, v3, e, h, r1, r2, r3⟩ => ⟨l, v1, v2, v3, e, s _ _ h, Enc.mono s r1, Enc.mono s r2, Enc.mono s r3⟩⟩
variable {X : Cx} {Γ : List Ent} {e a b c : Expr} {pos : Pos}
theorem px_l2 {m : Option (List α)} (h : PX X e Γ m) : PX X e Γ (m.bind toL2) := .mk fun F σ H Z en x hx Q q => by
  obtain ⟨y, hy, hx⟩ := Option.bind_eq_some_iff.mp hx
  match y, hx with
  | [y1, y2], hx =>
    cases hx
    refine h.run F σ H Z en _ hy Q fun H' Z' v s ⟨l, o, e1, hl, vs, eo, r⟩ => ?_
    subst eo
    match vs, r with
    | [v1, v2], ⟨r1, r2, _⟩ => exact q H' Z' v s ⟨l, v1, v2, e1, hl, r1, r2⟩
theorem px_l3 {m : Option (List α)} (h : PX X e Γ m) : PX X e Γ (m.bind toL3) := .mk fun F σ H Z en x hx Q q => by
  obtain ⟨y, hy, hx⟩ := Option.bind_eq_some_iff.mp hx
  match y, hx with
  | [y1, y2, y3], hx =>
    cases hx
    refine h.run F σ H Z en _ hy Q fun H' Z' v s ⟨l, o, e1, hl, vs, eo, r⟩ => ?_
    subst eo
    match vs, r with
    | [v1, v2, v3], ⟨r1, r2, r3, _⟩ => exact q H' Z' v s ⟨l, v1, v2, v3, e1, hl, r1, r2, r3⟩
theorem pgx_l2 {k : Nat} {ja jb : List Nat} {Ta Tb : α → List Ent → List Ent} (hc : X.calm = true) (ha : PGX X a ja Ta) (hb : PGX X b jb Tb) (hn : (assignEach [a, b] X.env).length = 2 := by rfl) (hst : (assignEach [a, b] X.env).findIdx? (·.1) = none := by rfl)
    (h1 : (assignEach [a, b] X.env).map (·.2) = assign a X.env :: (assignEach [b] X.env).map (·.2) := by rfl) (h2 : (assignEach [b] X.env).map (·.2) = assign b X.env :: (assignEach [] X.env).map (·.2) := by rfl) :
    PGX X (.Tuple [a, b] k pos) (ja ++ jb) (fun (x : L2x α) Γ => Tb x.b (Ta x.a Γ)) := pgx_of (pg_unl hc (pgs_cons pg_w (pgs_cons pg_w pgs_nil h2) h1) hn hst) fun F σ H Z Γ v x en r Q q => by
  obtain ⟨l, v1, v2, e, h, r1, r2⟩ := r
  refine ⟨l, [v1, v2], e, SqL.of (en.zh _ _ h), rfl, v1, [v2], rfl, ?_⟩
  refine ha.run F σ H Z Γ v1 x.a en r1 _ fun σ1 en1 g1 => ⟨v2, [], rfl, ?_⟩
  exact hb.run F σ1 H Z _ v2 x.b en1 r2 _ fun σ2 en2 g2 => ⟨rfl, q σ2 en2 (g1.trans g2)⟩
theorem pgx_l3 {k : Nat} {ja jb jc : List Nat} {Ta Tb Tc : α → List Ent → List Ent} (hc : X.calm = true) (ha : PGX X a ja Ta) (hb : PGX X b jb Tb) (hcc : PGX X c jc Tc) (hn : (assignEach [a, b, c] X.env).length = 3 := by rfl)
    (hst : (assignEach [a, b, c] X.env).findIdx? (·.1) = none := by rfl) (h1 : (assignEach [a, b, c] X.env).map (·.2) = assign a X.env :: (assignEach [b, c] X.env).map (·.2) := by rfl)
    (h2 : (assignEach [b, c] X.env).map (·.2) = assign b X.env :: (assignEach [c] X.env).map (·.2) := by rfl) (h3 : (assignEach [c] X.env).map (·.2) = assign c X.env :: (assignEach [] X.env).map (·.2) := by rfl) :
    PGX X (.Tuple [a, b, c] k pos) (ja ++ (jb ++ jc)) (fun (x : L3x α) Γ => Tc x.c (Tb x.b (Ta x.a Γ))) := pgx_of (pg_unl hc (pgs_cons pg_w (pgs_cons pg_w (pgs_cons pg_w pgs_nil h3) h2) h1) hn hst) fun F σ H Z Γ v x en r Q q => by
  obtain ⟨l, v1, v2, v3, e, h, r1, r2, r3⟩ := r
  refine ⟨l, [v1, v2, v3], e, SqL.of (en.zh _ _ h), rfl, v1, [v2, v3], rfl, ?_⟩
  refine ha.run F σ H Z Γ v1 x.a en r1 _ fun σ1 en1 g1 => ⟨v2, [v3], rfl, ?_⟩
  refine hb.run F σ1 H Z _ v2 x.b en1 r2 _ fun σ2 en2 g2 => ⟨v3, [], rfl, ?_⟩
  exact hcc.run F σ2 H Z _ v3 x.c en2 r3 _ fun σ3 en3 g3 => ⟨rfl, q σ3 en3 (g1.trans (g2.trans g3))⟩
end
end G
/-! GTry: try with several clauses 'except X as n', all of one name. -/
namespace L2
open PySem PySem.Spec PyProof.Rows
def wManyA (K : PySem.W.Frag) (i : Nat) (Wout : WX) (D : Ends) : List (Value × (Addr → Value → Option Addr → TS)) → WX
  | [] => Wout
  | (c, ts) :: r => fun cls d σ H => ∃ b, PySem.W.exmOne K cls c = some b ∧ (b = true → ∀ a, H a = none → ts a cls d { nx := fun σ' H' => D.nx (σ'.set i none) H', rt := D.rt, bk := fun σ' H' => D.bk (σ'.set i none) H', ct := fun σ' H' => D.ct (σ'.set i none) H' } (σ.set i (some (.ref a))) H) ∧ (b = false → wManyA K i Wout D r cls d σ H)
inductive HdsA (X : Cx) (n : Str) : List ExceptHandler → List (Value × (Addr → Value → Option Addr → TS)) → Prop
  | nil : HdsA X n [] []
  | cons {x : Str} {c : Value} {ts : Addr → Value → Option Addr → TS} {b₀ : Stmt} {suite : List Stmt} {np pos' : Pos} {hds : List ExceptHandler} {l : List (Value × (Addr → Value → Option Addr → TS))} (hc : Names X x c)
      (hsu : ∀ (a : Addr) (oe : Obj) (cls : Value) (d : Option Addr) (pn : List (Addr × Obj)), Zc cls d oe → (∃ vs, oe.data = .fields vs) → PSs (X.suite a ((a, oe) :: pn)) (b₀ :: suite) (ts a cls d)) (r : HdsA X n hds l) :
      HdsA X n (.ExceptHandler (some (.Name x np)) (some n) (b₀ :: suite) pos' :: hds) ((c, ts) :: l)
section
variable {X : Cx} {n : Str} {i : Nat} {body : List Stmt} {h₀ : ExceptHandler} {hds : List ExceptHandler} {l : List (Value × (Addr → Value → Option Addr → TS))} {pos : Pos} {tb : WX → TS} {Wout : WX}
theorem ps_try_manyA (hs : X.stack = X.env :: X.outer) (hf : X.env.frame = some X.env.locals) (hN : X.N.Nodup) (hi : X.N[i]? = some n) (hln : X.env.kindOf n = some .local) (tk : Takes X Wout)
    (hb : ∀ (W : WX) (pn : List (Addr × Obj)) (xe : Value → Shared → Prop), Takes (X.tr pn xe) W → PassesOwn (model X.prog X.w) X.A X.env xe → PSs (X.tr pn xe) body (tb W))
    (hh : HdsA X n (h₀ :: hds) l) : PS X (.Try body (h₀ :: hds) [] [] pos) (fun D σ H => tb (wManyA X.K i Wout D l) D σ H) := by
  refine ⟨fun pins s σ H D I h => ?_⟩
  have ok := I.ok
  have hfr : X.A.frames = some (X.env :: X.outer) := by rw [ok.frames, hs]
  have hloc : Loc X.env.scope n := .inl hln
  refine wpAny_Try_except ?_
  refine wpAny_mono ((hb (wManyA X.K i Wout D l) (X.pn ++ pins) (fun e s₁ => wpAny (model X.prog X.w) X.A (noteFrame e X.env) (fun _ s₂ => wpAny (model X.prog X.w) X.A (setFlight e none) (fun _ s₃ =>
    wpAny (model X.prog X.w) X.A (handleBy e X.env (h₀ :: hds)) (SP X pins D) X.xe s₃) X.xe s₂) X.xe s₁) (fun u s' xx => ?_) PassesOwn.looking).run [] s σ H D (I.toTry _) h) (fun f s1 hsp => ?_) (fun e s1 he => he)
  · obtain ⟨a, B, sI, pins', σ', H', cls, d, rfl, J', nb, up, sky, na, os, ag, w⟩ := xx
    have J : Inv X pins σ' H' sI := J'.ofTry ok
    have sky' : Sky B (X.env :: X.outer) a (Zc cls d) X.env.locals s'.heap := by rw [← hs]; exact sky
    show wpAny (model X.prog X.w) X.A (noteFrame (.ref a) X.env) _ _ _
    refine Sky.land Zc.steady hfr hf sky' fun h3 fl3 up3 => ?_
    have J3 : Inv X pins σ' H' { s' with heap := h3 } := J.landed nb fl3.1 (up.trans up3) os ag
    obtain ⟨oe3, vs3, he3, hz3, hd3⟩ := fl3.there
    have notFr : ∀ {h : Heap} {o : Obj} {vs : Array Value}, h.FunFrames B (X.env :: X.outer) → h.get? a = some o → o.data = .fields vs → a ∉ frs (X.env :: X.outer) := fun {h o vs} ff e dd hm => by
      obtain ⟨_, o', e', hnf⟩ := ff.mem hm
      rw [e] at e'; cases e'
      exact hnf _ dd
    have nfr := notFr fl3.2.2.1 he3 hd3
    have nL : a ≠ X.env.locals := fun z => nfr (List.mem_filterMap.mpr ⟨X.env, List.mem_cons_self, by rw [hf, z]⟩)
    have nF : a ∉ X.fs := fun hm => by
      obtain ⟨e, he, q⟩ := List.mem_filterMap.mp hm
      exact nfr (List.mem_filterMap.mpr ⟨e, List.mem_cons_of_mem _ he, q⟩)
    have S3 := J3.suite he3 hd3 na nL nF
    have go : ∀ {hds' : List ExceptHandler} {l' : List (Value × (Addr → Value → Option Addr → TS))}, HdsA X n hds' l' → wManyA X.K i Wout D l' cls d σ' H' →
        wpAny (model X.prog X.w) X.A (handleBy (.ref a) X.env hds') (SP X pins D) X.xe { s' with heap := h3 } := by
      intro hds' l' hk
      induction hk with
      | nil =>
        intro w
        refine wpAny_handleBy_nil ?_
        obtain ⟨k1, k2, k3, oe, vs, T, oT, ts', he, hz, hd, h1, hr⟩ := id fl3
        unfold PySem.passOn
        refine wpAny_bind (wpAny_field he hd h1 ?_)
        rw [if_neg (show ¬ ((Value.ref T == Value.none) = true) from by simp)]
        have fin : wpAny (model X.prog X.w) X.A (setFlight (.ref a) X.env.frame) (fun _ s4 => wpAny (model X.prog X.w) X.A (throw (.ref a) : Sem Flow) (SP X pins D) X.xe s4) X.xe { s' with heap := h3 } := by
          rw [hf]
          refine HandSPX.setFlight_upZ fl3 fun h4 hh4 up4 => wpAny_throw (tk _ _ ?_)
          exact ⟨a, B, sI, pins, σ', H', cls, d, rfl, J, nb, (up.trans up3).trans up4, .inr (.inr (by rw [hs]; exact hh4)), na, os, ag, w⟩
        first
          | exact wpAny_bind (wpAny_pure (wpAny_bind fin))
          | exact wpAny_bind fin
      | @cons x c ts b₀ suite np pos' hds2 l2 hc hsu r ih =>
        intro w
        obtain ⟨b, hb1, hyes, hno⟩ := w
        refine wpAny_handleBy_cons (codeAny_handlers_test ?_) (by intro q; cases q)
        have LT : PySem.W.Looks (model X.prog X.w) h3 (typeOf (.ref a)) cls := fun A Q E s k q => wpAny_typeOf_ref (k _ _ he3) (by rw [hz3.1]; exact q)
        have LM := PySem.W.exm_one (M := model X.prog X.w) (J3.kIn) LT hb1
        have test : ∀ {Q : Value → Shared → Prop} {E : Value → Shared → Prop}, Q c { s' with heap := h3 } → wpAny (model X.prog X.w) (X.A.mark (some (.ref a))) (eval (.Name x np) X.env) Q E { s' with heap := h3 } := fun {Q E} q => by
          obtain ⟨hg, hdbg, hm | ⟨hm, hv, hnn⟩⟩ := hc
          · exact ld_glob (X := X.suite a ((a, oe3) :: (X.pn ++ pins))) S3 hg hm q hdbg
          · exact ld_blt (X := X.suite a ((a, oe3) :: (X.pn ++ pins))) S3 hg hm hv q hnn hdbg
        refine test (LM.here ?_)
        cases b with
        | true =>
          refine codeAny_handlers_suite_as ?_
          refine HandSPX.lands_againZ fl3 fun h4 fl4 up4 => ?_
          have J4 : Inv X pins σ' H' { s' with heap := h4 } := J.landed nb fl4.1 ((up.trans up3).trans up4) os ag
          obtain ⟨oe4, vs4, he4, hz4, hd4⟩ := fl4.there
          have S4 := J4.suite he4 hd4 na nL nF
          refine store_ok (X := X.suite a ((a, oe4) :: (X.pn ++ pins))) (v := .ref a) S4 hN hi hloc rfl (fun s5 S5 => ?_) (.inr hln)
          refine wpAny_mono ((hsu a oe4 cls d (X.pn ++ pins) hz4 ⟨_, hd4⟩).run [] s5 _ H' _ S5 (hyes rfl a na)) (fun f s6 hsp => ?_) (fun _ _ z => False.elim z)
          have end_ : ∀ {σ6 : St} {H6 : Hp} {Q : Shared → Prop}, Inv (X.suite a ((a, oe4) :: (X.pn ++ pins))) [] σ6 H6 s6 → (∀ s7, Inv X pins (σ6.set i none) H6 s7 → Q s7) →
              wpAny (model X.prog X.w) X.A (do bindName X.env n .none; unbindBehindTheSuite X.env n pos') (fun _ s7 => Q s7) X.xe s6 := fun {σ6 H6 Q} S6 hq => gone_ok (S6.unsuite ok) hN hi hln hq
          cases f with
          | next =>
            obtain ⟨σ6, H6, S6, q6⟩ := hsp
            exact end_ S6 fun s7 J7 => ⟨_, _, J7, q6⟩
          | brk =>
            obtain ⟨σ6, H6, S6, q6⟩ := hsp
            exact end_ S6 fun s7 J7 => ⟨_, _, J7, q6⟩
          | cont =>
            obtain ⟨σ6, H6, S6, q6⟩ := hsp
            exact end_ S6 fun s7 J7 => ⟨_, _, J7, q6⟩
          | ret u =>
            obtain ⟨v6, σ6, H6, S6, r6, q6⟩ := hsp
            exact end_ S6 fun s7 J7 => ⟨_, _, _, J7, r6, q6⟩
        | false =>
          show wpAny _ X.A (handleBy (.ref a) X.env hds2) _ _ _
          exact ih (hno rfl)
    exact go hh w
  · cases f with
    | next =>
      obtain ⟨σ', H', J', q⟩ := hsp
      exact wpAny_execs_nil ⟨σ', H', J'.ofTry ok, q⟩
    | brk =>
      obtain ⟨σ', H', J', q⟩ := hsp
      exact ⟨σ', H', J'.ofTry ok, q⟩
    | cont =>
      obtain ⟨σ', H', J', q⟩ := hsp
      exact ⟨σ', H', J'.ofTry ok, q⟩
    | ret u =>
      obtain ⟨v, σ', H', J', r, q⟩ := hsp
      exact ⟨v, σ', H', J'.ofTry ok, r, q⟩
end
end L2
namespace G
open PySem L2
section
variable {X : Cx} {W : WX} {ER : ExS} {rest : List Stmt} {pos : Pos} {Γ : List Ent} {N L R J : Type} [Res R] {GN : N → List Ent} {GL : L → List Ent} {GJ : J → List Ent} {o : Fl N L R}
/-- the clauses, one after the other; live: the codes that none before caught -/
inductive ClA (X : Cx) (n : Str) (i : Nat) (ERb : ExS) (GJ : J → List Ent) (GL : L → List Ent) (fnOf : Nat → Str) (caught : Nat → Bool) (ms : Nat → Option Int → Option (Fl J L R)) : (Nat → Bool) → List ExceptHandler → Prop
  | nil {live : Nat → Bool} (h : ∀ c f Z cls d, ERb.er c f Z cls d → live c = true → caught c = false) : ClA X n i ERb GJ GL fnOf caught ms live []
  | cons {live hit : Nat → Bool} {x : Str} {cl : Value} {b₀ : Stmt} {suite : List Stmt} {np pos' : Pos} {hds : List ExceptHandler} (hc : Names X x cl)
      (hcl : ∀ c f Z cls d, ERb.er c f Z cls d → PySem.W.exmOne X.K cls cl = some (hit c))
      (hsu : ∀ (a : Addr) (oe : Obj) (cls : Value) (d : Option Addr) (pn : List (Addr × Obj)), Zc cls d oe → (∃ vs, oe.data = .fields vs) → ∀ c f Z, ERb.er c f Z cls d → live c = true → hit c = true → caught c = true ∧ ∀ o' : Fl J L R, ms c f = some o' → ∀ W' : WX, BX (X.suite a ((a, oe) :: pn)) W' ER0 (b₀ :: suite) (ERb.gx.set i (.fz (⟨f⟩ : ExO a d (fnOf c)))) GJ GL o')
      (r : ClA X n i ERb GJ GL fnOf caught ms (fun c => live c && !hit c) hds) :
      ClA X n i ERb GJ GL fnOf caught ms live (.ExceptHandler (some (.Name x np)) (some n) (b₀ :: suite) pos' :: hds)
theorem bx_tryA (i : Nat) {n : Str} {body : List Stmt} {h₀ : ExceptHandler} {hds : List ExceptHandler} {ERb : ExS} {mb : Option (Fl J L R)} {caught : Nat → Bool} {ms : Nat → Option Int → Option (Fl J L R)} {k : J → Option (Fl N L R)} (fnOf : Nat → Str)
    (hs : X.stack = X.env :: X.outer) (hf : X.env.frame = some X.env.locals) (hN : X.N.Nodup) (hi : X.N[i]? = some n) (hln : X.env.kindOf n = some .local) (tk : Takes X W)
    (hb : ∀ (W' : WX) (pn : List (Addr × Obj)) (xe : Value → Shared → Prop), Takes (X.tr pn xe) W' → PassesOwn (model X.prog X.w) X.A X.env xe → ∀ o' : Fl J L R, mb = some o' → BX (X.tr pn xe) W' ERb body Γ GJ GL o')
    (hrl : ∀ c f Z cls d, ERb.er c f Z cls d → exRel (fnOf c) Z d f)
    (hcs : ClA X n i ERb GJ GL fnOf caught ms (fun _ => true) (h₀ :: hds))
    (hno : ∀ j, (GJ j).set i .no = GJ j) (hnoL : ∀ l, (GL l).set i .no = GL l)
    (h : tryC mb caught ms k = some o) (hr : ∀ j, k j = some o → BX X W ER rest (GJ j) GN GL o) : BX X W ER (.Try body (h₀ :: hds) [] [] pos :: rest) Γ GN GL o := by
  have key : ∀ {live : Nat → Bool} {hs' : List ExceptHandler}, ClA X n i ERb GJ GL fnOf caught ms live hs' → ∃ l, HdsA X n hs' l ∧ ∀ (F : Frame) (D : Ends) (ac : Acc X W ER F GN GL o D) (c : Nat) (f : Option Int), live c = true → tryC (some (Fl.xc c f : Fl J L R)) caught ms k = some o →
      ∀ σ1 H1 Z1 cls d, EnvOk X.K F σ1 H1 Z1 ERb.gx → ERb.er c f Z1 cls d → wManyA X.K i W { D with nx := wS X rest D } l cls d σ1 H1 := by
    intro live hs' hk
    induction hk with
    | @nil live hnil =>
      refine ⟨[], .nil, fun F D ac c f lv h σ1 H1 Z1 cls d en1 r1 => ?_⟩
      replace h : (if caught c = true then thenFl (ms c f) k else none) = some o := h
      rw [if_neg (by rw [hnil c f Z1 cls d r1 lv]; decide)] at h
      cases h
    | @cons live hit x cl b₀ suite np pos' hds' hc hcl hsu r ih =>
      obtain ⟨l, hl, hw⟩ := ih
      refine ⟨(cl, fun a cls d D σ H => ∀ oe pn, Zc cls d oe → (∃ vs, oe.data = .fields vs) → wS (X.suite a ((a, oe) :: pn)) (b₀ :: suite) D σ H) :: l, .cons hc (fun a oe cls d pn z v => ⟨fun pins s σ H D I q => q oe pn z v pins s I⟩) hl, fun F D ac c f lv h σ1 H1 Z1 cls d en1 r1 => ?_⟩
      refine ⟨hit c, hcl c f Z1 cls d r1, fun hy a na oe pn2 z v => ?_, fun hn => hw F D ac c f (by show (live c && !hit c) = true; rw [lv, hn]; rfl) h σ1 H1 Z1 cls d en1 r1⟩
      obtain ⟨hcc, hsu2⟩ := hsu a oe cls d pn2 z v c f Z1 r1 lv hy
      replace h : (if caught c = true then thenFl (ms c f) k else none) = some o := h
      rw [if_pos hcc] at h
      cases hms : ms c f with
      | none => rw [hms] at h; cases h
      | some o2 =>
        rw [hms] at h
        refine (hsu2 o2 hms (fun _ _ _ _ => False)).run F _ ?_ _ H1 Z1 (en1.set_fz i ⟨rfl, hrl c f Z1 cls d r1⟩)
        cases o2 with
        | nx j => exact fun σ H Z en' => (hr j h).run F D ac _ H Z (by have := en'.set_no i none; rw [hno] at this; exact this)
        | br l => cases h; exact fun σ H Z en' => ac _ H Z (by have := en'.set_no i none; rw [hnoL] at this; exact this)
        | ct l => cases h; exact fun σ H Z en' => ac _ H Z (by have := en'.set_no i none; rw [hnoL] at this; exact this)
        | rt r => cases h; exact ac
        | xc c2 f2 => exact fun σ H Z cls d en' r' => r'.elim
  obtain ⟨l, hl, hw⟩ := key hcs
  refine bx_cons (ps_try_manyA (Wout := W) (tb := fun W' D σ H => ∀ pn xe, Takes (X.tr pn xe) W' → PassesOwn (model X.prog X.w) X.A X.env xe → wS (X.tr pn xe) body D σ H) hs hf hN hi hln tk
    (fun W' pn xe t p => ⟨fun pins s σ H D I q => q pn xe t p pins s I⟩) hl) fun F D ac σ H Z en pn xe t p => ?_
  cases hm : mb with
  | none => rw [hm] at h; cases h
  | some o' =>
    rw [hm] at h
    refine (hb _ pn xe t p o' hm).run F _ ?_ σ H Z en
    cases o' with
    | nx j => exact fun σ H Z en' => (hr j h).run F D ac σ H Z en'
    | br l => cases h; exact ac
    | ct l => cases h; exact ac
    | rt r => cases h; exact ac
    | xc c f => exact fun σ1 H1 Z1 cls d en1 r1 => hw F D ac c f rfl h σ1 H1 Z1 cls d en1 r1
end
end G
/-! GIn: x in a list of data; a list so many times. -/
namespace G
open PySem L2
theorem units65 {k : Nat} {A : Around} (r : Room k A) : A.units + 65 < cLine := by have := r.un; omega
def oInD {α : Type} [DecidableEq α] (a : Option α) (b : Option (List α)) : Option Bool := o2 a b fun i xs => some (decide (i ∈ xs))
def oNotInD {α : Type} [DecidableEq α] (a : Option α) (b : Option (List α)) : Option Bool := o2 a b fun i xs => some (!decide (i ∈ xs))
def oRep {α : Type} (a : Option (List α)) (b : Option Int) : Option (List α) := o2 a b fun xs k => if xs.length * k.toNat ≤ sizeLine ∧ -1000000000 ≤ k ∧ k ≤ 1000000000 then some (List.replicate k.toNat xs).flatten else none
section
variable {X : Cx} {Γ : List Ent} {a b : Expr} {pos : Pos} {α : Type} [Enc α] [Dat α] [DatC α] [DecidableEq α]
theorem any_eqv (x : α) (xs : List α) : (xs.map (Dat.d (α := α))).any (fun z => PyData.eqv z (Dat.d x)) = decide (x ∈ xs) := by
  rw [Bool.eq_iff_iff, List.any_eq_true, decide_eq_true_eq]
  constructor
  · rintro ⟨z, hz, h⟩
    obtain ⟨y, hy, rfl⟩ := List.mem_map.mp hz
    rw [(Dat.eq y x).mp h] at hy
    exact hy
  · intro h
    exact ⟨_, List.mem_map_of_mem h, (Dat.eq x x).mpr rfl⟩
theorem inD_read {neg : Bool} {m1 : Option α} {m2 : Option (List α)} (ha : PX X a Γ m1) (hb : PX X b Γ m2) (hn : Dat.n α ≤ 60) (F : Frame) (σ : St) (H Z : Hp) (en : EnvOk X.K F σ H Z Γ) {i : α} {xs : List α} (h1 : m1 = some i) (h2 : m2 = some xs) (Q : VK)
    (q : ∀ H' Z', Step H Z H' Z' → Q (.bl (if neg then !decide (i ∈ xs) else decide (i ∈ xs))) H') : tOp (if neg then rNotInD X.K else rInD X.K) (wE X a) (wE X b) σ H Q := by
  refine ha.run F σ H Z en i h1 _ fun H1 Z1 v s1 r1 => hb.run F σ H1 Z1 (en.step s1) xs h2 _ fun H2 Z2 w s2 r2 => ?_
  have d1 := Dat.dp s2.zh (Enc.mono s2.zz r1)
  have d2 := Dat.dp (α := List α) s2.zh r2
  have s1' := shaped_of i (by omega)
  have s2' := shaped_of xs (by show Dat.n α + 1 ≤ 64; omega)
  cases neg with
  | false => exact ⟨_, _, d1, d2, s1', s2', by rw [any_eqv]; exact q H2 Z2 (s1.trans s2)⟩
  | true => exact ⟨_, _, d1, d2, s1', s2', by rw [any_eqv]; exact q H2 Z2 (s1.trans s2)⟩
theorem px_inD (hu : X.A.units + 65 < cLine) {m1 : Option α} {m2 : Option (List α)} (ha : PX X a Γ m1) (hb : PX X b Γ m2) (hn : Dat.n α ≤ 60 := by decide) (hm : behindInMarks .In b = false := by rfl) : PX X (.Compare a [.In] [b] pos) Γ (oInD m1 m2) := px_of (pe_cmpR (op_inD hu) pe_w pe_w hm) fun F σ H Z en x hx Q q => by
  obtain ⟨i, hi, hx⟩ := Option.bind_eq_some_iff.mp hx
  obtain ⟨xs, hj, hx⟩ := Option.bind_eq_some_iff.mp hx
  cases hx
  exact inD_read (neg := false) ha hb hn F σ H Z en hi hj Q fun H' Z' s => q H' Z' _ s rfl
theorem ptx_inD (hu : X.A.units + 65 < cLine) {m1 : Option α} {m2 : Option (List α)} (ha : PX X a Γ m1) (hb : PX X b Γ m2) (hn : Dat.n α ≤ 60 := by decide) (hm : behindInMarks .In b = false := by rfl) : PTX X (.Compare a [.In] [b] pos) Γ (oInD m1 m2) := ptx_of (pt_cmpR (op_inD hu) pe_w pe_w hm) fun F σ H Z en x hx Q q => by
  obtain ⟨i, hi, hx⟩ := Option.bind_eq_some_iff.mp hx
  obtain ⟨xs, hj, hx⟩ := Option.bind_eq_some_iff.mp hx
  cases hx
  exact inD_read (neg := false) ha hb hn F σ H Z en hi hj _ fun H' Z' s => ⟨_, rfl, q H' Z' s⟩
theorem px_notinD (hu : X.A.units + 65 < cLine) {m1 : Option α} {m2 : Option (List α)} (ha : PX X a Γ m1) (hb : PX X b Γ m2) (hn : Dat.n α ≤ 60 := by decide) (hm : behindInMarks .NotIn b = false := by rfl) : PX X (.Compare a [.NotIn] [b] pos) Γ (oNotInD m1 m2) := px_of (pe_cmpR (op_notInD hu) pe_w pe_w hm) fun F σ H Z en x hx Q q => by
  obtain ⟨i, hi, hx⟩ := Option.bind_eq_some_iff.mp hx
  obtain ⟨xs, hj, hx⟩ := Option.bind_eq_some_iff.mp hx
  cases hx
  exact inD_read (neg := true) ha hb hn F σ H Z en hi hj Q fun H' Z' s => q H' Z' _ s rfl
theorem ptx_notinD (hu : X.A.units + 65 < cLine) {m1 : Option α} {m2 : Option (List α)} (ha : PX X a Γ m1) (hb : PX X b Γ m2) (hn : Dat.n α ≤ 60 := by decide) (hm : behindInMarks .NotIn b = false := by rfl) : PTX X (.Compare a [.NotIn] [b] pos) Γ (oNotInD m1 m2) := ptx_of (pt_cmpR (op_notInD hu) pe_w pe_w hm) fun F σ H Z en x hx Q q => by
  obtain ⟨i, hi, hx⟩ := Option.bind_eq_some_iff.mp hx
  obtain ⟨xs, hj, hx⟩ := Option.bind_eq_some_iff.mp hx
  cases hx
  exact inD_read (neg := true) ha hb hn F σ H Z en hi hj _ fun H' Z' s => ⟨_, rfl, q H' Z' s⟩
end
section
variable {X : Cx} {Γ : List Ent} {a b : Expr} {pos : Pos} {α : Type} [Enc α]
theorem all2_rep {K : Fg} {Z : Hp} {vs : List V} {xs : List α} (h : All2 (Enc.rel K Z) vs xs) : ∀ n : Nat, All2 (Enc.rel K Z) (List.replicate n vs).flatten (List.replicate n xs).flatten
  | 0 => trivial
  | n + 1 => by
    rw [List.replicate_succ, List.replicate_succ, List.flatten_cons, List.flatten_cons]
    exact h.append (all2_rep h n)
theorem pn_rep {m1 : Option (List α)} {m2 : Option Int} (ha : PL X a Γ m1) (hb : PX X b Γ m2) : PN X (.BinOp a .Mult b pos) Γ (oRep m1 m2) := pn_of (pe_op op_rep pe_w pe_w) fun F σ H Z en x hx Q q => by
  obtain ⟨i, hi, hx⟩ := Option.bind_eq_some_iff.mp hx
  obtain ⟨j, hj, hx⟩ := Option.bind_eq_some_iff.mp hx
  dsimp only at hx
  by_cases c : i.length * j.toNat ≤ sizeLine ∧ -1000000000 ≤ j ∧ j ≤ 1000000000
  · rw [if_pos c] at hx
    cases hx
    refine ha.run F σ H Z en i hi _ fun H1 Z1 l1 vs1 s1 hl1 r1 => hb.run F σ H1 Z1 (en.step s1) j hj _ fun H2 Z2 w s2 r2 => ?_
    cases r2
    refine ⟨l1, j, vs1, rfl, rfl, s2.hh _ _ hl1, by omega, by omega, by rw [r1.len]; exact c.1, fun p' hp => ?_⟩
    exact q H2 Z2 p' _ (s1.trans s2) hp (all2_rep (all2_mono s2.zz r1) _)
  · rw [if_neg c] at hx
    cases hx
end
end G
/-! GHlx: an item of a list of unlike kinds. -/
namespace G
open PySem L2
instance {B : Type} [EncA B] : NonN (Hl B) := ⟨fun ⟨p, vs, e, _⟩ => by rw [e]; exact fun z => by cases z⟩
theorem atI_0 {α : Type} {x : α} {xs : List α} : atI (x :: xs) 0 = some x := by rw [atI_ok (Int.le_refl _) (by simp only [List.length_cons]; omega)]; rfl
theorem atI_1 {α : Type} {x y : α} {xs : List α} : atI (x :: y :: xs) 1 = some y := by rw [atI_ok (by decide) (by simp only [List.length_cons]; omega)]; rfl
section
variable {X : Cx} {Γ : List Ent} {a b : Expr} {pos p2 : Pos} {C D B : Type} [Enc C] [Enc D] [EncA B]
theorem px_hl0 {m : Option (Hl (C × B))} (ha : PX X a Γ m) (hb : PX X b Γ (some (0 : Int))) (hs : PlainIx b := by intro _ _; rfl) : PX X (.Subscript a b pos) Γ (m.map fun x => x.x.1) := px_of (pe_ix ix_list pe_w pe_w hs) fun F σ H Z en x hx Q q => by
  obtain ⟨y, hy, rfl⟩ := Option.map_eq_some_iff.mp hx
  refine ha.run F σ H Z en y hy _ fun H1 Z1 v1 s1 ⟨l, vs, e, hl, r1⟩ => hb.run F σ H1 Z1 (en.step s1) 0 rfl _ fun H2 Z2 w s2 r2 => ?_
  obtain ⟨v, r, e2, h1, h2⟩ := r1
  subst e e2
  exact ⟨l, _, 0, v, rfl, r2, SqL.of ((s1.trans s2).zh _ _ (s2.zz _ _ hl)), atI_0, q H2 Z2 v (s1.trans s2) (Enc.mono s2.zz h1)⟩
theorem px_hl1 {m : Option (Hl (C × D × B))} (ha : PX X a Γ m) (hb : PX X b Γ (some (1 : Int))) (hs : PlainIx b := by intro _ _; rfl) : PX X (.Subscript a b pos) Γ (m.map fun x => x.x.2.1) := px_of (pe_ix ix_list pe_w pe_w hs) fun F σ H Z en x hx Q q => by
  obtain ⟨y, hy, rfl⟩ := Option.map_eq_some_iff.mp hx
  refine ha.run F σ H Z en y hy _ fun H1 Z1 v1 s1 ⟨l, vs, e, hl, r1⟩ => hb.run F σ H1 Z1 (en.step s1) 1 rfl _ fun H2 Z2 w s2 r2 => ?_
  obtain ⟨v, r, e2, h1, v', r', e3, h3, h4⟩ := r1
  subst e e2 e3
  exact ⟨l, _, 1, v', rfl, r2, SqL.of ((s1.trans s2).zh _ _ (s2.zz _ _ hl)), atI_1, q H2 Z2 v' (s1.trans s2) (Enc.mono s2.zz h3)⟩
end
end G
/-! GCallP: f(place, ..), the place changed; tests 'a and f(place, ..)'. -/
namespace G
open PySem L2
theorem put_self {α : Type} {x : Ol α} {i : Int} {y : α} (h : atI x.xs i = some y) : x.put i y = x := by
  obtain ⟨xs⟩ := x
  unfold Ol.put
  unfold atI at h
  cases e : ixN xs.length i with
  | none => dsimp only at h; rw [e] at h; cases h
  | some j =>
    dsimp only at h
    rw [e] at h
    show (⟨xs.set ((some j).getD 0) y⟩ : Ol α) = ⟨xs⟩
    congr 1
    exact list_set_self h
section
variable {X : Cx} {Γ : List Ent} {a b o : Expr} {es : List Expr} {p pos : Pos}
theorem pxb_callP {nm : Str} {k : Nat} {f : Addr} {fd : FuncData} {ps : List Str} {C A R : Type} [Enc C] [Own C] [ArgB A Unit] [Enc R] {fm : Br C × A → Option (RB (C × Unit) R)} {x : C} {T : C → List Ent} {ma : Option A} (Fn : FnOk X.prog X.w X.K X.mg X.base CX0 k f fd ps (spB X.K fm)) (hr : Room k X.A) (hm : X.mg nm = some (.ref f)) (hk : PySem.W.keepIn X.K (.ref f) = true)
    (hb : Binds X.K fd ps []) (ho : PR X o Γ (some x) T) (ha : PAB X es Γ ma []) (hg : Gl X nm := by rfl) (hdb : (nm == ("__debug__" : Str)) = false := by decide) (he : starEach (o :: es) X.env = (false, eval o X.env) :: starEach es X.env := by rfl) (hpl : (backTo pos (starEach es X.env)).any (·.1) = false := by rfl) :
    PXB X (.Call (.Name nm p) (o :: es) [] pos) Γ (ma.bind fun y => fm (Br.mk x, y)) (fun b => T b.1) := .mk fun F σ H Z en z hx Q q pins s I => (pe_call Fn hr hg hm hk hb .nil pass0 pa_w hdb he hpl).run pins s σ H Q I (by
  obtain ⟨y, hy, hx1⟩ := Option.bind_eq_some_iff.mp hx
  intro pos2 pins2 s2 I2
  refine (pa_cons pe_w pa_w he).run pos2 pins2 s2 σ H _ I2 (ho.run F σ H Z en x rfl _ fun H1 Z1 v fp s1 at_ => ha.run F σ H1 Z1 (en.step s1) y hy _ fun H2 Z2 vs bs s2 r2 vl => ?_)
  have hbs : bs = [] := by
    cases bs with
    | nil => rfl
    | cons v r => exact vl.elim
  subst hbs
  have := At.meth (at_.step s2) (dvs := []) (g := id) s2.zh (fun Z vs y h => by rw [List.append_nil]; exact h) r2 hx1 (E := fun _ _ _ => False) (Q := Q) q
  exact this)
/-- a and b, b changing what is owned; b0: as it was -/
theorem ptxb_and {B : Type} {ma : Option Bool} {mb : Option (RB B Bool)} {T : B → List Ent} (b0 : B) (h0 : T b0 = Γ) (ha : PTX X a Γ ma) (hb : PTXB X b Γ mb T) : PTXB X (.BoolOp .And [a, b] pos) Γ (ma.bind fun t => if t = true then mb else some ⟨b0, false⟩) T := .mk fun F σ H Z en x hx Q q pins s I => (PW.pt (pw_and pt_w (pw_and1 pt_w))).run pins s σ H Q I (by
  obtain ⟨y, hy, hx⟩ := Option.bind_eq_some_iff.mp hx
  refine ha.run F σ H Z en y hy _ fun H' Z' s => ?_
  cases y with
  | true => exact hb.run F σ H' Z' (en.step s) x hx Q q
  | false =>
    cases hx
    exact q H' Z' (by dsimp only; rw [h0]; exact en.step s))
end
end G
/-! GDctL: dicts that are walked: lent locked; their items, keys, values; in, [], len. -/
namespace L2
open PySem PySem.Spec PyProof.Rows
def tListKeysR (te : TE) : TE := fun σ H Q => te σ H fun x H1 => ∃ (d : Addr) (kvs : List (Key × V)), x = .ref d ∧ Rd H1 d (.dK kvs) ∧ ∀ p, H1 p = none → Q (.ref p) (upd H1 p (.lst (kvs.map fun kv => kV kv.1)))
def tListValsR (te : TE) : TE := fun σ H Q => te σ H fun x H1 => ∃ (d : Addr) (kvs : List (Key × V)), x = .ref d ∧ Rd H1 d (.dK kvs) ∧ ∀ p, H1 p = none → Q (.ref p) (upd H1 p (.lst (kvs.map fun kv => kv.2)))
section
variable {X : Cx} {e : Expr} {te : TE} {p apos cpos pos : Pos}
theorem pe_listKeysR (hc : X.calm = true) (he : PE X e te) (hg : Gl X "list") (hm : X.mg "list" = none) (hv : bootBuiltins "list" = some (.type "list")) (hbase : attributeBase e "keys" X.env (eval e X.env) = eval e X.env := by rfl) (hline : (apos.endLine == cpos.line) = true := by rfl)
    (hs : starEach [.Call (.Attribute e "keys" apos) [] [] cpos] X.env = (false, eval (.Call (.Attribute e "keys" apos) [] [] cpos) X.env) :: starEach [] X.env := by rfl) :
    PE X (.Call (.Name "list" p) [.Call (.Attribute e "keys" apos) [] [] cpos] [] pos) (tListKeysR te) := by
  refine ⟨fun pins s σ H Q I hq => ?_⟩
  refine wpAny_Call_Name_kw (ld_blt I hg hm hv ?_)
  refine PyProof.Rows.callWith_type1 ?_ hs rfl
  rw [hs]
  show wpAny _ _ (spliced ((false, eval (.Call (.Attribute e "keys" apos) [] [] cpos) X.env) :: backTo pos (starEach [] X.env))) _ _ s
  refine Calls.spliced_cons ?_
  refine wpAny_Call_method (T := "dict") (id := "dict.keys") hbase rfl hline F.plainAttrs_dict F.slot_dict_keys F.type_dict_keys (thn (he.run pins s σ H _ I hq) fun u s1 ⟨x, H1, I1, rx, d, kvs, ex, hd, q⟩ => ?_)
  subst ex
  obtain rfl : u = Value.ref d := rx
  obtain ⟨hz, hs0, vs, kv, hdo⟩ := dk_rd I1.hok hd
  obtain ⟨ep, hat⟩ := hdo.dictAt
  have lk : kvs.length = vs.length := Paired.length kv
  have I2 : Inv X pins σ H1 { s1 with heap := s1.heap.push { cls := .type "dict_keys", data := .fields #[.ref d] } } := I1.kept (t' := s1.toks) fun b ob q => Heap.get?_push_of_some _ q
  refine ⟨hdo.typeIs, hdo.mapOf.noDict, ?_⟩
  show wpAny _ _ (callWith cpos (.builtin "dict.keys") [.ref d] [] []) _ X.xe s1
  refine method_meetsIn F.slot_dict_keys F.entry_dict_keys rfl (PySem.evalArgs_none ⟨rfl, hdo.typeIs, F.args_dict_keys_1 _, _, PySem.W.kdl_meets_keys (mixKind X.prog X.w) d hs0, ⟨vs, hdo⟩, ?_⟩)
  refine Calls.spliced_nil ?_
  refine PySem.W.kdl_call (PySem.W.kdl_keys (knd := mixKind X.prog X.w) (kvs := vs) (ep := ep)) (I1.ok.hd hc) ⟨⟨_, Heap.get?_push_size _ rfl, rfl, rfl⟩, hat.push _⟩ (by rw [← lk]; exact hz) fun h' tk acc' c' hkeep hS hacc => ?_
  refine ⟨.ref _, upd H1 _ (.lst (kvs.map fun kv => kV kv.1)), I2.laid hkeep (Nat.le_refl _) (show ObjOk X.prog X.w _ _ _ (.lst (kvs.map fun kv => kV kv.1)) from ⟨?_, acc'.toList, c', ?_, ?_⟩), rfl, q _ (I2.hok.fresh (Nat.le_refl _))⟩
  · rw [List.length_map]; exact hz
  · have el : acc'.toList.length = acc'.size := by simp
    refine vals_of_at (by rw [List.length_map, el, hacc.1, lk]) fun j x w h1 h2 => ?_
    obtain ⟨k, y, hky, hi⟩ := hacc.2 j w (by rw [← Array.getElem?_toList]; exact h2)
    have e1 : (kvs.map (·.1))[j]? = some k := by
      rw [KV.keys kv, List.getElem?_map, hky] <;> rfl
    have e2 : (kvs.map fun kv => kV kv.1)[j]? = some (kV k) := by
      have e3 : (kvs.map fun kv => kV kv.1) = (kvs.map (·.1)).map kV := by rw [List.map_map] <;> rfl
      rw [e3, List.getElem?_map, e1] <;> rfl
    rw [e2] at h1
    cases h1
    exact keyIs_rel hi
  · rw [Array.toArray_toList]; exact hS
theorem pe_listValsR (hc : X.calm = true) (he : PE X e te) (hg : Gl X "list") (hm : X.mg "list" = none) (hv : bootBuiltins "list" = some (.type "list")) (hbase : attributeBase e "values" X.env (eval e X.env) = eval e X.env := by rfl) (hline : (apos.endLine == cpos.line) = true := by rfl)
    (hs : starEach [.Call (.Attribute e "values" apos) [] [] cpos] X.env = (false, eval (.Call (.Attribute e "values" apos) [] [] cpos) X.env) :: starEach [] X.env := by rfl) :
    PE X (.Call (.Name "list" p) [.Call (.Attribute e "values" apos) [] [] cpos] [] pos) (tListValsR te) := by
  refine ⟨fun pins s σ H Q I hq => ?_⟩
  refine wpAny_Call_Name_kw (ld_blt I hg hm hv ?_)
  refine PyProof.Rows.callWith_type1 ?_ hs rfl
  rw [hs]
  show wpAny _ _ (spliced ((false, eval (.Call (.Attribute e "values" apos) [] [] cpos) X.env) :: backTo pos (starEach [] X.env))) _ _ s
  refine Calls.spliced_cons ?_
  refine wpAny_Call_method (T := "dict") (id := "dict.values") hbase rfl hline F.plainAttrs_dict F.slot_dict_values F.type_dict_values (thn (he.run pins s σ H _ I hq) fun u s1 ⟨x, H1, I1, rx, d, kvs, ex, hd, q⟩ => ?_)
  subst ex
  obtain rfl : u = Value.ref d := rx
  obtain ⟨hz, hs0, vs, kv, hdo⟩ := dk_rd I1.hok hd
  obtain ⟨ep, hat⟩ := hdo.dictAt
  have lk : kvs.length = vs.length := Paired.length kv
  have I2 : Inv X pins σ H1 { s1 with heap := s1.heap.push { cls := .type "dict_values", data := .fields #[.ref d] } } := I1.kept (t' := s1.toks) fun b ob q => Heap.get?_push_of_some _ q
  refine ⟨hdo.typeIs, hdo.mapOf.noDict, ?_⟩
  show wpAny _ _ (callWith cpos (.builtin "dict.values") [.ref d] [] []) _ X.xe s1
  refine method_meetsIn F.slot_dict_values F.entry_dict_values rfl (PySem.evalArgs_none ⟨rfl, hdo.typeIs, F.args_dict_values_1 _, _, meets_dict_values (mixKind X.prog X.w) d hs0, ⟨vs, hdo⟩, ?_⟩)
  refine Calls.spliced_nil ?_
  refine PySem.W.kdl_call (PySem.W.kdl_values (knd := mixKind X.prog X.w) (kvs := vs) (ep := ep)) (I1.ok.hd hc) ⟨⟨_, Heap.get?_push_size _ rfl, rfl, rfl⟩, hat.push _⟩ (by rw [← lk]; exact hz) fun h' tk acc' c' hkeep hS hacc => ?_
  refine ⟨.ref _, upd H1 _ (.lst (kvs.map fun kv => kv.2)), I2.laid hkeep (Nat.le_refl _) (show ObjOk X.prog X.w _ _ _ (.lst (kvs.map fun kv => kv.2)) from ⟨?_, acc'.toList, c', ?_, ?_⟩), rfl, q _ (I2.hok.fresh (Nat.le_refl _))⟩
  · rw [List.length_map]; exact hz
  · have el : acc'.toList.length = acc'.size := by simp
    refine vals_of_at (by rw [List.length_map, el, hacc.1, lk]) fun j x w h1 h2 => ?_
    obtain ⟨k, hky⟩ := hacc.2 j w (by rw [← Array.getElem?_toList]; exact h2)
    rw [List.getElem?_map] at h1
    obtain ⟨kv1, e1, e2⟩ := Option.map_eq_some_iff.mp h1
    have := (paired_at kv e1 hky).2
    rw [← e2]
    exact this
  · rw [Array.toArray_toList]; exact hS
/-- len of a dict that is read -/
theorem call_lenR : CallR X (.builtin "len") (fun xs H Q => ∃ a kvs, xs = [V.ref a] ∧ Rd H a (.dK kvs) ∧ Q (.int kvs.length) H) := by
  intro pins s σ H xs us Q I r h
  obtain ⟨a, kvs, rfl, ha, q⟩ := h
  obtain ⟨u, rfl, ru⟩ := vals1 r
  cases ru
  exact d_len I ha fun t s' I' => ⟨.int kvs.length, H, I', ⟨t, rfl⟩, q⟩
end
end L2
namespace G
open PySem L2
/-- a dict that is locked -/
structure DctL (α : Type) where
  kvs : List (P2 Int α)
section
variable {α : Type} [Enc α]
instance dctLCell : Cell (DctL α) := ⟨fun K Z o d => ∃ ob kvs, o = .frz ob (.dK kvs) ∧ AllK (Enc.rel K Z) kvs d.kvs, fun s ⟨ob, kvs, e, r⟩ => ⟨ob, kvs, e, AllK.imp (fun _ _ q => Enc.mono s q) r⟩, fun ⟨ob, kvs, e, _⟩ ys z => by rw [e] at z; cases z⟩
instance : Enc (DctL α) := cellEnc
instance : Own (DctL α) := cellOwn
instance : NonN (DctL α) := ⟨fun ⟨p, o, e, _⟩ => by rw [e]; exact fun z => by cases z⟩
instance : NonN (Dct α) := ⟨fun ⟨p, o, e, _⟩ => by rw [e]; exact fun z => by cases z⟩
end
/-- a dict that is read, locked or not -/
structure PDL (X : Cx) (e : Expr) (Γ : List Ent) {α : Type} [Enc α] (m : Option (List (P2 Int α))) : Prop where
  run : ∀ (F : Frame) (σ : St) (H Z : Hp), EnvOk X.K F σ H Z Γ → ∀ x, m = some x → ∀ Q : VK, (∀ H' Z' l kvs, Step H Z H' Z' → Rd H' l (.dK kvs) → AllK (Enc.rel X.K Z') kvs x → Q (.ref l) H') → wE X e σ H Q
def oGetL {α : Type} (m : Option (List (P2 Int α))) (mk : Option Int) (mx : Option α) : Option α := m.bind fun d => mk.bind fun i => mx.bind fun x => some ((getD' d i).getD x)
def oDix {α : Type} (m : Option (List (P2 Int α))) (mk : Option Int) : Option α := m.bind fun d => mk.bind fun i => getD' d i
def oInK {α : Type} (mk : Option Int) (m : Option (List (P2 Int α))) : Option Bool := mk.bind fun i => m.map fun d => (getD' d i).isSome
def oNotInK {α : Type} (mk : Option Int) (m : Option (List (P2 Int α))) : Option Bool := mk.bind fun i => m.map fun d => !(getD' d i).isSome
section
variable {X : Cx} {Γ : List Ent} {e a b d : Expr} {p pos pos2 apos cpos : Pos} {α β : Type} [Enc α] [Enc β]
theorem pdl_of {m : Option (DctL α)} (h : PX X e Γ m) : PDL X e Γ (m.map DctL.kvs) := .mk fun F σ H Z en x hx Q q => by
  obtain ⟨y, hy, rfl⟩ := Option.map_eq_some_iff.mp hx
  refine h.run F σ H Z en y hy Q fun H' Z' v s ⟨l, o, e1, hl, ob, kvs, eo, r⟩ => ?_
  subst e1 eo
  exact q H' Z' l kvs s (.inr ⟨ob, s.zh l _ hl⟩) r
theorem pdl_ofD {m : Option (Dct α)} (h : PDR X e Γ m) : PDL X e Γ (m.map Dct.kvs) := .mk fun F σ H Z en x hx Q q => by
  obtain ⟨y, hy, rfl⟩ := Option.map_eq_some_iff.mp hx
  exact h.run F σ H Z en y hy Q fun H' Z' l kvs s hl r => q H' Z' l kvs s (.inl hl) r
/-- lent locked -/
theorem px_lock (i : Nat) {bv : Option Nat} {x : Dct α} {m : Option β} (h : PX X e (Γ.set i (.ow bv (⟨x.kvs⟩ : DctL α))) m) (hΓ : Γ[i]? = some (.ow bv x) := by rfl) : PX X e Γ m := .mk fun F σ H Z en y hy Q q pins s I => by
  obtain ⟨o, fp, ho, ⟨v, e1, hb, ⟨l, u, e2, hl, ⟨kvs, eu, r⟩, hfp⟩, out⟩, put⟩ := en.focus hΓ
  subst e1 e2 eu
  have ol := out l ((hfp l).mpr rfl)
  refine (pe_lock pe_w).run pins s σ H Q I ⟨l, .dK kvs, hl, trivial, fun od => ?_⟩
  have en' : EnvOk X.K F (σ.set i (some (.ref l))) (upd H l (.frz od (.dK kvs))) Z (Γ.set i (.ow bv (⟨x.kvs⟩ : DctL α))) := by
    refine put (upd H l (.frz od (.dK kvs))) Z _ _ fp (fun a u ha hn => ?_) (Same.refl _) (fun a u ha => ?_) (fun a u ha hn => rfl) (fun a f => .inl f) ⟨.ref l, rfl, hb, ⟨l, _, rfl, upd_same, ⟨od, kvs, rfl, r⟩, hfp⟩, out⟩
    · rw [upd_ne (fun e => hn ((hfp a).mpr e))]; exact ha
    · have : a ≠ l := fun e => by rw [e, ol.2] at ha; cases ha
      rw [upd_ne this]; exact en.zh a u ha
  rw [show σ.set i (some (V.ref l)) = σ from list_set_self ho] at en'
  refine h.run F σ _ Z en' y hy _ fun H' Z' w st r' => ⟨st.hh _ _ upd_same, q _ Z' w ⟨fun a u ha => ?_, st.zz, fun a u ha => ?_, fun a u ha => ?_⟩ r'⟩
  · by_cases e : a = l
    · rw [e] at ha ⊢
      rw [hl] at ha
      rw [upd_same]; exact ha
    · rw [upd_ne e]
      exact st.hh a u (by rw [upd_ne e]; exact ha)
  · have : a ≠ l := fun e => by
      have h2 := st.old l _ upd_same
      rw [ol.2] at h2
      rw [e, h2] at ha; cases ha
    rw [upd_ne this]; exact st.zh a u ha
  · by_cases e : a = l
    · rw [e]; exact st.old l _ upd_same
    · exact st.old a u (by rw [upd_ne e]; exact ha)
theorem px_dgetL {m : Option (List (P2 Int α))} {mk : Option Int} {mx : Option α} (hu : X.A.units + 1 < cLine) (hd : PDL X d Γ m) (ha : PX X a Γ mk) (hb : PX X b Γ mx) (h : M2 X d "get" apos a b cpos := by exact ⟨rfl, rfl, rfl, rfl⟩) : PX X (.Call (.Attribute d "get" apos) [a, b] [] cpos) Γ (oGetL m mk mx) :=
  px_of (pe_dget2 hu pe_w pe_w pe_w h) fun F σ H Z en x hx Q q => by
    obtain ⟨dd, h1, hx⟩ := Option.bind_eq_some_iff.mp hx
    obtain ⟨i, h2, hx⟩ := Option.bind_eq_some_iff.mp hx
    obtain ⟨y, h3, hx⟩ := Option.bind_eq_some_iff.mp hx
    cases hx
    refine hd.run F σ H Z en dd h1 _ fun H1 Z1 l kvs s1 hl r => ⟨l, rfl, .inl ⟨kvs, hl⟩, ?_⟩
    refine ha.run F σ H1 Z1 (en.step s1) i h2 _ fun H2 Z2 v s2 r2 => hb.run F σ H2 Z2 ((en.step s1).step s2) y h3 _ fun H3 Z3 w s3 r3 => ?_
    cases r2
    have hl3 : Rd H3 l (.dK kvs) := by
      rcases hl with h | ⟨ob, h⟩
      · exact .inl (s3.hh _ _ (s2.hh _ _ h))
      · exact .inr ⟨ob, s3.hh _ _ (s2.hh _ _ h)⟩
    refine ⟨valV kvs (.inl i), .inl ⟨kvs, .inl i, hl3, rfl, rfl⟩, ?_⟩
    have r' := AllK.imp (fun _ _ q => Enc.mono (s2.zz.trans s3.zz) q) r
    rcases r'.get (i := i) with ⟨e1, e2⟩ | ⟨u, z, e1, e2, e3⟩
    · rw [e1]
      exact q H3 Z3 w ((s1.trans s2).trans s3) (by rw [e2]; exact r3)
    · rw [e1]
      exact q H3 Z3 u ((s1.trans s2).trans s3) (by rw [e2]; exact e3)
theorem px_dix {m : Option (List (P2 Int α))} {mk : Option Int} (hu : X.A.units + 1 < cLine) (hd : PDL X d Γ m) (ha : PX X a Γ mk) (hs : NoSl a := by exact fun _ _ => rfl) : PX X (.Subscript d a pos) Γ (oDix m mk) :=
  px_of (pe_dget hu pe_w pe_w hs) fun F σ H Z en x hx Q q => by
    obtain ⟨dd, h1, hx⟩ := Option.bind_eq_some_iff.mp hx
    obtain ⟨i, h2, hx⟩ := Option.bind_eq_some_iff.mp hx
    refine hd.run F σ H Z en dd h1 _ fun H1 Z1 l kvs s1 hl r => ha.run F σ H1 Z1 (en.step s1) i h2 _ fun H2 Z2 v s2 r2 => ?_
    cases r2
    have hl2 : Rd H2 l (.dK kvs) := by
      rcases hl with h | ⟨ob, h⟩
      · exact .inl (s2.hh _ _ h)
      · exact .inr ⟨ob, s2.hh _ _ h⟩
    have r' := AllK.imp (fun _ _ q => Enc.mono s2.zz q) r
    rcases r'.get (i := i) with ⟨e1, e2⟩ | ⟨u, z, e1, e2, e3⟩
    · rw [e2] at hx; cases hx
    · rw [e2] at hx
      cases hx
      exact ⟨l, u, rfl, .inl ⟨kvs, .inl i, hl2, rfl, e1.symm⟩, q H2 Z2 u (s1.trans s2) e3⟩
theorem in_readK {m : Option (List (P2 Int α))} {mk : Option Int} {neg : Bool} (ha : PX X a Γ mk) (hd : PDL X d Γ m) (F : Frame) (σ : St) (H Z : Hp) (en : EnvOk X.K F σ H Z Γ) {i : Int} {dd : List (P2 Int α)} (h1 : mk = some i) (h2 : m = some dd) (Q : VK)
    (q : ∀ H' Z', Step H Z H' Z' → Q (.bl (if neg then !(getD' dd i).isSome else (getD' dd i).isSome)) H') : (if neg then tDNotIn (wE X a) (wE X d) else tDIn (wE X a) (wE X d)) σ H Q := by
  have key : wE X a σ H fun y H1 => wE X d σ H1 fun x H2 => ∃ l o, x = .ref l ∧ DGet H2 l y o ∧ Q (.bl (if neg then !o.isSome else o.isSome)) H2 := by
    refine ha.run F σ H Z en i h1 _ fun H1 Z1 v s1 r1 => hd.run F σ H1 Z1 (en.step s1) dd h2 _ fun H2 Z2 l kvs s2 hl r => ?_
    cases r1
    refine ⟨l, valV kvs (.inl i), rfl, .inl ⟨kvs, .inl i, hl, rfl, rfl⟩, ?_⟩
    have e : (valV kvs (.inl i)).isSome = (getD' dd i).isSome := by
      rcases r.get (i := i) with ⟨e1, e2⟩ | ⟨u, z, e1, e2, e3⟩
      · rw [e1, e2]; rfl
      · rw [e1, e2]; rfl
    rw [e]
    exact q H2 Z2 (s1.trans s2)
  cases neg with
  | true => exact key
  | false => exact key
end
end G
/-! GDctM: walks over d.items(); in, keys, values, len; dict(pairs); len(set(xs)); a new list's append. -/
namespace G
open PySem L2
theorem AllK.at {α : Type} {R : V → α → Prop} : ∀ {kvs : List (Key × V)} {xs : List (P2 Int α)} {i : Nat} {x : P2 Int α}, AllK R kvs xs → xs[i]? = some x → ∃ v, kvs[i]? = some (.inl x.a, v) ∧ R v x.b
  | kv :: r, y :: ys, 0, x, ⟨a, b, c⟩, h => by cases h; exact ⟨kv.2, by rw [← a]; rfl, b⟩
  | kv :: r, y :: ys, i + 1, x, ⟨a, b, c⟩, h => AllK.at (i := i) c h
  | [], [], i, x, _, h => by simp at h
  | [], _ :: _, _, _, h, _ => h.elim
  | _ :: _, [], _, _, h, _ => h.elim
section
variable {X : Cx} {Γ : List Ent} {e a b d : Expr} {es : List Expr} {p p2 q0 pos pos2 apos cpos tpos : Pos} {α β : Type} [Enc α] [Enc β]
theorem src_items {K : Fg} {P : Hp → Hp → Prop} {l : Addr} {ob : Obj} {kvs : List (Key × V)} {dd : List (P2 Int α)} (h : ∀ H Z, P H Z → Same Z H → H l = some (.frz ob (.dK kvs)) ∧ AllK (Enc.rel K Z) kvs dd) : Src K (Iti l ob kvs) P dd := fun H Z hp zh i => by
  obtain ⟨hl, r⟩ := h H Z hp zh
  have e := r.len
  refine ⟨fun hi => ⟨hl, by omega⟩, fun hi => ⟨hl, by omega⟩, fun v H' x y hx => ?_⟩
  obtain ⟨T, k, w, hk, rfl, hT, rfl⟩ := y
  obtain ⟨w', hk', r1⟩ := r.at hx
  rw [hk] at hk'
  cases hk'
  have st := Step.new (o := .tup [.int x.a, w]) zh hT
  exact ⟨_, st, T, _, _, rfl, upd_same, rfl, Enc.mono st.zz r1⟩
theorem pif_items {elts : List Expr} {kk : Nat} {m : Option (DctL α)} (h : PX X e Γ m) (hbase : attributeBase e "items" X.env (eval e X.env) = eval e X.env := by rfl) (hline : (apos.endLine == cpos.line) = true := by rfl) :
    PIF X (.Tuple elts kk tpos) (.Call (.Attribute e "items" apos) [] [] cpos) Γ (m.map DctL.kvs) := pif_of (pi_items pe_w hbase hline) fun F σ H Z en xs hx R q => by
  obtain ⟨y, hy, rfl⟩ := Option.map_eq_some_iff.mp hx
  refine h.run F σ H Z en y hy _ fun H1 Z1 v s ⟨l, o, e1, hl, ob, kvs, eo, r⟩ => ?_
  subst e1 eo
  exact ⟨l, ob, kvs, rfl, s.zh _ _ hl, q _ H1 Z1 s (src_items fun H Z hp zh => ⟨zh _ _ (hp _ _ hl), AllK.imp (fun _ _ q => Enc.mono hp q) r⟩)⟩
theorem pic_items {elts : List Expr} {kk : Nat} {m : Option (DctL α)} (h : PX X e Γ m) (hbase : attributeBase e "items" X.env (eval e X.env) = eval e X.env := by rfl) (hline : (apos.endLine == cpos.line) = true := by rfl) :
    PIC X (.Tuple elts kk tpos) (.Call (.Attribute e "items" apos) [] [] cpos) Γ (m.map DctL.kvs) := pic_of (pif_items h hbase hline)
theorem px_inK {m : Option (List (P2 Int α))} {mk : Option Int} (hu : X.A.units + 1 < cLine) (ha : PX X a Γ mk) (hd : PDL X d Γ m) (hb : behindInMarks .In d = false := by rfl) : PX X (.Compare a [.In] [d] pos) Γ (oInK mk m) := px_of (pe_cmp (pc_din hu pe_w pe_w) hb) fun F σ H Z en x hx Q q => by
  obtain ⟨i, h1, hx⟩ := Option.bind_eq_some_iff.mp hx
  obtain ⟨dd, h2, rfl⟩ := Option.map_eq_some_iff.mp hx
  exact in_readK (neg := false) ha hd F σ H Z en h1 h2 Q fun H' Z' s => q H' Z' _ s rfl
theorem ptx_inK {m : Option (List (P2 Int α))} {mk : Option Int} (hu : X.A.units + 1 < cLine) (ha : PX X a Γ mk) (hd : PDL X d Γ m) (hb : behindInMarks .In d = false := by rfl) : PTX X (.Compare a [.In] [d] pos) Γ (oInK mk m) := ptx_of (pt_cmp (pc_din hu pe_w pe_w) hb) fun F σ H Z en x hx Q q => by
  obtain ⟨i, h1, hx⟩ := Option.bind_eq_some_iff.mp hx
  obtain ⟨dd, h2, rfl⟩ := Option.map_eq_some_iff.mp hx
  exact in_readK (neg := false) ha hd F σ H Z en h1 h2 _ fun H' Z' s => ⟨_, rfl, q H' Z' s⟩
theorem px_notinK {m : Option (List (P2 Int α))} {mk : Option Int} (hu : X.A.units + 1 < cLine) (ha : PX X a Γ mk) (hd : PDL X d Γ m) (hb : behindInMarks .NotIn d = false := by rfl) : PX X (.Compare a [.NotIn] [d] pos) Γ (oNotInK mk m) := px_of (pe_cmp (pc_dnotin hu pe_w pe_w) hb) fun F σ H Z en x hx Q q => by
  obtain ⟨i, h1, hx⟩ := Option.bind_eq_some_iff.mp hx
  obtain ⟨dd, h2, rfl⟩ := Option.map_eq_some_iff.mp hx
  exact in_readK (neg := true) ha hd F σ H Z en h1 h2 Q fun H' Z' s => q H' Z' _ s rfl
theorem ptx_notinK {m : Option (List (P2 Int α))} {mk : Option Int} (hu : X.A.units + 1 < cLine) (ha : PX X a Γ mk) (hd : PDL X d Γ m) (hb : behindInMarks .NotIn d = false := by rfl) : PTX X (.Compare a [.NotIn] [d] pos) Γ (oNotInK mk m) := ptx_of (pt_cmp (pc_dnotin hu pe_w pe_w) hb) fun F σ H Z en x hx Q q => by
  obtain ⟨i, h1, hx⟩ := Option.bind_eq_some_iff.mp hx
  obtain ⟨dd, h2, rfl⟩ := Option.map_eq_some_iff.mp hx
  exact in_readK (neg := true) ha hd F σ H Z en h1 h2 _ fun H' Z' s => ⟨_, rfl, q H' Z' s⟩
theorem pn_keysL {m : Option (List (P2 Int α))} (hc : X.calm = true) (hm : X.mg "list" = none) (hd : PDL X e Γ m) (hg : Gl X "list" := by rfl) (hbase : attributeBase e "keys" X.env (eval e X.env) = eval e X.env := by rfl) (hline : (apos.endLine == cpos.line) = true := by rfl)
    (hs : starEach [.Call (.Attribute e "keys" apos) [] [] cpos] X.env = (false, eval (.Call (.Attribute e "keys" apos) [] [] cpos) X.env) :: starEach [] X.env := by rfl) :
    PN X (.Call (.Name "list" p) [.Call (.Attribute e "keys" apos) [] [] cpos] [] pos) Γ (m.map fun d => d.map P2.a) :=
  pn_of (pe_listKeysR hc pe_w hg hm (by decide +kernel) hbase hline hs) fun F σ H Z en x hx Q q => by
    obtain ⟨y, hy, rfl⟩ := Option.map_eq_some_iff.mp hx
    exact hd.run F σ H Z en y hy _ fun H1 Z1 l kvs s1 hl r => ⟨l, kvs, rfl, hl, fun v hv => q H1 Z1 v _ s1 hv (keys_all2 r)⟩
theorem pn_valsL {m : Option (List (P2 Int α))} (hc : X.calm = true) (hm : X.mg "list" = none) (hd : PDL X e Γ m) (hg : Gl X "list" := by rfl) (hbase : attributeBase e "values" X.env (eval e X.env) = eval e X.env := by rfl) (hline : (apos.endLine == cpos.line) = true := by rfl)
    (hs : starEach [.Call (.Attribute e "values" apos) [] [] cpos] X.env = (false, eval (.Call (.Attribute e "values" apos) [] [] cpos) X.env) :: starEach [] X.env := by rfl) :
    PN X (.Call (.Name "list" p) [.Call (.Attribute e "values" apos) [] [] cpos] [] pos) Γ (m.map fun d => d.map P2.b) :=
  pn_of (pe_listValsR hc pe_w hg hm (by decide +kernel) hbase hline hs) fun F σ H Z en x hx Q q => by
    obtain ⟨y, hy, rfl⟩ := Option.map_eq_some_iff.mp hx
    exact hd.run F σ H Z en y hy _ fun H1 Z1 l kvs s1 hl r => ⟨l, kvs, rfl, hl, fun v hv => q H1 Z1 v _ s1 hv (vals_all2 r)⟩
theorem px_lenL {m : Option (List (P2 Int α))} (hm : X.mg "len" = none) (hd : PDL X a Γ m) (hg : Gl X "len" := by rfl) (hs : starEach [a] X.env = [(false, eval a X.env)] := by rfl) : PX X (.Call (.Name "len" p) [a] [] pos) Γ (oLen m) :=
  px_of (pe_callB call_lenR hg hm (by decide +kernel) (pa_cons pe_w pa_nil (by rw [hs]; rfl)) (he := by rw [hs]; rfl) (hpl := rfl)) fun F σ H Z en x hx Q q => by
    obtain ⟨y, hy, hx⟩ := Option.bind_eq_some_iff.mp hx
    cases hx
    exact hd.run F σ H Z en y hy _ fun H1 Z1 l kvs s1 hl r => ⟨l, kvs, rfl, hl, q H1 Z1 _ s1 (by rw [r.len]; rfl)⟩
def oLenSet (m : Option (List Int)) : Option Int := m.bind fun ns => if ns.length < 64 ∧ ns.Nodup then some (ns.length : Int) else none
theorem px_lenSet {m : Option (List Int)} (hc : X.calm = true) (hm : X.mg "len" = none) (hm2 : X.mg "set" = none) (ha : PL X a Γ m) (hg : Gl X "len" := by rfl) (hg2 : Gl X "set" := by rfl) (na : starEach [a] X.env = (false, eval a X.env) :: starEach [] X.env := by rfl) : PX X (.Call (.Name "len" p) [.Call (.Name "set" p2) [a] [] q0] [] pos) Γ (oLenSet m) :=
  px_of (pe_lenSetI hc hg hm hg2 hm2 pe_w na) fun F σ H Z en x hx Q q => by
    obtain ⟨ns, hns, hx⟩ := Option.bind_eq_some_iff.mp hx
    by_cases c : ns.length < 64 ∧ ns.Nodup
    · rw [if_pos c] at hx
      cases hx
      exact ha.run F σ H Z en ns hns _ fun H1 Z1 l vs s1 hl r1 => ⟨l, ns, rfl, SqL.of (by rw [← all2_V r1]; exact hl), c.1, c.2, q H1 Z1 _ s1 rfl⟩
    · rw [if_neg c] at hx; cases hx
/-- dict(pairs) -/
def dictL {α : Type} : List (P2 Int α) → List (P2 Int α) → List (P2 Int α)
  | ds, [] => ds
  | ds, x :: xs => dictL (putD ds x.a x.b) xs
theorem AllK.merge {R : V → α → Prop} : ∀ {more : List (Key × V)} {xs : List (P2 Int α)} {kvs : List (Key × V)} {ds : List (P2 Int α)}, AllK R more xs → AllK R kvs ds → AllK R (mergeK kvs more) (dictL ds xs)
  | [], [], _, _, _, h => h
  | (k, v) :: r, x :: xs, kvs, ds, ⟨a, b, c⟩, h => by
    have a : k = .inl x.a := a
    subst a
    show AllK R (mergeK (putK kvs (.inl x.a) v) r) (dictL (putD ds x.a x.b) xs)
    exact AllK.merge c (h.put b)
  | [], _ :: _, _, _, h, _ => h.elim
  | _ :: _, [], _, _, h, _ => h.elim
theorem pairs_at {K : Fg} {Z : Hp} : ∀ {vs : List V} {xs : List (P2 Int α)}, All2 (Enc.rel K Z) vs xs → ∃ (ps : List Addr) (kvs : List (Key × V)), vs = ps.map V.ref ∧ Paired (fun q (kv : Key × V) => Z q = some (.tup [kV kv.1, kv.2])) ps kvs ∧ AllK (Enc.rel K Z) kvs xs
  | [], [], _ => ⟨[], [], rfl, .nil, trivial⟩
  | v :: vs, x :: xs, ⟨⟨q, v1, v2, e, h, r1, r2⟩, c⟩ => by
    obtain ⟨ps, kvs, e2, h2, h3⟩ := pairs_at c
    cases r1
    exact ⟨q :: ps, (.inl x.a, v2) :: kvs, by rw [e, e2]; rfl, .cons h h2, rfl, r2, h3⟩
  | [], _ :: _, h => h.elim
  | _ :: _, [], h => h.elim
theorem paired_imp {A B : Type} {R R' : A → B → Prop} (h : ∀ x y, R x y → R' x y) : ∀ {xs : List A} {ys : List B}, Paired R xs ys → Paired R' xs ys
  | _, _, .nil => .nil
  | _, _, .cons r t => .cons (h _ _ r) (paired_imp h t)
theorem pno_dict {m : Option (List (P2 Int α))} (hc : X.calm = true) (hm : X.mg "dict" = none) (ha : PX X a Γ m) (hg : Gl X "dict" := by rfl) (hs : starEach [a] X.env = [(false, eval a X.env)] := by rfl) : PNO X (.Call (.Name "dict" p) [a] [] pos) Γ (m.map fun xs => (⟨dictL [] xs⟩ : Dct α)) :=
  .mk fun F σ H Z en x hx Q q pins s I => (pe_callTy (call_dictP hc) hg hm (by decide +kernel) (pa_cons pe_w pa_nil (by rw [hs]; rfl)) (he := by rw [hs]; rfl) (hpl := rfl)).run pins s σ H Q I (by
    obtain ⟨y, hy, rfl⟩ := Option.map_eq_some_iff.mp hx
    refine ha.run F σ H Z en y hy _ fun H1 Z1 v s1 ⟨l, o, e1, hl, vs, eo, r⟩ => ?_
    subst e1 eo
    obtain ⟨ps, kvs, e2, h2, h3⟩ := pairs_at r
    subst e2
    refine ⟨l, ps, kvs, rfl, SqL.of (s1.zh _ _ hl), paired_imp (fun q kv h => SqT.of (s1.zh _ _ h)) h2, fun q' hq => ?_⟩
    exact q _ Z1 _ _ (NewO.from s1 (NewO.cell s1.zh hq ⟨_, rfl, AllK.merge h3 trivial⟩)))
end
section
variable {X : Cx} {W : WX} {ER : ExS} {rest : List Stmt} {a e : Expr} {pos pos2 apos : Pos} {Γ : List Ent} {N L R : Type} [Res R] {GN : N → List Ent} {GL : L → List Ent} {o : Fl N L R} {α : Type} [Enc α]
/-- a new list's append: nothing is kept of it -/
theorem bx_appendN {m1 : Option (List α)} {m : Option α} {k : List α → Option (Fl N L R)} (hp : PNO X a Γ m1) (hx : PX X e Γ m) (h : (m1.bind fun xs => (oApp xs m).bind k) = some o) (hr : ∀ ys, k ys = some o → BX X W ER rest Γ GN GL o)
    (hst : starEach [e] X.env = (false, eval e X.env) :: starEach [] X.env := by rfl) (hl : (apos.endLine == pos2.line) = true := by rfl) (hbase : attributeBase a "append" X.env (eval a X.env) = eval a X.env := by rfl)
    (hs : swapsWith (.Call (.Attribute a "append" apos) [e] [] pos2) none pos.line X.env = pure false := by rfl) (hpl : (backTo pos2 (starEach [] X.env)).any (·.1) = false := by rfl) : BX X W ER (.Expr (.Call (.Attribute a "append" apos) [e] [] pos2) pos :: rest) Γ GN GL o := by
  obtain ⟨xs, h1, h⟩ := Option.bind_eq_some_iff.mp h
  obtain ⟨ys, h2, h3⟩ := Option.bind_eq_some_iff.mp h
  obtain ⟨x, h4, h5⟩ := Option.bind_eq_some_iff.mp h2
  by_cases hz : xs.length < sizeLine
  case neg => rw [if_neg hz] at h5; cases h5
  rw [if_pos hz] at h5
  cases h5
  refine bx_cons (ps_expr (pe_bm PySem.F.plainAttrs_list PySem.F.slot_list_append PySem.F.type_list_append mt_append pe_w (pa_cons pe_w pa_nil hst) (hbase := hbase) (hfew := by rw [hst]; rfl) (hline := hl) (hs := hst)) hs) fun F D ac σ H Z en => ?_
  refine hp.run F σ H Z en xs h1 _ fun H1 Z1 v fp n => ?_
  obtain ⟨l, u, e1, hl0, ⟨vs, e2, r⟩, hf⟩ := n.own
  subst e1 e2
  have out := n.out l ((hf l).mpr rfl)
  refine ⟨.inl ⟨rfl, _, SqL.of hl0⟩, hx.run F σ H1 Z1 (en.step n.st) x h4 _ fun H' Z' w s r2 => ?_⟩
  have hl1 := s.hh _ _ hl0
  have zl : Z' l = none := by rw [s.old l _ hl0]; exact out.2
  have st := n.st.trans s
  refine ⟨l, vs, w, rfl, rfl, hl1, by rw [r.len]; exact hz, (hr _ h3).run F D ac σ _ Z' (en.step ⟨fun a u ha => ?_, st.zz, fun a u ha => ?_, st.old⟩)⟩
  · have : a ≠ l := fun e => by rw [e, out.1] at ha; cases ha
    rw [upd_ne this]; exact st.hh a u ha
  · have : a ≠ l := fun e => by rw [e, zl] at ha; cases ha
    rw [upd_ne this]; exact st.zh a u ha
end
end G
/-! GOlx: a list of owned things without some of them; lent with all its dicts locked; dicts at a place. -/
namespace G
open PySem L2
section
variable {α : Type} [Enc α] [Own α] {K : Fg} {Z H : Hp}
theorem OwnAll.split : ∀ {vs : List V} {xs : List α} {fp : Fp} (n : Nat), OwnAll K Z H vs xs fp → ∃ f1 f2 : Fp, OwnAll K Z H (vs.take n) (xs.take n) f1 ∧ OwnAll K Z H (vs.drop n) (xs.drop n) f2 ∧ (∀ a, fp a ↔ f1 a ∨ f2 a) ∧ ∀ a, f1 a → ¬ f2 a
  | vs, xs, fp, 0, h => ⟨Fp.no, fp, fun _ f => f, h, fun a => ⟨.inr, fun q => q.elim (fun z => z.elim) id⟩, fun a z => z.elim⟩
  | [], [], fp, n + 1, h => ⟨Fp.no, Fp.no, fun _ f => f, fun _ f => f, fun a => ⟨fun f => absurd f (h a), fun q => q.elim (fun z => z.elim) (fun z => z.elim)⟩, fun a z => z.elim⟩
  | v :: vs, x :: xs, fp, n + 1, ⟨g1, g2, h1, h2, h3, h4⟩ => by
    obtain ⟨f1, f2, o1, o2, i1, d1⟩ := OwnAll.split n h2
    refine ⟨fun a => g1 a ∨ f1 a, f2, ⟨g1, f1, h1, o1, fun _ => Iff.rfl, fun a q r => h4 a q ((i1 a).mpr (.inl r))⟩, o2, fun a => ?_, fun a q r => ?_⟩
    · rw [h3 a, i1 a]
      exact ⟨fun q => by rcases q with q | q | q <;> simp [q], fun q => by rcases q with (q | q) | q <;> simp [q]⟩
    · rcases q with q | q
      · exact h4 a q ((i1 a).mpr (.inr r))
      · exact d1 a q r
  | [], _ :: _, _, _ + 1, h => h.elim
  | _ :: _, [], _, _ + 1, h => h.elim
theorem OwnAll.app : ∀ {vs ws : List V} {xs ys : List α} {f g : Fp}, OwnAll K Z H vs xs f → OwnAll K Z H ws ys g → (∀ a, f a → ¬ g a) → OwnAll K Z H (vs ++ ws) (xs ++ ys) (fun a => f a ∨ g a)
  | [], ws, [], ys, f, g, h, o, d => by
    have : (fun a => f a ∨ g a) = g := funext fun a => propext ⟨fun q => q.elim (fun z => absurd z (h a)) id, .inr⟩
    rw [this]
    exact o
  | v :: vs, ws, x :: xs, ys, f, g, ⟨g1, g2, h1, h2, h3, h4⟩, o, d => by
    refine ⟨g1, fun a => g2 a ∨ g a, h1, OwnAll.app h2 o fun a q => d a ((h3 a).mpr (.inr q)), fun a => ?_, fun a q r => ?_⟩
    · show f a ∨ g a ↔ g1 a ∨ (g2 a ∨ g a)
      rw [h3 a]
      exact ⟨fun q => by rcases q with (q | q) | q <;> simp [q], fun q => by rcases q with q | q | q <;> simp [q]⟩
    · rcases r with r | r
      · exact h4 a q r
      · exact d a ((h3 a).mpr (.inl q)) r
  | [], _, _ :: _, _, _, _, h, _, _ => h.elim
  | _ :: _, _, [], _, _, _, h, _, _ => h.elim
end
/-- xs[:i] + xs[j:], j not below i -/
def oTrim {α : Type} (xs : List α) (ma mb : Option Int) : Option (Ol α) := ma.bind fun i => mb.bind fun j => if 0 ≤ i ∧ i ≤ j ∧ j ≤ xs.length ∧ xs.length ≤ sizeLine then some ⟨xs.take i.toNat ++ xs.drop j.toNat⟩ else none
section
variable {X : Cx} {W : WX} {ER : ExS} {rest : List Stmt} {a b e : Expr} {pos pos' p1 p2 p3 p4 p5 p6 : Pos} {Γ : List Ent} {N L R : Type} [Res R] {GN : N → List Ent} {GL : L → List Ent} {o : Fl N L R} {α : Type} [Enc α] [Own α]
theorem cut_lo {vs : List V} {i : Int} (h : 0 ≤ i ∧ i ≤ vs.length) : cutV vs none (some i) = vs.take i.toNat := by
  obtain ⟨k, rfl⟩ := Int.eq_ofNat_of_zero_le h.1
  unfold cutV
  rw [HT.sIx_none, HT.sIx_nat, List.drop_zero, Nat.sub_zero, Nat.min_eq_left (by omega)]
  rfl
theorem cut_hi {vs : List V} {i : Int} (h : 0 ≤ i ∧ i ≤ vs.length) : cutV vs (some i) none = vs.drop i.toNat := by
  obtain ⟨k, rfl⟩ := Int.eq_ofNat_of_zero_le h.1
  unfold cutV
  rw [HT.sIx_none, HT.sIx_nat, Nat.min_eq_left (by omega), List.take_of_length_le (by rw [List.length_drop]; exact Nat.le_refl _)]
  rfl
/-- name = name[:a] + name[b:] -/
theorem bx_olCat (i : Nat) {nm : Str} {x : Ol α} {ma mb : Option Int} {k : Ol α → Option (Fl N L R)} (hN : X.N.Nodup) (ha : PX X a Γ ma) (hb : PX X b Γ mb) (h : (oTrim x.xs ma mb).bind k = some o) (hr : ∀ y, k y = some o → BX X W ER rest (Γ.set i (.ow none y)) GN GL o)
    (hΓ : Γ[i]? = some (.ow none x) := by rfl) (hi : X.N[i]? = some nm := by rfl) (hl : Loc X.env.scope nm := by first | exact Or.inl rfl | exact Or.inr rfl)
    (hv : Vis X.env.scope nm := by first | exact Or.inl rfl | exact Or.inr (Or.inl rfl) | exact Or.inr (Or.inr rfl)) (hd : (nm == ("__debug__" : Str)) = false := by decide) (hcd : (nm == ("__classdict__" : Str)) = false := by decide)
    (hs : swapsWith (.BinOp (.Subscript (.Name nm p1) (.Slice none (some a) none p2) p3) .Add (.Subscript (.Name nm p4) (.Slice (some b) none none p5) p6) pos') (some (.Name nm pos2)) pos.line X.env = pure false := by rfl)
    (hf : X.fn nm = true ∨ X.env.scope.names.lookup nm = some .local := by first | exact .inl rfl | exact .inr rfl) :
    BX X W ER (.Assign [.Name nm pos2] (.BinOp (.Subscript (.Name nm p1) (.Slice none (some a) none p2) p3) .Add (.Subscript (.Name nm p4) (.Slice (some b) none none p5) p6) pos') pos :: rest) Γ GN GL o := by
  obtain ⟨y, h2, h3⟩ := Option.bind_eq_some_iff.mp h
  obtain ⟨ia, e1, h2⟩ := Option.bind_eq_some_iff.mp h2
  obtain ⟨ib, e2, h2⟩ := Option.bind_eq_some_iff.mp h2
  by_cases c : 0 ≤ ia ∧ ia ≤ ib ∧ ib ≤ x.xs.length ∧ x.xs.length ≤ sizeLine
  case neg => rw [if_neg c] at h2; cases h2
  rw [if_pos c] at h2
  cases h2
  refine bx_cons (ps_set (i := i) hN hi hl (pe_op op_cat (pe_slice sl_list (pe_var hi hv hd hcd) po_none (po_some pe_w)) (pe_slice sl_list (pe_var hi hv hd hcd) (po_some pe_w) po_none)) hs hf) fun F D ac σ H Z en => ?_
  obtain ⟨ov, fp, ho, ⟨v, ev, _, ⟨l, vs, fe, rfl, hl0, oa, hc, hd0⟩, out⟩, put⟩ := en.focus hΓ
  subst ev
  have vl := oa.len
  refine ⟨.ref l, ho, ha.run F σ H Z en ia e1 _ fun H1 Z1 w1 s1 r1 => ?_⟩
  cases r1
  refine ⟨ia, rfl, l, vs, rfl, SqL.of (s1.hh _ _ hl0), fun q1 hq1 => ?_⟩
  rw [cut_lo ⟨c.1, by omega⟩]
  have t1 := Step.newH (o := .lst (vs.take ia.toNat)) s1.zh hq1
  have u1 := s1.trans t1
  refine ⟨.ref l, ho, hb.run F σ _ Z1 (en.step u1) ib e2 _ fun H2 Z2 w2 s2 r2 => ?_⟩
  cases r2
  refine ⟨ib, rfl, l, vs, rfl, SqL.of (s2.hh _ _ (u1.hh _ _ hl0)), fun q2 hq2 => ?_⟩
  rw [cut_hi ⟨by omega, by omega⟩]
  have t2 := Step.newH (o := .lst (vs.drop ib.toNat)) s2.zh hq2
  have u2 := (u1.trans s2).trans t2
  have hl1 : upd H2 q2 (.lst (vs.drop ib.toNat)) q1 = some (.lst (vs.take ia.toNat)) := t2.hh _ _ (s2.hh _ _ upd_same)
  refine ⟨q1, q2, vs.take ia.toNat, vs.drop ib.toNat, rfl, rfl, hl1, upd_same, by rw [List.length_take, List.length_drop]; omega, fun q3 hq3 => ?_⟩
  have t3 := Step.newH (o := .lst (vs.take ia.toNat ++ vs.drop ib.toNat)) t2.zh hq3
  have u3 := u2.trans t3
  obtain ⟨f1, f2, o1, o2, i1, d1⟩ := oa.split ia.toNat
  obtain ⟨f3, f4, o3, o4, i2, d2⟩ := o2.split (ib.toNat - ia.toNat)
  rw [List.drop_drop, List.drop_drop, show ia.toNat + (ib.toNat - ia.toNat) = ib.toNat by omega] at o4
  have oall := o1.app o4 fun a q r => d1 a q ((i2 a).mpr (.inr r))
  have sub : ∀ a, f1 a ∨ f4 a → fe a := fun a q => (i1 a).mpr (q.elim .inl fun z => .inr ((i2 a).mpr (.inr z)))
  have keep : ∀ a, fe a → upd (upd H2 q2 (.lst (vs.drop ib.toNat))) q3 (.lst (vs.take ia.toNat ++ vs.drop ib.toNat)) a = H a := fun a f => by
    obtain ⟨u, hu, _⟩ := oa.odom f
    rw [hu]
    exact u3.hh a u hu
  have hn3 : H q3 = none := u2.hh.free hq3
  have nq : ¬ fe q3 := fun f => by
    obtain ⟨u, hu, _⟩ := oa.odom f
    rw [hn3] at hu
    cases hu
  refine (hr _ h3).run F D ac _ _ Z2 (put _ Z2 _ _ (fun a => a = q3 ∨ (f1 a ∨ f4 a)) (fun a u ha _ => u3.hh a u ha) u3.zz u3.zh (fun a u ha _ => u3.old a u ha) (fun a q => ?_) ⟨.ref q3, rfl, (fun _ z => by cases z), ⟨q3, _, fun a => f1 a ∨ f4 a, rfl, upd_same, OwnAll.omono u3.zz (fun a q => keep a (sub a q)) oall, fun _ => Iff.rfl, fun q => nq (sub _ q)⟩, fun a q => ?_⟩)
  · rcases q with rfl | q
    · exact .inr hn3
    · exact .inl ((hc a).mpr (.inr (sub a q)))
  · rcases q with rfl | q
    · exact ⟨en.hh.free hn3, t2.zh.free hq3⟩
    · have := out a ((hc a).mpr (.inr (sub a q)))
      obtain ⟨u, hu, _⟩ := oa.odom (sub a q)
      exact ⟨this.1, (u3.old a u hu).trans this.2⟩
end
section
variable {X : Cx} {Γ : List Ent} {e : Expr} {α β : Type} [Enc α] [Enc β]
theorem pd_place {x : Dct α} {T : Dct α → List Ent} (h : PR X e Γ (some x) T) : PDR X e Γ (some x) := .mk fun F σ H Z en y hy Q q => by
  cases hy
  refine h.run F σ H Z en x rfl Q fun H' Z' v fp s A => ?_
  obtain ⟨l, u, e1, h2, ⟨kvs, eu, r⟩, _⟩ := A.own
  subst e1 eu
  exact q H' Z' l kvs s h2 r
def lkD (d : Dct α) : DctL α := ⟨d.kvs⟩
def olL (x : Ol (Dct α)) : Ol (DctL α) := ⟨x.xs.map lkD⟩
theorem wE_mono {σ : St} {H : Hp} {Q Q' : VK} (h : wE X e σ H Q) (q : ∀ v H', Q v H' → Q' v H') : wE X e σ H Q' := fun pins s I => thn (h pins s I) fun v s1 ⟨x, H1, I1, r, qq⟩ => ⟨x, H1, I1, r, q x H1 qq⟩
open Classical in
theorem lockAll {K : Fg} {Z : Hp} {σ : St} : ∀ {vs : List V} {xs : List (Dct α)} {fe : Fp} {H : Hp} {Q : VK}, OwnAll K Z H vs xs fe →
    (∀ H2, (∀ a, ¬ fe a → H2 a = H a) → OwnAll K Z H2 vs (xs.map lkD) fe → wE X e σ H2 (fun v H' => (∀ a, fe a → H' a = H2 a) ∧ Q v (fun a => if fe a then H a else H' a))) → wE X e σ H Q
  | [], [], fe, H, Q, o, h => wE_mono (h H (fun _ _ => rfl) (fun a f => o a f)) fun v H' ⟨_, q⟩ => by
    have : (fun a => if fe a then H a else H' a) = H' := funext fun a => if_neg (o a)
    rw [this] at q
    exact q
  | v :: vs, x :: xs, fe, H, Q, ⟨f1, f2, ⟨l, u, e1, hl, ⟨kvs, e2, r⟩, hf⟩, o2, h3, h4⟩, h => fun pins s I => by
    subst e1 e2
    have nl : ¬ f2 l := h4 l ((hf l).mpr rfl)
    have fl : fe l := (h3 l).mpr (.inl ((hf l).mpr rfl))
    refine (pe_lock pe_w).run pins s σ H Q I ⟨l, .dK kvs, hl, trivial, fun od => ?_⟩
    refine lockAll (vs := vs) (xs := xs) (fe := f2) (OwnAll.omono (Same.refl _) (fun a f => upd_ne (fun e => nl (e ▸ f))) o2) fun H2 g1 g2 => ?_
    have hl2 : H2 l = some (.frz od (.dK kvs)) := (g1 l nl).trans upd_same
    refine wE_mono (h H2 (fun a na => ?_) ⟨f1, f2, ⟨l, .frz od (.dK kvs), rfl, hl2, ⟨od, kvs, rfl, r⟩, hf⟩, g2, h3, h4⟩) fun v H' ⟨q1, q2⟩ => ⟨fun a f => q1 a ((h3 a).mpr (.inr f)), ?_, ?_⟩
    · rw [g1 a fun f => na ((h3 a).mpr (.inr f)), upd_ne (show a ≠ l from fun e => na (by rw [e]; exact fl))]
    · show (if f2 l then _ else H' l) = _
      rw [if_neg nl, q1 l fl, hl2]
    · have : upd (fun a => if f2 a then upd H l (.frz od (.dK kvs)) a else H' a) l (.dK kvs) = (fun a => if fe a then H a else H' a) := funext fun a => by
        by_cases c : a = l
        · subst c
          rw [upd_same]
          exact (if_pos fl).trans hl |>.symm
        · rw [upd_ne c]
          by_cases c2 : f2 a
          · have : fe a := (h3 a).mpr (.inr c2)
            rw [if_pos this]
            exact (if_pos c2).trans (upd_ne c)
          · have : ¬ fe a := fun z => ((h3 a).mp z).elim (fun z => c ((hf a).mp z)) c2
            rw [if_neg this]
            exact if_neg c2
      rw [this]
      exact q2
  | [], _ :: _, _, _, _, h, _ => h.elim
  | _ :: _, [], _, _, _, h, _ => h.elim
open Classical in
/-- lent with all its dicts locked -/
theorem px_lockOl (i : Nat) {bv : Option Nat} {x : Ol (Dct α)} {m : Option β} (h : PX X e (Γ.set i (.ow bv (olL x))) m) (hΓ : Γ[i]? = some (.ow bv x) := by rfl) : PX X e Γ m := .mk fun F σ H Z en y hy Q q => by
  obtain ⟨o, fp, ho, ⟨v, e1, hb, ⟨l, vs, fe, e2, hl, oa, hc, hd⟩, out⟩, put⟩ := en.focus hΓ
  subst e1 e2
  refine lockAll oa fun H2 g1 g2 => ?_
  have fl : ∀ a, fe a → fp a := fun a f => (hc a).mpr (.inr f)
  have hl2 : H2 l = some (.lst vs) := (g1 l hd).trans hl
  have en' : EnvOk X.K F (σ.set i (some (.ref l))) H2 Z (Γ.set i (.ow bv (olL x))) := by
    refine put H2 Z _ _ fp (fun a u ha hn => (g1 a fun f => hn (fl a f)).trans ha) (Same.refl _) (fun a u ha => ?_) (fun a u ha hn => rfl) (fun a f => .inl f) ⟨.ref l, rfl, hb, ⟨l, vs, fe, rfl, hl2, g2, hc, hd⟩, out⟩
    have : ¬ fe a := fun f => by rw [(out a (fl a f)).2] at ha; cases ha
    exact (g1 a this).trans (en.zh a u ha)
  rw [show σ.set i (some (V.ref l)) = σ from list_set_self ho] at en'
  refine h.run F σ H2 Z en' y hy _ fun H' Z' w st r => ⟨fun a f => ?_, q _ Z' w ⟨fun a u ha => ?_, st.zz, fun a u ha => ?_, fun a u ha => ?_⟩ r⟩
  · obtain ⟨u, hu, _⟩ := g2.odom f
    rw [hu]
    exact st.hh a u hu
  · by_cases c : fe a
    · exact (if_pos c).trans ha
    · exact (if_neg c).trans (st.hh a u ((g1 a c).trans ha))
  · by_cases c : fe a
    · obtain ⟨u2, hu, _⟩ := g2.odom c
      have := (st.old a u2 hu).trans (out a (fl a c)).2
      rw [ha] at this
      cases this
    · exact (if_neg c).trans (st.zh a u ha)
  · by_cases c : fe a
    · obtain ⟨u2, hu, _⟩ := g2.odom c
      exact st.old a u2 hu
    · exact st.old a u ((g1 a c).trans ha)
end
end G
/-! GOly: a list of owned things walked without a look at them; a dict in such a list. -/
namespace G
open PySem L2
/-- something -/
structure Anyv where
instance : Enc Anyv := ⟨fun _ _ _ _ => True, fun _ h => h⟩
section
variable {X : Cx} {Γ : List Ent} {a b : Expr} {pos : Pos} {α : Type} [Enc α]
theorem any_all {K : Fg} {Z : Hp} [Own α] {H : Hp} : ∀ {vs : List V} {xs : List α} {fp : Fp}, OwnAll K Z H vs xs fp → All2 (Enc.rel K Z) vs (xs.map fun _ => Anyv.mk)
  | [], [], _, _ => trivial
  | _ :: _, _ :: _, _, ⟨_, _, _, h2, _⟩ => ⟨trivial, any_all h2⟩
  | [], _ :: _, _, h => h.elim
  | _ :: _, [], _, h => h.elim
theorem pl_any [Own α] {x : Ol α} {T : Ol α → List Ent} (h : PR X a Γ (some x) T) : PL X a Γ (some (x.xs.map fun _ => Anyv.mk)) := .mk fun F σ H Z en y hy Q q => by
  cases hy
  refine h.run F σ H Z en x rfl Q fun H' Z' v fp s A => ?_
  obtain ⟨l, vs, fe, e1, h2, o, _, _⟩ := A.own
  subst e1
  exact q H' Z' l vs s h2 (any_all o)
theorem pd_olix {x : Ol (Dct α)} {T : Ol (Dct α) → List Ent} {mi : Option Int} (h : PR X a Γ (some x) T) (hi : PX X b Γ mi) (hpl : PlainIx b := by intro _ _; rfl) : PDR X (.Subscript a b pos) Γ (mi.bind fun i => atI x.xs i) := .mk fun F σ H Z en y hy => by
  obtain ⟨i, e1, e2⟩ := Option.bind_eq_some_iff.mp hy
  exact (pd_place (pr_olix h hi e1 e2 hpl)).run F σ H Z en y rfl
end
end G
/-! GHv: lists whose items are owned each: one more at the end, one put anew. -/
namespace G
open PySem L2
section
variable {K : Fg} {F : Frame} {σ : St} {H Z H' Z' Hm : Hp} {α : Type} [Enc α] [Own α] {v w : V} {fp f2 : Fp} {T : Ol α → List Ent} {x : Ol α} {y : α}
theorem OwnAll.one (o : Own.own K Z H w y f2) : OwnAll K Z H [w] [y] f2 := ⟨f2, Fp.no, o, fun _ f => f, fun a => ⟨.inl, fun q => q.elim id (fun z => z.elim)⟩, fun a _ z => z.elim⟩
theorem At.olApp (A : At K F σ Hm Z v x fp T) (n : NewO K Hm Z H Z' w y f2) : ∃ l vs, v = .ref l ∧ Hm l = some (.lst vs) ∧ vs.length = x.xs.length ∧ EnvOk K F σ (upd H l (.lst (vs ++ [w]))) Z' (T ⟨x.xs ++ [y]⟩) := by
  obtain ⟨l, vs, fe, e1, hl, o, hc, hd⟩ := A.own
  subst e1
  have fl : fp l := (hc l).mpr (.inl rfl)
  have ne : ∀ a, f2 a → a ≠ l := fun a q z => by
    subst z
    rw [(n.out a q).1] at hl; cases hl
  have nd : ∀ a, fe a → ¬ f2 a := fun a r q => by
    obtain ⟨u, hu, _⟩ := OwnAll.odom o r
    rw [(n.out a q).1] at hu; cases hu
  have zl : Z' l = none := (n.st.old l _ hl).trans (A.out l fl).2
  refine ⟨l, vs, rfl, hl, o.len, A.put _ Z' _ (fun a => a = l ∨ fe a ∨ f2 a) ⟨fun a u hu nf => ?_, n.st.zz, fun a u hu => ?_, fun a u hu nf => n.st.old a u hu, fun a q => ?_⟩ ⟨l, _, fun a => fe a ∨ f2 a, rfl, upd_same, OwnAll.app (OwnAll.omono n.st.zz (fun a q => ?_) o) (OwnAll.one (Own.omono (Same.refl _) (fun a q => upd_ne (ne a q)) n.own)) nd, fun _ => Iff.rfl, fun q => ?_⟩⟩
  · rw [upd_ne (fun z => nf (by rw [z]; exact fl))]
    exact n.st.hh a u hu
  · rw [upd_ne (ne_of_none hu zl)]
    exact n.st.zh a u hu
  · rcases q with q | q | q
    · subst q; exact ⟨.inl fl, zl⟩
    · obtain ⟨u, hu, _⟩ := OwnAll.odom o q
      exact ⟨.inl ((hc a).mpr (.inr q)), (n.st.old a u hu).trans (A.out a ((hc a).mpr (.inr q))).2⟩
    · exact ⟨.inr (n.out a q).1, (n.out a q).2⟩
  · obtain ⟨u, hu, _⟩ := OwnAll.odom o q
    rw [upd_ne (fun (z : a = l) => hd (z ▸ q)), hu]
    exact n.st.hh a u hu
  · rcases q with q | q
    · exact hd q
    · exact ne l q rfl
theorem At.olSet {k : Nat} {z : α} (A : At K F σ Hm Z v x fp T) (n : NewO K Hm Z H Z' w y f2) (hk : x.xs[k]? = some z) : ∃ l vs, v = .ref l ∧ Hm l = some (.lst vs) ∧ vs.length = x.xs.length ∧ EnvOk K F σ (upd H l (.lst (vs.set k w))) Z' (T ⟨x.xs.set k y⟩) := by
  obtain ⟨l, vs, fe, e1, hl, o, hc, hd⟩ := A.own
  subst e1
  have fl : fp l := (hc l).mpr (.inl rfl)
  have ne : ∀ a, f2 a → a ≠ l := fun a q z => by
    subst z
    rw [(n.out a q).1] at hl; cases hl
  have zl : Z' l = none := (n.st.old l _ hl).trans (A.out l fl).2
  obtain ⟨v1, f1, fr, ev, o1, i1, d1, m1, k1⟩ := o.focus hk
  have rf : ∀ a, fr a → fe a := fun a q => (i1 a).mpr (.inr q)
  have nd : ∀ a, f2 a → ¬ fr a := fun a q r => by
    obtain ⟨u, hu, _⟩ := m1 a r
    rw [(n.out a q).1] at hu; cases hu
  refine ⟨l, vs, rfl, hl, o.len, A.put _ Z' _ (fun a => a = l ∨ f2 a ∨ fr a) ⟨fun a u hu nf => ?_, n.st.zz, fun a u hu => ?_, fun a u hu nf => n.st.old a u hu, fun a q => ?_⟩ ⟨l, _, fun a => f2 a ∨ fr a, rfl, upd_same, k1 Z' _ w y f2 n.st.zz (fun a q => ?_) (Own.omono (Same.refl _) (fun a q => upd_ne (ne a q)) n.own) nd, fun _ => Iff.rfl, fun q => ?_⟩⟩
  · rw [upd_ne (fun z => nf (by rw [z]; exact fl))]
    exact n.st.hh a u hu
  · rw [upd_ne (ne_of_none hu zl)]
    exact n.st.zh a u hu
  · rcases q with q | q | q
    · subst q; exact ⟨.inl fl, zl⟩
    · exact ⟨.inr (n.out a q).1, (n.out a q).2⟩
    · obtain ⟨u, hu, _⟩ := m1 a q
      exact ⟨.inl ((hc a).mpr (.inr (rf a q))), (n.st.old a u hu).trans (A.out a ((hc a).mpr (.inr (rf a q)))).2⟩
  · obtain ⟨u, hu, _⟩ := m1 a q
    rw [upd_ne (fun (z : a = l) => hd (z ▸ rf a q)), hu]
    exact n.st.hh a u hu
  · rcases q with q | q
    · exact ne l q rfl
    · exact hd (rf l q)
end
section
variable {K : Fg} {Fr : Frame} {σ : St} {H Z : Hp} {α β : Type} [Flds α] [Enc β] [Own β] {nm f : Str} {ns : List Str} {C : Addr} {get : α → β} {set : α → β → α} {v : V} {fp : Fp}
/-- a field of what lies at a place -/
theorem At.fld {x : Ins nm ns α} {T : Ins nm ns α → List Ent} (A : At K Fr σ H Z v x fp T) (cis : IsCls K nm C) (F : Fld ns f get set) : ∃ (l dx : Addr) (fs : List (Str × V)) (v1 : V) (f1 : Fp), v = .ref l ∧ H l = some (.ins C dx fs) ∧ fs.lookup f = some v1 ∧ At K Fr σ H Z v1 (get x.v) f1 (fun z => T ⟨set x.v z⟩) := by
  obtain ⟨l, D, dx, fs, fe, e1, hl, hcl, o, hc, hd⟩ := A.own
  cases hcl.same cis
  subst e1
  obtain ⟨v1, f1, fr, ev, o1, i1, d1, m1, k1⟩ := F.own o
  refine ⟨l, dx, fs, v1, f1, rfl, hl, ev, ⟨o1, A.zh, fun a q => A.out a ((hc a).mpr (.inr ((i1 a).mpr (.inl q)))), fun H3 Z3 z fp2 g o2 => ?_⟩⟩
  have nl : ∀ a, fr a → ¬ fp2 a := fun a r f => by
    obtain ⟨u, hu, _⟩ := m1 a r
    rcases (g.out a f).1 with q | q
    · exact d1 a q r
    · rw [q] at hu; cases hu
  have nf : ¬ f1 l := fun q => hd ((i1 l).mpr (.inl q))
  have nf2 : ¬ fp2 l := fun f => by
    rcases (g.out l f).1 with q | q
    · exact nf q
    · rw [q] at hl; cases hl
  have keep : ∀ a, fr a → H3 a = H a := fun a r => by
    obtain ⟨u, hu, _⟩ := m1 a r
    rw [hu]; exact g.hh a u hu (fun q => d1 a q r)
  refine A.put H3 Z3 _ (fun a => a = l ∨ fp2 a ∨ fr a) ⟨fun a u hu n => g.hh a u hu (fun q => n ((hc a).mpr (.inr ((i1 a).mpr (.inl q))))), g.zz, g.zh, fun a u hu n => g.old a u hu (fun q => n ((hc a).mpr (.inr ((i1 a).mpr (.inl q))))), fun a f => ?_⟩ ⟨l, C, dx, fs, fun a => fp2 a ∨ fr a, rfl, g.hh l _ hl nf, cis, ?_, fun _ => Iff.rfl, fun f => ?_⟩
  · rcases f with q | q | q
    · subst q
      exact ⟨.inl ((hc a).mpr (.inl rfl)), (g.old a _ hl nf).trans (A.out a ((hc a).mpr (.inl rfl))).2⟩
    · refine ⟨?_, (g.out a q).2⟩
      rcases (g.out a q).1 with q | q
      · exact .inl ((hc a).mpr (.inr ((i1 a).mpr (.inl q))))
      · exact .inr q
    · obtain ⟨u, hu, _⟩ := m1 a q
      exact ⟨.inl ((hc a).mpr (.inr ((i1 a).mpr (.inr q)))), (g.old a u hu (fun q2 => d1 a q2 q)).trans (A.out a ((hc a).mpr (.inr ((i1 a).mpr (.inr q))))).2⟩
  · have := k1 Z3 H3 v1 z fp2 g.zz keep o2 (fun a q r => nl a r q)
    rw [putF_same ev] at this
    exact this
  · rcases f with q | q
    · exact nf2 q
    · exact hd ((i1 l).mpr (.inr q))
end
def oAppO {α : Type} (x : Ol α) (m : Option α) : Option (Ol α) := m.bind fun y => if x.xs.length < sizeLine then some ⟨x.xs ++ [y]⟩ else none
def oSetO {α : Type} (x : Ol α) (mi : Option Int) (m : Option α) : Option (Ol α) := m.bind fun y => mi.bind fun i => (ixN x.xs.length i).map fun j => ⟨x.xs.set j y⟩
section
variable {X : Cx} {W : WX} {ER : ExS} {rest : List Stmt} {a b c e : Expr} {pos pos' pos2 apos p p1 p2 : Pos} {Γ Γ' : List Ent} {N L R : Type} [Res R] {GN : N → List Ent} {GL : L → List Ent} {o : Fl N L R} {α : Type} [Enc α] [Own α]
/-- place.append(e), e new -/
theorem bx_olApp {x : Ol α} {T : Ol α → List Ent} {m : Option α} {k : Ol α → Option (Fl N L R)} (hp : PR X a Γ (some x) T) (hx : PNO X e Γ m) (h : (oAppO x m).bind k = some o) (hr : ∀ y, k y = some o → BX X W ER rest (T y) GN GL o)
    (hst : starEach [e] X.env = (false, eval e X.env) :: starEach [] X.env := by rfl) (hl : (apos.endLine == pos2.line) = true := by rfl) (hbase : attributeBase a "append" X.env (eval a X.env) = eval a X.env := by rfl)
    (hs : swapsWith (.Call (.Attribute a "append" apos) [e] [] pos2) none pos.line X.env = pure false := by rfl) (hpl : (backTo pos2 (starEach [] X.env)).any (·.1) = false := by rfl) : BX X W ER (.Expr (.Call (.Attribute a "append" apos) [e] [] pos2) pos :: rest) Γ GN GL o := by
  obtain ⟨ys, h2, h3⟩ := Option.bind_eq_some_iff.mp h
  obtain ⟨y, h4, h5⟩ := Option.bind_eq_some_iff.mp h2
  by_cases hz : x.xs.length < sizeLine
  case neg => rw [if_neg hz] at h5; cases h5
  rw [if_pos hz] at h5
  cases h5
  refine bx_cons (ps_expr (pe_bm PySem.F.plainAttrs_list PySem.F.slot_list_append PySem.F.type_list_append mt_append pe_w (pa_cons pe_w pa_nil hst) (hbase := hbase) (hfew := by rw [hst]; rfl) (hline := hl) (hs := hst)) hs) fun F D ac σ H Z en => ?_
  refine hp.run F σ H Z en x rfl _ fun H1 Z1 v fp s1 A => ?_
  obtain ⟨l, vs, fe, e1, hl0, _⟩ := A.own
  subst e1
  refine ⟨.inl ⟨rfl, _, SqL.of hl0⟩, hx.run F σ H1 Z1 (en.step s1) y h4 _ fun H' Z' w f2 n => ?_⟩
  obtain ⟨l', vs', e1, hl1, hlen, e3⟩ := A.olApp n
  cases e1
  exact ⟨l, vs', w, rfl, rfl, n.st.hh _ _ hl1, by rw [hlen]; exact hz, (hr _ h3).run F D ac σ _ Z' e3⟩
/-- self.f[i] = e, e moved -/
theorem bx_setFix (i : Nat) {β : Type} [Flds β] {nm f vn : Str} {ns : List Str} {C : Addr} {get : β → Ol α} {set : β → Ol α → β} {bv : Option Nat} {x : Ins nm ns β} {m : Option α} {mi : Option Int} {k : Ol α → Option (Fl N L R)} (cl : ClsF X.K nm C) (na : NoAttr X.K C f) (Fd : Fld ns f get set) (hx : PRT X e Γ Γ' m) (hi : PX X b Γ' mi) (h : (oSetO (get x.v) mi m).bind k = some o) (hr : ∀ y, k y = some o → BX X W ER rest (Γ'.set i (.ow bv (⟨set x.v y⟩ : Ins nm ns β))) GN GL o)
    (hΓ : Γ'[i]? = some (.ow bv x) := by rfl) (hN : X.N[i]? = some vn := by rfl) (hv : Vis X.env.scope vn := by first | exact Or.inl rfl | exact Or.inr (Or.inl rfl) | exact Or.inr (Or.inr rfl)) (hd : (vn == ("__debug__" : Str)) = false := by decide)
    (hcd : (vn == ("__classdict__" : Str)) = false := by decide) (hb : attributeBase (.Name vn p1) f X.env (eval (.Name vn p1) X.env) = eval (.Name vn p1) X.env := by rfl)
    (hs : swapsWithSole [.Subscript (.Attribute (.Name vn p1) f p2) b pos2] e pos.line X.env = pure false := by rfl) (hw : swappedStores [.Subscript (.Attribute (.Name vn p1) f p2) b pos2] e X.env = pure none := by rfl) (h1 : (assignEach [.Subscript (.Attribute (.Name vn p1) f p2) b pos2] X.env).map (·.2) = [assign (.Subscript (.Attribute (.Name vn p1) f p2) b pos2) X.env] := by rfl)
    (ha : ∀ v, assign (.Subscript (.Attribute (.Name vn p1) f p2) b pos2) X.env v = (do
      let ov ← holding [v] (eval (.Attribute (.Name vn p1) f p2) X.env)
      let iv ← holding [v, ov] (eval b X.env)
      standAt pos2
      holding [v, ov, iv] (setItem ov iv v)
      release [v, ov, iv] []) := by intro _; rfl) : BX X W ER (.Assign [.Subscript (.Attribute (.Name vn p1) f p2) b pos2] e pos :: rest) Γ GN GL o := by
  obtain ⟨ys, h2, h3⟩ := Option.bind_eq_some_iff.mp h
  obtain ⟨y, h4, h5⟩ := Option.bind_eq_some_iff.mp h2
  obtain ⟨q, h6, h7⟩ := Option.bind_eq_some_iff.mp h5
  obtain ⟨j, h8, h9⟩ := Option.map_eq_some_iff.mp h7
  cases h9
  refine bx_cons (ps_asg pe_w (pg_sub pe_w pe_w set_list ha) hs hw h1) fun F D ac σ H Z en => ?_
  refine hx.run F σ [] [] H Z en.len (by rw [List.append_nil, List.append_nil]; exact en) y h4 _ fun H1 Z1 w s1 en1 => ?_
  have en1 : EnvOk X.K F (σ ++ [some w]) H1 Z1 (Γ' ++ [.ow none y]) := by simpa using en1
  have hlen : σ.length = Γ'.length := by rw [hx.len]; exact en.len
  have en2 := en1.pre hlen
  obtain ⟨v, fp, ev, A⟩ := en2.at hΓ
  obtain ⟨l, dx, fs, v1, f1, e1, hl, elk, A1⟩ := A.fld cl.is Fd
  subst e1
  obtain ⟨l1, vs1, fe1, e1, hl1, _⟩ := A1.own
  subst e1
  refine fun pins s I => (pe_fld (pe_var (i := i) hN hv hd hcd) hb).run pins s σ H1 _ I ⟨_, ev, l, C, dx, fs, _, rfl, hl, cl.cl, na, elk, ?_⟩
  refine hi.run F σ H1 Z1 en2 q h6 _ fun H3 Z3 u s3 r2 => ?_
  obtain ⟨fp2, Hm, e2, n⟩ := EnvOk.take (σ := σ) (Γ := Γ') (en1.step s3) hlen
  obtain ⟨v', fp', ev', A'⟩ := e2.at hΓ
  rw [ev] at ev'
  cases ev'
  obtain ⟨l', dx', fs', v1', f1', e1, hl', elk', A1'⟩ := A'.fld cl.is Fd
  cases e1
  have : some (HO.ins C dx fs) = some (HO.ins C dx' fs') := by rw [← s3.hh _ _ hl, ← n.st.hh _ _ hl']
  cases this
  rw [elk] at elk'
  cases elk'
  have hj : j < (get x.v).xs.length := by
    unfold ixN at h8
    split at h8 <;> split at h8 <;> cases h8 <;> omega
  obtain ⟨l2, vs2, e1, hl2, hlen2, e3⟩ := A1'.olSet n (List.getElem?_eq_getElem hj)
  cases e1
  exact ⟨l1, vs2, q, j, rfl, r2, n.st.hh _ _ hl2, by rw [hlen2]; exact h8, (hr _ h3).run F D ac σ _ Z3 e3⟩
end
end G
/-! GHw: a for over the items of a dict that the def owns, locked meanwhile, and not met in the body. -/
namespace G
open PySem L2
/-- what is handed back while l stood locked -/
class ResL (R : Type) [Res R] : Prop where
  unl : ∀ {K : Fg} {F : Frame} {H H1 Z : Hp} {v w : V} {r : R} {fp : Fp} {l : Addr} {u u2 : HO}, Res.res K (pinF F H1 fp w) H Z v r → (∀ a, fp a ↔ a = l) → F.H0 l = none → F.Z0 l = none → H1 l = some u → Res.res K F (upd H l u2) Z v r
  stp : ∀ {K : Fg} {F : Frame} {H Z : Hp} {v : V} {r : R}, Res.res K F H Z v r → Step F.H0 F.Z0 H Z
theorem Step.unl {F : Frame} {H H1 Z : Hp} {w : V} {fp : Fp} {l : Addr} {u u2 : HO} (s : Step (pinF F H1 fp w).H0 F.Z0 H Z) (hf : ∀ a, fp a ↔ a = l) (h0 : F.H0 l = none) (z0 : F.Z0 l = none) (h1 : H1 l = some u) : Step F.H0 F.Z0 (upd H l u2) Z := by
  have zl : Z l = none := (s.old l u (by rw [pinF_in ((hf l).mpr rfl)]; exact h1)).trans z0
  refine ⟨fun a o ho => ?_, s.zz, fun a o ho => ?_, fun a o ho => s.old a o (pinF_out (fun q => by rw [(hf a).mp q]; exact h0) ho)⟩
  · have ne : a ≠ l := fun e => by rw [e, h0] at ho; cases ho
    rw [upd_ne ne]
    exact s.hh a o (pinF_out (fun q => absurd ((hf a).mp q) ne) ho)
  · rw [upd_ne (ne_of_none ho zl)]
    exact s.zh a o ho
instance {R : Type} [Enc R] : ResL R := ⟨fun ⟨s, r⟩ hf h0 z0 h1 => ⟨s.unl hf h0 z0 h1, r⟩, fun h => h.1⟩
instance {C : Type} [Enc C] [Own C] : ResL (Nw C) := ⟨fun {K F H H1 Z v w r fp l u u2} ⟨g, s, o, q⟩ hf h0 z0 h1 => ⟨g, s.unl hf h0 z0 h1, Own.omono (Same.refl _) (fun a ga => upd_ne fun e => by
    have := (q a ga).1
    rw [e, pinF_in ((hf l).mpr rfl), h1] at this
    cases this) o, fun a ga => ⟨by
    have h2 := (q a ga).1
    by_cases c : fp a
    · rw [pinF_in c, (hf a).mp c, h1] at h2; cases h2
    · exact (if_neg c).symm.trans h2, (q a ga).2⟩⟩, fun ⟨_, s, _⟩ => s⟩
section
variable {X : Cx} {W : WX} {ER : ExS} {rest body : List Stmt} {pos p apos cpos tpos : Pos} {Γ : List Ent} {N L R S : Type} [Res R] [ResL R] {GN : N → List Ent} {GL : L → List Ent} {GS : S → List Ent} {o : Fl N L R} {α : Type} [Enc α]
/-- for a, b in name.items(): body; the dict at slot i is not met in the body -/
theorem bx_forD (i : Nat) {vn : Str} {elts : List Expr} {kk : Nat} {js : List Nat} {T : P2 Int α → List Ent → List Ent} {ys : Dct α} {f : S → P2 Int α → Option (Fl S S R)} {s0 : S} {k : S → Option (Fl N L R)} (hp : PassesOwn (model X.prog X.w) X.A X.env X.xe) (hc : X.calm = true) (hΓ : Γ[i]? = some (.ow none ys)) (hg : PGX X (.Tuple elts kk tpos) js T) (w : Wk Γ (GS s0))
    (hGS : ∀ s, (GS s)[i]? = some (.ow none ys)) (nb : ∀ s, NBv (GS s)) (hER : ∀ c f Z cls d, ¬ ER.er c f Z cls d)
    (hb : ∀ s x (o' : Fl S S R), f s x = some o' → BX X W ER body (T x ((GS s).set i pinE)) (fun s => (GS s).set i pinE) (fun s => (GS s).set i pinE) o') (h : thenFl (forM ys.kvs f s0) k = some o) (hr : ∀ s, k s = some o → BX X W ER rest (GS s) GN GL o)
    (hN : X.N[i]? = some vn := by rfl) (hv : Vis X.env.scope vn := by first | exact Or.inl rfl | exact Or.inr (Or.inl rfl) | exact Or.inr (Or.inr rfl)) (hd : (vn == ("__debug__" : Str)) = false := by decide) (hcd : (vn == ("__classdict__" : Str)) = false := by decide)
    (hbase : attributeBase (.Name vn p) "items" X.env (eval (.Name vn p) X.env) = eval (.Name vn p) X.env := by rfl) (hline : (apos.endLine == cpos.line) = true := by rfl)
    (hs : ∀ x, foldedSetIterable (.Call (.Attribute (.Name vn p) "items" apos) [] [] cpos) X.env x = pure x := by intro _; rfl) : BX X W ER (.For (.Tuple elts kk tpos) (.Call (.Attribute (.Name vn p) "items" apos) [] [] cpos) body [] pos :: rest) Γ GN GL o := by
  refine bx_cons (ps_lock (ps_for hp hc (pi_items (pe_var (i := i) hN hv hd hcd) hbase hline) pg_w ps_w hs)) fun F D ac σ H Z en => ?_
  obtain ⟨v, fp, ev, ow, out, put⟩ := (en.wk w).at2 (hGS s0)
  obtain ⟨l, u, e1, hl, ⟨kvs, eu, r⟩, hfp⟩ := ow
  subst e1 eu
  have ol := out l ((hfp l).mpr rfl)
  refine ⟨l, .dK kvs, hl, trivial, fun od => ?_⟩
  have bk : ∀ s, ((GS s).set i (.ow none (⟨ys.kvs⟩ : DctL α))).set i (.ow none ys) = GS s := fun s => set_back (hGS s)
  have len : ∀ s, i < (GS s).length := fun s => (List.getElem?_eq_some_iff.mp (hGS s)).1
  have gl : ∀ s, ((GS s).set i (.ow none (⟨ys.kvs⟩ : DctL α)))[i]? = some (.ow none (⟨ys.kvs⟩ : DctL α)) := fun s => List.getElem?_set_self (len s)
  have pe : ∀ s, ((GS s).set i (.ow none (⟨ys.kvs⟩ : DctL α))).set i pinE = (GS s).set i pinE := fun s => List.set_set ..
  have nbl : ∀ {Δ : List Ent}, NBv Δ → ∀ j, NBv (Δ.set j (.ow none (⟨ys.kvs⟩ : DctL α))) := fun {Δ} hn => by
    induction hn with
    | nil => intro j; exact .nil
    | no hh ih => intro j; cases j with
      | zero => exact .ow hh
      | succ j => exact .no (ih j)
    | fz hh ih => intro j; cases j with
      | zero => exact .ow hh
      | succ j => exact .fz (ih j)
    | ow hh ih => intro j; cases j with
      | zero => exact .ow hh
      | succ j => exact .ow (ih j)
  have enL : EnvOk X.K F σ (upd H l (.frz od (.dK kvs))) Z ((GS s0).set i (.ow none (⟨ys.kvs⟩ : DctL α))) := by
    refine put (upd H l (.frz od (.dK kvs))) Z _ _ _ _ fp ⟨fun a u ha hn => ?_, Same.refl _, fun a u ha => ?_, fun a u ha hn => rfl, fun a f => ⟨.inl f, (out a f).2⟩⟩ ⟨l, _, rfl, upd_same, ⟨od, kvs, rfl, r⟩, hfp⟩
    · rw [upd_ne (fun e => hn ((hfp a).mpr e))]; exact ha
    · rw [upd_ne (ne_of_none ha ol.2)]; exact en.zh a u ha
  obtain ⟨v', fp', ev', ow, out', enp⟩ := enL.pin (nbl (nb s0) i) (gl s0)
  rw [ev] at ev'
  cases ev'
  obtain ⟨l', u', e1, hl1, hcr', hfp'⟩ := id ow
  cases e1
  have lin : (pinF F (upd H l (.frz od (.dK kvs))) fp' (.ref l)).H0 l = some (.frz od (.dK kvs)) := by
    rw [pinF_in ((hfp' l).mpr rfl)]; exact upd_same
  have unlock : ∀ {σ' : St} {H' Z' : Hp} (s : S), EnvOk X.K F σ' H' Z' ((GS s).set i (.ow none (⟨ys.kvs⟩ : DctL α))) → H' l = some (.frz od (.dK kvs)) → σ'[i]? = some (some (.ref l)) → EnvOk X.K F σ' (upd H' l (.dK kvs)) Z' (GS s) := fun {σ' H' Z'} s e he hσ => by
    obtain ⟨v2, fp2, ev2, ⟨l2, u2, e2, hl2, ⟨od2, kvs2, eo2, r2⟩, hfp2⟩, out2, put2⟩ := e.at2 (gl s)
    rw [hσ] at ev2
    cases ev2
    cases e2
    rw [he] at hl2
    subst eo2
    cases hl2
    have ol2 := out2 l ((hfp2 l).mpr rfl)
    have := put2 (upd H' l (.dK kvs)) Z' (Dct α) inferInstance inferInstance ys fp2 ⟨fun a u ha hn => by rw [upd_ne (fun e => hn ((hfp2 a).mpr e))]; exact ha, Same.refl _, fun a u ha => by rw [upd_ne (ne_of_none ha ol2.2)]; exact e.zh a u ha, fun a u ha hn => rfl, fun a f => ⟨.inl f, (out2 a f).2⟩⟩ ⟨l, _, rfl, upd_same, ⟨kvs, rfl, r2⟩, hfp2⟩
    rw [bk s] at this
    exact this
  have slot : ∀ {σ' : St} {H' Z' : Hp} (s : S), EnvOk X.K (pinF F (upd H l (.frz od (.dK kvs))) fp' (.ref l)) σ' H' Z' ((GS s).set i pinE) → σ'[i]? = some (some (.ref l)) := fun s e => by
    obtain ⟨fps, hh, _⟩ := e.ent
    obtain ⟨o, ho, v', e1, hb, _, _⟩ := hh i pinE (by rw [List.getElem?_set_self (len s)])
    have := hb 0 rfl
    cases this
    rw [ho, e1]
  have done : ∀ {σ' : St} {H' Z' : Hp} (s : S), EnvOk X.K (pinF F (upd H l (.frz od (.dK kvs))) fp' (.ref l)) σ' H' Z' ((GS s).set i pinE) → Same Z Z' → H' l = some (.frz od (.dK kvs)) ∧ EnvOk X.K F σ' (upd H' l (.dK kvs)) Z' (GS s) := fun {σ' H' Z'} s e sz => by
    have hl' := e.hh _ _ lin
    rw [← pe s] at e
    exact ⟨hl', unlock s (e.unpin ow out' sz (nbl (nb s) i) (gl s)) hl' (slot s (by rw [← pe s]; exact e))⟩
  refine ⟨_, ev, l, od, kvs, rfl, upd_same, ?_⟩
  have src : Src X.K (Iti l od kvs) (fun H' Z' => H' l = some (.frz od (.dK kvs)) ∧ Same Z Z') ys.kvs := src_items fun H' Z' hp zh => ⟨hp.1, AllK.imp (fun _ _ q => Enc.mono hp.2 q) r⟩
  rw [pe s0] at enp
  refine ⟨fun i' n σ' H' => n = ys.kvs.length - i' ∧ i' ≤ ys.kvs.length ∧ ∃ Z' s, EnvOk X.K (pinF F (upd H l (.frz od (.dK kvs))) fp' (.ref l)) σ' H' Z' ((GS s).set i pinE) ∧ Same Z Z' ∧ thenFl (forM (ys.kvs.drop i') f s) k = some o, ⟨ys.kvs.length, by simp, Nat.zero_le _, Z, s0, enp, Same.refl _, h⟩, ?_⟩
  rintro i' n σ' H' ⟨rfl, hi', Z', s, en', sz, hm⟩
  obtain ⟨go, stop, yld⟩ := src H' Z' ⟨en'.hh _ _ lin, sz⟩ en'.zh i'
  by_cases hlt : i' < ys.kvs.length
  · refine .inr ⟨go hlt, ?_⟩
    have hdr : ys.kvs.drop i' = ys.kvs[i'] :: ys.kvs.drop (i' + 1) := List.drop_eq_getElem_cons hlt
    rw [hdr] at hm
    cases ho : f s ys.kvs[i'] with
    | none => simp only [forM, ho, thenFl] at hm; cases hm
    | some o' =>
      refine ⟨fun σ2 H2 => ∃ Z2 s2, EnvOk X.K (pinF F (upd H l (.frz od (.dK kvs))) fp' (.ref l)) σ2 H2 Z2 ((GS s2).set i pinE) ∧ Same Z Z2 ∧ thenFl (forM (ys.kvs.drop (i' + 1)) f s2) k = some o, fun σ2 H2 ⟨Z2, s2, a1, a2, a3⟩ => ⟨ys.kvs.length - (i' + 1), by omega, rfl, hlt, Z2, s2, a1, a2, a3⟩, fun v H2 y => ?_⟩
      obtain ⟨Z2, s2, r2⟩ := yld v H2 ys.kvs[i'] y (by simp [hlt])
      have en2 := en'.step s2
      refine hg.run _ σ' H2 Z2 _ v ys.kvs[i'] en2 r2 _ fun σ3 en3 _ => ?_
      refine (hb s ys.kvs[i'] o' ho).run ⟨(pinF F (upd H l (.frz od (.dK kvs))) fp' (.ref l)).H0, Z2, (pinF F (upd H l (.frz od (.dK kvs))) fp' (.ref l)).bs⟩ _ ?_ σ3 H2 Z2 en3.here
      have z12 : Same Z Z2 := sz.trans s2.zz
      cases o' with
      | nx s' =>
        simp only [forM, ho] at hm
        exact fun σ4 H4 Z4 en4 => ⟨Z4, s', en3.back en4, z12.trans en4.zz, hm⟩
      | ct s' =>
        simp only [forM, ho] at hm
        exact fun σ4 H4 Z4 en4 => ⟨Z4, s', en3.back en4, z12.trans en4.zz, hm⟩
      | br s' =>
        simp only [forM, ho, thenFl] at hm
        exact fun σ4 H4 Z4 en4 => by
          obtain ⟨q1, q2⟩ := done s' (en3.back en4) (z12.trans en4.zz)
          exact ⟨q1, (hr s' hm).run F D ac σ4 _ Z4 q2⟩
      | rt r' =>
        simp only [forM, ho, thenFl] at hm
        cases hm
        refine fun H4 Z4 v4 r4 => ?_
        have r5 := Res.back (K := X.K) (F := pinF F (upd H l (.frz od (.dK kvs))) fp' (.ref l)) en3.zz en3.old r4
        refine ⟨(ResL.stp r5).hh _ _ lin, ac _ Z4 v4 (ResL.unl r5 hfp' (out' l ((hfp' l).mpr rfl)).1 (out' l ((hfp' l).mpr rfl)).2.2 upd_same)⟩
      | xc c' f' =>
        exact fun σ4 H4 Z4 cls d en4 r4 => absurd r4 (hER _ _ _ _ _)
  · have e : i' = ys.kvs.length := by omega
    subst e
    rw [List.drop_length] at hm
    simp only [forM, thenFl] at hm
    obtain ⟨q1, q2⟩ := done s en' sz
    exact .inl ⟨stop (Nat.le_refl _), q1, (hr s hm).run F D ac σ' _ Z' q2⟩
end
end G
/-! GStp: lists' slices with a step. -/
namespace L2
open PySem PySem.Spec PyProof.Rows
/-- the items of xs[lo:hi:k] -/
def pickV {α : Type} (xs : List α) (lo hi : Option Int) (k : Int) : List α := (sliceRange (sliceBounds lo hi (some k) xs.length).1 (sliceBounds lo hi (some k) xs.length).2.1 (sliceBounds lo hi (some k) xs.length).2.2).filterMap (xs[·]?)
theorem pickV_paired {R : V → Value → Prop} {xs : List V} {its : List Value} (r : Paired R xs its) : ∀ (js : List Nat), Paired R (js.filterMap (xs[·]?)) (js.filterMap (its[·]?))
  | [] => .nil
  | j :: js => by
    have ih := pickV_paired r js
    rw [List.filterMap_cons, List.filterMap_cons]
    have hl := r.length
    by_cases c : j < xs.length
    · rw [List.getElem?_eq_getElem c, List.getElem?_eq_getElem (show j < its.length by omega)]
      refine .cons ?_ ih
      exact paired_at r (List.getElem?_eq_getElem c) (List.getElem?_eq_getElem (show j < its.length by omega))
    · rw [List.getElem?_eq_none (by omega), List.getElem?_eq_none (by omega)]
      exact ih
def rSlK (K : PySem.W.Frag) (k : Int) : V → Option Int → Option Int → Hp → VK → Prop := fun x lo hi H Q => ∃ a xs, x = .ref a ∧ SqL K H a xs ∧ (pickV xs lo hi k).length ≤ sizeLine ∧ ∀ p, H p = none → Q (.ref p) (upd H p (.lst (pickV xs lo hi k)))
theorem pe_sliceS {X : Cx} {e : Expr} {te : TE} {lo hi : Option Expr} {tl th : TO} {k : Int} {kk : Nat} {p1 p2 pos : Pos} (hk : k ≠ 0) (he : PE X e te) (hlo : PO X lo tl) (hhi : PO X hi th) : PE X (.Subscript e (.Slice lo hi (some (.Constant (.int k) kk p1)) p2) pos) (tSl (rSlK X.K k) te tl th) := by
  refine ⟨fun pins s σ H Q I h => ?_⟩
  refine Subscript_ (thn (he.run pins s σ H _ I h) fun v s1 ⟨x, H1, I1, r1, q1⟩ => ?_)
  have hst : PO X (some (.Constant (.int k) kk p1)) (tPart (tC (.int k))) := po_some pe_int
  refine wpAny_Slice (thn (hlo.run pins s1 σ H1 _ I1 q1) fun vl s2 ⟨l, H2, I2, pl, q2⟩ => thn (hhi.run pins s2 σ H2 _ I2 q2) fun vu s3 ⟨u, H3, I3, pu, q3⟩ => ?_)
  refine thn (hst.run pins s3 σ H3 (fun o H4 => o = some k ∧ H4 = H3) I3 ⟨k, rfl, rfl, rfl⟩) fun vs s4 ⟨o, H4, I4, ps, eo, e4⟩ => ?_
  subst eo e4
  obtain ⟨a, xs, ex, hx, hz2, q⟩ := q3
  subst ex
  cases r1
  have I5 : Inv X pins σ H4 { s4 with heap := s4.heap.push { cls := .type "slice", data := .fields #[vl, vu, vs] } } := I4.kept (t' := s4.toks) fun b ob q => Heap.get?_push_of_some _ q
  obtain ⟨its, r, ht, hz⟩ := I5.list hx
  have hlen := r.length
  show wpAny (model X.prog X.w) X.A (subscriptTail e (.Slice lo hi (some (.Constant (.int k) kk p1)) p2) (.ref a) (.ref s4.heap.objs.size)) (EP X pins σ Q) X.xe { s4 with heap := s4.heap.push { cls := .type "slice", data := .fields #[vl, vu, vs] } }
  refine tail_any (ops := [.ref a, .ref s4.heap.objs.size]) ht.isList.typeIs (PySem.slot_list_getitem.lookup) ?_ (by with_unfolding_all rfl)
  refine wpAny_getItem_list_slice ht.isList (Heap.IsSliceOf.new _ vl vu vs) pl pu ps (fun q => hk (by cases q; rfl)) ?_ (by rw [List.size_toArray]; omega)
  have e : slicePick its.toArray l u (some k) = (pickV its l u k).toArray := by
    unfold slicePick pickV
    rw [List.size_toArray]
    congr 1
    exact congrFun (congrArg _ (funext fun j => by rw [List.getElem?_toArray])) _
  rw [e]
  have pr : Vals (pickV xs l u k) (pickV its l u k) := by
    unfold pickV
    rw [← hlen]
    exact pickV_paired r _
  refine ⟨.ref _, _, I5.laid (t' := s4.toks) (o := .lst (pickV xs l u k)) (fun b ob q => Heap.get?_push_of_some _ q) (Nat.le_refl _) ?_, rfl, q _ (I5.hok.fresh (Nat.le_refl _))⟩
  exact ⟨hz2, _, 0, pr, Heap.get?_push_size _ rfl⟩
end L2
namespace G
open PySem L2
def oCutS {α : Type} (a : Option (List α)) (lo hi : Option (Option Int)) (k : Int) : Option (List α) := a.bind fun xs => lo.bind fun l => hi.bind fun h => if (pickV xs l h k).length ≤ sizeLine then some (pickV xs l h k) else none
theorem pickV_all2 {α : Type} {R : V → α → Prop} {vs : List V} {xs : List α} (r : All2 R vs xs) : ∀ (js : List Nat), All2 R (js.filterMap (vs[·]?)) (js.filterMap (xs[·]?))
  | [] => trivial
  | j :: js => by
    have ih := pickV_all2 r js
    rw [List.filterMap_cons, List.filterMap_cons]
    have hl := r.len
    cases c : xs[j]? with
    | none =>
      rw [List.getElem?_eq_none (by have := List.getElem?_eq_none_iff.mp c; omega)]
      exact ih
    | some x =>
      obtain ⟨v, hv, q⟩ := r.get' c
      rw [hv]
      exact ⟨q, ih⟩
section
variable {X : Cx} {Γ : List Ent} {a : Expr} {pos p1 p2 : Pos} {α : Type} [Enc α]
theorem pn_sliceS3 {lo hi : Option Expr} {k : Int} {kk : Nat} {m : Option (List α)} {ml mh : Option (Option Int)} (ha : PL X a Γ m) (hl : POX X lo Γ ml) (hh : POX X hi Γ mh) (hk : k ≠ 0 := by decide) : PN X (.Subscript a (.Slice lo hi (some (.Constant (.int k) kk p1)) p2) pos) Γ (oCutS m ml mh k) := pn_of (pe_sliceS hk pe_w po_w po_w) fun F σ H Z en x hx Q q => by
  obtain ⟨xs, h1, hx⟩ := Option.bind_eq_some_iff.mp hx
  obtain ⟨l, h2, hx⟩ := Option.bind_eq_some_iff.mp hx
  obtain ⟨h, h3, hx⟩ := Option.bind_eq_some_iff.mp hx
  by_cases c : (pickV xs l h k).length ≤ sizeLine
  case neg => rw [if_neg c] at hx; cases hx
  rw [if_pos c] at hx
  cases hx
  refine ha.run F σ H Z en xs h1 _ fun H1 Z1 l1 vs1 s1 hl1 r1 => hl.run F σ H1 Z1 (en.step s1) l h2 _ fun H2 Z2 s2 => hh.run F σ H2 Z2 (en.step (s1.trans s2)) h h3 _ fun H3 Z3 s3 => ?_
  have r3 : All2 (Enc.rel X.K Z3) (pickV vs1 l h k) (pickV xs l h k) := by
    unfold pickV
    rw [r1.len]
    exact pickV_all2 (all2_mono (s2.zz.trans s3.zz) r1) _
  exact ⟨l1, vs1, rfl, SqL.of (s3.hh _ _ (s2.hh _ _ hl1)), by rw [r3.len]; exact c, fun p' hp => q H3 Z3 p' _ ((s1.trans s2).trans s3) hp r3⟩
theorem pickV_mem {α : Type} {xs : List α} {lo hi : Option Int} {k : Int} {x : α} (h : x ∈ pickV xs lo hi k) : x ∈ xs := by
  obtain ⟨j, _, hj⟩ := List.mem_filterMap.mp h
  exact List.mem_of_getElem? hj
theorem pickV_len {α : Type} {xs : List α} {lo hi : Option Int} {k : Int} : (pickV xs lo hi k).length ≤ xs.length := by
  unfold pickV
  refine Nat.le_trans (List.length_filterMap_le _ _) (sliceRange_length_le _ _ _ _ (fun hc => ?_) fun hc => ?_)
  · simp only [sliceBounds] at hc ⊢
    simp only [hc, if_true]
    constructor
    · cases lo with
      | none => simp
      | some i => dsimp only; omega
    · cases hi with
      | none => simp
      | some i => dsimp only; omega
  · simp only [sliceBounds] at hc ⊢
    simp only [hc, if_false]
    constructor
    · cases lo with
      | none => simp
      | some i => dsimp only; omega
    · cases hi with
      | none => simp
      | some i => dsimp only; omega
theorem oCutS_ok {α : Type} {xs : List α} {lo hi : Option Int} {k : Int} (hl : xs.length < 1000000) : oCutS (some xs) (some lo) (some hi) k = some (pickV xs lo hi k) := if_pos (Nat.le_trans pickV_len (Nat.le_of_lt (Nat.lt_of_lt_of_le hl (by decide))))
end
end G
/-! GPix: as bx_forP, where new things may be handed back. -/
namespace G
open PySem L2
class ResP (R : Type) [Res R] : Prop where
  unp : ∀ {K : Fg} {F : Frame} {H H1 Z : Hp} {v w : V} {r : R} {fp : Fp}, Res.res K (pinF F H1 fp w) H Z v r → (∀ a, fp a → F.H0 a = none) → (∀ a, fp a → ∃ u, H1 a = some u) → Res.res K F H Z v r
theorem Step.unp {F : Frame} {H H1 Z : Hp} {w : V} {fp : Fp} (s : Step (pinF F H1 fp w).H0 F.Z0 H Z) (h0 : ∀ a, fp a → F.H0 a = none) : Step F.H0 F.Z0 H Z := ⟨fun a u hu => s.hh a u (pinF_out (fun q => h0 a q) hu), s.zz, s.zh, fun a u hu => s.old a u (pinF_out (fun q => h0 a q) hu)⟩
instance {R : Type} [Enc R] : ResP R := ⟨fun ⟨s, r⟩ h0 _ => ⟨s.unp h0, r⟩⟩
theorem pin_none {F : Frame} {H1 : Hp} {w : V} {fp : Fp} {a : Addr} (h0 : fp a → F.H0 a = none) (h : (pinF F H1 fp w).H0 a = none) : F.H0 a = none := by
  cases hF : F.H0 a with
  | none => rfl
  | some u =>
    rw [pinF_out h0 hF] at h
    cases h
instance {C : Type} [Enc C] [Own C] : ResP (Nw C) := ⟨fun {K F H H1 Z v w r fp} ⟨g, s, o, q⟩ h0 h1 => ⟨g, s.unp h0, o, fun a ga => ⟨pin_none (h0 a) (q a ga).1, (q a ga).2⟩⟩⟩
section
variable {X : Cx} {W : WX} {ER : ExS} {rest body : List Stmt} {tg iter : Expr} {pos p p1 : Pos} {Γ : List Ent} {N L R S : Type} [Res R] [ResP R] {GN : N → List Ent} {GL : L → List Ent} {GS : S → List Ent} {o : Fl N L R} {α β ι : Type} [Enc α] [Enc β] [Enc ι]
/-- for target in iter: body; the list at slot i is not met in the body -/
theorem bx_forQ (i : Nat) {js : List Nat} {T : ι → List Ent → List Ent} {ys : List α} {m : Option (List ι)} {f : S → ι → Option (Fl S S R)} {s0 : S} {k : S → Option (Fl N L R)} (hp : PassesOwn (model X.prog X.w) X.A X.env X.xe) (hc : X.calm = true) (hi : PIP X tg iter Γ i ys m) (hΓ : Γ[i]? = some (.ow none ys)) (hg : PGX X tg js T) (w : Wk Γ (GS s0))
    (hGS : ∀ s, (GS s)[i]? = some (.ow none ys)) (nb : ∀ s, NBv (GS s)) (hER : ∀ c f Z cls d, ¬ ER.er c f Z cls d)
    (hb : ∀ s x (o' : Fl S S R), f s x = some o' → BX X W ER body (T x ((GS s).set i pinE)) (fun s => (GS s).set i pinE) (fun s => (GS s).set i pinE) o') (h : (m.bind fun xs => thenFl (forM xs f s0) k) = some o) (hr : ∀ s, k s = some o → BX X W ER rest (GS s) GN GL o)
    (hs : ∀ x, foldedSetIterable iter X.env x = pure x := by intro _; rfl) : BX X W ER (.For tg iter body [] pos :: rest) Γ GN GL o := by
  obtain ⟨xs, h1, h2⟩ := Option.bind_eq_some_iff.mp h
  refine bx_cons (ps_for hp hc pi_w pg_w ps_w hs) fun F D ac σ H Z en => ?_
  obtain ⟨v, fpA, ev, ow0, _, _⟩ := en.at2 hΓ
  obtain ⟨l, u, e1, hl, hcr, hfp⟩ := ow0
  obtain ⟨vs, e2, hvs⟩ := hcr
  subst e1 e2
  refine hi.run F σ H Z en l vs ev hl hvs xs h1 _ fun I H1 Z1 st src => ?_
  have en1 := (en.step st).wk w
  obtain ⟨v', fp, ev', ow, out, enp⟩ := en1.pin (nb s0) (hGS s0)
  rw [ev] at ev'
  cases ev'
  obtain ⟨l', u', e1, hl1, hcr', hfp'⟩ := id ow
  cases e1
  have hl2 := st.hh _ _ hl
  have lin : (pinF F H1 fp (.ref l)).H0 l = some (.lst vs) := by
    rw [pinF_in ((hfp' l).mpr rfl)]; exact hl2
  refine ⟨fun i' n σ' H' => n = xs.length - i' ∧ i' ≤ xs.length ∧ ∃ Z' s, EnvOk X.K (pinF F H1 fp (.ref l)) σ' H' Z' ((GS s).set i pinE) ∧ Same Z1 Z' ∧ thenFl (forM (xs.drop i') f s) k = some o, ⟨xs.length, by simp, Nat.zero_le _, Z1, s0, enp, Same.refl _, h2⟩, ?_⟩
  rintro i' n σ' H' ⟨rfl, hi', Z', s, en', sz, hm⟩
  obtain ⟨go, stop, yld⟩ := src H' Z' ⟨en'.hh _ _ lin, sz⟩ en'.zh i'
  by_cases hlt : i' < xs.length
  · refine .inr ⟨go hlt, ?_⟩
    have hd : xs.drop i' = xs[i'] :: xs.drop (i' + 1) := List.drop_eq_getElem_cons hlt
    rw [hd] at hm
    cases ho : f s xs[i'] with
    | none => simp only [forM, ho, thenFl] at hm; cases hm
    | some o' =>
      refine ⟨fun σ2 H2 => ∃ Z2 s2, EnvOk X.K (pinF F H1 fp (.ref l)) σ2 H2 Z2 ((GS s2).set i pinE) ∧ Same Z1 Z2 ∧ thenFl (forM (xs.drop (i' + 1)) f s2) k = some o, fun σ2 H2 ⟨Z2, s2, a1, a2, a3⟩ => ⟨xs.length - (i' + 1), by omega, rfl, hlt, Z2, s2, a1, a2, a3⟩, fun v H2 y => ?_⟩
      obtain ⟨Z2, s2, r⟩ := yld v H2 xs[i'] y (by simp [hlt])
      have en2 := en'.step s2
      refine hg.run _ σ' H2 Z2 _ v xs[i'] en2 r _ fun σ3 en3 _ => ?_
      refine (hb s xs[i'] o' ho).run ⟨(pinF F H1 fp (.ref l)).H0, Z2, (pinF F H1 fp (.ref l)).bs⟩ _ ?_ σ3 H2 Z2 en3.here
      have z12 : Same Z1 Z2 := sz.trans s2.zz
      cases o' with
      | nx s' =>
        simp only [forM, ho] at hm
        exact fun σ4 H4 Z4 en4 => ⟨Z4, s', en3.back en4, z12.trans en4.zz, hm⟩
      | ct s' =>
        simp only [forM, ho] at hm
        exact fun σ4 H4 Z4 en4 => ⟨Z4, s', en3.back en4, z12.trans en4.zz, hm⟩
      | br s' =>
        simp only [forM, ho, thenFl] at hm
        exact fun σ4 H4 Z4 en4 => (hr s' hm).run F D ac σ4 H4 Z4 ((en3.back en4).unpin ow out (z12.trans en4.zz) (nb s') (hGS s'))
      | rt r' =>
        simp only [forM, ho, thenFl] at hm
        cases hm
        refine fun H4 Z4 v4 r4 => ac H4 Z4 v4 ?_
        have r5 := Res.back (K := X.K) (F := pinF F H1 fp (.ref l)) en3.zz en3.old r4
        exact ResP.unp r5 (fun a q => (out a q).1) fun a q => by
          rw [(hfp' a).mp q]
          exact ⟨_, hl2⟩
      | xc c' f' =>
        exact fun σ4 H4 Z4 cls d en4 r4 => absurd r4 (hER _ _ _ _ _)
  · have e : i' = xs.length := by omega
    subst e
    rw [List.drop_length] at hm
    simp only [forM, thenFl] at hm
    exact .inl ⟨stop (Nat.le_refl _), (hr s hm).run F D ac σ' H' Z' (en'.unpin ow out sz (nb s) (hGS s))⟩
end
end G
/-! GCpy: new lists of new things, by a comprehension, as an expression; lent where two names are one thing. -/
namespace G
open PySem L2
theorem OwnAll.flo {α : Type} [Enc α] [Own α] [FlatO α] {K : Fg} {Z Z' H : Hp} (s : ∀ a xs, Z a = some (.tup xs) → Z' a = some (.tup xs)) : ∀ {vs : List V} {xs : List α} {fp : Fp}, OwnAll K Z H vs xs fp → OwnAll K Z' H vs xs fp
  | [], [], _, h => h
  | _ :: _, _ :: _, _, ⟨f1, f2, h1, h2, h3, h4⟩ => ⟨f1, f2, FlatO.flo s h1, OwnAll.flo s h2, h3, h4⟩
  | [], _ :: _, _, h => h.elim
  | _ :: _, [], _, h => h.elim
instance {α : Type} [Enc α] [Own α] [FlatO α] : FlatO (Ol α) := ⟨fun s ⟨l, vs, fe, e, h, o, hc, hd⟩ => ⟨l, vs, fe, e, h, OwnAll.flo s o, hc, hd⟩⟩
section
variable {X : Cx} {Γ : List Ent} {pos : Pos} {ι β : Type} [Enc ι] [Enc β] [Own β]
theorem pno_compO {elt tg iter : Expr} {ifs : List Expr} {scope : Scope} {js : List Nat} {m : Option (List ι)} {pr : ι → Option Bool} {f : ι → Option β} {T : ι → List Ent → List Ent} (own : List (Str × Nat)) (hc : X.calm = true) (hN : X.N.Nodup)
    (ok : blkC X.N X.env.scope scope own = true) (hi : PIC X tg iter Γ m)
    (hg : ∀ s H C cl fp, PGX (Blk X scope s H C cl fp) tg js T) (ht : ∀ s H C cl fp (x : ι), PTXs (Blk X scope s H C cl fp) ifs (T x (wipeE Γ (own.map (·.2)))) (pr x)) (he : ∀ s H C cl fp (x : ι), PNO (Blk X scope s H C cl fp) elt (T x (wipeE Γ (own.map (·.2)))) (f x))
    (hj : ∀ j ∈ js, j ∈ own.map (·.2) := by decide) (hs : ∀ x, foldedSetIterable iter X.env x = pure x := by intro _; rfl) : PNO X (.ListComp elt [⟨tg, iter, ifs, 0⟩] scope pos) Γ ((oComp m pr f).map Ol.mk) :=
  .mk fun F σ H Z en x hx Q q pins s I => (pe_lc (own := own) (g := gC X scope tg) (tt := tC X scope ifs) (te := eC X scope elt) hc hN pi_w (blkOk_by ok) (fun s H C cl fp => ⟨fun pins s1 σ H1 v u Q I r h => h s H C cl fp pins s1 u I r⟩) (fun s H C cl fp => ⟨fun pins s1 σ H1 Q I h => pts_w.run pins s1 σ H1 Q I (h s H C cl fp)⟩)
    (fun s H C cl fp => ⟨fun pins s1 σ H1 Q I h => h s H C cl fp pins s1 I⟩) hs).run pins s σ H Q I (by
    obtain ⟨ys, h4, rfl⟩ := Option.map_eq_some_iff.mp hx
    exact comp_readO hi hg hj ht he F σ H Z en ys h4 _ fun H' Z' l us fe s hn oa out => by
      have nl : ¬ fe l := fun q => by
        obtain ⟨u, hu, _⟩ := oa.odom q
        rw [hn] at hu
        cases hu
      have s2 := Step.newH (o := .lst us) s.zh hn
      have hz : Z' l = none := s.zh.free hn
      exact q _ Z' _ _ (⟨s.trans s2, ⟨l, us, fe, rfl, upd_same, OwnAll.omono (Same.refl _) (fun a q => upd_ne (fun e => nl (e ▸ q))) oa, fun _ => Iff.rfl, nl⟩, fun a q => by
        rcases q with q | q
        · subst q; exact ⟨s.hh.free hn, hz⟩
        · exact out a q⟩ : NewO X.K H Z (upd H' l (.lst us)) Z' (.ref l) (⟨ys⟩ : Ol β) (fun a => a = l ∨ fe a)))
/-- lent, where slot j is a second name of slot i -/
theorem pno_lendA (j i : Nat) {k : Nat} {D C : Type} [Enc D] [Own D] {d : D} [Enc C] [Own C] [FlatO C] {e : Expr} {m : Option C} (h : PNO X e ((frzAll Γ).set j (.fz d)) m) (hj : Γ[j]? = some (.al k) := by rfl) (hi : Γ[i]? = some (.ow (some k) d) := by rfl) : PNO X e Γ m := .mk fun F σ H Z en x hx Q q => by
  obtain ⟨Zc, sz, tz, en'⟩ := en.lend
  obtain ⟨v, e1, e2⟩ := en.alias hi hj
  have hz : (frzAll Γ)[i]? = some (.fz d) := by
    rw [List.getElem?_map, hi]
    rfl
  obtain ⟨v2, e3, r⟩ := en'.fz hz
  rw [e1] at e3
  cases e3
  have en2 := en'.set_fz j r
  rw [list_set_self e2] at en2
  refine h.run F σ H Zc en2 x hx Q fun H' Z2 v fp n => ?_
  obtain ⟨Z', s', t', n'⟩ := lend_endO en.zh tz n.st
  exact q H' Z' v fp ⟨s', FlatO.flo t' n.own, fun a f => ⟨(n.out a f).1, by rw [n' a (n.out a f).1]; exact (n.out a f).2⟩⟩
end
end G
/-! GSet3: as GSet and GSet2, for lists of any length, below 64 unlike numbers. -/
namespace G
section
open PySem PySem.Spec PyProof.Rows L2
variable {prog : Program} {w : World} {A : Around} {R : Result → Shared → Prop} {I : Addr} {fp wr : List Addr} {Gr : Array GenState → Array GenState → Prop} {n : Nat} {P : Nat → Value → Prop} {St : Nat → Shared → Prop}
theorem firstMet_mono (val : Nat → Int) {i n : Nat} (h : i ≤ n) : (firstMet val i).length ≤ (firstMet val n).length := by
  induction n with
  | zero => rw [show i = 0 by omega]; exact Nat.le_refl _
  | succ n ih =>
    by_cases c : i = n + 1
    · rw [c]; exact Nat.le_refl _
    · have := ih (by omega)
      rw [firstMet_succ, step_length]
      split <;> omega
/-- the new set at S takes what the walk gives -/
theorem fill_set3 (W : WalksS prog w A.in1 I fp wr Gr n P St) (S : Addr) (out : S ∉ fp) (val : Nat → Int) (hval : ∀ i v, P i v → ∃ t, v = .int (val i) t) (hb : (firstMet val n).length + 1 < scanBound) : ∀ (k i : Nat) (s : Shared), n - i = k → i ≤ n → St i s →
    SetR w s.heap S (fun z => (firstMet val i).any (· == z)) (firstMet val i).length →
    (∀ s', Moved (S :: wr) Gr s s' → SetR w s'.heap S (fun z => (firstMet val n).any (· == z)) (firstMet val n).length → R (.ok (.ret .none)) s') →
    codeAny (model prog w) A (.builtin "set.update.loop" ⟨[.ref S, .ref I], []⟩) R s := by
  have outw : S ∉ wr := fun h => out (W.sub _ h)
  have more : ∀ b ∈ wr, b ∈ S :: wr := fun b hb => List.mem_cons_of_mem _ hb
  intro k
  induction k with
  | zero =>
    intro i s hk hi hst hS hR
    have e : i = n := by omega
    subst e
    refine codeAny_builtin F.entry_set_update_loop ?_
    rw [Around.under_plainId F.plain_set_update_loop _]
    show wpAny _ A.in1 (pyNext (.ref I) >>= _) _ _ s
    refine wpAny_bind (W.done s _ _ hst fun s' hm => ?_)
    show wpAny _ A.in1 (ret Value.none) _ _ s'
    exact wpAny_pure (hR s' (hm.mono more) (setR_moved hS fun o ho => hm.heap S o outw ho))
  | succ k ih =>
    intro i s hk hi hst hS hR
    have hlt : i < n := by omega
    refine codeAny_builtin F.entry_set_update_loop ?_
    rw [Around.under_plainId F.plain_set_update_loop _]
    show wpAny _ A.in1 (pyNext (.ref I) >>= _) _ _ s
    refine wpAny_bind (W.item i s _ _ hlt hst fun v s' hP hst' hm => ?_)
    obtain ⟨t, rfl⟩ := hval i v hP
    have hS1 := setR_moved (h' := s'.heap) hS fun o ho => hm.heap S o outw ho
    show wpAny _ A.in1 (holding [Value.int (val i) t] (setAdd S (.int (val i) t)) >>= _) _ _ s'
    refine wpAny_bind (wpAny_holding ?_)
    unfold setAdd
    refine wpAny_holding ?_
    refine wpAny_bind ((intKind prog w).pyHash (k := val i) (intKind_is _ _ _ _) ?_)
    have room : (firstMet val i).length + 1 < scanBound := by have := firstMet_mono val (show i ≤ n by omega); omega
    refine setR_add_hashed (P := prog) (s := { s' with toks := s'.toks + 1 }) hS1 room fun h' sb hS2 => ?_
    have hSi : SetR w h' S (fun z => (firstMet val (i + 1)).any (· == z)) (firstMet val (i + 1)).length := setR_as hS2 (fun z => by rw [firstMet_succ, step_any]) (by rw [firstMet_succ, step_length])
    refine wpAny_pure ⟨plainId_quiet F.plain_set_update_loop _, ih (i + 1) _ (by omega) hlt (W.frame _ s' _ _ hst' (Nat.le_succ _) fun b hb o e => ?_) hSi fun s'' hm'' hS'' => ?_⟩
    · rw [sb.2 b (fun h : b = S => out (by rw [← h]; exact hb))]; exact e
    · refine hR s'' (Moved.trans W.gtrans ((hm.mono more).then_heap (Nat.le_succ _) fun b o hb e => ?_) hm'') hS''
      rw [sb.2 b (fun h : b = S => hb (by rw [h]; exact List.mem_cons_self))]; exact e
end
section
open PySem PySem.Spec PyProof.Rows L2
variable {prog : Program} {w : World} {A : Around} {E : Value → Shared → Prop} {s : Shared}
set_option maxRecDepth 100000 in
set_option maxHeartbeats 3200000 in
theorem call_setL3 {l : Addr} {items : Array Value} {ns : List Int} {Q : Value → Shared → Prop} (hh : A.handled = none) (hl : s.heap.IsList l items) (hi : IntsAre items.toList ns) (hb : (firstMet (fun i => ns.getD i 0) items.size).length + 1 < scanBound)
    (h : ∀ (h' : Heap) (tk : Nat), SetR w h' s.heap.objs.size (fun z => (firstMet (fun i => ns.getD i 0) items.size).any (· == z)) (firstMet (fun i => ns.getD i 0) items.size).length →
      (∀ b o, b < s.heap.objs.size → s.heap.get? b = some o → h'.get? b = some o) → Q (.ref s.heap.objs.size) { s with heap := h', toks := tk }) :
    wpAny (model prog w) A (call (.type "set") [.ref l]) Q E s := by
  obtain ⟨c, tl, hmro⟩ := F.called_set.mro
  have hmade := F.called_set.made
  have hsub := F.called_set.sub
  refine wpAny_call (codeAny_of_tree ?_)
  show wpAny _ _ (callAny (.type "set") _) _ _ _
  refine wpAny_pure ⟨Code.quiet_builtin _ (by decide +kernel), codeAny_builtin F.entry_type_call ?_⟩
  rw [Around.under_plain (weight_type_call_type "set" [.ref l] []) rfl]
  have h1 := F.called_set.notType
  have h2 := F.called_set.canCreate
  have hct := F.typeCall_set_1 (.ref l)
  repeat (any_goals (first | assumption | wp_step))
  refine codeAny_mono (new_set1 (.ref l) (E := E) (Q₁ := fun obj s₁ => obj = .ref s.heap.objs.size ∧ s₁ = { s with heap := s.heap.push (emptyS w) }) ⟨rfl, rfl⟩) fun r s₁ hr => ?_
  cases r with
  | error e => exact hr
  | ok fl =>
    cases fl with
    | ret obj =>
      obtain ⟨rfl, rfl⟩ := hr
      have hS : (s.heap.push (emptyS w)).get? s.heap.objs.size = some (emptyS w) := Heap.get?_push_size _ rfl
      have hT : Shared.TypeIs { s with heap := s.heap.push (emptyS w) } (.ref s.heap.objs.size) "set" := ⟨_, hS, rfl⟩
      have hli := F.called_set.init.lookup
      have hbi := F.called_set.init.bind (.ref s.heap.objs.size)
      repeat (any_goals (first | assumption | wp_step))
      refine codeAny_mono (codeAny_call_builtin (R := wants (fun r s₂ => r = .none ∧ ∃ h' tk, s₂ = { s with heap := h', toks := tk } ∧
          SetR w h' s.heap.objs.size (fun z => (firstMet (fun i => ns.getD i 0) items.size).any (· == z)) (firstMet (fun i => ns.getD i 0) items.size).length ∧
          (∀ b o, b < s.heap.objs.size → s.heap.get? b = some o → h'.get? b = some o)) E) F.called_set.init.plain F.entry_set_init (check_set_init_1 hT ?_)) fun r₂ s₂ hr₂ => ?_
      · obtain ⟨ol, hol, hcl, nl, hdl⟩ := hl
        obtain ⟨ocls, odict, odata, oslots⟩ := ol
        simp only at hcl hdl
        subst hcl; subst hdl
        have hol' : (s.heap.push (emptyS w)).get? l = some { cls := .type "list", dict := odict, data := .seq items nl, slots := oslots } := Heap.get?_push_of_some _ hol
        have hsls := F.sub_list_set
        have hslf := F.sub_list_frozenset
        have hne : (Value.type "list" == Value.type "dict") = false := by decide
        have hl1 : (s.heap.push (emptyS w)).IsList l items := ⟨_, hol', rfl, nl, rfl⟩
        unfold Builtin.«set.__init__» noKeywords Builtin.Frozenset.updateFrom
        generalize hPI : pyIter = PI
        wp_walk
        subst hPI
        refine wpAny_pyIter_list hl1 ?_
        refine wpAny_bind (wpAny_runValue ?_)
        have hlS : l < s.heap.objs.size := Heap.lt_size hol
        have hh3 : A.in1.in1.in1.handled = none := by simp [hh]
        have hneI : l ≠ (s.heap.push (emptyS w)).objs.size := by
          rw [Heap.size_push]; exact Nat.ne_of_lt (Nat.lt_succ_of_lt hlS)
        have hSf : s.heap.objs.size ∉ [(s.heap.push (emptyS w)).objs.size, l] := by
          rw [Heap.size_push]; simp only [List.mem_cons, List.mem_singleton, List.not_mem_nil, or_false, not_or]
          exact ⟨Nat.ne_of_lt (Nat.lt_succ_self _), Nat.ne_of_gt hlS⟩
        have hval : ∀ (i : Nat) (v : Value), items[i]? = some v → ∃ t, v = .int ((fun i => ns.getD i 0) i) t := fun i v hv =>
          IntsAre.int_at hi i v (by rw [Array.getElem?_toList]; exact hv)
        refine fill_set3 ((Walks.list hh3 _ l hneI items).toS) s.heap.objs.size hSf (fun i => ns.getD i 0) hval hb (items.size - 0) 0 _ (by omega) (Nat.zero_le _) ⟨⟨_, Heap.get?_push_size _ rfl, rfl, rfl⟩, (hl1.push _)⟩ ?hS0 ?hR
        case hS0 =>
          exact setR_as (setR_moved (setR_fresh (h := s.heap) w) fun o ho => Heap.get?_push_of_some _ ho) (fun _ => rfl) rfl
        case hR =>
          intro s' hm hS'
          obtain ⟨h', g', d', tk', os'⟩ := s'
          have eg : g' = s.gens := hm.gens
          have ed : d' = s.drawn := hm.drawn
          have eo : os' = s.os := hm.os
          subst eg; subst ed; subst eo
          show wpAny _ _ _ _ _ _
          refine wpAny_pure ?_
          show wpAny _ _ (ret Value.none) _ _ _
          refine wpAny_pure ⟨rfl, h', tk', rfl, hS', fun b o hb e => ?_⟩
          have hb1 : b ≠ s.heap.objs.size := Nat.ne_of_lt hb
          have hb2 : b ≠ (s.heap.push (emptyS w)).objs.size := by
            rw [Heap.size_push]; exact Nat.ne_of_lt (Nat.lt_succ_of_lt hb)
          exact hm.heap b o (by simp only [List.mem_cons, List.mem_singleton, List.not_mem_nil, or_false, not_or]; exact ⟨hb1, hb2⟩) (Heap.get?_push_of_some _ (Heap.get?_push_of_some _ e))
      · cases r₂ with
        | error e => exact hr₂
        | ok fl₂ =>
          cases fl₂ with
          | ret r =>
            obtain ⟨rfl, h', tk, rfl, hS', hk'⟩ := hr₂
            repeat (any_goals (first | assumption | wp_step))
            exact h _ _ hS' hk'
          | _ => exact hr₂.elim
    | _ => exact hr.elim
/-- set(xs), xs a list of ints -/
def rSetL3 (K : Fg) (w : World) : List V → Hp → VK → Prop := fun xs H Q => ∃ (l : Addr) (ns : List Int), xs = [.ref l] ∧ SqL K H l (ns.map V.int) ∧ (dd ns).length + 1 < scanBound ∧ ∀ p, H p = none → Q (.ref p) (upd H p (SetO w p (fun z => (dd ns).any (· == z)) (dd ns).length))
theorem cr_setL3 {X : Cx} (hc : X.calm = true) : CallR X (.type "set") (rSetL3 X.K X.w) := by
  intro pins s σ H xs us Q I r h
  obtain ⟨l, ns, rfl, hl, hb, q⟩ := h
  rw [Vals.ref1 r]
  obtain ⟨its, rv, pl, hz⟩ := I.list hl
  have hn : H s.heap.objs.size = none := I.hok.fresh (Nat.le_refl _)
  have hlen : its.length = ns.length := by rw [← rv.length, List.length_map]
  have hsz : its.toArray.size = ns.length := by rw [List.size_toArray, hlen]
  refine call_setL3 (items := its.toArray) (ns := ns) (I.ok.hd hc) pl.isList (by simpa using ints_of_vals rv) (by rw [hsz, firstMet_dd]; exact hb) fun h' tk R k => ?_
  rw [hsz, firstMet_dd] at R
  exact ⟨.ref s.heap.objs.size, upd H s.heap.objs.size (SetO X.w s.heap.objs.size (fun z => (dd ns).any (· == z)) (dd ns).length), I.laid (t' := tk) (fun b o e => k b o (Heap.lt_size e) e) (Nat.le_refl _) (setO_new R), rfl, q _ hn⟩
end
open PySem L2
def oSortSet3 (m : Option (List Int)) : Option (List Int) := m.bind fun ns => if (dd ns).length < 64 then some (sortI (dd ns)) else none
section
variable {X : Cx} {Γ : List Ent} {a : Expr} {pos p p2 q0 : Pos}
theorem pn_sortSet3 {m : Option (List Int)} (hc : X.calm = true) (hm : X.mg "sorted" = none) (hm2 : X.mg "set" = none) (ha : PL X a Γ m) (hg : Gl X "sorted" := by rfl) (hg2 : Gl X "set" := by rfl) (hs : starEach [a] X.env = [(false, eval a X.env)] := by rfl)
    (hs2 : starEach [.Call (.Name "set" p2) [a] [] q0] X.env = [(false, eval (.Call (.Name "set" p2) [a] [] q0) X.env)] := by rfl) : PN X (.Call (.Name "sorted" p) [.Call (.Name "set" p2) [a] [] q0] [] pos) Γ (oSortSet3 m) :=
  pn_of (pe_callB (cr_sortedSet hc) hg hm (by decide +kernel) (pa_cons (pe_callTy (cr_setL3 hc) hg2 hm2 (by decide +kernel) (pa_cons pe_w pa_nil (by rw [hs]; rfl)) (he := by rw [hs]; rfl) (hpl := rfl)) pa_nil (by rw [hs2]; rfl)) (he := by rw [hs2]; rfl) (hpl := rfl)) fun F σ H Z en x hx Q q => by
    obtain ⟨ns, hns, hx⟩ := Option.bind_eq_some_iff.mp hx
    by_cases c : (dd ns).length < 64
    · rw [if_pos c] at hx
      cases hx
      refine ha.run F σ H Z en ns hns _ fun H1 Z1 l vs s1 hl r1 => ⟨l, ns, rfl, SqL.of (by rw [← all2_V r1]; exact hl), by unfold scanBound; omega, fun pq hp => ⟨pq, _, _, rfl, upd_same, c, fun L pl up mem _ hpl => ?_⟩⟩
      rw [set_sorted up mem]
      have s2 := Step.newH (o := SetO X.w pq (fun z => (dd ns).any (· == z)) (dd ns).length) s1.zh hp
      exact q _ Z1 pl _ (s1.trans s2) hpl All2.of_map_int
    · rw [if_neg c] at hx; cases hx
end
end G
/-! GLck: a new thing made while a dict stands locked. -/
namespace G
open PySem L2
section
variable {X : Cx} {Γ : List Ent} {e : Expr} {α C : Type} [Enc α] [Enc C] [Own C]
theorem pno_lock (i : Nat) {bv : Option Nat} {x : Dct α} {m : Option C} (h : PNO X e (Γ.set i (.ow bv (⟨x.kvs⟩ : DctL α))) m) (hΓ : Γ[i]? = some (.ow bv x) := by rfl) : PNO X e Γ m := .mk fun F σ H Z en y hy Q q pins s I => by
  obtain ⟨o, fp, ho, ⟨v, e1, hb, ⟨l, u, e2, hl, ⟨kvs, eu, r⟩, hfp⟩, out⟩, put⟩ := en.focus hΓ
  subst e1 e2 eu
  have ol := out l ((hfp l).mpr rfl)
  refine (pe_lock pe_w).run pins s σ H Q I ⟨l, .dK kvs, hl, trivial, fun od => ?_⟩
  have en' : EnvOk X.K F (σ.set i (some (.ref l))) (upd H l (.frz od (.dK kvs))) Z (Γ.set i (.ow bv (⟨x.kvs⟩ : DctL α))) := by
    refine put (upd H l (.frz od (.dK kvs))) Z _ _ fp (fun a u ha hn => ?_) (Same.refl _) (fun a u ha => ?_) (fun a u ha hn => rfl) (fun a f => .inl f) ⟨.ref l, rfl, hb, ⟨l, _, rfl, upd_same, ⟨od, kvs, rfl, r⟩, hfp⟩, out⟩
    · rw [upd_ne (fun e => hn ((hfp a).mpr e))]; exact ha
    · have : a ≠ l := fun e => by rw [e, ol.2] at ha; cases ha
      rw [upd_ne this]; exact en.zh a u ha
  rw [show σ.set i (some (V.ref l)) = σ from list_set_self ho] at en'
  refine h.run F σ _ Z en' y hy _ fun H' Z' w f2 n => ?_
  have st := n.st
  have n2 : ∀ a, f2 a → a ≠ l := fun a f e => by
    have := (n.out a f).1
    rw [e, upd_same] at this
    cases this
  refine ⟨st.hh _ _ upd_same, q _ Z' w f2 ⟨⟨fun a u ha => ?_, st.zz, fun a u ha => ?_, fun a u ha => ?_⟩, Own.omono (Same.refl _) (fun a f => upd_ne (n2 a f)) n.own, fun a f => ⟨?_, (n.out a f).2⟩⟩⟩
  · by_cases e : a = l
    · rw [e] at ha ⊢
      rw [hl] at ha
      rw [upd_same]; exact ha
    · rw [upd_ne e]
      exact st.hh a u (by rw [upd_ne e]; exact ha)
  · have : a ≠ l := fun e => by
      have h2 := st.old l _ upd_same
      rw [ol.2] at h2
      rw [e, h2] at ha; cases ha
    rw [upd_ne this]; exact st.zh a u ha
  · by_cases e : a = l
    · rw [e]; exact st.old l _ upd_same
    · exact st.old a u (by rw [upd_ne e]; exact ha)
  · have := (n.out a f).1
    rw [upd_ne (n2 a f)] at this
    exact this
end
end G
/-! GSet4: sorted(set(xs)), below 4000 unlike numbers: the members are gathered, and the list's own sort is the one for any length. -/
namespace L2
open PySem PySem.Spec PyProof.Rows
section
variable {P : Program} {w : World} {S0 : Addr} {A : Around} {E : Value → Shared → Prop} {s : Shared} {X : Cx}
/-- rising numbers that are just the members -/
def Rising (S : Int → Bool) (L : List Int) : Prop := L.Pairwise (· < ·) ∧ ∀ z : Int, z ∈ L ↔ S z = true
theorem sortedSet_many {S : Int → Bool} {m : Nat} {Q : Value → Shared → Prop} (hS : SetR w s.heap S0 S m) (calm : A.handled = none) (few : m < 5000)
    (fin : ∀ t d (zs : Array Value) (ep : Nat) (L : List Int), (∀ b o, s.heap.get? b = some o → t.heap.get? b = some o) → t.gens = s.gens → t.os = s.os → s.heap.objs.size ≤ d →
      t.heap.get? d = some (seqObj "list" zs ep) → IntsAre zs.toList L → Rising S L → L.length = m → Q (.ref d) t) : wpAny (model P w) A (call (.builtin "sorted") [.ref S0]) Q E s := by
  obtain ⟨ob, items, _, tb, at1, plain1, data1, keyed, unlike, memb, small, fits, many, rises, led⟩ := hS
  have bound : ∀ {vs : List Value}, vs.length = m → vs.length ≤ sizeLine := fun e => by rw [e, sizeLine_eq]; omega
  refine Calls.call_function_entry kind_sorted plain_sorted entry_sorted (args_sorted1 _) ?_
  unfold Builtin.«sorted»
  refine wpAny_bind (m := checkCount "sorted" 1 1 _) (wpAny_pure (wpAny_bind (collect_set (A := A.in1) calm ⟨ob, at1, plain1.1, data1⟩ fits small rises led fun t vs kept grown gens1 os1 perm => ?_)))
  have count : vs.length = m := by
    rw [perm.length_eq, List.length_map, Array.length_toList]
    exact many
  have whole : IntsAre vs (vs.map Builtin.Re.reRawOf) := by
    refine ints_of vs fun v hv => ?_
    obtain ⟨e, he, rfl⟩ := List.mem_map.mp (perm.mem_iff.mp hv)
    obtain ⟨z, tk, hz, _⟩ := keyed e he
    exact ⟨z, tk, hz⟩
  have keys : (vs.map Builtin.Re.reRawOf).Perm (items.toList.map keyOf) := by
    have := perm.map Builtin.Re.reRawOf
    rwa [List.map_map] at this
  refine wpAny_bind (wpAny_newList ?_ (bound count))
  have fresh : (t.heap.push (seqObj "list" vs.toArray 0)).get? t.heap.objs.size = some (seqObj "list" vs.toArray 0) := Heap.get?_push_size _ rfl
  refine wpAny_bind (wpAny_holding (wpAny_call_entry slot_list_sort ⟨_, fresh, rfl⟩ entry_list_sort (list_sort_treeAny fresh whole (bound count) fun zs L are perm2 up => ⟨_, rfl, ?_⟩) (args_list_sort _)))
  refine wpAny_pure ⟨_, rfl, ?_⟩
  obtain ⟨ep, there⟩ := sortedHeap_at (vs := vs) (out := zs) fresh
  have all := perm2.trans keys
  refine fin _ _ zs ep L (fun b o hb => ?_) gens1 os1 grown there are ⟨lt_of_le_nodup L up (all.nodup_iff.mpr unlike), fun z => all.mem_iff.trans (memb z).symm⟩ ?_
  · have hb1 := kept b o hb
    have lt := Heap.lt_size hb1
    exact (sortedHeap_old (Nat.ne_of_lt lt) (by rw [size_push']; exact Nat.lt_succ_of_lt lt)).trans (Heap.get?_push_of_some _ hb1)
  · rw [all.length_eq, List.length_map, Array.length_toList]
    exact many
/-- what sorted tells of a set -/
def rSortMany (w : World) : List V → Hp → VK → Prop := fun vs H Q => ∃ d S m, vs = [V.ref d] ∧ H d = some (SetO w d S m) ∧ m < 5000 ∧ ∀ L p, Rising S L → H p = none → Q (.ref p) (upd H p (.lst (L.map V.int)))
theorem cr_sortMany (hc : X.calm = true) : CallR X (.builtin "sorted") (rSortMany X.w) := by
  intro pins s σ H vs us Q I r h
  obtain ⟨d, S, m, rfl, hd, few, q⟩ := h
  rw [Vals.ref1 r]
  refine sortedSet_many (setO_get I hd) (I.ok.hd hc) few fun t p zs ep L kept gens1 os1 grown there are rise many => ?_
  have free : H p = none := I.hok.fresh grown
  have short : (L.map V.int).length ≤ sizeLine := by rw [List.length_map, many, sizeLine_eq]; omega
  have J : Inv X pins σ (upd H p (.lst (L.map V.int))) { s with heap := t.heap, gens := t.gens, drawn := t.drawn, toks := t.toks } :=
    I.call (ch := []) (Un.laid kept grown free) (I.hok.laid kept grown ⟨short, zs.toList, ep, vals_of_ints are, there⟩) (by rw [gens1]; exact I.bare) (fun _ z => nomatch z)
  have same : { s with heap := t.heap, gens := t.gens, drawn := t.drawn, toks := t.toks } = t := by
    cases t
    cases s
    cases os1
    rfl
  rw [same] at J
  exact ⟨.ref p, _, J, rfl, q L p rise free⟩
end
end L2
namespace G
open PySem L2
def oSortSet4 (m : Option (List Int)) : Option (List Int) := m.bind fun ns => if (dd ns).length < 4000 then some (sortI (dd ns)) else none
section
variable {X : Cx} {Γ : List Ent} {a : Expr} {pos p p2 q0 : Pos}
theorem pn_sortSet4 {m : Option (List Int)} (hc : X.calm = true) (hm : X.mg "sorted" = none) (hm2 : X.mg "set" = none) (ha : PL X a Γ m) (hg : Gl X "sorted" := by rfl) (hg2 : Gl X "set" := by rfl) (hs : starEach [a] X.env = [(false, eval a X.env)] := by rfl)
    (hs2 : starEach [.Call (.Name "set" p2) [a] [] q0] X.env = [(false, eval (.Call (.Name "set" p2) [a] [] q0) X.env)] := by rfl) : PN X (.Call (.Name "sorted" p) [.Call (.Name "set" p2) [a] [] q0] [] pos) Γ (oSortSet4 m) :=
  pn_of (pe_callB (cr_sortMany hc) hg hm (by decide +kernel) (pa_cons (pe_callTy (cr_setL3 hc) hg2 hm2 (by decide +kernel) (pa_cons pe_w pa_nil (by rw [hs]; rfl)) (he := by rw [hs]; rfl) (hpl := rfl)) pa_nil (by rw [hs2]; rfl)) (he := by rw [hs2]; rfl) (hpl := rfl)) fun F σ H Z en x hx Q q => by
    obtain ⟨ns, hns, hx⟩ := Option.bind_eq_some_iff.mp hx
    by_cases c : (dd ns).length < 4000
    case neg => rw [if_neg c] at hx; cases hx
    rw [if_pos c] at hx
    cases hx
    refine ha.run F σ H Z en ns hns _ fun H1 Z1 l vs s1 hl r1 => ⟨l, ns, rfl, SqL.of (by rw [← all2_V r1]; exact hl), by unfold scanBound; omega, fun d hd => ⟨d, _, _, rfl, upd_same, by omega, fun L pl rise hpl => ?_⟩⟩
    rw [set_sorted rise.1 rise.2]
    exact q _ Z1 pl _ (s1.trans (Step.newH (o := SetO X.w d (fun z => (dd ns).any (· == z)) (dd ns).length) s1.zh hd)) hpl All2.of_map_int
end
end G
/-! GCh4: the truth of four comparisons in a row. -/
namespace G
open PySem L2
section
variable {X : Cx} {Γ : List Ent} {a b c d e5 : Expr} {pos : Pos}
theorem pt_chain4 {op op' op2 op3 : CmpOp} {r r' r2 r3' : R2} {ta tb tc td t5 : TE} (ho : OpR X (compareOp op) r) (ho' : OpR X (compareOp op') r') (ho2 : OpR X (compareOp op2) r2) (ho3 : OpR X (compareOp op3) r3') (ha : PE X a ta) (hb : PE X b tb) (hc : PE X c tc) (hd : PE X d td) (h5 : PE X e5 t5)
    (hm : lastMarks [op, op', op2, op3] [b, c, d, e5] = false := by with_unfolding_all rfl) : PT X (.Compare a [op, op', op2, op3] [b, c, d, e5] pos) (tTest (tChain4 r r' r2 r3' ta tb tc td t5)) := by
  refine ⟨fun pins s σ H Q I h => ?_⟩
  refine PyProof.Rows.isTrue_chain (thn (ha.run pins s σ H _ I h) fun v s1 ⟨x, H1, I1, r1, q1⟩ => PyProof.Rows.test_link (thn (hb.run pins s1 σ H1 _ I1 q1) fun u s2 ⟨y, H2, I2, r2', q2⟩ =>
    thn (ho pins s2 σ H2 x y v u _ I2 r1 r2' q2) fun d0 s3 ⟨z, H3, I3, r3, k, e, q3⟩ => ?_)) hm
  subst e
  cases r3
  refine wpAny_truthy_bool ?_
  cases k with
  | false =>
    obtain ⟨k', e', q'⟩ := q3
    cases e'
    exact PyProof.Rows.ite_ff ⟨H3, I3, q'⟩
  | true =>
    refine PyProof.Rows.ite_tt (PyProof.Rows.test_link (thn (hc.run pins s3 σ H3 _ I3 q3) fun w' s4 ⟨z', H4, I4, r4, q4⟩ => thn (ho' pins s4 σ H4 y z' u w' _ I4 r2' r4 q4) fun d1 s5 ⟨z2, H5, I5, r5, k2, e2, q5⟩ => ?_))
    subst e2
    cases r5
    refine wpAny_truthy_bool ?_
    cases k2 with
    | false =>
      obtain ⟨k', e', q'⟩ := q5
      cases e'
      exact PyProof.Rows.ite_ff ⟨H5, I5, q'⟩
    | true =>
      refine PyProof.Rows.ite_tt (PyProof.Rows.test_link (thn (hd.run pins s5 σ H5 _ I5 q5) fun w2 s6 ⟨z3, H6, I6, r6, q6⟩ => thn (ho2 pins s6 σ H6 z' z3 w' w2 _ I6 r4 r6 q6) fun d2 s7 ⟨z4, H7, I7, r7, k3, e3, q7⟩ => ?_))
      subst e3
      cases r7
      refine wpAny_truthy_bool ?_
      cases k3 with
      | false =>
        obtain ⟨k', e', q'⟩ := q7
        cases e'
        exact PyProof.Rows.ite_ff ⟨H7, I7, q'⟩
      | true =>
        refine PyProof.Rows.ite_tt (PyProof.Rows.test_last (thn (h5.run pins s7 σ H7 _ I7 q7) fun w3 s8 ⟨z5, H8, I8, r8, q8⟩ => thn (ho3 pins s8 σ H8 z3 z5 w2 w3 _ I8 r6 r8 q8) fun d3 s9 ⟨z6, H9, I9, r9, k4, e4, q9⟩ => ?_))
        subst e4
        cases r9
        exact wpAny_truthy_bool ⟨H9, I9, q9⟩
theorem ptx_chain4 {op op' op2 op3 : CmpOp} {f g h h2 : Int → Int → Bool} {m1 m2 m3 m4 m5 : Option Int} (ho : OpR X (compareOp op) (rI0 fun i j => .bl (f i j))) (ho' : OpR X (compareOp op') (rI0 fun i j => .bl (g i j))) (ho2 : OpR X (compareOp op2) (rI0 fun i j => .bl (h i j))) (ho3 : OpR X (compareOp op3) (rI0 fun i j => .bl (h2 i j))) (ha : PX X a Γ m1) (hb : PX X b Γ m2) (hc : PX X c Γ m3) (hd : PX X d Γ m4) (h5 : PX X e5 Γ m5)
    (h1 : lastMarks [op, op', op2, op3] [b, c, d, e5] = false := by with_unfolding_all rfl) : PTX X (.Compare a [op, op', op2, op3] [b, c, d, e5] pos) Γ (oChain4 f g h h2 m1 m2 m3 m4 m5) := ptx_of (pt_chain4 ho ho' ho2 ho3 pe_w pe_w pe_w pe_w pe_w h1) fun F σ H Z en x hx Q q => by
  obtain ⟨i, hi, hx⟩ := Option.bind_eq_some_iff.mp hx
  obtain ⟨j, hj, hx⟩ := Option.bind_eq_some_iff.mp hx
  refine ha.run F σ H Z en i hi _ fun H1 Z1 v s1 r1 => hb.run F σ H1 Z1 (en.step s1) j hj _ fun H2 Z2 w s2 r2 => ⟨i, j, r1, r2, f i j, rfl, ?_⟩
  cases hf : f i j with
  | true =>
    rw [hf, if_pos rfl] at hx
    obtain ⟨j', hj', hx⟩ := Option.bind_eq_some_iff.mp hx
    cases hj'
    obtain ⟨k, hk, hx⟩ := Option.bind_eq_some_iff.mp hx
    rw [if_pos rfl]
    refine hc.run F σ H2 Z2 (en.step (s1.trans s2)) k hk _ fun H3 Z3 u s3 r3 => ⟨j, k, r2, r3, g j k, rfl, ?_⟩
    cases hg : g j k with
    | true =>
      rw [hg, if_pos rfl] at hx
      obtain ⟨k', hk', hx⟩ := Option.bind_eq_some_iff.mp hx
      cases hk'
      obtain ⟨l, hl, hx⟩ := Option.bind_eq_some_iff.mp hx
      rw [if_pos rfl]
      refine hd.run F σ H3 Z3 (en.step ((s1.trans s2).trans s3)) l hl _ fun H4 Z4 u2 s4 r4 => ⟨k, l, r3, r4, h k l, rfl, ?_⟩
      cases hh : h k l with
      | true =>
        rw [hh, if_pos rfl] at hx
        obtain ⟨n, hn, hx⟩ := Option.bind_eq_some_iff.mp hx
        cases hx
        rw [if_pos rfl]
        exact h5.run F σ H4 Z4 (en.step (((s1.trans s2).trans s3).trans s4)) n hn _ fun H5 Z5 u3 s5 r5 => ⟨l, n, r4, r5, h2 l n, rfl, q H5 Z5 ((((s1.trans s2).trans s3).trans s4).trans s5)⟩
      | false =>
        rw [hh, if_neg Bool.false_ne_true] at hx
        cases hx
        rw [if_neg Bool.false_ne_true]
        exact ⟨false, rfl, q H4 Z4 (((s1.trans s2).trans s3).trans s4)⟩
    | false =>
      rw [hg, if_neg Bool.false_ne_true] at hx
      cases hx
      rw [if_neg Bool.false_ne_true]
      exact ⟨false, rfl, q H3 Z3 ((s1.trans s2).trans s3)⟩
  | false =>
    rw [hf, if_neg Bool.false_ne_true] at hx
    cases hx
    rw [if_neg Bool.false_ne_true]
    exact ⟨false, rfl, q H2 Z2 (s1.trans s2)⟩
end
end G
/-! GRng3: range with a written step. -/
namespace G
open PySem L2
def rangeC (lo c : Int) (n : Nat) : List Int := (List.range n).map fun (i : Nat) => lo + (i : Int) * c
def oRng3 (a b : Option Int) (c : Int) : Option (List Int) := a.bind fun i => b.bind fun j => if Builtin.Range.small i j c = true ∧ 0 ≤ Builtin.Range.rangeSize i j c then some (rangeC i c (Builtin.Range.rangeSize i j c).toNat) else none
theorem rangeC_get {lo c : Int} {n i : Nat} {x : Int} (h : (rangeC lo c n)[i]? = some x) : x = lo + (i : Int) * c := by
  unfold rangeC at h
  rw [List.getElem?_map] at h
  obtain ⟨y, hy, rfl⟩ := Option.map_eq_some_iff.mp h
  obtain ⟨hl, e⟩ := List.getElem?_eq_some_iff.mp hy
  rw [List.getElem_range] at e
  rw [e]
theorem src_rangeC {K : Fg} {P : Hp → Hp → Prop} {lo c : Int} {n : Nat} : Src K (Itc lo c n) P (rangeC lo c n) := fun H Z hp zh i => by
  have e : (rangeC lo c n).length = n := by unfold rangeC; simp
  refine ⟨fun hi => by show i < n; omega, fun hi => by show n ≤ i; omega, fun v H' x y hx => ?_⟩
  obtain ⟨rfl, rfl⟩ := y
  exact ⟨Z, Step.refl zh, by rw [rangeC_get hx]; rfl⟩
section
variable {X : Cx} {Γ : List Ent} {tg a b : Expr} {p p3 pos : Pos} {c : Int} {kk : Nat}
theorem pif_range3 {m1 m2 : Option Int} (hm : X.mg "range" = none) (ha : PX X a Γ m1) (hb : PX X b Γ m2) (hc : c ≠ 0 ∧ c.natAbs < 1073741824 := by decide) (hg : Gl X "range" := by rfl)
    (hs : starEach [a, b, .Constant (.int c) kk p3] X.env = (false, eval a X.env) :: starEach [b, .Constant (.int c) kk p3] X.env := by rfl) (hs2 : starEach [b, .Constant (.int c) kk p3] X.env = (false, eval b X.env) :: starEach [.Constant (.int c) kk p3] X.env := by rfl)
    (hs3 : starEach [.Constant (.int c) kk p3] X.env = (false, eval (.Constant (.int c) kk p3) X.env) :: starEach [] X.env := by rfl) (hpl : (backTo pos (starEach [b, .Constant (.int c) kk p3] X.env)).any (·.1) = false := by rfl) : PIF X tg (.Call (.Name "range" p) [a, b, .Constant (.int c) kk p3] [] pos) Γ (oRng3 m1 m2 c) :=
  pif_of (pi_range3 hg hm (pa_cons pe_w (pa_cons pe_w (pa_cons pe_int pa_nil hs3) hs2) hs) hs hpl) fun F σ H Z en xs hx R q => by
    obtain ⟨i, hi, hx⟩ := Option.bind_eq_some_iff.mp hx
    obtain ⟨j, hj, hx⟩ := Option.bind_eq_some_iff.mp hx
    by_cases d : Builtin.Range.small i j c = true ∧ 0 ≤ Builtin.Range.rangeSize i j c
    case neg => rw [if_neg d] at hx; cases hx
    rw [if_pos d] at hx
    cases hx
    refine ha.run F σ H Z en i hi _ fun H1 Z1 v s r => hb.run F σ H1 Z1 (en.step s) j hj _ fun H2 Z2 w s2 r2 => ?_
    cases r
    cases r2
    exact ⟨i, j, c, (Builtin.Range.rangeSize i j c).toNat, rfl, ⟨hc.1, hc.2, d.1, by omega⟩, q _ H2 Z2 (s.trans s2) src_rangeC⟩
end
theorem rangeC_mem {i j c x : Int} (hc : 0 < c) (h : x ∈ rangeC i c (Builtin.Range.rangeSize i j c).toNat) : i ≤ x ∧ x < j := by
  unfold rangeC at h
  obtain ⟨k, hk, rfl⟩ := List.mem_map.mp h
  have hk := List.mem_range.mp hk
  unfold Builtin.Range.rangeSize at hk
  rw [if_pos (by omega)] at hk
  by_cases d : i < j
  · rw [if_pos d] at hk
    have q0 : 0 ≤ (j - i - 1) / c := Int.ediv_nonneg (by omega) (by omega)
    have k1 : (k : Int) ≤ (j - i - 1) / c := by omega
    have m := Int.mul_le_mul_of_nonneg_right k1 (show 0 ≤ c by omega)
    have m2 := Int.ediv_mul_le (j - i - 1) (show c ≠ 0 by omega)
    have m3 : 0 ≤ (k : Int) * c := Int.mul_nonneg (by omega) (by omega)
    omega
  · rw [if_neg d] at hk
    exact absurd hk (Nat.not_lt_zero _)
theorem oRng3_ok {i j c : Int} (hi : -1000000 ≤ i ∧ i ≤ 1000000) (hj : -1000000 ≤ j ∧ j ≤ 1000000) (hc : 0 < c ∧ c ≤ 1000) : oRng3 (some i) (some j) c = some (rangeC i c (Builtin.Range.rangeSize i j c).toNat) := by
  have size : 0 ≤ Builtin.Range.rangeSize i j c ∧ Builtin.Range.rangeSize i j c ≤ 3000000 := by
    unfold Builtin.Range.rangeSize
    rw [if_pos (by omega)]
    by_cases d : i < j
    · rw [if_pos d]
      have q0 : 0 ≤ (j - i - 1) / c := Int.ediv_nonneg (by omega) (by omega)
      have q1 : (j - i - 1) / c ≤ j - i - 1 := Int.ediv_le_self _ (by omega)
      omega
    · rw [if_neg d]
      omega
  refine if_pos ⟨?_, size.1⟩
  unfold Builtin.Range.small
  rw [if_pos (show c > 0 by omega)]
  simp only [Builtin.Range.rangeFitsLong, Bool.and_eq_true, Bool.or_eq_true, decide_eq_true_eq, beq_iff_eq]
  omega
end G
/-! GMrd0: a raising method without a written argument, its one default taken. -/
namespace G
open PySem L2
section
variable {X : Cx} {W : WX} {ER : ExS} {rest : List Stmt} {e o a b c : Expr} {es : List Expr} {pos pos' p p1 p2 apos : Pos} {Γ Γ' : List Ent} {α : Type} [Flds α] {nm m : Str} {ns : List Str} {C : Addr} {k : Nat} {f : Addr} {fd : FuncData} {ps : List Str} {A0 A R : Type} {pl : Sem Bool} {dvs : List V} {ds : List Value} {g : A0 → A}
theorem px_methRD0 [EncA A0] [EncA A] [Enc R] {fm : Ins nm ns α × A → Option (Rs R)} {mo : Option (Ins nm ns α)} {y : A0} (cl : ClsF X.K nm C) (hm : Meth X.K C m f) (hmn : m ∉ ns) (Fn : FnOk X.prog X.w X.K X.mg X.base (L2.CX X.prog X.w) k f fd ps (spX X.K ER.er fm)) (hr : Room k X.A) (hb : Binds X.K fd ps ds) (hd : Vals dvs ds) (hv : ∀ Z vs y, EncA.rel X.K Z vs y → EncA.rel X.K Z (vs ++ dvs) (g y)) (h0 : ∀ Z, EncA.rel X.K Z [] y) (ho : PX X o Γ mo)
    (ht : eval (.Call (.Attribute o m apos) [] [] pos) X.env = (do
      let ov ← eval o X.env
      standAt apos.atName
      let (f, first) ← holding [ov] (getMethod ov m pl)
      callWith pos f first (backTo pos (starEach [] X.env)) (backToKw pos (keywordEach [] X.env))) := by rfl) :
    PX X (.Call (.Attribute o m apos) [] [] pos) Γ (((mo.map fun x => (x, g y)).bind fm).bind Rs.val) := px_of (pe_meth0 (pl := pl) pe_w cl.cl hm Fn hr hb hd passL ht) fun F σ H Z en z hx Q q => by
  obtain ⟨r, hx0, hv'⟩ := Option.bind_eq_some_iff.mp hx
  obtain ⟨xy, hxy, hx1⟩ := Option.bind_eq_some_iff.mp hx0
  obtain ⟨x, hxx, rfl⟩ := Option.map_eq_some_iff.mp hxy
  cases r with
  | er c i => cases hv'
  | ok r =>
  cases hv'
  refine ho.run F σ H Z en x hxx _ fun H1 Z1 v s1 r1 => ?_
  obtain ⟨l, D, dx, fs, e1, hl, hcl, o1⟩ := id r1
  cases hcl.same cl.is
  subst e1
  refine ⟨l, dx, fs, rfl, s1.zh _ _ hl, Flds.nokeyR o1 hmn, ?_⟩
  exact ⟨Z1, (x, g y), .ok z, s1.zh, ⟨_, _, rfl, r1, hv Z1 [] y (h0 Z1)⟩, hx1, fun y' e' H3 Z3 u s3 r3 => by cases e'; exact q H3 Z3 u (s1.trans s3) r3, fun c i e' => by cases e'⟩
end
end G
/-! GExA: a caught exception handed to a def. -/
namespace G
open PySem L2
/-- at every state of X the object oe stands at a, told of by nobody -/
structure Has (X : Cx) (a : Addr) (oe : Obj) : Prop where
  run : ∀ {pins : List (Addr × Obj)} {σ : St} {H : Hp} {s : Shared}, L2.Inv X pins σ H s → s.heap.get? a = some oe ∧ H a = none ∧ a ∉ frs X.stack
theorem Has.suite {X : Cx} {a : Addr} {oe : Obj} {pn : List (Addr × Obj)} : Has (X.suite a ((a, oe) :: pn)) a oe := ⟨fun I => by
  obtain ⟨h1, h2, h3, h4, _⟩ := I.pin (a, oe) (List.mem_append.mpr (.inl List.mem_cons_self))
  refine ⟨h1, h2, fun hm => ?_⟩
  rcases List.mem_cons.mp (I.stkSub a hm) with e | hb
  · exact h3 e
  · exact h4 hb⟩
theorem Has.pin {X : Cx} {a : Addr} {oe : Obj} (h : (a, oe) ∈ X.pn) : Has X a oe := ⟨fun I => by
  obtain ⟨h1, h2, h3, h4, _⟩ := I.pin (a, oe) (List.mem_append.mpr (.inl h))
  refine ⟨h1, h2, fun hm => ?_⟩
  rcases List.mem_cons.mp (I.stkSub a hm) with e | hb
  · exact h3 e
  · exact h4 hb⟩
theorem Has.base {X : Cx} {a : Addr} {oe : Obj} (h : X.base.get? a = some oe) : Has X a oe := ⟨fun I => by
  refine ⟨(I.bs a oe h).1, (I.bs a oe h).2, fun hm => ?_⟩
  rcases List.mem_cons.mp (I.stkSub a hm) with e | hb
  · have z : X.base.get? X.env.locals = none := Heap.get?_none_of_le (Nat.le_trans I.ok.bsz I.ok.above)
    rw [← e, h] at z; cases z
  · exact I.ok.nofr h hb⟩
section
variable {X : Cx} {a D : Addr} {oe : Obj} {d : Option Addr} {fn : Str} {Γ : List Ent} {e c : Expr} {es : List Expr} {pos p tpos : Pos}
theorem call_isA (h : Has X a oe) (T : ExcC X.K D) (hz : Zc (.ref D) d oe) (hf : ∃ vs, oe.data = .fields vs) : CallR X (.builtin "isinstance") (rIsO X.K D a d fn) := by
  intro pins s σ H xs us Q I r hq
  obtain ⟨c, cv, b, f, Z, rfl, hcv, hk, zh, rel, q⟩ := hq
  obtain ⟨u1, u2, rfl, r1, r2⟩ := vals2 r
  cases (show u1 = Value.ref a from r1)
  have ec := hcv _ r2
  subst ec
  obtain ⟨hget, _⟩ := h.run I
  have J := inst_of I zh rel hget hz hf
  exact PySem.W.kia_one (kitx_own T) I.kIn J hk (fun z => nomatch z) fun tk => ⟨.bl b, H, I.kept (t' := tk) fun _ _ z => z, rfl, q⟩
theorem call_isAT (h : Has X a oe) (T : ExcC X.K D) (hz : Zc (.ref D) d oe) (hf : ∃ vs, oe.data = .fields vs) : CallR X (.builtin "isinstance") (rIsOT X.K D a d fn) := by
  intro pins s σ H xs us Q I r hq
  obtain ⟨tp, cs, ws, b, f, Z, rfl, hT, k, hk, zh, rel, q⟩ := hq
  obtain ⟨u1, u2, rfl, r1, r2⟩ := vals2 r
  cases (show u1 = Value.ref a from r1)
  cases (show u2 = Value.ref tp from r2)
  obtain ⟨hget, _⟩ := h.run I
  have J := inst_of I zh rel hget hz hf
  obtain ⟨_, its, rv, o, h1, h2, n, h3⟩ := (show ObjOk X.prog X.w H s.heap tp (.tup cs) from I.hok tp _ hT)
  have e3 := ClsV.all k rv
  subst e3
  obtain ⟨oc, od, dt, sl⟩ := o
  simp only at h2 h3
  subst h2 h3
  exact PySem.W.kia_tup (kitx_own T) I.kIn J h1 hk (fun z => nomatch z) fun tk => ⟨.bl b, H, I.kept (t' := tk) fun _ _ z => z, rfl, q⟩
theorem px_isA {v : V} {u : Value} {b : Bool} {x : ExO a d fn} (h : Has X a oe) (T : ExcC X.K D) (hz : Zc (.ref D) d oe) (hf : ∃ vs, oe.data = .fields vs) (hm : X.mg "isinstance" = none) (ha : PX X e Γ (some x)) (hc : PE X c (L2.tC v)) (hv : ∀ w, RelV v w → w = u) (hk : PySem.W.kitOne X.K (.ref D) u = some b)
    (hg : Gl X "isinstance" := by rfl) (h1 : starEach [e, c] X.env = (false, eval e X.env) :: starEach [c] X.env := by rfl) (h2 : starEach [c] X.env = (false, eval c X.env) :: starEach [] X.env := by rfl) :
    PX X (.Call (.Name "isinstance" p) [e, c] [] pos) Γ (some b) := px_of (pe_callB (call_isA h T hz hf) hg hm (by decide +kernel) (pa_cons pe_w (pa_cons hc pa_nil h2) h1) (he := h1) (hpl := by rw [h2]; rfl)) fun F σ H Z en y hx Q q => by
  cases hx
  exact ha.run F σ H Z en _ rfl _ fun H1 Z1 w s1 r1 => ⟨v, u, b, x.f, Z1, by rw [show w = V.ref a from r1.1], hv, hk, s1.zh, r1.2, q H1 Z1 _ s1 rfl⟩
theorem px_isAT {cs : List V} {us : List Value} {t : TA} {b : Bool} {ct : Nat} {x : ExO a d fn} (h : Has X a oe) (T : ExcC X.K D) (hz : Zc (.ref D) d oe) (hf : ∃ vs, oe.data = .fields vs) (hm : X.mg "isinstance" = none) (ha : PX X e Γ (some x)) (hc : PA X es t) (ht : ∀ σ H Q, Q cs H → t σ H Q) (hl : cs.length ≤ sizeLine) (hv : Paired ClsV cs us) (hk : PySem.W.kitAny X.K (.ref D) us = some b)
    (hg : Gl X "isinstance" := by rfl) (h1 : starEach [e, .Tuple es ct tpos] X.env = (false, eval e X.env) :: starEach [.Tuple es ct tpos] X.env := by rfl) (h2 : starEach [.Tuple es ct tpos] X.env = (false, eval (.Tuple es ct tpos) X.env) :: starEach [] X.env := by rfl) :
    PX X (.Call (.Name "isinstance" p) [e, .Tuple es ct tpos] [] pos) Γ (some b) := px_of (pe_callB (call_isAT h T hz hf) hg hm (by decide +kernel) (pa_cons pe_w (pa_cons (pe_tup hc) pa_nil h2) h1) (he := h1) (hpl := by rw [h2]; rfl)) fun F σ H Z en y hx Q q => by
  cases hx
  refine ha.run F σ H Z en _ rfl _ fun H1 Z1 w s1 r1 => ht _ _ _ ⟨hl, fun tp htp => ?_⟩
  have s2 := Step.new (o := .tup cs) s1.zh htp
  exact ⟨tp, cs, us, b, x.f, Z1, by rw [show w = V.ref a from r1.1], upd_same, hv, hk, s1.zh.trans (Same.upd_new htp), r1.2, q _ _ _ (s1.trans s2) rfl⟩
end
/-! ### what a def promises that is handed the exception -/
section
open L2H (RoomH PinOk cxH inv_startH roomH_of)
structure FnA (P : Program) (w : World) (K : Fg) (mg : Str → Option Value) (base : Heap) (CX : CXT) (k : Nat) (f : Addr) (fd : FuncData) (ps : List Str) (sp : Sp) (a : Addr) (oe : Obj) : Prop where
  len : ∀ vs H Q E, sp vs H Q E → vs.length = ps.length
  run : ∀ (A : Around) (outer : List Env) (s : Shared) (H : Hp) (args : Args) (us : List Value) (vs : List V) (Q : VK) (E : XK), RoomH k A → PinOk outer H s (a, oe) → Env0 P w K mg base A outer s H → BindsTo s fd args (ps.zip us) → Vals vs us → sp vs H Q E →
    codeAny (model P w) A (.call (.ref f) args) (CR CX outer P w H s Q E) s
open PySem.Spec PyProof.Rows in
theorem fn_ofA {CX : CXT} {P : Program} {w : World} {K : Fg} {mg : Str → Option Value} {base : Heap} {k : Nat} {f : Addr} {name qual : Str} {params : Arguments} {body : List Stmt} {scope : Scope} {dV kV doc pm cdv ct oc : Value} {an od : Option Addr}
    {osl : Array (Option Value)} {N ps : List Str} {sp : Sp} {a : Addr} {oe : Obj} (lk : K.lookup f = some ⟨oc, od, .func (PySem.W.fnOf name qual params body scope dV kV doc pm an cdv ct), osl⟩) (hcd : PySem.W.codeIn K cdv qual = true) (S : FnScope N ps scope)
    (len : ∀ vs H Q E, sp vs H Q E → vs.length = ps.length)
    (hbody : ∀ (A : Around) (outer : List Env) (s : Shared) (H : Hp) (vs : List V) (Q : VK) (E : XK), RoomH k (A.deeper (PyProof.Rows.envOfC qual scope s.heap.objs.size f cdv)) → sp vs H Q E →
      ∃ t, PSs (cxH CX P w K mg base N qual scope f cdv A outer s H E (a, oe)) body t ∧ t { nx := fun _ H' => Q .non H', rt := Q } (L2.start N vs) H) :
    FnA P w K mg base CX (k + 1) f (PySem.W.fnOf name qual params body scope dV kV doc pm an cdv ct) ps sp a oe := by
  refine ⟨len, fun A outer s H args us vs Q E hr hpin e0 hb r hsp => ?_⟩
  have hl := len _ _ _ _ hsp
  have KX : K.In s.heap := e0.mod.kin.keeps fun b o e => (e0.bs b o e).1
  have lim : s.heap.NoLimit := e0.mod.nolimit.keeps fun b o e => (e0.bs b o e).1
  have hkind : ∀ y ∈ ps.zip us, scope.names.lookup y.1 = some .local ∨ (scope.names.lookup y.1 = some .cell ∧ ((cellsFrom (s.heap.objs.size + 1) scope.names []).lookup y.1).isSome = true) := fun ⟨n, v⟩ hy => by
    rcases S.par n (List.of_mem_zip hy).1 with q | q
    · exact .inl q
    · exact .inr ⟨q, PySem.W.cellsFrom_some _ _ _ (.inl q)⟩
  refine codeAny_call_function hr.depth (KX _ _ lk) rfl S.co S.gen rfl (PySem.W.codeRec_of KX hcd) (hb _ _ _ _ ?_)
  refine wpAny_newFunctionEnv_cells S.kind hkind fun env he s1 x => ?_
  subst he
  refine ⟨lim.keeps x.toInCall.keep, codeAny_func ?_⟩
  obtain ⟨t, ht, hq⟩ := hbody A outer s H vs Q E (hr.deeper _) hsp
  have I : L2.Inv (cxH CX P w K mg base N qual scope f cdv A outer s H E (a, oe)) [] (L2.start N vs) H s1 := inv_startH S hpin e0 hl r x
  refine wpAny_mono (ht.run [] s1 (L2.start N vs) H _ I hq) (fun fl s' hs => ?_) fun e s' hs => hs
  have fin : ∀ {σ' : L2.St} {H' : Hp} {v : V} {u : Value}, L2.Inv (cxH CX P w K mg base N qual scope f cdv A outer s H E (a, oe)) [] σ' H' s' → RelV v u → Q v H' → CE outer P w H s Q u s' :=
    fun {σ' H' v u} J rv q => ⟨v, H', J.os, J.bare, J.base, J.hok, rv, q⟩
  cases fl with
  | ret u =>
    obtain ⟨v, σ', H', J, rv, q⟩ := hs
    exact fin J rv q
  | next =>
    obtain ⟨σ', H', J, q⟩ := hs
    exact fin (v := V.non) (u := Value.none) J rfl q
  | brk =>
    obtain ⟨_, _, _, q⟩ := hs
    exact False.elim q
  | cont =>
    obtain ⟨_, _, _, q⟩ := hs
    exact False.elim q
/-- THE RULE for such a def -/
theorem fn_gX {P : Program} {w : World} {K : Fg} {mg : Str → Option Value} {base : Heap} {f : Addr} {fd : FuncData} {x qual : Str} {st : Stmt} {N ps : List Str} {k n : Nat} {A R : Type} [EncA A] [EntsA A] [Enc R] {a : Addr} {oe : Obj}
    (F : Fun K x qual st f fd) (S : FnScope N ps (defScope st)) (fm : A → Option R) {N1 L1 : Type} (GN : N1 → List Ent) (GL : L1 → List Ent) (hps : EncA.n A = ps.length) (hn : EncA.n A + n = N.length)
    (hb : ∀ (cdv : Value) (Ar : Around) (outer : List Env) (s : Shared) (H : Hp) (E : XK), RoomH k (Ar.deeper (PyProof.Rows.envOfC qual (defScope st) s.heap.objs.size f cdv)) → ∀ (y : A) (r : R), fm y = some r →
      BX (cxH CX0 P w K mg base N qual (defScope st) f cdv Ar outer s H E (a, oe)) W0 ER0 (defBody st) (EntsA.ents y ++ List.replicate n .no) GN GL (.rt r)) :
    FnA P w K mg base CX0 (k + 1) f fd ps (spF K fm) a oe := by
  obtain ⟨oc, od, kV, doc, pm, an, cdv, ct, osl, rfl, lk, hcd⟩ := F.ex
  refine fn_ofA lk hcd S (fun vs H Q E h => ?_) (fun Ar outer s H vs Q E hr h => ?_)
  · obtain ⟨Z, y, r, _, h1, _⟩ := h
    rw [EncA.len h1, hps]
  · obtain ⟨Z, y, r, zh, h1, h2, q⟩ := h
    refine ⟨_, ps_w, ?_⟩
    refine (hb cdv Ar outer s H E hr y r h2).run ⟨H, Z, []⟩ _ ?_ _ _ Z (env_start hn zh h1 rfl)
    exact fun H' Z' v ⟨s', r'⟩ => q H' Z' v s' r'
end
section
open L2H (RoomH PinOk cxH inv_startH roomH_of)
variable {X : Cx} {a : Addr} {oe : Obj} {k : Nat} {f : Addr} {fd : FuncData} {ps : List Str} {sp : Sp} {E : XK} {x : Str} {p pos : Pos} {e : Expr} {es : List Expr} {t : TA} {CX : CXT} {Γ : List Ent}
theorem run_fnA {pins : List (Addr × Obj)} {σ : St} {H : Hp} {s : Shared} {Q : VK} {us : List Value} {vs : List V} (h0 : (a, oe) ∈ X.pn) (F : FnA X.prog X.w X.K X.mg X.base CX k f fd ps sp a oe) (hr : RoomH k X.A) (hb : Binds X.K fd ps []) (hx : Passes CX X E)
    (I : L2.Inv X pins σ H s) (r : Vals vs us) (h : sp vs H Q E) : PySem.wpAny (model X.prog X.w) X.A (call (.ref f) us) (EP X pins σ Q) X.xe s := by
  have hl : us.length = ps.length := by rw [← r.length]; exact F.len _ _ _ _ h
  have b := hb s us I.kIn (by rw [List.append_nil]; exact hl)
  rw [List.append_nil] at b
  have P1 := I.pin (a, oe) (List.mem_append_left _ h0)
  have hpin : PinOk X.stack H s (a, oe) := ⟨P1.1, P1.2.1, fun hm => (List.mem_cons.mp (I.stkSub a hm)).elim P1.2.2.1 P1.2.2.2.1, P1.2.2.2.2⟩
  refine wpAny_call (codeAny_mono (F.run X.A X.stack s H ⟨us, []⟩ us vs Q E hr hpin I.env0 b r h) fun r s' hq => ?_)
  cases r with
  | error e => exact hx pins σ H s e s' I hq
  | ok fl =>
    cases fl with
    | ret u => exact I.after hq
    | next => exact False.elim hq
    | brk => exact False.elim hq
    | cont => exact False.elim hq
theorem pe_callA (h0 : (a, oe) ∈ X.pn) (F : FnA X.prog X.w X.K X.mg X.base CX k f fd ps sp a oe) (hr : RoomH k X.A) (hg : Gl X x) (hm : X.mg x = some (.ref f)) (hk : PySem.W.keepIn X.K (.ref f) = true) (hb : Binds X.K fd ps []) (hx : Passes CX X E)
    (ha : PA X (e :: es) t) (hdb : (x == ("__debug__" : Str)) = false := by decide) (he : starEach (e :: es) X.env = (false, eval e X.env) :: starEach es X.env := by rfl) (hpl : (backTo pos (starEach es X.env)).any (·.1) = false := by rfl) :
    PE X (.Call (.Name x p) (e :: es) [] pos) (tCall sp [] E t) := by
  refine ⟨fun pins s σ H Q I h => ?_⟩
  refine wpAny_Call_Name_kw (ld_glob I hg hm ?_ hdb)
  refine PySem.W.callWith_K (h₀ := X.base) I.ok.mod.kin hk (thn (ha.run pos pins s σ H _ I h) fun us s1 ⟨vs, H1, I1, r, q⟩ => ⟨I1.kIn, ?_⟩) he hpl
  replace q : sp (vs ++ []) H1 Q E := q
  rw [List.append_nil] at q
  exact run_fnA h0 F hr hb hx I1 r q
/-- f(error) -/
theorem px_callA1 {A0 R : Type} [Enc A0] [Enc R] {fm : A0 × Unit → Option R} {y : A0} (h0 : (a, oe) ∈ X.pn) (Fn : FnA X.prog X.w X.K X.mg X.base CX0 k f fd ps (spF X.K fm) a oe) (hr : RoomH k X.A) (hm : X.mg x = some (.ref f)) (hk : PySem.W.keepIn X.K (.ref f) = true)
    (hb : Binds X.K fd ps []) (ha : PX X e Γ (some y)) (hg : Gl X x := by rfl) (hdb : (x == ("__debug__" : Str)) = false := by decide) (hs : starEach [e] X.env = (false, eval e X.env) :: starEach [] X.env := by rfl) (hpl : (backTo pos (starEach [] X.env)).any (·.1) = false := by rfl) :
    PX X (.Call (.Name x p) [e] [] pos) Γ (fm (y, ())) := px_of (pe_callA h0 Fn hr hg hm hk hb pass0 pa_w hdb hs hpl) fun F σ H Z en z hx Q q => by
  refine (pax_cons ha pax_nil hs).run F σ H Z en (y, ()) rfl _ fun H' Z' vs s r => ?_
  rw [List.append_nil]
  exact ⟨Z', (y, ()), z, s.zh, r, hx, fun H2 Z2 u s2 r2 => q H2 Z2 u (s.trans s2) r2⟩
theorem roomH_suite {j : Nat} (hr : L2.Room k X.A) (h : j ≤ k) : RoomH j (X.A.mark (some (.ref a))) := ⟨((roomH_of hr).mono h).dp, ((roomH_of hr).mono h).un⟩
end
end G
/-! GHly: a tuple of one and one of two; the third item and the first two of a list of unlike kinds. -/
namespace G
open PySem L2
section
variable {X : Cx} {Γ : List Ent} {e a b : Expr} {pos tpos : Pos} {α β γ : Type} [Enc α] [Enc β] [Enc γ]
def oCat12 {α β γ : Type} (n : Option α) (m : Option (P2 β γ)) : Option (P3 α β γ) := n.bind fun y => m.bind fun x => some ⟨y, x.a, x.b⟩
theorem px_cat12 {ct : Nat} {m : Option (P2 β γ)} {n : Option α} (he : PX X e Γ n) (ha : PX X a Γ m) (hs : starEach [e] X.env = (false, eval e X.env) :: starEach [] X.env := by rfl) : PX X (.BinOp (.Tuple [e] ct tpos) .Add a pos) Γ (oCat12 n m) :=
  px_of (pe_op op_catA (pe_tup (pa_cons pe_w pa_nil hs)) pe_w) fun F σ H Z en x hx Q q => by
    obtain ⟨y, hy, hx1⟩ := Option.bind_eq_some_iff.mp hx
    obtain ⟨z, hz, hx2⟩ := Option.bind_eq_some_iff.mp hx1
    cases hx2
    refine he.run F σ H Z en y hy _ fun H1 Z1 v s1 r1 => ⟨by show 1 ≤ sizeLine; decide, fun tp htp => ?_⟩
    have s2 := Step.new (o := .tup [v]) s1.zh htp
    refine ha.run F σ _ _ (en.step (s1.trans s2)) z hz _ fun H3 Z3 w s3 r3 => ?_
    obtain ⟨p, v1, v2, e1, h1, q1, q2⟩ := r3
    refine ⟨tp, p, [v], [v1, v2], rfl, e1, SqT.of (s3.zh _ _ (s3.zz _ _ upd_same)), SqT.of (s3.zh _ _ h1), by show 3 ≤ sizeLine; decide, (fun h => by cases h), (fun _ h => by cases h), fun _ _ r hr => ?_⟩
    have s4 := Step.new (o := .tup [v, v1, v2]) s3.zh hr
    exact q _ _ _ (((s1.trans s2).trans s3).trans s4) ⟨r, v, v1, v2, rfl, upd_same, Enc.mono ((s2.zz.trans s3.zz).trans s4.zz) r1, Enc.mono s4.zz q1, Enc.mono s4.zz q2⟩
end
theorem atI_2 {α : Type} {x y z : α} {xs : List α} : atI (x :: y :: z :: xs) 2 = some z := by rw [atI_ok (by decide) (by simp only [List.length_cons]; omega)]; rfl
theorem cutV_2 {x y : V} {xs : List V} : cutV (x :: y :: xs) none (some 2) = [x, y] := Option.some.inj (show some (cutV (x :: y :: xs) none (some 2)) = some [x, y] from oCut_take (xs := x :: y :: xs) (k := 2))
section
variable {X : Cx} {Γ : List Ent} {a b : Expr} {pos p2 : Pos} {C D E B : Type} [Enc C] [Enc D] [Enc E] [EncA B]
theorem px_hl2 {m : Option (Hl (C × D × E × B))} (ha : PX X a Γ m) (hb : PX X b Γ (some (2 : Int))) (hs : PlainIx b := by intro _ _; rfl) : PX X (.Subscript a b pos) Γ (m.map fun x => x.x.2.2.1) := px_of (pe_ix ix_list pe_w pe_w hs) fun F σ H Z en x hx Q q => by
  obtain ⟨y, hy, rfl⟩ := Option.map_eq_some_iff.mp hx
  refine ha.run F σ H Z en y hy _ fun H1 Z1 v1 s1 ⟨l, vs, e, hl, r1⟩ => hb.run F σ H1 Z1 (en.step s1) 2 rfl _ fun H2 Z2 w s2 r2 => ?_
  obtain ⟨v, r, e2, h1, v', r', e3, h3, v'', r'', e4, h5, h4⟩ := r1
  subst e e2 e3 e4
  exact ⟨l, _, 2, v'', rfl, r2, SqL.of ((s1.trans s2).zh _ _ (s2.zz _ _ hl)), atI_2, q H2 Z2 v'' (s1.trans s2) (Enc.mono s2.zz h5)⟩
/-- xs[:2] of a list of unlike kinds -/
theorem px_hlcut2 {lo hi : Option Expr} {m : Option (Hl (C × D × B))} (ha : PX X a Γ m) (hl : POX X lo Γ (some none)) (hh : POX X hi Γ (some (some 2))) : PX X (.Subscript a (.Slice lo hi none p2) pos) Γ (m.map fun x => (⟨(x.x.1, x.x.2.1, ())⟩ : Hl (C × D × Unit))) := px_of (pe_slice sl_list pe_w po_w po_w) fun F σ H Z en x hx Q q => by
  obtain ⟨y, hy, rfl⟩ := Option.map_eq_some_iff.mp hx
  refine ha.run F σ H Z en y hy _ fun H1 Z1 v1 s1 ⟨l, vs, e, hl1, r1⟩ => hl.run F σ H1 Z1 (en.step s1) none rfl _ fun H2 Z2 s2 => hh.run F σ H2 Z2 (en.step (s1.trans s2)) (some 2) rfl _ fun H3 Z3 s3 => ?_
  obtain ⟨v, r, e2, h1, v', r', e3, h3, h4⟩ := r1
  subst e e2 e3
  refine ⟨l, _, rfl, SqL.of (s3.zh _ _ (s3.zz _ _ (s2.zz _ _ hl1))), fun p' hp => ?_⟩
  rw [cutV_2] at *
  have s4 := Step.new (o := .lst [v, v']) s3.zh hp
  exact q _ _ _ (((s1.trans s2).trans s3).trans s4) ⟨p', [v, v'], rfl, upd_same, v, [v'], rfl, Enc.mono ((s2.zz.trans s3.zz).trans s4.zz) h1, v', [], rfl, Enc.mono ((s2.zz.trans s3.zz).trans s4.zz) h3, rfl⟩
end
end G
/-! GXbr: methods that change what they are lent, or raise ahead of any change; things of one of several classes. -/
namespace G
open PySem L2
def spMX (K : Fg) (ER : ExR) {A B R : Type} [OwnB B] [ArgB A B] [Enc R] (f : A → Option (Rs (RB B R))) : Sp := fun vs H Q E =>
  ∃ Z x r bs fp, Same Z H ∧ ArgB.rel K Z vs bs x ∧ OwnB.own K Z H bs (ArgB.brs x) fp ∧ (∀ a, fp a → Z a = none) ∧ f x = some r ∧
    (∀ y, r = .ok y → ∀ H' Z' u fp', Frm H Z H' Z' fp fp' → OwnB.own K Z' H' bs y.b fp' → Enc.rel K Z' u y.r → Q u H') ∧
    ∀ c i, r = .er c i → ∀ H' Z' cls d fp', Frm H Z H' Z' fp fp' → OwnB.own K Z' H' bs (ArgB.brs x) fp' → ER c i Z' cls d → E cls d H'
def endX {B L : Type} : Option (Fl B L (RB B Unit)) → Option (Rs (RB B Unit))
  | some (.nx b) => some (.ok ⟨b, ()⟩)
  | some (.rt r) => some (.ok r)
  | some (.xc c f) => some (.er c f)
  | _ => none
section
variable {P : Program} {w : World} {K : Fg} {mg : Str → Option Value} {base : Heap} {f : Addr} {fd : FuncData} {x qual : Str} {st : Stmt} {N ps : List Str} {k n : Nat} {A B R : Type} [OwnB B] [ArgB A B] [Enc R]
theorem fn_mX (F : FunA K x qual st f fd) (S : FnScope N ps (defScope st)) (ER : ExR) {L1 : Type} (body : A → Option (Fl B L1 (RB B Unit))) (is : List Nat) (GN : B → List Ent) (GL : L1 → List Ent) (gx : A → List Ent) (hN : ∀ b, OwnB.outs 0 is b (GN b)) (hX : ∀ y, OwnB.outs 0 is (ArgB.brs y) (gx y)) (nd : is.Nodup) (hps : ArgB.n A = ps.length) (hn : ArgB.n A + n = N.length)
    (hb : ∀ (cdv : Value) (Ar : Around) (outer : List Env) (s : Shared) (H : Hp) (E : XK), Room k (Ar.deeper (PyProof.Rows.envOfC qual (defScope st) s.heap.objs.size f cdv)) → ∀ (y : A) (o : Fl B L1 (RB B Unit)), body y = some o →
      BX (cxOf (L2.CX P w) P w K mg base N qual (defScope st) f cdv Ar outer s H E) (fun cls d _ H => E cls d H) ⟨ER, gx y⟩ (defBody st) (ArgB.ents 0 y ++ List.replicate n .no) GN GL o) :
    FnOk P w K mg base (L2.CX P w) (k + 1) f fd ps (spMX K ER fun y => endX (body y)) := by
  refine F.okX S (fun vs H Q E h => ?_) (fun cdv Ar outer s H vs Q E hr h => ?_)
  · obtain ⟨Z, y, r, bs, fp, _, h1, _⟩ := h
    rw [ArgB.len h1, hps]
  · obtain ⟨Z, y, r, bs, fp, zh, h1, h2, h3, h4, q1, q2⟩ := h
    refine ⟨_, ps_w, ?_⟩
    replace h4 : endX (body y) = some r := h4
    have len : ∀ {bs' rr : List V} {Z' H' : Hp} {b : B} {fp' : Fp}, bs = bs' ++ rr → OwnB.own K Z' H' bs' b fp' → rr = [] := fun {bs' rr Z' H' b fp'} e o' => by
      have l1 : bs'.length = bs.length := (OwnB.blen o').trans (OwnB.blen h2).symm
      have := congrArg List.length e
      rw [List.length_append] at this
      exact List.length_eq_zero_iff.mp (by omega)
    cases ho : body y with
    | none => rw [ho] at h4; cases h4
    | some o =>
      rw [ho] at h4
      refine (hb cdv Ar outer s H E hr y o ho).run _ _ ?_ _ _ Z (env_startB hn zh h1 h2 h3)
      cases o with
      | nx b =>
        cases h4
        exact fun σ H' Z' en => by
          obtain ⟨fp0, hen, _⟩ := en.ent
          obtain ⟨bs', rr, e1, vl⟩ := OwnB.ovals (hN b) hen
          obtain ⟨fp', ow, out, _⟩ := en.focusB (OwnB.oin (hN b)) nd vl
          have e : bs = bs' ++ rr := by simpa using e1
          have := len e ow
          subst this
          rw [List.append_nil] at e
          subst e
          exact q1 _ rfl H' Z' .non fp' (frm_of h3 en.stp out) ow rfl
      | rt r' =>
        cases h4
        exact fun H' Z' v ⟨fp', bs', rr, s', e, o', out, r'⟩ => by
          have e : bs = bs' ++ rr := e
          have := len e o'
          subst this
          rw [List.append_nil] at e
          subst e
          exact q1 _ rfl H' Z' v fp' (frm_of h3 s' out) o' r'
      | br l => cases h4
      | ct l => cases h4
      | xc c i =>
        cases h4
        exact fun σ H' Z' cls d en her => by
          obtain ⟨fp0, hen, _⟩ := en.ent
          obtain ⟨bs', rr, e1, vl⟩ := OwnB.ovals (hX y) hen
          obtain ⟨fp', ow, out, _⟩ := en.focusB (OwnB.oin (hX y)) nd vl
          have e : bs = bs' ++ rr := by simpa using e1
          have := len e ow
          subst this
          rw [List.append_nil] at e
          subst e
          exact q2 c i rfl H' Z' cls d fp' (frm_of h3 en.stp out) ow her
end
/-- the callee's promise over a place of the caller's -/
theorem At.methX {Cc A R : Type} [Enc Cc] [Own Cc] [ArgB A Unit] [Enc R] {K : Fg} {ER : ExR} {F : Frame} {σ : St} {H Z : Hp} {v : V} {x : Cc} {fp : Fp} {T : Cc → List Ent} (at_ : At K F σ H Z v x fp T) {fm : Br Cc × A → Option (Rs (RB (Cc × Unit) R))} {vs : List V} {y : A} {r : Rs (RB (Cc × Unit) R)} (zh : Same Z H)
    (ra : ArgB.rel K Z vs [] y) (hf : fm (Br.mk x, y) = some r) {Q : VK} {E : XK} (q1 : ∀ z, r = .ok z → ∀ H' Z' u, EnvOk K F σ H' Z' (T z.b.1) → Enc.rel K Z' u z.r → Q u H') (q2 : ∀ c i, r = .er c i → ∀ H' Z' cls d, EnvOk K F σ H' Z' (T x) → ER c i Z' cls d → E cls d H') : spMX K ER fm (v :: vs) H Q E := by
  refine ⟨Z, (Br.mk x, y), r, [v], fp, zh, ⟨v, vs, [], rfl, rfl, ra⟩, ⟨v, [], fp, Fp.no, rfl, at_.own, ⟨rfl, fun _ f => f⟩, fun a => ⟨.inl, fun f => by rcases f with f | f; exact f; exact f.elim⟩, fun _ _ f => f⟩, fun a f => (at_.out a f).2, hf, fun z ez H2 Z2 u fp2 g2 o2 r2 => ?_, fun c i ez H2 Z2 cls d fp2 g2 o2 r2 => ?_⟩
  · obtain ⟨w, rr, f1, f2, e, o1, o2', i1, d1⟩ := o2
    cases e
    exact q1 z ez H2 Z2 u (at_.put H2 Z2 z.b.1 f1 ⟨g2.hh, g2.zz, g2.zh, g2.old, fun a f => g2.out a ((i1 a).mpr (.inl f))⟩ o1) r2
  · obtain ⟨w, rr, f1, f2, e, o1, o2', i1, d1⟩ := o2
    cases e
    exact q2 c i ez H2 Z2 cls d (at_.put H2 Z2 x f1 ⟨g2.hh, g2.zz, g2.zh, g2.old, fun a f => g2.out a ((i1 a).mpr (.inl f))⟩ o1) r2
/-- a call that changes what it is lent, or raises -/
structure PXBX (X : Cx) (W : WX) (ER : ExR) (e : Expr) (Γ Γe : List Ent) {B α : Type} [Enc α] (m : Option (Rs (RB B α))) (T : B → List Ent) : Prop where
  run : ∀ (F : Frame) (σ : St) (H Z : Hp), EnvOk X.K F σ H Z Γ → ∀ x, m = some x → ∀ Q : VK, (∀ y, x = .ok y → ∀ H' Z' v, EnvOk X.K F σ H' Z' (T y.b) → Enc.rel X.K Z' v y.r → Q v H') → (∀ c i, x = .er c i → ∀ H' Z' cls d, EnvOk X.K F σ H' Z' Γe → ER c i Z' cls d → W cls d σ H') → wE X e σ H Q
section
variable {X : Cx} {W : WX} {ER : ExS} {rest : List Stmt} {e o a b c : Expr} {es : List Expr} {pos pos' p p1 p2 apos : Pos} {Γ Γ' Γe : List Ent} {α β : Type} [Flds α] {nm m : Str} {ns : List Str} {C : Addr} {k : Nat} {f : Addr} {fd : FuncData} {ps : List Str} {A R : Type} {pl : Sem Bool}
theorem pxbx_meth [ArgB A Unit] [Enc R] {fm : Br (Ins nm ns α) × A → Option (Rs (RB (Ins nm ns α × Unit) R))} {x : Ins nm ns α} {T : Ins nm ns α → List Ent} {ma : Option A} (tk : Takes X W) (cl : ClsF X.K nm C) (hm : Meth X.K C m f) (hmn : m ∉ ns) (Fn : FnOk X.prog X.w X.K X.mg X.base (L2.CX X.prog X.w) k f fd ps (spMX X.K ER.er fm)) (hr : Room k X.A)
    (hb : Binds X.K fd ps []) (ho : PR X o Γ (some x) T) (ha : PAB X (e :: es) Γ ma []) (hst : starEach (e :: es) X.env = (false, eval e X.env) :: starEach es X.env := by rfl) (hpl : (backTo pos (starEach es X.env)).any (·.1) = false := by rfl)
    (ht : eval (.Call (.Attribute o m apos) (e :: es) [] pos) X.env = (do
      let ov ← eval o X.env
      standAt apos.atName
      let (f, first) ← holding [ov] (getMethod ov m pl)
      callWith pos f first (backTo pos (starEach (e :: es) X.env)) (backToKw pos (keywordEach [] X.env))) := by rfl) :
    PXBX X W ER.er (.Call (.Attribute o m apos) (e :: es) [] pos) Γ (T x) (ma.bind fun y => fm (Br.mk x, y)) (fun b => T b.1) := .mk fun F σ H Z en z hx Q q1 q2 pins s I => (pe_methX (pl := pl) pe_w cl.cl hm Fn hr hb (fun σ => passAt tk σ) pa_w hst hpl ht).run pins s σ H Q I (by
  obtain ⟨y, hy, hx1⟩ := Option.bind_eq_some_iff.mp hx
  refine ho.run F σ H Z en x rfl _ fun H1 Z1 v fp s1 at_ => ?_
  obtain ⟨l, D, dx, fs, fe, e1, hl, hcl, o1, hc, hd1⟩ := at_.own
  cases hcl.same cl.is
  subst e1
  refine ⟨l, dx, fs, rfl, hl, Flds.nokey o1 hmn, ha.run F σ H1 Z1 (en.step s1) y hy _ fun H2 Z2 vs bs s2 r2 vl => ?_⟩
  have hbs : bs = [] := by
    cases bs with
    | nil => rfl
    | cons v r => exact vl.elim
  subst hbs
  exact At.methX (at_.step s2) s2.zh r2 hx1 q1 q2)
/-- .. and does not raise -/
theorem pxb_methV {A0 : Type} {dvs : List V} {ds : List Value} {g : A0 → A} [ArgB A0 Unit] [ArgB A Unit] [Enc R] {fm : Br (Ins nm ns α) × A → Option (Rs (RB (Ins nm ns α × Unit) R))} {x : Ins nm ns α} {T : Ins nm ns α → List Ent} {ma : Option A0} (cl : ClsF X.K nm C) (hm : Meth X.K C m f) (hmn : m ∉ ns) (Fn : FnOk X.prog X.w X.K X.mg X.base (L2.CX X.prog X.w) k f fd ps (spMX X.K ER.er fm)) (hr : Room k X.A)
    (hb : Binds X.K fd ps ds) (hd : Vals dvs ds) (hv : ∀ Z vs y, ArgB.rel X.K Z vs [] y → ArgB.rel X.K Z (vs ++ dvs) [] (g y)) (ho : PR X o Γ (some x) T) (ha : PAB X (e :: es) Γ ma []) (hst : starEach (e :: es) X.env = (false, eval e X.env) :: starEach es X.env := by rfl) (hpl : (backTo pos (starEach es X.env)).any (·.1) = false := by rfl)
    (ht : eval (.Call (.Attribute o m apos) (e :: es) [] pos) X.env = (do
      let ov ← eval o X.env
      standAt apos.atName
      let (f, first) ← holding [ov] (getMethod ov m pl)
      callWith pos f first (backTo pos (starEach (e :: es) X.env)) (backToKw pos (keywordEach [] X.env))) := by rfl) :
    PXB X (.Call (.Attribute o m apos) (e :: es) [] pos) Γ ((ma.bind fun y => fm (Br.mk x, g y)).bind Rs.val) (fun b => T b.1) := .mk fun F σ H Z en z hx Q q pins s I => (pe_meth (pl := pl) pe_w cl.cl hm Fn hr hb hd passL pa_w hst hpl ht).run pins s σ H Q I (by
  obtain ⟨r, hx0, hv'⟩ := Option.bind_eq_some_iff.mp hx
  obtain ⟨y, hy, hx1⟩ := Option.bind_eq_some_iff.mp hx0
  cases r with
  | er c i => cases hv'
  | ok r =>
  cases hv'
  refine ho.run F σ H Z en x rfl _ fun H1 Z1 v fp s1 at_ => ?_
  obtain ⟨l, D, dx, fs, fe, e1, hl, hcl, o1, hc, hd1⟩ := at_.own
  cases hcl.same cl.is
  subst e1
  refine ⟨l, dx, fs, rfl, hl, Flds.nokey o1 hmn, ha.run F σ H1 Z1 (en.step s1) y hy _ fun H2 Z2 vs bs s2 r2 vl => ?_⟩
  have hbs : bs = [] := by
    cases bs with
    | nil => rfl
    | cons v r => exact vl.elim
  subst hbs
  exact At.methX (at_.step s2) s2.zh (hv Z2 vs y r2) hx1 (fun z' e' => by cases e'; exact q) fun c i e' => by cases e')
/-- two lent things -/
theorem pxbx_methB (i : Nat) {nm1 : Str} {bv : Option Nat} {B : Type} [OwnB B] [ArgB A B] [Enc R] {fm : Br (Ins nm ns α) × A → Option (Rs (RB (Ins nm ns α × B) R))} {x : Ins nm ns α} {ma : Option A} {is : List Nat} {T : Ins nm ns α × B → List Ent} (tk : Takes X W) (cl : ClsF X.K nm C) (hm : Meth X.K C m f) (hmn : m ∉ ns) (Fn : FnOk X.prog X.w X.K X.mg X.base (L2.CX X.prog X.w) k f fd ps (spMX X.K ER.er fm)) (hr : Room k X.A) (hb : Binds X.K fd ps [])
    (hΓ : Γ[i]? = some (.ow bv x)) (ha : PAB X (e :: es) Γ ma is) (hT : ∀ b, OwnB.put (i :: is) b Γ = T b) (hE : ∀ y, ma = some y → OwnB.put (i :: is) (x, ArgB.brs y) Γ = Γe) (nd : (i :: is).Nodup := by decide) (hN1 : X.N[i]? = some nm1 := by rfl) (hv1 : Vis X.env.scope nm1 := by first | exact Or.inl rfl | exact Or.inr (Or.inl rfl) | exact Or.inr (Or.inr rfl))
    (hd1 : (nm1 == ("__debug__" : Str)) = false := by decide) (hcd1 : (nm1 == ("__classdict__" : Str)) = false := by decide)
    (hst : starEach (e :: es) X.env = (false, eval e X.env) :: starEach es X.env := by rfl) (hpl : (backTo pos (starEach es X.env)).any (·.1) = false := by rfl)
    (ht : eval (.Call (.Attribute (.Name nm1 p1) m apos) (e :: es) [] pos) X.env = (do
      let ov ← eval (.Name nm1 p1) X.env
      standAt apos.atName
      let (f, first) ← holding [ov] (getMethod ov m pl)
      callWith pos f first (backTo pos (starEach (e :: es) X.env)) (backToKw pos (keywordEach [] X.env))) := by rfl) :
    PXBX X W ER.er (.Call (.Attribute (.Name nm1 p1) m apos) (e :: es) [] pos) Γ Γe (ma.bind fun y => fm (Br.mk x, y)) T := .mk fun F σ H Z en z hx Q q1 q2 pins s I => (pe_methX (pl := pl) (pe_var hN1 hv1 hd1 hcd1) cl.cl hm Fn hr hb (fun σ => passAt tk σ) pa_w hst hpl ht).run pins s σ H Q I (by
  obtain ⟨y, hy, hx1⟩ := Option.bind_eq_some_iff.mp hx
  obtain ⟨v, fp, e1, A⟩ := en.at hΓ
  obtain ⟨l, D, dx, fs, fe, e3, hl, hcl, o1, hc, hd⟩ := id A.own
  cases hcl.same cl.is
  subst e3
  refine ⟨.ref l, e1, l, dx, fs, rfl, hl, Flds.nokey o1 hmn, ha.run F σ H Z en y hy _ fun H1 Z1 vs bs s1 r1 vl => ?_⟩
  have hin : OwnB.ins (B := Ins nm ns α × B) (i :: is) (x, ArgB.brs y) Γ := ⟨i, is, rfl, ⟨bv, hΓ⟩, ha.ins y hy⟩
  obtain ⟨fp2, ow, out, put⟩ := (en.step s1).focusB (bs := .ref l :: bs) hin nd ⟨e1, vl⟩
  refine ⟨Z1, (Br.mk x, y), z, .ref l :: bs, fp2, s1.zh, ⟨_, _, _, rfl, rfl, r1⟩, ow, fun a f => (out a f).2, hx1, fun z' ez H2 Z2 u fp' g o' r' => ?_, fun c i' ez H2 Z2 cls d fp' g o' r' => ?_⟩
  · have := put H2 Z2 z'.b fp' g o'
    rw [hT] at this
    exact q1 z' ez H2 Z2 u this r'
  · have := put H2 Z2 (x, ArgB.brs y) fp' g o'
    rw [hE y hy] at this
    exact q2 c i' ez H2 Z2 cls d this r')
theorem bx_exprBX {N L R0 : Type} [Res R0] {GN : N → List Ent} {GL : L → List Ent} {o' : Fl N L R0} {B γ : Type} [Enc γ] {m : Option (Rs (RB B γ))} {T : B → List Ent} {k : RB B γ → Option (Fl N L R0)} (hx : PXBX X W ER.er e Γ Γe m T) (w : Wk Γe ER.gx) (h : thenX m k = some o') (hr : ∀ x, k x = some o' → BX X W ER rest (T x.b) GN GL o')
    (hs : swapsWith e none pos.line X.env = pure false := by rfl) : BX X W ER (.Expr e pos :: rest) Γ GN GL o' := by
  obtain ⟨r, h2, h3⟩ := Option.bind_eq_some_iff.mp h
  refine bx_cons (ps_expr pe_w hs) fun F D ac σ H Z en => hx.run F σ H Z en r h2 _ (fun y e1 H' Z' v en' r1 => ?_) fun cc i e1 H' Z' cls dd en' r1 => ?_
  · subst e1
    exact (hr y h3).run F D ac σ H' Z' en'
  · subst e1
    cases h3
    exact acc_xc ac (en'.wk w) r1
end
/-! ### things of one of two classes -/
instance {α β : Type} [Enc α] [Own α] [Enc β] [Own β] : Own (α ⊕ β) where
  own K Z H v x fp := match x with
    | .inl a => Own.own K Z H v a fp
    | .inr b => Own.own K Z H v b fp
  omono := fun {K Z Z' H H' v c fp} s g h => by
    cases c with
    | inl a => exact Own.omono (C := α) s g h
    | inr b => exact Own.omono (C := β) s g h
  odom := fun {K Z H v c fp a} h f => by
    cases c with
    | inl x => exact Own.odom (C := α) h f
    | inr x => exact Own.odom (C := β) h f
  froz := fun {K Z H Z' v c fp} h s g => by
    cases c with
    | inl x => exact Own.froz (C := α) h s g
    | inr x => exact Own.froz (C := β) h s g
theorem EnvOk.swap {K : Fg} {F : Frame} {σ : St} {H Z : Hp} {Γ : List Ent} {i : Nat} {e e' : Ent} (en : EnvOk K F σ H Z Γ) (hi : Γ[i]? = some e) (h : ∀ o fp, EntOk K F H Z o fp e → EntOk K F H Z o fp e') : EnvOk K F σ H Z (Γ.set i e') := by
  obtain ⟨fp, h1, h2⟩ := en.ent
  refine ⟨en.hh, en.zz, en.zh, en.old, by rw [List.length_set]; exact en.len, fp, fun j t ht => ?_, h2⟩
  rcases getElem?_set_cases ht with ⟨rfl, rfl⟩ | ⟨_, ht⟩
  · obtain ⟨o, ho, q⟩ := h1 _ _ hi
    exact ⟨o, ho, h _ _ q⟩
  · exact h1 j t ht
def caseS {α β γ : Type} (x : α ⊕ β) (f : α → γ) (g : β → γ) : γ := match x with
  | .inl a => f a
  | .inr b => g b
section
variable {X : Cx} {W : WX} {ER : ExS} {rest : List Stmt} {e a b c : Expr} {pos p p2 : Pos} {Γ Γ' : List Ent} {α β : Type} [Enc α] [Own α] [Enc β] [Own β] {N L R : Type} [Res R] {GN : N → List Ent} {GL : L → List Ent} {o : Fl N L R}
/-- by the class -/
theorem bx_caseS (i : Nat) {bv : Option Nat} {x : α ⊕ β} {f : α → Option (Fl N L R)} {g : β → Option (Fl N L R)} (h : caseS x f g = some o) (h1 : ∀ a, f a = some o → BX X W ER rest (Γ.set i (.ow bv a)) GN GL o) (h2 : ∀ b, g b = some o → BX X W ER rest (Γ.set i (.ow bv b)) GN GL o) (hi : Γ[i]? = some (.ow bv x) := by rfl) : BX X W ER rest Γ GN GL o := by
  cases x with
  | inl a => exact .mk fun F D ac σ H Z en => (h1 a h).run F D ac σ H Z (en.swap hi fun _ _ q => q)
  | inr b => exact .mk fun F D ac σ H Z en => (h2 b h).run F D ac σ H Z (en.swap hi fun _ _ q => q)
theorem bx_toL (i : Nat) (β : Type) [Enc β] [Own β] {bv : Option Nat} {x : α} (h : BX X W ER rest (Γ.set i (.ow bv (Sum.inl x : α ⊕ β))) GN GL o) (hi : Γ[i]? = some (.ow bv x) := by rfl) : BX X W ER rest Γ GN GL o := .mk fun F D ac σ H Z en => h.run F D ac σ H Z (en.swap hi fun _ _ q => q)
theorem bx_toR (i : Nat) (α : Type) [Enc α] [Own α] {bv : Option Nat} {x : β} (h : BX X W ER rest (Γ.set i (.ow bv (Sum.inr x : α ⊕ β))) GN GL o) (hi : Γ[i]? = some (.ow bv x) := by rfl) : BX X W ER rest Γ GN GL o := .mk fun F D ac σ H Z en => h.run F D ac σ H Z (en.swap hi fun _ _ q => q)
theorem pno_inl {m : Option α} (h : PNO X e Γ m) : PNO X e Γ (m.map fun x => (Sum.inl x : α ⊕ β)) := .mk fun F σ H Z en x hx Q q => by
  obtain ⟨y, hy, rfl⟩ := Option.map_eq_some_iff.mp hx
  exact h.run F σ H Z en y hy Q fun H' Z' v fp n => q H' Z' v fp ⟨n.st, n.own, n.out⟩
theorem pno_inr {m : Option β} (h : PNO X e Γ m) : PNO X e Γ (m.map fun x => (Sum.inr x : α ⊕ β)) := .mk fun F σ H Z en x hx Q q => by
  obtain ⟨y, hy, rfl⟩ := Option.map_eq_some_iff.mp hx
  exact h.run F σ H Z en y hy Q fun H' Z' v fp n => q H' Z' v fp ⟨n.st, n.own, n.out⟩
theorem prt_co {C D : Type} [Enc C] [Own C] [Enc D] [Own D] {g : C → D} {m : Option C} (hg : ∀ {K : Fg} {F : Frame} {H Z : Hp} {x : C} (o : Option V) (fp : Fp), EntOk K F H Z o fp (.ow none x) → EntOk K F H Z o fp (.ow none (g x))) (h : PRT X e Γ Γ' m) : PRT X e Γ Γ' (m.map g) := ⟨fun F σ τ Δ H Z hl en x hx Q q => by
  obtain ⟨y, hy, rfl⟩ := Option.map_eq_some_iff.mp hx
  refine h.run F σ τ Δ H Z hl en y hy Q fun H' Z' v st en' => q H' Z' v st ?_
  have hlen : (Γ' ++ (Δ ++ [Ent.ow none y]))[(Γ' ++ Δ).length]? = some (Ent.ow none y) := by
    rw [← List.append_assoc, List.getElem?_append_right (Nat.le_refl _), Nat.sub_self]
    rfl
  have := en'.swap hlen hg
  have e : (Γ' ++ (Δ ++ [Ent.ow none y])).set (Γ' ++ Δ).length (.ow none (g y)) = Γ' ++ (Δ ++ [.ow none (g y)]) := by
    rw [← List.append_assoc, List.set_append_right _ _ (Nat.le_refl _), Nat.sub_self, List.append_assoc]
    rfl
  rw [e] at this
  exact this, h.len⟩
theorem prt_inl {m : Option α} (h : PRT X e Γ Γ' m) : PRT X e Γ Γ' (m.map fun x => (Sum.inl x : α ⊕ β)) := prt_co (fun _ _ q => q) h
theorem prt_inr {m : Option β} (h : PRT X e Γ Γ' m) : PRT X e Γ Γ' (m.map fun x => (Sum.inr x : α ⊕ β)) := prt_co (fun _ _ q => q) h
end
section
variable {X : Cx} {Γ : List Ent} {a b : Expr} {pos p p2 : Pos} {α : Type} [Flds α] {nm cn : Str} {ns : List Str} {C D : Addr}
/-- isinstance(x, D), x an instance of C -/
theorem px_isIns {r : Bool} {m : Option (Ins nm ns α)} (cl : ClsF X.K nm C) (ha : PySem.W.findIn X.K (.ref C) "__class__" = some (some (.builtin "object.__class__"))) (hn : PySem.W.specialIn X.K (.builtin "object.__class__") "__get__" = some (some (.builtin "getset_descriptor.__get__"))) (htk : PySem.W.takesIn X.K (.builtin "object.__class__") = some true) (hmr : PySem.W.mroIn X.K C (.type "object") = some true)
    (hm : X.mg "isinstance" = none) (hD : X.mg cn = some (.ref D)) (hk : PySem.W.kitOne X.K (.ref C) (.ref D) = some r) (hx : PX X a Γ m) (hg : Gl X "isinstance" := by rfl) (hgT : Gl X cn := by rfl) (hnd : (cn == ("__debug__" : Str)) = false := by decide)
    (h1 : starEach [a, .Name cn p2] X.env = (false, eval a X.env) :: starEach [.Name cn p2] X.env := by rfl) : PX X (.Call (.Name "isinstance" p) [a, .Name cn p2] [] pos) Γ (m.map fun _ => r) :=
  px_of (pe_callB call_isi hg hm (by decide +kernel) (pa_cons pe_w (pa_cons (pe_glob (v := .ref D) hgT hD rfl hnd) pa_nil) h1) (he := h1) (hpl := rfl)) fun F σ H Z en x hx' Q q => by
    obtain ⟨y, hy, rfl⟩ := Option.map_eq_some_iff.mp hx'
    refine hx.run F σ H Z en y hy _ fun H1 Z1 v s1 r1 => ?_
    obtain ⟨l, D', dx, fs, e1, hl, hcl, o1⟩ := r1
    cases hcl.same cl.is
    subst e1
    exact ⟨.ref l, .ref D, _, _, r, rfl, .own D, .base (.ins (s1.zh _ _ hl) cl.cl ha hn htk hmr), hk, q H1 Z1 _ s1 rfl⟩
/-- [.. five ..] + [one] -/
def oHl51 {A B C D E F : Type} (m : Option (Hl (A × B × C × D × E × Unit))) (n : Option (Hl (F × Unit))) : Option (Hl (A × B × C × D × E × F × Unit)) := m.bind fun x => n.bind fun y => some ⟨(x.x.1, x.x.2.1, x.x.2.2.1, x.x.2.2.2.1, x.x.2.2.2.2.1, y.x.1, ())⟩
theorem px_hl51 {A B C D E F : Type} [Enc A] [Enc B] [Enc C] [Enc D] [Enc E] [Enc F] {m : Option (Hl (A × B × C × D × E × Unit))} {n : Option (Hl (F × Unit))} (ha : PX X a Γ m) (hb : PX X b Γ n) : PX X (.BinOp a .Add b pos) Γ (oHl51 m n) := px_of (pe_op op_cat pe_w pe_w) fun F σ H Z en x hx Q q => by
  obtain ⟨y, hy, hx1⟩ := Option.bind_eq_some_iff.mp hx
  obtain ⟨z, hz, hx2⟩ := Option.bind_eq_some_iff.mp hx1
  cases hx2
  refine ha.run F σ H Z en y hy _ fun H1 Z1 v1 s1 ⟨l1, vs1, e1, hl1, r1⟩ => hb.run F σ H1 Z1 (en.step s1) z hz _ fun H2 Z2 v2 s2 ⟨l2, vs2, e2, hl2, r2⟩ => ?_
  obtain ⟨a1, q1, e3, ra, a2, q2, e4, rb, a3, q3, e5, rc, a4, q4, e6, rd, a5, q5, e7, re, e8⟩ := r1
  obtain ⟨b1, q6, e9, rf, e10⟩ := r2
  subst e1 e2 e3 e4 e5 e6 e7 e9
  subst e8 e10
  refine ⟨l1, l2, [a1, a2, a3, a4, a5], [b1], rfl, rfl, s2.zh _ _ (s2.zz _ _ hl1), s2.zh _ _ hl2, by show 6 ≤ sizeLine; decide, fun p' hp => ?_⟩
  have s4 := Step.new (o := .lst [a1, a2, a3, a4, a5, b1]) s2.zh hp
  have zz := s2.zz.trans s4.zz
  exact q _ _ _ ((s1.trans s2).trans s4) ⟨p', _, rfl, upd_same, a1, _, rfl, Enc.mono zz ra, a2, _, rfl, Enc.mono zz rb, a3, _, rfl, Enc.mono zz rc, a4, _, rfl, Enc.mono zz rd, a5, _, rfl, Enc.mono zz re, b1, _, rfl, Enc.mono s4.zz rf, rfl⟩
end
end G
/-! GXcp: tests and values whose first part changes what is owned. -/
namespace G
open PySem L2
section
variable {X : Cx} {W : WX} {ER : ExS} {rest : List Stmt} {Γ : List Ent} {e a b : Expr} {pos : Pos} {α β B : Type} [Enc α] [Enc β] {T : B → List Ent} {N L : Type} {GN : N → List Ent} {GL : L → List Ent}
theorem opxb_tail {γ : Type} [Enc γ] {r : R2} {g : α → β → Option γ} {m : Option (RB B α)} {mb : B → Option β} (hr : OpX X.K r g) (ha : PXB X a Γ m T) (hb : ∀ b', PX X b (T b') (mb b')) (F : Frame) (σ : St) (H Z : Hp) (en : EnvOk X.K F σ H Z Γ) (z : RB B γ) (hz : (m.bind fun x => (o2 (some x.r) (mb x.b) g).map (RB.mk x.b)) = some z) (Q : VK)
    (q : ∀ H' Z' v, EnvOk X.K F σ H' Z' (T z.b) → Enc.rel X.K Z' v z.r → Q v H') : tOp r (wE X a) (wE X b) σ H Q := by
  obtain ⟨x, hx, hz⟩ := Option.bind_eq_some_iff.mp hz
  obtain ⟨t, ht, rfl⟩ := Option.map_eq_some_iff.mp hz
  obtain ⟨x', hx', hz⟩ := Option.bind_eq_some_iff.mp ht
  cases hx'
  obtain ⟨y, hy, hz⟩ := Option.bind_eq_some_iff.mp hz
  refine ha.run F σ H Z en x hx _ fun H1 Z1 v en1 r1 => ?_
  refine (hb x.b).run F σ H1 Z1 en1 y hy _ fun H2 Z2 w s2 r2 => ?_
  exact hr H2 Z2 v w x.r y t s2.zh (Enc.mono s2.zz r1) r2 hz Q fun H3 Z3 u s3 r3 => q H3 Z3 u ((en1.step s2).step s3) r3
theorem pxb_cmp {op : CmpOp} {r : R2} {g : α → β → Option Bool} {m : Option (RB B α)} {mb : B → Option β} (ho : OpR X (compareOp op) r) (hr : OpX X.K r g) (ha : PXB X a Γ m T) (hb : ∀ b', PX X b (T b') (mb b')) (hm : behindInMarks op b = false) : PXB X (.Compare a [op] [b] pos) Γ (m.bind fun x => (o2 (some x.r) (mb x.b) g).map (RB.mk x.b)) T :=
  .mk fun F σ H Z en z hz Q q pins s I => (pe_cmpR ho pe_w pe_w hm).run pins s σ H Q I (opxb_tail hr ha hb F σ H Z en z hz Q q)
theorem ptxb_cmp {op : CmpOp} {r : R2} {g : α → β → Option Bool} {m : Option (RB B α)} {mb : B → Option β} (ho : OpR X (compareOp op) r) (hr : OpX X.K r g) (ha : PXB X a Γ m T) (hb : ∀ b', PX X b (T b') (mb b')) (hm : behindInMarks op b = false) : PTXB X (.Compare a [op] [b] pos) Γ (m.bind fun x => (o2 (some x.r) (mb x.b) g).map (RB.mk x.b)) T :=
  .mk fun F σ H Z en z hz Q q pins s I => (pt_cmpR ho pe_w pe_w hm).run pins s σ H Q I (opxb_tail hr ha hb F σ H Z en z hz _ fun H' Z' v en' r => ⟨z.r, r, q H' Z' en'⟩)
theorem pxb_eqv [DatD α] [DatD β] {m : Option (RB B α)} {mb : B → Option β} (hu : X.A.units + 64 < cLine) (ha : PXB X a Γ m T) (hb : ∀ b', PX X b (T b') (mb b')) : PXB X (.Compare a [.Eq] [b] pos) Γ (m.bind fun x => (oEqv (some x.r) (mb x.b)).map (RB.mk x.b)) T := pxb_cmp (op_eqD hu) opx_eqv ha hb (nomark _)
theorem ptxb_eqv [DatD α] [DatD β] {m : Option (RB B α)} {mb : B → Option β} (hu : X.A.units + 64 < cLine) (ha : PXB X a Γ m T) (hb : ∀ b', PX X b (T b') (mb b')) : PTXB X (.Compare a [.Eq] [b] pos) Γ (m.bind fun x => (oEqv (some x.r) (mb x.b)).map (RB.mk x.b)) T := ptxb_cmp (op_eqD hu) opx_eqv ha hb (nomark _)
theorem pxb_nev [DatD α] [DatD β] {m : Option (RB B α)} {mb : B → Option β} (hu : X.A.units + 64 < cLine) (ha : PXB X a Γ m T) (hb : ∀ b', PX X b (T b') (mb b')) : PXB X (.Compare a [.NotEq] [b] pos) Γ (m.bind fun x => (oNev (some x.r) (mb x.b)).map (RB.mk x.b)) T := by
  simp only [oNev_eq]
  exact pxb_cmp (op_neD hu) opx_nev ha hb (nomark _)
theorem ptxb_nev [DatD α] [DatD β] {m : Option (RB B α)} {mb : B → Option β} (hu : X.A.units + 64 < cLine) (ha : PXB X a Γ m T) (hb : ∀ b', PX X b (T b') (mb b')) : PTXB X (.Compare a [.NotEq] [b] pos) Γ (m.bind fun x => (oNev (some x.r) (mb x.b)).map (RB.mk x.b)) T := by
  simp only [oNev_eq]
  exact ptxb_cmp (op_neD hu) opx_nev ha hb (nomark _)
theorem pxb_and1 {m : Option (RB B Bool)} {mb : B → Option Bool} (ha : PXB X a Γ m T) (hb : ∀ b', PX X b (T b') (mb b')) : PXB X (.BoolOp .And [a, b] pos) Γ (m.bind fun x => (oAnd (some x.r) (mb x.b)).map (RB.mk x.b)) T := .mk fun F σ H Z en z hz Q q pins s I => (pe_and pe_w pe_w).run pins s σ H Q I (by
  obtain ⟨x, hx, hz⟩ := Option.bind_eq_some_iff.mp hz
  obtain ⟨t, ht, rfl⟩ := Option.map_eq_some_iff.mp hz
  refine ha.run F σ H Z en x hx _ fun H1 Z1 v en1 r1 => ⟨x.r, r1, ?_⟩
  cases hb1 : x.r with
  | true =>
    rw [hb1] at ht
    exact (px_one (hb x.b)).run F σ H1 Z1 en1 t ht Q fun H2 Z2 w s2 r2 => q H2 Z2 w (en1.step s2) r2
  | false =>
    rw [hb1] at ht
    cases ht
    exact q H1 Z1 _ en1 rfl)
theorem ptxb_and1 {m : Option (RB B Bool)} {mb : B → Option Bool} (ha : PTXB X a Γ m T) (hb : ∀ b', PTX X b (T b') (mb b')) : PTXB X (.BoolOp .And [a, b] pos) Γ (m.bind fun x => (oAnd (some x.r) (mb x.b)).map (RB.mk x.b)) T := .mk fun F σ H Z en z hz Q q pins s I => (PW.pt (pw_and pt_w (pw_and1 pt_w))).run pins s σ H Q I (by
  obtain ⟨x, hx, hz⟩ := Option.bind_eq_some_iff.mp hz
  obtain ⟨t, ht, rfl⟩ := Option.map_eq_some_iff.mp hz
  refine ha.run F σ H Z en x hx _ fun H1 Z1 en1 => ?_
  cases hb1 : x.r with
  | true =>
    rw [hb1] at ht
    exact (hb x.b).run F σ H1 Z1 en1 t ht Q fun H2 Z2 s2 => q H2 Z2 (en1.step s2)
  | false =>
    rw [hb1] at ht
    cases ht
    exact q H1 Z1 en1)
theorem ptxb_or1 {m : Option (RB B Bool)} {mb : B → Option Bool} (ha : PTXB X a Γ m T) (hb : ∀ b', PTX X b (T b') (mb b')) : PTXB X (.BoolOp .Or [a, b] pos) Γ (m.bind fun x => (oOr (some x.r) (mb x.b)).map (RB.mk x.b)) T := .mk fun F σ H Z en z hz Q q pins s I => (PW.pt (pw_or pt_w (pw_or1 pt_w))).run pins s σ H Q I (by
  obtain ⟨x, hx, hz⟩ := Option.bind_eq_some_iff.mp hz
  obtain ⟨t, ht, rfl⟩ := Option.map_eq_some_iff.mp hz
  refine ha.run F σ H Z en x hx _ fun H1 Z1 en1 => ?_
  cases hb1 : x.r with
  | false =>
    rw [hb1] at ht
    exact (hb x.b).run F σ H1 Z1 en1 t ht Q fun H2 Z2 s2 => q H2 Z2 (en1.step s2)
  | true =>
    rw [hb1] at ht
    cases ht
    exact q H1 Z1 en1)
/-- return e, what e changes being the def's own -/
theorem bx_retP {R : Type} [Enc R] {o : Fl N L R} {m : Option (RB B R)} (hx : PXB X e Γ m T) (h : (m.bind fun x => some (.rt x.r)) = some o) : BX X W ER (.Return (some e) pos :: rest) Γ GN GL o := by
  obtain ⟨x, h1, h2⟩ := Option.bind_eq_some_iff.mp h
  cases h2
  exact bx_cons (ps_ret pe_w) fun F D ac σ H Z en => hx.run F σ H Z en x h1 _ fun H' Z' v en' r => ac H' Z' v ⟨en'.stp, r⟩
end
end G
/-! GXhl: two lists of unlike things one behind the other, the first one's things moved. -/
namespace G
open PySem L2
/-- the last entries become one, of what they own or of new things -/
theorem EnvOk.recast {K : Fg} {F : Frame} {ρ ws : St} {H Z H' Z' : Hp} {Λ es : List Ent} {t : Ent} {o : Option V} (e : EnvOk K F (ρ ++ ws) H Z (Λ ++ es)) (hl : ρ.length = Λ.length) (s : Step H Z H' Z')
    (hj : ∀ fp : Nat → Fp, (∀ i t, es[i]? = some t → ∃ o, ws[i]? = some o ∧ EntOk K F H Z o (fp i) t) → (∀ i j a, i ≠ j → fp i a → ¬ fp j a) → ∃ fp' : Fp, EntOk K F H' Z' o fp' t ∧ ∀ a, fp' a → (∃ i, i < es.length ∧ fp i a) ∨ H a = none) : EnvOk K F (ρ ++ [o]) H' Z' (Λ ++ [t]) := by
  obtain ⟨fp, h, hd⟩ := e.ent
  obtain ⟨fp', h1, h2⟩ := hj (fun i => fp (Λ.length + i)) (fun i t ht => by
    obtain ⟨o, ho, q⟩ := h (Λ.length + i) t (by rw [List.getElem?_append_right (by omega), show Λ.length + i - Λ.length = i by omega]; exact ht)
    rw [List.getElem?_append_right (by omega), show Λ.length + i - ρ.length = i by omega] at ho
    exact ⟨o, ho, q⟩) (fun i j a hij => hd _ _ a (by omega))
  have e' := e.step s
  have dom : ∀ j a, j < Λ.length → fp j a → ∃ u, H a = some u := fun j a jl f => by
    obtain ⟨o2, _, q2⟩ := h j Λ[j] (by rw [List.getElem?_append_left jl]; exact List.getElem?_eq_getElem jl)
    obtain ⟨_, _, u, hu, _⟩ := q2.dom f
    exact ⟨u, hu⟩
  refine ⟨e'.hh, e'.zz, e'.zh, e'.old, by rw [List.length_append, List.length_append, hl]; rfl, fun j => if j < Λ.length then fp j else if j = Λ.length then fp' else Fp.no, fun j t' ht => ?_, fun j k a hjk f1 f2 => ?_⟩
  · dsimp only
    by_cases jl : j < Λ.length
    · rw [List.getElem?_append_left jl] at ht
      obtain ⟨o2, ho2, q2⟩ := h j t' (by rw [List.getElem?_append_left jl]; exact ht)
      rw [List.getElem?_append_left (by omega)] at ho2
      refine ⟨o2, by rw [List.getElem?_append_left (by omega)]; exact ho2, ?_⟩
      rw [if_pos jl]
      refine q2.mono s.zz (fun a f => ?_) fun a f => ?_
      · obtain ⟨_, _, u, hu, _⟩ := q2.dom f
        rw [hu]; exact s.hh a u hu
      · obtain ⟨_, _, u, hu, _⟩ := q2.dom f
        exact s.old a u hu
    · rw [List.getElem?_append_right (by omega)] at ht
      have ie : j - Λ.length = 0 := by
        have := (List.getElem?_eq_some_iff.mp ht).1
        simp only [List.length_singleton] at this
        omega
      rw [ie] at ht
      cases ht
      exact ⟨o, by rw [List.getElem?_append_right (by omega), show j - ρ.length = 0 by omega]; rfl, by rw [if_neg jl, if_pos (by omega)]; exact h1⟩
  · dsimp only at f1 f2
    have key : ∀ j a, (if j < Λ.length then fp j else if j = Λ.length then fp' else Fp.no) a → (j < Λ.length ∧ fp j a) ∨ (j = Λ.length ∧ fp' a) := fun j a f => by
      by_cases c1 : j < Λ.length
      · rw [if_pos c1] at f; exact .inl ⟨c1, f⟩
      · rw [if_neg c1] at f
        by_cases c2 : j = Λ.length
        · rw [if_pos c2] at f; exact .inr ⟨c2, f⟩
        · rw [if_neg c2] at f; exact f.elim
    have apart : ∀ j a, j < Λ.length → fp j a → ¬ fp' a := fun j a jl f g => by
      rcases h2 a g with ⟨i, _, q⟩ | q
      · exact hd j (Λ.length + i) a (by omega) f q
      · obtain ⟨u, hu⟩ := dom j a jl f
        rw [q] at hu; cases hu
    rcases key j a f1 with ⟨j1, g1⟩ | ⟨j1, g1⟩
    · rcases key k a f2 with ⟨k1, g2⟩ | ⟨k1, g2⟩
      · exact hd j k a hjk g1 g2
      · exact apart j a j1 g1 g2
    · rcases key k a f2 with ⟨k1, g2⟩ | ⟨k1, g2⟩
      · exact apart k a k1 g2 g1
      · exact hjk (j1.trans k1.symm)
class CatB (B1 B2 : Type) (B3 : outParam Type) [OwnB B1] [OwnB B2] [OwnB B3] where
  app : B1 → B2 → B3
  own : ∀ {K : Fg} {Z H : Hp} {vs ws : List V} {x : B1} {y : B2} {f g : Fp}, OwnB.own K Z H vs x f → OwnB.own K Z H ws y g → (∀ a, f a → ¬ g a) → OwnB.own K Z H (vs ++ ws) (app x y) (fun a => f a ∨ g a)
theorem OwnB.iff {B : Type} [OwnB B] {K : Fg} {Z H : Hp} {vs : List V} {x : B} {f g : Fp} (h : OwnB.own K Z H vs x f) (e : ∀ a, f a ↔ g a) : OwnB.own K Z H vs x g := by
  have : f = g := funext fun a => propext (e a)
  rw [← this]; exact h
instance {B2 : Type} [OwnB B2] : CatB Unit B2 B2 where
  app _ y := y
  own := fun {K Z H vs ws x y f g} h1 h2 _ => by
    obtain ⟨e, n⟩ := h1
    subst e
    exact OwnB.iff h2 fun a => ⟨.inr, fun q => q.elim (fun q => absurd q (n a)) id⟩
instance {C B1 B2 B3 : Type} [Enc C] [Own C] [OwnB B1] [OwnB B2] [OwnB B3] [CatB B1 B2 B3] : CatB (C × B1) B2 (C × B3) where
  app x y := (x.1, CatB.app x.2 y)
  own := fun {K Z H vs ws x y f g} ⟨v, r, f1, f2, e, h1, h2, h3, h4⟩ hw hd => by
    subst e
    refine ⟨v, r ++ ws, f1, fun a => f2 a ∨ g a, rfl, h1, CatB.own h2 hw fun a q => hd a ((h3 a).mpr (.inr q)), fun a => ⟨fun q => ?_, fun q => ?_⟩, fun a q1 q2 => ?_⟩
    · rcases q with q | q
      · rcases (h3 a).mp q with q | q
        · exact .inl q
        · exact .inr (.inl q)
      · exact .inr (.inr q)
    · rcases q with q | q | q
      · exact .inl ((h3 a).mpr (.inl q))
      · exact .inl ((h3 a).mpr (.inr q))
      · exact .inr q
    · rcases q2 with q2 | q2
      · exact h4 a q1 q2
      · exact hd a ((h3 a).mpr (.inl q1)) q2
def oHlC {B1 B2 B3 : Type} [OwnB B1] [OwnB B2] [OwnB B3] [CatB B1 B2 B3] (m : Option (Hl B1)) (n : Option (Hl B2)) : Option (Hl B3) := m.bind fun x => n.bind fun y => some ⟨CatB.app x.x y.x⟩
section
variable {X : Cx} {Γ Γ1 : List Ent} {a b : Expr} {pos : Pos} {B1 B2 B3 : Type} [OwnB B1] [OwnB B2] [OwnB B3] [EncA B1] [EncA B2] [EncA B3] [OwnH B1] [OwnH B2] [OwnH B3] [CatB B1 B2 B3]
theorem prt_hlC {m : Option (Hl B1)} {n : Option (Hl B2)} (ha : PRT X a Γ Γ1 m) (hb : PNO X b Γ1 n) (hz : OwnB.blen0 B1 + OwnB.blen0 B2 ≤ sizeLine := by decide) : PRT X (.BinOp a .Add b pos) Γ Γ1 (oHlC m n) := ⟨fun F σ τ Δ H Z hl en z hz' Q q pins s I => (pe_op op_cat pe_w pe_w).run pins s σ H Q I (by
  obtain ⟨x, hx, hz1⟩ := Option.bind_eq_some_iff.mp hz'
  obtain ⟨y, hy, hz2⟩ := Option.bind_eq_some_iff.mp hz1
  cases hz2
  refine ha.run F σ τ Δ H Z hl en x hx _ fun H1 Z1 v s1 en1 => ?_
  have hl1 : σ.length = Γ1.length := hl.trans ha.len.symm
  refine hb.run F σ H1 Z1 (en1.pre hl1) y hy _ fun H2 Z2 w fpw n => ?_
  have en2 := en1.more n
  have en3 : EnvOk X.K F ((σ ++ τ) ++ [some v, some w]) H2 Z2 ((Γ1 ++ Δ) ++ [.ow none x, .ow none y]) := by simpa [List.append_assoc] using en2
  have hlen : (σ ++ τ).length = (Γ1 ++ Δ).length := by
    have := en3.len
    simp only [List.length_append, List.length_cons, List.length_nil] at this ⊢
    omega
  obtain ⟨fp, h, hd⟩ := id en3.ent
  obtain ⟨o1, ho1, v1, e1, _, ow1, _⟩ := h (Γ1 ++ Δ).length (.ow none x) (by rw [List.getElem?_append_right (Nat.le_refl _), Nat.sub_self]; rfl)
  obtain ⟨o2, ho2, w1, e2, _, ow2, _⟩ := h ((Γ1 ++ Δ).length + 1) (.ow none y) (by rw [List.getElem?_append_right (by omega), show (Γ1 ++ Δ).length + 1 - (Γ1 ++ Δ).length = 1 by omega]; rfl)
  rw [← hlen, List.getElem?_append_right (Nat.le_refl _), Nat.sub_self] at ho1
  rw [← hlen, List.getElem?_append_right (by omega), show (σ ++ τ).length + 1 - (σ ++ τ).length = 1 by omega] at ho2
  cases e1
  cases e2
  cases ho1
  cases ho2
  obtain ⟨l1, vs, f1, ev, hl1', ob1, _, _⟩ := ow1
  obtain ⟨l2, ws, f2, ew, hl2', ob2, _, _⟩ := ow2
  refine ⟨l1, l2, vs, ws, ev, ew, hl1', hl2', by rw [OwnB.blen ob1, OwnB.blen ob2]; exact hz, fun p' hp => ?_⟩
  have s4 : Step H2 Z2 (upd H2 p' (.lst (vs ++ ws))) Z2 := ⟨Same.upd_new hp, Same.refl _, n.st.zh.trans (Same.upd_new hp), fun _ _ _ => rfl⟩
  have := en3.recast hlen s4 (o := some (.ref p')) (t := .ow none (⟨CatB.app x.x y.x⟩ : Hl B3)) (fun g hg hgd => by
    obtain ⟨o1, ho1, v1, e1, _, ⟨k1, us, g1, ek, hk1, og1, hc1, hd1⟩, out1⟩ := hg 0 _ rfl
    obtain ⟨o2, ho2, w1, e2, _, ⟨k2, us2, g2, ek2, hk2, og2, hc2, hd2⟩, out2⟩ := hg 1 _ rfl
    cases e1
    cases e2
    cases ho1
    cases ho2
    subst ev ew
    cases ek
    cases ek2
    rw [hl1'] at hk1
    rw [hl2'] at hk2
    cases hk1
    cases hk2
    have n1 : ∀ a, g1 a → a ≠ p' := fun a q e => by
      obtain ⟨u, hu, _⟩ := OwnB.odom og1 q
      rw [e, hp] at hu; cases hu
    have n2 : ∀ a, g2 a → a ≠ p' := fun a q e => by
      obtain ⟨u, hu, _⟩ := OwnB.odom og2 q
      rw [e, hp] at hu; cases hu
    refine ⟨fun a => a = p' ∨ (g1 a ∨ g2 a), ⟨.ref p', rfl, (fun _ h => by cases h), ⟨p', vs ++ ws, fun a => g1 a ∨ g2 a, rfl, upd_same, CatB.own (OwnB.omono (Same.refl _) (fun a q => upd_ne (n1 a q)) og1) (OwnB.omono (Same.refl _) (fun a q => upd_ne (n2 a q)) og2) (fun a q1 q2 => hgd 0 1 a (by decide) ((hc1 a).mpr (.inr q1)) ((hc2 a).mpr (.inr q2))), fun a => Iff.rfl, fun q => ?_⟩, fun a q => ?_⟩, fun a q => ?_⟩
    · rcases q with q | q
      · exact n1 _ q rfl
      · exact n2 _ q rfl
    · rcases q with q | q | q
      · rw [q]; exact ⟨en3.hh.free hp, en3.zh.free hp⟩
      · exact out1 a ((hc1 a).mpr (.inr q))
      · exact out2 a ((hc2 a).mpr (.inr q))
    · rcases q with q | q | q
      · rw [q]; exact .inr hp
      · exact .inl ⟨0, Nat.zero_lt_succ _, (hc1 a).mpr (.inr q)⟩
      · exact .inl ⟨1, Nat.lt_succ_self _, (hc2 a).mpr (.inr q)⟩)
  exact q _ _ (.ref p') ((s1.trans n.st).trans s4) (by simpa [List.append_assoc] using this)), ha.len⟩
end
end G
/-! GLn: lent places among the arguments; a name for an item of an owned list. -/
namespace G
open PySem L2
/-- in c lies x, with cells of its own; pt: c with another thing in its stead -/
def SubO (K : Fg) (H Z : Hp) {C D : Type} [Enc C] [Own C] [Enc D] [Own D] (v : V) (c : C) (w : V) (x : D) (pt : D → C) : Prop :=
  ∀ H2 Z2 fp, Step H Z H2 Z2 → Own.own K Z2 H2 v c fp → ∃ f fr : Fp, Own.own K Z2 H2 w x f ∧ (∀ a, fp a ↔ f a ∨ fr a) ∧ (∀ a, f a → ¬ fr a) ∧
    ∀ H3 Z3 y g, Same Z2 Z3 → (∀ a, fr a → H3 a = H2 a) → Own.own K Z3 H3 w y g → (∀ a, g a → ¬ fr a) → Own.own K Z3 H3 v (pt y) (fun a => g a ∨ fr a)
def SubB (K : Fg) (H Z : Hp) {C B : Type} [OwnB C] [OwnB B] (cs : List V) (c : C) (bs : List V) (b : B) (pt : B → C) : Prop :=
  ∀ H2 Z2 fp, Step H Z H2 Z2 → OwnB.own K Z2 H2 cs c fp → ∃ f fr : Fp, OwnB.own K Z2 H2 bs b f ∧ (∀ a, fp a ↔ f a ∨ fr a) ∧ (∀ a, f a → ¬ fr a) ∧
    ∀ H3 Z3 y g, Same Z2 Z3 → (∀ a, fr a → H3 a = H2 a) → OwnB.own K Z3 H3 bs y g → (∀ a, g a → ¬ fr a) → OwnB.own K Z3 H3 cs (pt y) (fun a => g a ∨ fr a)
theorem Own.iff {C : Type} [Enc C] [Own C] {K : Fg} {Z H : Hp} {v : V} {x : C} {f g : Fp} (h : Own.own K Z H v x f) (e : ∀ a, f a ↔ g a) : Own.own K Z H v x g := by
  have : f = g := funext fun a => propext (e a)
  rw [← this]; exact h
section
variable {K : Fg} {H Z H' Z' : Hp} {C D B1 B2 : Type} [Enc C] [Own C] [Enc D] [Own D] [OwnB B1] [OwnB B2]
theorem SubO.refl (v : V) (c : C) : SubO K H Z v c v c id := fun H2 Z2 fp _ o => ⟨fp, Fp.no, o, fun a => ⟨.inl, fun f => f.elim id fun f => f.elim⟩, fun _ _ f => f, fun H3 Z3 y g _ _ o' _ => Own.iff o' fun a => ⟨.inl, fun f => f.elim id fun f => f.elim⟩⟩
theorem SubO.step {v w : V} {c : C} {x : D} {pt : D → C} (h : SubO K H Z v c w x pt) (s : Step H Z H' Z') : SubO K H' Z' v c w x pt := fun H2 Z2 fp s2 o => h H2 Z2 fp (s.trans s2) o
theorem SubB.step {cs bs : List V} {c : B1} {x : B2} {pt : B2 → B1} (h : SubB K H Z cs c bs x pt) (s : Step H Z H' Z') : SubB K H' Z' cs c bs x pt := fun H2 Z2 fp s2 o => h H2 Z2 fp (s.trans s2) o
theorem SubB.nil : SubB K H Z [] () [] () id := fun H2 Z2 fp _ o => ⟨fp, Fp.no, o, fun a => ⟨.inl, fun f => f.elim id fun f => f.elim⟩, fun _ _ f => f, fun H3 Z3 y g _ _ o' _ => ⟨rfl, fun a f => f.elim (o'.2 a) id⟩⟩
theorem SubB.cons {v w : V} {cs bs : List V} {c : C} {x : D} {p1 : D → C} {c2 : B1} {x2 : B2} {p2 : B2 → B1} (h : SubO K H Z v c w x p1) (h2 : SubB K H Z cs c2 bs x2 p2) : SubB K H Z (v :: cs) (c, c2) (w :: bs) (x, x2) (fun y => (p1 y.1, p2 y.2)) := fun H2 Z2 fp s ow => by
  obtain ⟨v', r, f1, f2, e, o1, o2, i1, d1⟩ := ow
  cases e
  obtain ⟨a1, r1, q1, j1, k1, m1⟩ := h H2 Z2 f1 s o1
  obtain ⟨a2, r2, q2, j2, k2, m2⟩ := h2 H2 Z2 f2 s o2
  refine ⟨fun a => a1 a ∨ a2 a, fun a => r1 a ∨ r2 a, ⟨w, bs, a1, a2, rfl, q1, q2, fun _ => Iff.rfl, fun a f g => d1 a ((j1 a).mpr (.inl f)) ((j2 a).mpr (.inl g))⟩, fun a => ?_, fun a f g => ?_, fun H3 Z3 y g sz kp oy dj => ?_⟩
  · dsimp only
    rw [i1 a, j1 a, j2 a]
    exact ⟨fun f => by rcases f with (f | f) | (f | f) <;> simp [f], fun f => by rcases f with (f | f) | (f | f) <;> simp [f]⟩
  · rcases f with f | f
    · rcases g with g | g
      · exact k1 a f g
      · exact d1 a ((j1 a).mpr (.inl f)) ((j2 a).mpr (.inr g))
    · rcases g with g | g
      · exact d1 a ((j1 a).mpr (.inr g)) ((j2 a).mpr (.inl f))
      · exact k2 a f g
  · obtain ⟨w', bs', g1, g2, e, y1, y2, i2, d2⟩ := oy
    cases e
    refine ⟨v, cs, fun a => g1 a ∨ r1 a, fun a => g2 a ∨ r2 a, rfl, m1 H3 Z3 y.1 g1 sz (fun a f => kp a (.inl f)) y1 (fun a f q => dj a ((i2 a).mpr (.inl f)) (.inl q)), m2 H3 Z3 y.2 g2 sz (fun a f => kp a (.inr f)) y2 (fun a f q => dj a ((i2 a).mpr (.inr f)) (.inr q)), fun a => ?_, fun a f q => ?_⟩
    · dsimp only
      rw [i2 a]
      exact ⟨fun f => by rcases f with (f | f) | (f | f) <;> simp [f], fun f => by rcases f with (f | f) | (f | f) <;> simp [f]⟩
    · rcases f with f | f
      · rcases q with q | q
        · exact d2 a f q
        · exact dj a ((i2 a).mpr (.inl f)) (.inr q)
      · rcases q with q | q
        · exact dj a ((i2 a).mpr (.inr q)) (.inl f)
        · exact d1 a ((j1 a).mpr (.inr f)) ((j2 a).mpr (.inr q))
/-- an item of a list of owned things -/
theorem ol_focus {x : Ol C} {l : Addr} {vs : List V} {i : Int} {y : C} {w : V} {fp : Fp} (hl : H l = some (.lst vs)) (ey : atI x.xs i = some y) (ew : atI vs i = some w) (ow : Own.own K Z H (.ref l) x fp) : ∃ f fr : Fp, fr l ∧ Own.own K Z H w y f ∧ (∀ a, fp a ↔ f a ∨ fr a) ∧ (∀ a, f a → ¬ fr a) ∧
    ∀ H3 Z3 z g, Same Z Z3 → (∀ a, fr a → H3 a = H a) → Own.own K Z3 H3 w z g → (∀ a, g a → ¬ fr a) → Own.own K Z3 H3 (.ref l) (x.put i z) (fun a => g a ∨ fr a) := by
  obtain ⟨l2, vs2, fe, e, hl2, o, hc, hd⟩ := ow
  cases e
  have hvs : vs2 = vs := by
    rw [hl2] at hl
    cases hl
    rfl
  subst hvs
  obtain ⟨j, ej, ey2⟩ := Option.bind_eq_some_iff.mp ey
  obtain ⟨v1, f1, fr, ev, o1, i1, d1, m1, k1⟩ := o.focus ey2
  have e3 : v1 = w := by
    have : atI vs2 i = some v1 := by unfold atI; rw [o.len, ej]; exact ev
    rw [ew] at this
    cases this
    rfl
  subst e3
  have eput : ∀ z, x.put i z = ⟨x.xs.set j z⟩ := fun z => by unfold Ol.put; rw [ej]; rfl
  refine ⟨f1, fun a => a = l ∨ fr a, .inl rfl, o1, fun a => ?_, fun a f q => ?_, fun H3 Z3 z g sz kp oz dj => ?_⟩
  · rw [hc a, i1 a]
    exact ⟨fun f => by rcases f with f | f | f <;> simp [f], fun f => by rcases f with f | f | f <;> simp [f]⟩
  · rcases q with q | q
    · subst q
      exact hd ((i1 a).mpr (.inl f))
    · exact d1 a f q
  · rw [eput z]
    refine ⟨l, vs2, fun a => g a ∨ fr a, rfl, (kp l (.inl rfl)).trans hl2, ?_, fun a => ⟨fun f => by rcases f with f | f | f <;> simp [f], fun f => by rcases f with f | f | f <;> simp [f]⟩, fun f => ?_⟩
    · have := k1 Z3 H3 v1 z g sz (fun a f => kp a (.inr f)) oz (fun a f q => dj a f (.inr q))
      rw [list_set_self ev] at this
      exact this
    · rcases f with f | f
      · exact dj l f (.inl rfl)
      · exact hd ((i1 l).mpr (.inr f))
theorem SubO.item {x : Ol C} {l : Addr} {vs : List V} {i : Int} {y : C} {w : V} (hl : H l = some (.lst vs)) (ey : atI x.xs i = some y) (ew : atI vs i = some w) : SubO K H Z (.ref l) x w y (fun z => x.put i z) := fun H2 Z2 fp s ow => by
  obtain ⟨f, fr, _, h⟩ := ol_focus (s.hh _ _ hl) ey ew ow
  exact ⟨f, fr, h⟩
end
/-! ### arguments, lent places among them: is are the places' roots -/
structure PAR (X : Cx) (es : List Expr) (Γ : List Ent) {A B : Type} [OwnB B] [ArgB A B] (m : Option A) (is : List Nat) {C : Type} [OwnB C] (c : C) (pt : B → C) : Prop where
  ins : OwnB.ins is c Γ
  run : ∀ (F : Frame) (σ : St) (H Z : Hp), EnvOk X.K F σ H Z Γ → ∀ x, m = some x → ∀ Q : List V → Hp → Prop, (∀ H' Z' vs bs cs, Step H Z H' Z' → ArgB.rel X.K Z' vs bs x → ValsAt σ is cs → SubB X.K H' Z' cs c bs (ArgB.brs x) pt → Q vs H') → wA X es σ H Q
section
variable {X : Cx} {Γ : List Ent} {e a b : Expr} {es : List Expr} {pos p p1 p2 : Pos} {A B C α D : Type} [OwnB B] [ArgB A B] [OwnB C] [Enc α] [Enc D] [Own D] {is : List Nat} {c : C} {pt : B → C} {m : Option A}
theorem par_nil : PAR X [] Γ (some ()) [] () id := ⟨rfl, fun F σ H Z en x hx Q q pos pins s I => pa_nil.run pos pins s σ H Q I (by cases hx; exact q H Z [] [] [] (Step.refl en.zh) ⟨rfl, rfl⟩ trivial SubB.nil)⟩
theorem par_fz {m1 : Option α} (ha : PX X e Γ m1) (hr : PAR X es Γ m is c pt) (hs : starEach (e :: es) X.env = (false, eval e X.env) :: starEach es X.env := by rfl) : PAR X (e :: es) Γ (oPair m1 m) is c pt :=
  ⟨hr.ins, fun F σ H Z en x hx Q q pos pins s I => (pa_cons pe_w pa_w hs).run pos pins s σ H Q I (by
    obtain ⟨y, hy, hx⟩ := Option.bind_eq_some_iff.mp hx
    obtain ⟨ys, hys, hx⟩ := Option.bind_eq_some_iff.mp hx
    cases hx
    exact ha.run F σ H Z en y hy _ fun H1 Z1 v s1 r1 => hr.run F σ H1 Z1 (en.step s1) ys hys _ fun H2 Z2 vs bs cs s2 r2 vl sb => q H2 Z2 (v :: vs) bs cs (s1.trans s2) ⟨v, vs, rfl, Enc.mono s2.zz r1, r2⟩ vl sb)⟩
/-- a name -/
theorem par_br (i : Nat) {nm : Str} {bv : Option Nat} {x : D} (hr : PAR X es Γ m is c pt) (hΓ : Γ[i]? = some (.ow bv x) := by rfl) (hN : X.N[i]? = some nm := by rfl) (hv : Vis X.env.scope nm := by first | exact Or.inl rfl | exact Or.inr (Or.inl rfl) | exact Or.inr (Or.inr rfl)) (hd : (nm == ("__debug__" : Str)) = false := by decide)
    (hcd : (nm == ("__classdict__" : Str)) = false := by decide) (hs : starEach (.Name nm p :: es) X.env = (false, eval (.Name nm p) X.env) :: starEach es X.env := by rfl) : PAR X (.Name nm p :: es) Γ (oPair (some (Br.mk x)) m) (i :: is) (x, c) (fun y => (y.1, pt y.2)) :=
  ⟨⟨i, is, rfl, ⟨bv, hΓ⟩, hr.ins⟩, fun F σ H Z en z hx Q q pos pins s I => (pa_cons (pe_var hN hv hd hcd) pa_w hs).run pos pins s σ H Q I (by
    obtain ⟨ys, hys, hx⟩ := Option.bind_eq_some_iff.mp hx
    cases hx
    obtain ⟨v, fp, e1, at_⟩ := en.at hΓ
    exact ⟨v, e1, hr.run F σ H Z en ys hys _ fun H2 Z2 vs bs cs s2 r2 vl sb => q H2 Z2 (v :: vs) (v :: bs) (v :: cs) s2 ⟨v, vs, bs, rfl, rfl, r2⟩ ⟨e1, vl⟩ (SubB.cons (SubO.refl v x) sb)⟩)⟩
/-- an item of a list -/
theorem par_ix (i : Nat) {nm : Str} {bv : Option Nat} {x : Ol D} {mi : Option Int} {i0 : Int} {y : D} (hi : PX X b Γ mi) (ei : mi = some i0) (ey : atI x.xs i0 = some y) (hr : PAR X es Γ m is c pt) (hpl : PlainIx b := by intro _ _; rfl) (hΓ : Γ[i]? = some (.ow bv x) := by rfl) (hN : X.N[i]? = some nm := by rfl) (hv : Vis X.env.scope nm := by first | exact Or.inl rfl | exact Or.inr (Or.inl rfl) | exact Or.inr (Or.inr rfl)) (hd : (nm == ("__debug__" : Str)) = false := by decide)
    (hcd : (nm == ("__classdict__" : Str)) = false := by decide) (hs : starEach (.Subscript (.Name nm p) b p1 :: es) X.env = (false, eval (.Subscript (.Name nm p) b p1) X.env) :: starEach es X.env := by rfl) : PAR X (.Subscript (.Name nm p) b p1 :: es) Γ (oPair (some (Br.mk y)) m) (i :: is) (x, c) (fun y => (x.put i0 y.1, pt y.2)) :=
  ⟨⟨i, is, rfl, ⟨bv, hΓ⟩, hr.ins⟩, fun F σ H Z en z hx Q q pos pins s I => (pa_cons pe_w pa_w hs).run pos pins s σ H Q I (by
    obtain ⟨ys, hys, hx⟩ := Option.bind_eq_some_iff.mp hx
    cases hx
    obtain ⟨v, fp, e1, at_⟩ := en.at hΓ
    obtain ⟨l, vs0, fe, e, hl, o, hc, hd0⟩ := id at_.own
    subst e
    obtain ⟨j, ej, ey2⟩ := Option.bind_eq_some_iff.mp ey
    obtain ⟨w, f1, fr, ew, _⟩ := o.focus ey2
    have ew : atI vs0 i0 = some w := by unfold atI; rw [o.len, ej]; exact ew
    refine we_ix en hN hv hd hcd hpl e1 hl hi ei ew fun H1 Z1 s1 => ?_
    exact hr.run F σ H1 Z1 (en.step s1) ys hys _ fun H2 Z2 vs bs cs s2 r2 vl sb => q H2 Z2 (w :: vs) (w :: bs) (.ref l :: cs) (s1.trans s2) ⟨w, vs, bs, rfl, rfl, r2⟩ ⟨e1, vl⟩ (SubB.cons (SubO.step (SubO.item hl ey ew) (s1.trans s2)) sb))⟩
end
theorem callee_par {K : Fg} {F : Frame} {σ : St} {H Z : Hp} {Γ : List Ent} {A B C R : Type} [OwnB B] [ArgB A B] [OwnB C] [Enc R] {is : List Nat} {c : C} {pt : B → C} {T : B → List Ent} {fm : A → Option (RB B R)} {vs bs cs : List V} {x : A} {z : RB B R} (en : EnvOk K F σ H Z Γ) (ins : OwnB.ins is c Γ) (nd : is.Nodup) (hT : ∀ b, OwnB.put is (pt b) Γ = T b) (ra : ArgB.rel K Z vs bs x) (vl : ValsAt σ is cs) (sb : SubB K H Z cs c bs (ArgB.brs x) pt) (hf : fm x = some z) {Q : VK} {E : XK} (q : ∀ H' Z' u, EnvOk K F σ H' Z' (T z.b) → Enc.rel K Z' u z.r → Q u H') : spB K fm vs H Q E := by
  obtain ⟨fp, ow, out, put⟩ := en.focusB ins nd vl
  obtain ⟨f, fr, o1, i1, d1, rb⟩ := sb H Z fp (Step.refl en.zh) ow
  refine ⟨Z, x, z, bs, f, en.zh, ra, o1, fun a q => (out a ((i1 a).mpr (.inl q))).2, hf, fun H2 Z2 u g G o2 r2 => ?_⟩
  have dfr : ∀ a, fr a → ∃ u, H a = some u := fun a q => by
    obtain ⟨u, hu, _⟩ := OwnB.odom ow ((i1 a).mpr (.inr q))
    exact ⟨u, hu⟩
  have gfr : ∀ a, g a → ¬ fr a := fun a q r => by
    rcases (G.out a q).1 with q2 | q2
    · exact d1 a q2 r
    · obtain ⟨u, hu⟩ := dfr a r
      rw [q2] at hu; cases hu
  have := put H2 Z2 (pt z.b) (fun a => g a ∨ fr a) ⟨fun a u hu n => G.hh a u hu (fun q => n ((i1 a).mpr (.inl q))), G.zz, G.zh, fun a u hu n => G.old a u hu (fun q => n ((i1 a).mpr (.inl q))), fun a q => ?_⟩ (rb H2 Z2 z.b g G.zz (fun a r => by
    obtain ⟨u, hu⟩ := dfr a r
    rw [hu]; exact G.hh a u hu (fun q => d1 a q r)) o2 gfr)
  · rw [hT] at this
    exact q H2 Z2 u this r2
  · rcases q with q | q
    · refine ⟨?_, (G.out a q).2⟩
      rcases (G.out a q).1 with q | q
      · exact .inl ((i1 a).mpr (.inl q))
      · exact .inr q
    · obtain ⟨u, hu⟩ := dfr a q
      have := (i1 a).mpr (.inr q)
      exact ⟨.inl this, (G.old a u hu (fun q2 => d1 a q2 q)).trans (out a this).2⟩
/-! ### a name for an item of an owned list -/
/-- the value w alone -/
structure Is (w : V) where
instance {w : V} : Enc (Is w) := ⟨fun _ _ v _ => v = w, fun _ h => h⟩
/-- a list of owned things whose i-th item, y, has the value w -/
structure Hol (α : Type) (w : V) (i : Int) where
  xs : Ol α
  y : α
def Hol.all {α : Type} {w : V} {i : Int} (h : Hol α w i) : Ol α := h.xs.put i h.y
instance {α : Type} [Enc α] {w : V} {i : Int} : Enc (Hol α w i) := ⟨fun K Z v x => Enc.rel K Z v x.all, fun s h => Enc.mono s h⟩
instance {α : Type} [Enc α] [Own α] {w : V} {i : Int} : Own (Hol α w i) where
  own K Z H v x fp := Own.own K Z H v x.all fp ∧ (∃ l vs, v = .ref l ∧ fp l ∧ H l = some (.lst vs) ∧ atI vs i = some w) ∧ ∃ y, atI x.xs.xs i = some y
  omono := fun s g ⟨o, ⟨l, vs, e, f, h, a⟩, q⟩ => ⟨Own.omono (C := Ol α) s g o, ⟨l, vs, e, f, (g l f).trans h, a⟩, q⟩
  odom := fun ⟨o, _⟩ f => Own.odom (C := Ol α) o f
  froz := fun ⟨o, _⟩ s g => Own.froz (C := Ol α) o s g
theorem put_put {α : Type} (x : Ol α) (i : Int) (y z : α) : (x.put i y).put i z = x.put i z := by
  unfold Ol.put
  dsimp only
  rw [List.length_set]
  cases ixN x.xs.length i with
  | none => show (⟨(x.xs.set 0 y).set 0 z⟩ : Ol α) = ⟨x.xs.set 0 z⟩; rw [List.set_set]
  | some j => show (⟨(x.xs.set j y).set j z⟩ : Ol α) = ⟨x.xs.set j z⟩; rw [List.set_set]
theorem put_at {α : Type} {x : Ol α} {i : Int} {y z : α} (h : atI x.xs i = some y) : atI (x.put i z).xs i = some z := by
  obtain ⟨j, ej, ey⟩ := Option.bind_eq_some_iff.mp h
  unfold Ol.put atI
  dsimp only
  rw [List.length_set, ej]
  show (x.xs.set j z)[j]? = some z
  rw [List.getElem?_set_self (List.getElem?_eq_some_iff.mp ey).1]
/-- a thing under another coat -/
structure Coat {D α : Type} [Enc D] [Own D] [Enc α] [Own α] (g : D → α) : Prop where
  to : ∀ {K : Fg} {Z H : Hp} {v : V} {x : D} {fp : Fp}, Own.own K Z H v x fp → Own.own K Z H v (g x) fp
  un : ∀ {K : Fg} {Z H : Hp} {v : V} {x : D} {fp : Fp}, Own.own K Z H v (g x) fp → Own.own K Z H v x fp
section
variable {α β : Type} [Enc α] [Own α] [Enc β] [Own β]
theorem coat_id : Coat (D := α) (fun x => x) := ⟨fun h => h, fun h => h⟩
theorem coat_inl : Coat (D := α) (fun x => (Sum.inl x : α ⊕ β)) := ⟨fun h => h, fun h => h⟩
theorem coat_inr : Coat (D := β) (fun x => (Sum.inr x : α ⊕ β)) := ⟨fun h => h, fun h => h⟩
end
theorem SubO.hol {K : Fg} {H Z : Hp} {α D : Type} [Enc α] [Own α] [Enc D] [Own D] {w v : V} {i : Int} {g : D → α} {x : Ol α} {y : D} (hg : Coat g) : SubO K H Z v (⟨x, g y⟩ : Hol α w i) w y (fun z => (⟨x, g z⟩ : Hol α w i)) := fun H2 Z2 fp s ⟨o, ⟨l, vs, e, fl, hl, aw⟩, ⟨y0, ey⟩⟩ => by
  subst e
  have ea : atI ((x.put i (g y)).xs) i = some (g y) := put_at ey
  obtain ⟨f, fr, frl, o1, i1, d1, k1⟩ := ol_focus hl ea aw o
  refine ⟨f, fr, hg.un o1, i1, d1, fun H3 Z3 z g' sz kp oz dj => ⟨?_, ⟨l, vs, rfl, .inr frl, (kp l frl).trans hl, aw⟩, ⟨y0, ey⟩⟩⟩
  have := k1 H3 Z3 (g z) g' sz kp (hg.to oz) dj
  rw [put_put] at this
  exact this
section
variable {X : Cx} {Γ : List Ent} {a b : Expr} {es : List Expr} {pos p p1 p2 p3 : Pos} {A B C α D : Type} [OwnB B] [ArgB A B] [OwnB C] [Enc α] [Own α] [Enc D] [Own D] {is : List Nat} {c : C} {pt : B → C} {m : Option A}
/-- the second name as an argument; j: its slot, i: the list's -/
theorem par_al (j i : Nat) {nm : Str} {bv : Option Nat} {w : V} {i0 : Int} {g : D → α} {x : Ol α} {y : D} {u : Is w} (hg : Coat g) (hr : PAR X es Γ m is c pt) (hj : Γ[j]? = some (.fz u) := by rfl) (hΓ : Γ[i]? = some (.ow bv (⟨x, g y⟩ : Hol α w i0)) := by rfl) (hN : X.N[j]? = some nm := by rfl) (hv : Vis X.env.scope nm := by first | exact Or.inl rfl | exact Or.inr (Or.inl rfl) | exact Or.inr (Or.inr rfl)) (hd : (nm == ("__debug__" : Str)) = false := by decide)
    (hcd : (nm == ("__classdict__" : Str)) = false := by decide) (hs : starEach (.Name nm p :: es) X.env = (false, eval (.Name nm p) X.env) :: starEach es X.env := by rfl) : PAR X (.Name nm p :: es) Γ (oPair (some (Br.mk y)) m) (i :: is) ((⟨x, g y⟩ : Hol α w i0), c) (fun z => ((⟨x, g z.1⟩ : Hol α w i0), pt z.2)) :=
  ⟨⟨i, is, rfl, ⟨bv, hΓ⟩, hr.ins⟩, fun F σ H Z en z hx Q q pos pins s I => (pa_cons (pe_var hN hv hd hcd) pa_w hs).run pos pins s σ H Q I (by
    obtain ⟨ys, hys, hx⟩ := Option.bind_eq_some_iff.mp hx
    cases hx
    obtain ⟨v, fp, e1, at_⟩ := en.at hΓ
    obtain ⟨v2, e2, r2⟩ := en.fz hj
    cases (show v2 = w from r2)
    exact ⟨w, e2, hr.run F σ H Z en ys hys _ fun H2 Z2 vs bs cs s2 r2 vl sb => q H2 Z2 (w :: vs) (w :: bs) (v :: cs) s2 ⟨w, vs, bs, rfl, rfl, r2⟩ ⟨e1, vl⟩ (SubB.cons (SubO.hol hg) sb)⟩)⟩
/-- .. as a place -/
theorem pr_hol (j i : Nat) {nm : Str} {bv : Option Nat} {w : V} {i0 : Int} {g : D → α} {x : Ol α} {y : D} {u : Is w} (hg : Coat g) (hj : Γ[j]? = some (.fz u) := by rfl) (hΓ : Γ[i]? = some (.ow bv (⟨x, g y⟩ : Hol α w i0)) := by rfl) (hN : X.N[j]? = some nm := by rfl) (hv : Vis X.env.scope nm := by first | exact Or.inl rfl | exact Or.inr (Or.inl rfl) | exact Or.inr (Or.inr rfl)) (hd : (nm == ("__debug__" : Str)) = false := by decide)
    (hcd : (nm == ("__classdict__" : Str)) = false := by decide) : PR X (.Name nm pos) Γ (some y) (fun z => Γ.set i (.ow bv (⟨x, g z⟩ : Hol α w i0))) := .mk fun F σ H Z en y' hy Q q pins s I => by
  cases hy
  obtain ⟨v, fp, e1, A⟩ := en.at hΓ
  obtain ⟨v2, e2, r2⟩ := en.fz hj
  cases (show v2 = w from r2)
  obtain ⟨f, fr, o1, i1, d1, rb⟩ := (SubO.hol (K := X.K) (H := H) (Z := Z) hg) H Z fp (Step.refl en.zh) A.own
  refine (pe_var hN hv hd hcd).run pins s σ H Q I ⟨w, e2, q H Z w f (Step.refl en.zh) ⟨o1, en.zh, fun a q => A.out a ((i1 a).mpr (.inl q)), fun H2 Z2 z g' G o2 => ?_⟩⟩
  have dfr : ∀ a, fr a → ∃ u, H a = some u := fun a q => by
    obtain ⟨u, hu, _⟩ := Own.odom A.own ((i1 a).mpr (.inr q))
    exact ⟨u, hu⟩
  refine A.put H2 Z2 _ (fun a => g' a ∨ fr a) ⟨fun a u hu n => G.hh a u hu (fun q => n ((i1 a).mpr (.inl q))), G.zz, G.zh, fun a u hu n => G.old a u hu (fun q => n ((i1 a).mpr (.inl q))), fun a q => ?_⟩ (rb H2 Z2 z g' G.zz (fun a r => ?_) o2 fun a q r => ?_)
  · rcases q with q | q
    · refine ⟨?_, (G.out a q).2⟩
      rcases (G.out a q).1 with q | q
      · exact .inl ((i1 a).mpr (.inl q))
      · exact .inr q
    · obtain ⟨u, hu⟩ := dfr a q
      have := (i1 a).mpr (.inr q)
      exact ⟨.inl this, (G.old a u hu (fun q2 => d1 a q2 q)).trans (A.out a this).2⟩
  · obtain ⟨u, hu⟩ := dfr a r
    rw [hu]; exact G.hh a u hu (fun q => d1 a q r)
  · rcases (G.out a q).1 with q2 | q2
    · exact d1 a q2 r
    · obtain ⟨u, hu⟩ := dfr a r
      rw [q2] at hu; cases hu
variable {W : WX} {ER : ExS} {rest : List Stmt} {N L R : Type} [Res R] {GN : N → List Ent} {GL : L → List Ent} {o : Fl N L R}
/-- name = xs[e] -/
theorem bx_alias (j i : Nat) {nm nm2 : Str} {bv : Option Nat} {x : Ol α} {mi : Option Int} {kk : Int → α → Option (Fl N L R)} (hj : X.N[j]? = some nm) (hpl : PlainIx b) (hi : PX X b Γ mi) (h : (mi.bind fun i0 => (atI x.xs i0).bind fun y => kk i0 y) = some o) (hr : ∀ i0 y w, kk i0 y = some o → BX X W ER rest ((Γ.set i (.ow bv (⟨x, y⟩ : Hol α w i0))).set j (.fz (Is.mk : Is w))) GN GL o)
    (hnd : X.N.Nodup) (hΓ : Γ[i]? = some (.ow bv x) := by rfl) (hN : X.N[i]? = some nm2 := by rfl) (hv : Vis X.env.scope nm2 := by first | exact Or.inl rfl | exact Or.inr (Or.inl rfl) | exact Or.inr (Or.inr rfl)) (hd : (nm2 == ("__debug__" : Str)) = false := by decide)
    (hcd : (nm2 == ("__classdict__" : Str)) = false := by decide) (hl : Loc X.env.scope nm := by first | exact Or.inl rfl | exact Or.inr rfl) (hs : swapsWith (.Subscript (.Name nm2 p2) b p3) (some (.Name nm p1)) pos.line X.env = pure false := by rfl)
    (hf : X.fn nm = true ∨ X.env.scope.names.lookup nm = some .local := by first | exact .inl rfl | exact .inr rfl) : BX X W ER (.Assign [.Name nm p1] (.Subscript (.Name nm2 p2) b p3) pos :: rest) Γ GN GL o := by
  obtain ⟨i0, ei, h⟩ := Option.bind_eq_some_iff.mp h
  obtain ⟨y, ey, h⟩ := Option.bind_eq_some_iff.mp h
  refine bx_cons (ps_set (i := j) hnd hj hl pe_w hs hf) fun F D ac σ H Z en => ?_
  obtain ⟨v, fp, e1, at_⟩ := en.at hΓ
  obtain ⟨l, vs0, fe, e, hl0, oo, hc, hd0⟩ := id at_.own
  subst e
  obtain ⟨jj, ej, ey2⟩ := Option.bind_eq_some_iff.mp ey
  obtain ⟨w, f1, fr, ew, _⟩ := oo.focus ey2
  have ew : atI vs0 i0 = some w := by unfold atI; rw [oo.len, ej]; exact ew
  refine we_ix en hN hv hd hcd hpl e1 hl0 hi ei ew fun H1 Z1 s1 => ?_
  have en1 := en.step s1
  have eyy : (⟨x, y⟩ : Hol α w i0).all = x := put_self ey
  obtain ⟨oi, fpi, hoi, qi, put⟩ := en1.focus hΓ
  rw [e1] at hoi
  cases hoi
  obtain ⟨v', e', hb, ow, out⟩ := qi
  cases e'
  obtain ⟨l2, vs2, fe2, e2, hl2, _, hc2, _⟩ := id ow
  cases e2
  have hvs : vs2 = vs0 := by
    have := s1.hh _ _ hl0
    rw [hl2] at this
    cases this
    rfl
  subst hvs
  have en2 := put H1 Z1 (.ow bv (⟨x, y⟩ : Hol α w i0)) (some (.ref l)) fpi (fun _ _ h _ => h) (Same.refl _) en1.zh (fun _ _ _ _ => rfl) (fun _ f => .inl f) ⟨.ref l, rfl, hb, ⟨by rw [eyy]; exact ow, ⟨l, vs2, rfl, (hc2 l).mpr (.inl rfl), hl2, ew⟩, y, ey⟩, out⟩
  rw [set_self e1] at en2
  exact (hr i0 y w h).run F D ac _ H1 Z1 (en2.set_fz j rfl)
end
section
variable {X : Cx} {Γ : List Ent} {a b : Expr} {es : List Expr} {pos p p1 p2 q1 q2 : Pos} {nm : Str} {k : Nat} {f : Addr} {fd : FuncData} {ps : List Str}
theorem pxb_callR {A B C R : Type} [OwnB B] [ArgB A B] [OwnB C] [Enc R] {is : List Nat} {c : C} {pt : B → C} {T : B → List Ent} {fm : A → Option (RB B R)} {ma : Option A} (Fn : FnOk X.prog X.w X.K X.mg X.base CX0 k f fd ps (spB X.K fm)) (hr : Room k X.A) (hm : X.mg nm = some (.ref f)) (hk : PySem.W.keepIn X.K (.ref f) = true)
    (hb : Binds X.K fd ps []) (ha : PAR X es Γ ma is c pt) (hT : ∀ b, OwnB.put is (pt b) Γ = T b) (nd : is.Nodup := by decide) (hg : Gl X nm := by rfl) (hdb : (nm == ("__debug__" : Str)) = false := by decide) (he : ∀ e r, es = e :: r → starEach es X.env = (false, eval e X.env) :: starEach r X.env := by intro _ _ h; cases h; rfl) (hpl : ∀ e r, es = e :: r → (backTo pos (starEach r X.env)).any (·.1) = false := by intro _ _ h; cases h; rfl) (hne : es ≠ [] := by decide) :
    PXB X (.Call (.Name nm p) es [] pos) Γ (ma.bind fm) T := by
  cases es with
  | nil => exact absurd rfl hne
  | cons e r =>
    exact .mk fun F σ H Z en z hx Q q pins s I => (pe_call Fn hr hg hm hk hb .nil pass0 pa_w hdb (he e r rfl) (hpl e r rfl)).run pins s σ H Q I (by
      obtain ⟨x, hx0, hx1⟩ := Option.bind_eq_some_iff.mp hx
      exact ha.run F σ H Z en x hx0 _ fun H' Z' vs bs cs s' ra vl sb => by
        rw [List.append_nil]
        exact callee_par (en.step s') ha.ins nd hT ra vl sb hx1 q)
end
end G
/-! GLn2: a def lent two items of one list; a raising method lent one thing by two names; the end of a second name. -/
namespace G
open PySem L2
section
variable {X : Cx} {Γ : List Ent} {b c : Expr} {pos p p1 p2 q1 q2 : Pos} {nm : Str} {k : Nat} {f : Addr} {fd : FuncData} {ps : List Str} {α : Type} [Enc α] [Own α]
/-- f(xs[i], xs[j]) -/
theorem pxb_callIx2 (i0 : Nat) {nm1 : Str} {bv : Option Nat} {R : Type} [Enc R] {fQ : Bq α × Unit → Option (RB (α × Unit) R)} {f2 : Br α × Br α × Unit → Option (RB (α × α × Unit) R)} {x : Ol α} {mi mj : Option Int}
    (FQ : FnOk X.prog X.w X.K X.mg X.base CX0 k f fd ps (spB X.K fQ)) (F2 : FnOk X.prog X.w X.K X.mg X.base CX0 k f fd ps (spB X.K f2)) (hr : Room k X.A) (hm : X.mg nm = some (.ref f)) (hk : PySem.W.keepIn X.K (.ref f) = true) (hb : Binds X.K fd ps [])
    (hΓ : Γ[i0]? = some (.ow bv x)) (hi : PX X b Γ mi) (hj : PX X c Γ mj) (hpb : PlainIx b := by intro _ _; rfl) (hpc : PlainIx c := by intro _ _; rfl) (hN : X.N[i0]? = some nm1 := by rfl) (hv : Vis X.env.scope nm1 := by first | exact Or.inl rfl | exact Or.inr (Or.inl rfl) | exact Or.inr (Or.inr rfl))
    (hd : (nm1 == ("__debug__" : Str)) = false := by decide) (hcd : (nm1 == ("__classdict__" : Str)) = false := by decide) (hg : Gl X nm := by rfl) (hdb : (nm == ("__debug__" : Str)) = false := by decide)
    (h1 : starEach [.Subscript (.Name nm1 q1) b p1, .Subscript (.Name nm1 q2) c p2] X.env = (false, eval (.Subscript (.Name nm1 q1) b p1) X.env) :: starEach [.Subscript (.Name nm1 q2) c p2] X.env := by rfl) (hst : starEach [.Subscript (.Name nm1 q2) c p2] X.env = (false, eval (.Subscript (.Name nm1 q2) c p2) X.env) :: starEach [] X.env := by rfl) (hpl : (backTo pos (starEach [.Subscript (.Name nm1 q2) c p2] X.env)).any (·.1) = false := by rfl) :
    PXB X (.Call (.Name nm p) [.Subscript (.Name nm1 q1) b p1, .Subscript (.Name nm1 q2) c p2] [] pos) Γ (oIx2 fQ f2 x mi mj) (fun y => Γ.set i0 (.ow bv y)) := .mk fun F σ H Z en z hx Q q pins s I => (pe_call (fn_or FQ F2) hr hg hm hk hb .nil pass0 (pa_cons pe_w (pa_cons pe_w pa_nil hst) h1) hdb h1 hpl).run pins s σ H Q I (by
  obtain ⟨i, ei, hx⟩ := Option.bind_eq_some_iff.mp hx
  obtain ⟨j, ej, hx⟩ := Option.bind_eq_some_iff.mp hx
  obtain ⟨a, ea, hx⟩ := Option.bind_eq_some_iff.mp hx
  obtain ⟨a2, ea2, hx⟩ := Option.bind_eq_some_iff.mp hx
  obtain ⟨y, ey, hx⟩ := Option.bind_eq_some_iff.mp hx
  obtain ⟨y2, ey2, hx⟩ := Option.bind_eq_some_iff.mp hx
  obtain ⟨v0, fp0, hσ, A0⟩ := en.at hΓ
  obtain ⟨l, vs, fe, e0, hl, o, hc, hdl⟩ := id A0.own
  subst e0
  obtain ⟨v, _, _, ev, ov, _⟩ := o.focus ey
  obtain ⟨w, _, _, ew, _⟩ := o.focus ey2
  have av : atI vs i = some v := by unfold atI; rw [o.len, ea]; exact ev
  have aw : atI vs j = some w := by unfold atI; rw [o.len, ea2]; exact ew
  refine we_ix en hN hv hd hcd hpb hσ hl hi ei av fun H1 Z1 s1 => ?_
  have A1 := A0.step s1
  obtain ⟨l1, vs1, fe1, e1, hl1, o1, hc1, hdl1⟩ := id A1.own
  cases e1
  obtain ⟨v', f1, fr, ev', ov1, i1, d1, m1, k1⟩ := o1.focus ey
  have hvs : vs1 = vs := by
    have := s1.hh _ _ hl
    rw [hl1] at this
    cases this
    rfl
  subst hvs
  rw [ev] at ev'
  cases ev'
  refine we_ix (en.step s1) hN hv hd hcd hpc hσ hl1 hj ej aw fun H2 Z2 s2 => ?_
  have A2 := A1.step s2
  obtain ⟨l2, vs2, fe2, e2, hl2, o2, hc2, hdl2⟩ := id A2.own
  cases e2
  have hvs2 : vs2 = vs1 := by
    have := s2.hh _ _ hl1
    rw [hl2] at this
    cases this
    rfl
  subst hvs2
  by_cases hab : a = a2
  · subst hab
    rw [if_pos rfl] at hx
    obtain ⟨r, hr1, rfl⟩ := Option.map_eq_some_iff.mp hx
    rw [ev] at ew
    cases ew
    obtain ⟨v2, f1, fr, ev2, ow, i1, d1, m1, k1⟩ := o2.focus ey
    rw [ev] at ev2
    cases ev2
    show spOr (spB X.K fQ) (spB X.K f2) ([v, v] ++ []) H2 Q E0
    refine Or.inl ⟨Z2, (Bq.mk y, ()), r, [v], f1, s2.zh, ⟨_, [], [], rfl, rfl, rfl, rfl⟩, ⟨v, [], f1, Fp.no, rfl, ow, ⟨rfl, fun _ f => f⟩, fun a => ⟨.inl, fun f => by rcases f with f | f; exact f; exact f.elim⟩, fun _ _ f => f⟩, fun p f => (A2.out p ((hc2 p).mpr (.inr ((i1 p).mpr (.inl f))))).2, hr1, fun H3 Z3 u fp2 g oo r3 => ?_⟩
    obtain ⟨w', rr, t1, t2, e, ow1, ow2, i2, d2⟩ := oo
    cases e
    have n2 : ∀ p, ¬ t2 p := ow2.2
    have g1 : ∀ p, t1 p → (f1 p ∨ H2 p = none) ∧ Z3 p = none := fun p f => g.out p ((i2 p).mpr (.inl f))
    have nl : ∀ p, fr p → ¬ t1 p := fun p r f => by
      obtain ⟨u, hu, _⟩ := m1 p r
      rcases (g1 p f).1 with q | q
      · exact d1 p q r
      · rw [q] at hu; cases hu
    have nf : ¬ f1 l := fun q => hdl2 ((i1 l).mpr (.inl q))
    have nf2 : ¬ t1 l := fun f => by
      rcases (g1 l f).1 with q | q
      · exact nf q
      · rw [q] at hl2; cases hl2
    have keep : ∀ p, fr p → H3 p = H2 p := fun p r => by
      obtain ⟨u, hu, _⟩ := m1 p r
      rw [hu]; exact g.hh p u hu (fun q => d1 p q r)
    refine q H3 Z3 u (A2.put H3 Z3 ⟨x.xs.set a r.b.1⟩ (fun p => p = l ∨ t1 p ∨ fr p) ⟨fun p u hu n => g.hh p u hu (fun q => n ((hc2 p).mpr (.inr ((i1 p).mpr (.inl q))))), g.zz, g.zh, fun p u hu n => g.old p u hu (fun q => n ((hc2 p).mpr (.inr ((i1 p).mpr (.inl q))))), fun p f => ?_⟩ ⟨l, vs2, fun p => t1 p ∨ fr p, rfl, g.hh l _ hl2 nf, ?_, fun _ => Iff.rfl, fun f => ?_⟩) r3
    · rcases f with q | q | q
      · subst q
        exact ⟨.inl ((hc2 p).mpr (.inl rfl)), (g.old p _ hl2 nf).trans (A2.out p ((hc2 p).mpr (.inl rfl))).2⟩
      · refine ⟨?_, (g1 p q).2⟩
        rcases (g1 p q).1 with q | q
        · exact .inl ((hc2 p).mpr (.inr ((i1 p).mpr (.inl q))))
        · exact .inr q
      · obtain ⟨u, hu, _⟩ := m1 p q
        exact ⟨.inl ((hc2 p).mpr (.inr ((i1 p).mpr (.inr q)))), (g.old p u hu (fun q2 => d1 p q2 q)).trans (A2.out p ((hc2 p).mpr (.inr ((i1 p).mpr (.inr q))))).2⟩
    · have := k1 Z3 H3 (v) r.b.1 t1 g.zz keep ow1 (fun p q r => nl p r q)
      rw [list_set_self ev] at this
      exact this
    · rcases f with q | q
      · exact nf2 q
      · exact hdl2 ((i1 l).mpr (.inr q))
  · rw [if_neg hab] at hx
    obtain ⟨r, hr1, rfl⟩ := Option.map_eq_some_iff.mp hx
    obtain ⟨v2, w2, f1, f2, fr, ev2, ew2, ow, ow', i1, d1, m1, k1⟩ := o2.two ey ey2 hab
    rw [ev] at ev2
    cases ev2
    rw [ew] at ew2
    cases ew2
    have inl : ∀ p, f1 p ∨ f2 p → fp0 p := fun p f => (hc2 p).mpr (.inr ((i1 p).mpr (by rcases f with f | f <;> simp [f])))
    show spOr _ (spB X.K _) ([v, w] ++ []) H2 Q E0
    refine Or.inr ⟨Z2, (Br.mk y, Br.mk y2, ()), r, [v, w], (fun p => f1 p ∨ f2 p), s2.zh, ⟨_, _, _, rfl, rfl, _, _, _, rfl, rfl, rfl, rfl⟩, ⟨v, [w], f1, f2, rfl, ow, ⟨w, [], f2, Fp.no, rfl, ow', ⟨rfl, fun _ f => f⟩, fun a => ⟨.inl, fun f => by rcases f with f | f; exact f; exact f.elim⟩, fun _ _ f => f⟩, fun _ => Iff.rfl, fun p => (d1 p).1⟩, fun p f => (A2.out p (inl p f)).2, hr1, fun H3 Z3 u fp2 g oo r3 => ?_⟩
    obtain ⟨w', rr, t1, tt, e, ow1, oo2, i2, d2⟩ := oo
    cases e
    obtain ⟨w'', rr2, t2, t3, e, ow2, oo3, i3, d3⟩ := oo2
    cases e
    have n3 : ∀ p, ¬ t3 p := oo3.2
    have g12 : ∀ p, t1 p ∨ t2 p → ((f1 p ∨ f2 p) ∨ H2 p = none) ∧ Z3 p = none := fun p f => g.out p ((i2 p).mpr (by
      rcases f with f | f
      · exact .inl f
      · exact .inr ((i3 p).mpr (.inl f))))
    have dd : ∀ p, fr p → ¬ (f1 p ∨ f2 p) := fun p r f => by
      rcases f with f | f
      · exact (d1 p).2.1 f r
      · exact (d1 p).2.2 f r
    have nl : ∀ p, fr p → ¬ (t1 p ∨ t2 p) := fun p r f => by
      obtain ⟨u, hu⟩ := m1 p r
      rcases (g12 p f).1 with q | q
      · exact dd p r q
      · rw [q] at hu; cases hu
    have nf : ¬ (f1 l ∨ f2 l) := fun q => hdl2 ((i1 l).mpr (by rcases q with q | q <;> simp [q]))
    have nf2 : ¬ (t1 l ∨ t2 l) := fun f => by
      rcases (g12 l f).1 with q | q
      · exact nf q
      · rw [q] at hl2; cases hl2
    have keep : ∀ p, fr p → H3 p = H2 p := fun p r => by
      obtain ⟨u, hu⟩ := m1 p r
      rw [hu]; exact g.hh p u hu (dd p r)
    refine q H3 Z3 u (A2.put H3 Z3 ⟨(x.xs.set a r.b.1).set a2 r.b.2.1⟩ (fun p => p = l ∨ t1 p ∨ t2 p ∨ fr p) ⟨fun p u hu n => g.hh p u hu (fun q => n (inl p q)), g.zz, g.zh, fun p u hu n => g.old p u hu (fun q => n (inl p q)), fun p f => ?_⟩ ⟨l, vs2, fun p => t1 p ∨ t2 p ∨ fr p, rfl, g.hh l _ hl2 nf, ?_, fun _ => Iff.rfl, fun f => ?_⟩) r3
    · have both : t1 p ∨ t2 p → (fp0 p ∨ H2 p = none) ∧ Z3 p = none := fun q => by
        refine ⟨?_, (g12 p q).2⟩
        rcases (g12 p q).1 with q | q
        · exact .inl (inl p q)
        · exact .inr q
      rcases f with q | q | q | q
      · subst q
        exact ⟨.inl ((hc2 p).mpr (.inl rfl)), (g.old p _ hl2 nf).trans (A2.out p ((hc2 p).mpr (.inl rfl))).2⟩
      · exact both (.inl q)
      · exact both (.inr q)
      · obtain ⟨u, hu⟩ := m1 p q
        have := (hc2 p).mpr (.inr ((i1 p).mpr (.inr (.inr q))))
        exact ⟨.inl this, (g.old p u hu (dd p q)).trans (A2.out p this).2⟩
    · exact k1 Z3 H3 r.b.1 r.b.2.1 t1 t2 g.zz keep ow1 ow2 (fun p => ⟨fun a b => d2 p a ((i3 p).mpr (.inl b)), fun a b => nl p b (.inl a), fun a b => nl p b (.inr a)⟩)
    · rcases f with q | q | q
      · exact nf2 (.inl q)
      · exact nf2 (.inr q)
      · exact hdl2 ((i1 l).mpr (.inr (.inr q))))
end
section
variable {X : Cx} {W : WX} {ER : ExR} {Γ : List Ent} {pos p p1 p2 apos : Pos} {α : Type} [Flds α] {nm m : Str} {ns : List Str} {C : Addr} {k : Nat} {f : Addr} {fd : FuncData} {ps : List Str} {pl : Sem Bool}
/-- o.m(n), o and n names of one thing -/
theorem pxbx_methQ (i j : Nat) {nm1 nm2 : Str} {bv : Option Nat} {R : Type} [Enc R] {fm : Bq (Ins nm ns α) × Unit → Option (Rs (RB (Ins nm ns α × Unit) R))} {x : Ins nm ns α} (tk : Takes X W) (cl : ClsF X.K nm C) (hm : Meth X.K C m f) (hmn : m ∉ ns) (Fn : FnOk X.prog X.w X.K X.mg X.base (L2.CX X.prog X.w) k f fd ps (spMX X.K ER fm)) (hr : Room k X.A) (hb : Binds X.K fd ps [])
    (hΓ : Γ[i]? = some (.ow bv x)) (hs : ∀ F σ H Z, EnvOk X.K F σ H Z Γ → σ[j]? = σ[i]?) (hN1 : X.N[i]? = some nm1 := by rfl) (hN2 : X.N[j]? = some nm2 := by rfl) (hv1 : Vis X.env.scope nm1 := by first | exact Or.inl rfl | exact Or.inr (Or.inl rfl) | exact Or.inr (Or.inr rfl)) (hv2 : Vis X.env.scope nm2 := by first | exact Or.inl rfl | exact Or.inr (Or.inl rfl) | exact Or.inr (Or.inr rfl))
    (hd1 : (nm1 == ("__debug__" : Str)) = false := by decide) (hcd1 : (nm1 == ("__classdict__" : Str)) = false := by decide) (hd2 : (nm2 == ("__debug__" : Str)) = false := by decide) (hcd2 : (nm2 == ("__classdict__" : Str)) = false := by decide)
    (hst : starEach [.Name nm2 p2] X.env = (false, eval (.Name nm2 p2) X.env) :: starEach [] X.env := by rfl) (hpl : (backTo pos (starEach [] X.env)).any (·.1) = false := by rfl)
    (ht : eval (.Call (.Attribute (.Name nm1 p1) m apos) [.Name nm2 p2] [] pos) X.env = (do
      let ov ← eval (.Name nm1 p1) X.env
      standAt apos.atName
      let (f, first) ← holding [ov] (getMethod ov m pl)
      callWith pos f first (backTo pos (starEach [.Name nm2 p2] X.env)) (backToKw pos (keywordEach [] X.env))) := by rfl) :
    PXBX X W ER (.Call (.Attribute (.Name nm1 p1) m apos) [.Name nm2 p2] [] pos) Γ (Γ.set i (.ow bv x)) (fm (Bq.mk x, ())) (fun b => Γ.set i (.ow bv b.1)) := .mk fun F σ H Z en z hx Q q1 q2 pins s I => (pe_methX (pl := pl) (pe_var hN1 hv1 hd1 hcd1) cl.cl hm Fn hr hb (fun σ => passAt tk σ) (pa_cons (pe_var hN2 hv2 hd2 hcd2) pa_nil hst) hst hpl ht).run pins s σ H Q I (by
  obtain ⟨v, fp, e1, A⟩ := en.at hΓ
  have e2 := (hs F σ H Z en).trans e1
  obtain ⟨l, D, dx, fs, fe, e3, hl, hcl, o1, hc, hd⟩ := id A.own
  cases hcl.same cl.is
  subst e3
  refine ⟨.ref l, e1, l, dx, fs, rfl, hl, Flds.nokey o1 hmn, .ref l, e2, ?_⟩
  refine ⟨Z, (Bq.mk x, ()), z, [.ref l], fp, en.zh, ⟨_, [], [], rfl, rfl, rfl, rfl⟩, ⟨.ref l, [], fp, Fp.no, rfl, A.own, ⟨rfl, fun _ f => f⟩, fun a => ⟨.inl, fun f => by rcases f with f | f; exact f; exact f.elim⟩, fun _ _ f => f⟩, fun a f => (A.out a f).2, hx, fun z' ez H2 Z2 u fp2 g2 o2 r2 => ?_, fun c i' ez H2 Z2 cls d fp2 g2 o2 r2 => ?_⟩
  · obtain ⟨w, rr, f1, f2, e, o1, o2, i1, d1⟩ := o2
    cases e
    exact q1 z' ez H2 Z2 u (A.put H2 Z2 z'.b.1 f1 ⟨g2.hh, g2.zz, g2.zh, g2.old, fun a f => g2.out a ((i1 a).mpr (.inl f))⟩ o1) r2
  · obtain ⟨w, rr, f1, f2, e, o1, o2, i1, d1⟩ := o2
    cases e
    exact q2 c i' ez H2 Z2 cls d (A.put H2 Z2 x f1 ⟨g2.hh, g2.zz, g2.zh, g2.old, fun a f => g2.out a ((i1 a).mpr (.inl f))⟩ o1) r2)
end
section
variable {X : Cx} {W : WX} {ER : ExS} {rest : List Stmt} {Γ : List Ent} {α : Type} [Enc α] [Own α] {N L R : Type} [Res R] {GN : N → List Ent} {GL : L → List Ent} {o : Fl N L R}
theorem EnvOk.unal {K : Fg} {F : Frame} {σ : St} {H Z : Hp} (i : Nat) {bv : Option Nat} {w : V} {i0 : Int} {x : Ol α} {y : α} (en : EnvOk K F σ H Z Γ) (hi : Γ[i]? = some (.ow bv (⟨x, y⟩ : Hol α w i0)) := by rfl) : EnvOk K F σ H Z (Γ.set i (.ow bv (x.put i0 y))) := en.swap hi fun _ _ ⟨v, e, hb, ow, out⟩ => ⟨v, e, hb, ow.1, out⟩
/-- return e, and the second name is met no more -/
theorem bx_retBw {B Rr : Type} [OwnB B] [Enc Rr] {Γ' : List Ent} {e : Expr} {pos : Pos} {GN : N → List Ent} {GL : L → List Ent} {o : Fl N L (RB B Rr)} {m : Option Rr} {b : B} (is : List Nat) (hx : PX X e Γ m) (hc : ∀ F σ H Z, EnvOk X.K F σ H Z Γ → EnvOk X.K F σ H Z Γ') (h : (m.bind fun x => some (.rt (RB.mk b x))) = some o) (ho : OwnB.outs 0 is b Γ') (nd : is.Nodup := by decide) : BX X W ER (.Return (some e) pos :: rest) Γ GN GL o := by
  obtain ⟨x, h1, h2⟩ := Option.bind_eq_some_iff.mp h
  cases h2
  refine bx_cons (ps_ret pe_w) fun F D ac σ H Z en => hx.run F σ H Z en x h1 _ fun H' Z' v s r => ?_
  have en' := hc F σ H' Z' (en.step s)
  obtain ⟨fp, hen, _⟩ := en'.ent
  obtain ⟨bs, rr, e1, vl⟩ := OwnB.ovals ho hen
  obtain ⟨fp', ow, out, _⟩ := en'.focusB (OwnB.oin ho) nd vl
  exact ac H' Z' v ⟨fp', bs, rr, en'.stp, by simpa using e1, ow, out, r⟩
theorem caseS_inl {γ : Type} {α β : Type} {a : α} {f : α → γ} {g : β → γ} {o : γ} (h : caseS (Sum.inl a) f g = o) : f a = o := h
theorem caseS_inr {γ : Type} {α β : Type} {b : β} {f : α → γ} {g : β → γ} {o : γ} (h : caseS (Sum.inr b) f g = o) : g b = o := h
/-- the second name is met no more -/
theorem bx_unal (i : Nat) {bv : Option Nat} {w : V} {i0 : Int} {x : Ol α} {y : α} (h : BX X W ER rest (Γ.set i (.ow bv (x.put i0 y))) GN GL o) (hi : Γ[i]? = some (.ow bv (⟨x, y⟩ : Hol α w i0)) := by rfl) : BX X W ER rest Γ GN GL o := .mk fun F D ac σ H Z en => h.run F D ac σ H Z (en.swap hi fun _ _ ⟨v, e, hb, ow, out⟩ => ⟨v, e, hb, ow.1, out⟩)
end
section
variable {X : Cx} {Γ : List Ent} {e : Expr} {α β : Type} [Enc α] [Own α] [Enc β] [Own β]
/-- a place of one of two kinds, the kind known -/
theorem pr_inl {x : α} {T : α ⊕ β → List Ent} (h : PR X e Γ (some (Sum.inl x : α ⊕ β)) T) : PR X e Γ (some x) (fun y => T (.inl y)) := .mk fun F σ H Z en y hy Q q => by
  cases hy
  exact h.run F σ H Z en _ rfl Q fun H' Z' v fp s A => q H' Z' v fp s ⟨A.own, A.zh, A.out, fun H2 Z2 c' fp' g o => A.put H2 Z2 (.inl c') fp' g o⟩
theorem pr_inr {x : β} {T : α ⊕ β → List Ent} (h : PR X e Γ (some (Sum.inr x : α ⊕ β)) T) : PR X e Γ (some x) (fun y => T (.inr y)) := .mk fun F σ H Z en y hy Q q => by
  cases hy
  exact h.run F σ H Z en _ rfl Q fun H' Z' v fp s A => q H' Z' v fp s ⟨A.own, A.zh, A.out, fun H2 Z2 c' fp' g o => A.put H2 Z2 (.inr c') fp' g o⟩
theorem outL_some {x : α ⊕ β} {y : α} (h : outL x = some y) : x = .inl y := by
  cases x with
  | inl a => cases h; rfl
  | inr b => cases h
theorem outR_some {x : α ⊕ β} {y : β} (h : outR x = some y) : x = .inr y := by
  cases x with
  | inl a => cases h
  | inr b => cases h; rfl
end
end G
/-! GTxt: texts. -/
namespace G
open PySem L2
/-- one sign of a text -/
structure Sg where
  c : Nat
  deriving DecidableEq
instance : Enc Sg := ⟨fun _ _ v x => v = .str ⟨#[x.c]⟩, fun _ h => h⟩
instance : Flat Sg := ⟨fun _ h => h⟩
def oStrI (m : Option Int) : Option Str := m.bind fun i => if i.natAbs.log2 < 1920 then some (Str.ofString (toString i)) else none
def oJoinT (a : Option Str) (m : Option (List Str)) : Option Str := o2 a m fun z ys => if (ys.map (·.length)).sum + ys.length * z.length ≤ 16777216 then some (Txt.join z ys) else none
def oSplit (m : Option Str) (a : Option Str) : Option (List Str) := o2 m a fun x y => if (y.length == 0) = false ∧ x.length + 2 ≤ sizeLine then some (Txt.split x y) else none
def oCutT (m : Option Str) (lo hi : Option (Option Int)) : Option Str := m.bind fun z => lo.bind fun l => hi.bind fun h => if z.length ≤ sizeLine then some (cutS z l h) else none
def oIxT (m : Option Str) (mi : Option Int) : Option Str := o2 m mi fun z i => if z.length ≤ sizeLine then (atI z.cps.toList i).map fun c => ⟨#[c]⟩ else none
def oLenT (m : Option Str) : Option Int := m.bind fun z => if z.length ≤ sizeLine then some (z.length : Int) else none
def oCatT (a b : Option Str) : Option Str := o2 a b fun x y => if x.length + y.length ≤ sizeLine then some (x ++ y) else none
def oMulT (a : Option Str) (b : Option Int) : Option Str := o2 a b fun x n => if x.length ≤ 1000 ∧ -1000 ≤ n ∧ n ≤ 1000 then some (Txt.mul x n) else none
def oIntT (m : Option Str) : Option Int := m.bind fun z => if z.length ≤ 640 then PySem.intText? z else none
def oInT (a : Option Sg) (b : Option Str) : Option Bool := o2 a b fun c z => some (decide (c.c ∈ z.cps.toList))
def oNotInT (a : Option Sg) (b : Option Str) : Option Bool := o2 a b fun c z => some (!decide (c.c ∈ z.cps.toList))
def oNoneIn {α : Type} (m : Option (List (Option α))) : Option Bool := m.bind fun xs => some (xs.any fun x => x.isNone)
def signs (m : Option Str) : Option (List Sg) := m.map fun z => z.cps.toList.map Sg.mk
section
variable {X : Cx} {Γ : List Ent} {e a b tg : Expr} {pos p apos : Pos} {α β : Type} [Enc α] [Enc β]
theorem px_globS {x : Str} {z : Str} (hm : ∃ t, X.mg x = some (.str z t)) (hg : Gl X x := by rfl) (hd : (x == ("__debug__" : Str)) = false := by decide) : PX X (.Name x pos) Γ (some z) := by
  obtain ⟨t, ht⟩ := hm
  exact px_const (v := .str z) (pe_glob hg ht ⟨t, rfl⟩ hd) fun _ => rfl
theorem px_strI {m : Option Int} (hm : X.mg "str" = none) (ha : PX X a Γ m) (hg : Gl X "str" := by rfl) (h1 : starEach [a] X.env = (false, eval a X.env) :: [] := by rfl) : PX X (.Call (.Name "str" p) [a] [] pos) Γ (oStrI m) :=
  px_of (pe_callTy call_str_int hg hm (by decide +kernel) (pa_cons pe_w pa_nil h1) (he := h1) (hpl := rfl)) fun F σ H Z en x hx Q q => by
    obtain ⟨i, hi, hx⟩ := Option.bind_eq_some_iff.mp hx
    by_cases c : i.natAbs.log2 < 1920
    · rw [if_pos c] at hx
      cases hx
      refine ha.run F σ H Z en i hi _ fun H1 Z1 v s1 r1 => ?_
      exact ⟨i, by rw [show v = V.int i from r1], c, q H1 Z1 _ s1 rfl⟩
    · rw [if_neg c] at hx
      cases hx
theorem px_intT {m : Option Str} (hm : X.mg "int" = none) (ha : PX X a Γ m) (hg : Gl X "int" := by rfl) (h1 : starEach [a] X.env = (false, eval a X.env) :: [] := by rfl) : PX X (.Call (.Name "int" p) [a] [] pos) Γ (oIntT m) :=
  px_of (pe_callTy call_int_str hg hm (by decide +kernel) (pa_cons pe_w pa_nil h1) (he := h1) (hpl := rfl)) fun F σ H Z en x hx Q q => by
    obtain ⟨z, hz, hx⟩ := Option.bind_eq_some_iff.mp hx
    by_cases c : z.length ≤ 640
    · rw [if_pos c] at hx
      refine ha.run F σ H Z en z hz _ fun H1 Z1 v s1 r1 => ?_
      exact ⟨z, x, by rw [show v = V.str z from r1], hx, c, q H1 Z1 _ s1 rfl⟩
    · rw [if_neg c] at hx
      cases hx
theorem all2_strs {K : Fg} {Z : Hp} : ∀ {vs : List V} {ys : List Str}, All2 (Enc.rel K Z) vs ys → vs = ys.map V.str
  | [], [], _ => rfl
  | v :: vs, y :: ys, ⟨r, h⟩ => by rw [show v = V.str y from r, all2_strs h]; rfl
  | [], _ :: _, h => h.elim
  | _ :: _, [], h => h.elim
theorem strs_all2 {K : Fg} {Z : Hp} : ∀ ys : List Str, All2 (Enc.rel K Z) (ys.map V.str) ys
  | [] => trivial
  | y :: ys => ⟨rfl, strs_all2 ys⟩
theorem px_joinT {ma : Option Str} {m : Option (List Str)} (ha : PX X a Γ ma) (hb : PL X b Γ m) (hs : starEach [b] X.env = [(false, eval b X.env)] := by rfl) (hbase : attributeBase a "join" X.env (eval a X.env) = eval a X.env := by rfl) (hline : (apos.endLine == pos.line) = true := by rfl) :
    PX X (.Call (.Attribute a "join" apos) [b] [] pos) Γ (oJoinT ma m) := px_of (pe_join pe_w pe_w hs hbase hline) fun F σ H Z en x hx Q q => by
  obtain ⟨z, hz, hx⟩ := Option.bind_eq_some_iff.mp hx
  obtain ⟨ys, hy, hx⟩ := Option.bind_eq_some_iff.mp hx
  by_cases c : (ys.map (·.length)).sum + ys.length * z.length ≤ 16777216
  · dsimp only at hx
    rw [if_pos c] at hx
    cases hx
    refine ha.run F σ H Z en z hz _ fun H1 Z1 v s1 r1 => ⟨⟨z, r1⟩, hb.run F σ H1 Z1 (en.step s1) ys hy _ fun H2 Z2 l vs s2 hl r2 => ?_⟩
    have ev := all2_strs r2
    subst ev
    exact ⟨z, l, ys, r1, rfl, .inl (SqL.of hl), c, q H2 Z2 _ (s1.trans s2) rfl⟩
  · dsimp only at hx
    rw [if_neg c] at hx
    cases hx
theorem pn_split {ma mb : Option Str} (ha : PX X a Γ ma) (hb : PX X b Γ mb) (hs : starEach [b] X.env = [(false, eval b X.env)] := by rfl) (hbase : attributeBase a "split" X.env (eval a X.env) = eval a X.env := by rfl) (hline : (apos.endLine == pos.line) = true := by rfl) :
    PN X (.Call (.Attribute a "split" apos) [b] [] pos) Γ (oSplit ma mb) := pn_of (pe_split pe_w pe_w hs hbase hline) fun F σ H Z en x hx Q q => by
  obtain ⟨z, hz, hx⟩ := Option.bind_eq_some_iff.mp hx
  obtain ⟨y, hy, hx⟩ := Option.bind_eq_some_iff.mp hx
  by_cases c : (y.length == 0) = false ∧ z.length + 2 ≤ sizeLine
  · dsimp only at hx
    rw [if_pos c] at hx
    cases hx
    exact ha.run F σ H Z en z hz _ fun H1 Z1 v s1 r1 => ⟨⟨z, r1⟩, hb.run F σ H1 Z1 (en.step s1) y hy _ fun H2 Z2 w s2 r2 => ⟨z, y, r1, by rw [show w = V.str y from r2], c.1, c.2, fun l hl => q H2 Z2 l _ (s1.trans s2) hl (strs_all2 _)⟩⟩
  · dsimp only at hx
    rw [if_neg c] at hx
    cases hx
theorem px_slT {lo hi : Option Expr} {p2 : Pos} {m : Option Str} {ml mh : Option (Option Int)} (ha : PX X a Γ m) (hl : POX X lo Γ ml) (hh : POX X hi Γ mh) : PX X (.Subscript a (.Slice lo hi none p2) pos) Γ (oCutT m ml mh) := px_of (pe_slice sl_str pe_w po_w po_w) fun F σ H Z en x hx Q q => by
  obtain ⟨z, h1, hx⟩ := Option.bind_eq_some_iff.mp hx
  obtain ⟨l, h2, hx⟩ := Option.bind_eq_some_iff.mp hx
  obtain ⟨h, h3, hx⟩ := Option.bind_eq_some_iff.mp hx
  by_cases c : z.length ≤ sizeLine
  · rw [if_pos c] at hx
    cases hx
    exact ha.run F σ H Z en z h1 _ fun H1 Z1 v s1 r1 => hl.run F σ H1 Z1 (en.step s1) l h2 _ fun H2 Z2 s2 => hh.run F σ H2 Z2 (en.step (s1.trans s2)) h h3 _ fun H3 Z3 s3 => ⟨z, r1, c, q H3 Z3 _ ((s1.trans s2).trans s3) rfl⟩
  · rw [if_neg c] at hx
    cases hx
theorem px_ixT {m : Option Str} {mi : Option Int} (ha : PX X a Γ m) (hb : PX X b Γ mi) (hs : PlainIx b := by intro _ _; rfl) : PX X (.Subscript a b pos) Γ (oIxT m mi) := px_of (pe_ix ix_str pe_w pe_w hs) fun F σ H Z en x hx Q q => by
  obtain ⟨z, h1, hx⟩ := Option.bind_eq_some_iff.mp hx
  obtain ⟨i, h2, hx⟩ := Option.bind_eq_some_iff.mp hx
  by_cases c : z.length ≤ sizeLine
  · dsimp only at hx
    rw [if_pos c] at hx
    obtain ⟨d, hd, rfl⟩ := Option.map_eq_some_iff.mp hx
    exact ha.run F σ H Z en z h1 _ fun H1 Z1 v s1 r1 => hb.run F σ H1 Z1 (en.step s1) i h2 _ fun H2 Z2 w s2 r2 => ⟨z, i, d, r1, r2, c, hd, q H2 Z2 _ (s1.trans s2) rfl⟩
  · dsimp only at hx
    rw [if_neg c] at hx
    cases hx
theorem px_lnT {m : Option Str} (hm : X.mg "len" = none) (h : PX X a Γ m) (hg : Gl X "len" := by rfl) (hs : starEach [a] X.env = [(false, eval a X.env)] := by rfl) : PX X (.Call (.Name "len" p) [a] [] pos) Γ (oLenT m) :=
  px_of (pe_callB call_len_str hg hm PySem.boot_len (pa_cons pe_w pa_nil (by rw [hs]; rfl)) (he := by rw [hs]; rfl) (hpl := rfl)) fun F σ H Z en x hx Q q => by
    obtain ⟨z, hz, hx⟩ := Option.bind_eq_some_iff.mp hx
    by_cases c : z.length ≤ sizeLine
    · rw [if_pos c] at hx
      cases hx
      exact h.run F σ H Z en z hz _ fun H1 Z1 v s1 r1 => ⟨z, by rw [show v = V.str z from r1], c, q H1 Z1 _ s1 rfl⟩
    · rw [if_neg c] at hx
      cases hx
theorem px_catT {m1 m2 : Option Str} (ha : PX X a Γ m1) (hb : PX X b Γ m2) : PX X (.BinOp a .Add b pos) Γ (oCatT m1 m2) := px_op op_add_str (fun H Z v w x y z zh r1 r2 hz Q q => by
  replace hz : (if x.length + y.length ≤ sizeLine then some (x ++ y) else none) = some z := hz
  by_cases c : x.length + y.length ≤ sizeLine
  · rw [if_pos c] at hz
    cases hz
    exact ⟨x, y, r1, r2, c, q H Z _ (Step.refl zh) rfl⟩
  · rw [if_neg c] at hz
    cases hz) ha hb
theorem op_mul_str : OpR X (binaryOp .Mult) (fun x y H Q => ∃ z n, x = .str z ∧ y = .int n ∧ MulOk z n ∧ Q (.str (Txt.mul z n)) H) := by
  intro pins s σ H x y v u Q I rx ry h
  obtain ⟨z, n, rfl, rfl, ok, q⟩ := h
  obtain ⟨t, rfl⟩ := rx
  obtain ⟨t', rfl⟩ := ry
  exact SB.mul ok fun t' tk => ⟨.str (Txt.mul z n), H, I.tok _, ⟨_, rfl⟩, q⟩
theorem px_mulT {m1 : Option Str} {m2 : Option Int} (ha : PX X a Γ m1) (hb : PX X b Γ m2) : PX X (.BinOp a .Mult b pos) Γ (oMulT m1 m2) := px_op op_mul_str (fun H Z v w x y z zh r1 r2 hz Q q => by
  replace hz : (if x.length ≤ 1000 ∧ -1000 ≤ y ∧ y ≤ 1000 then some (Txt.mul x y) else none) = some z := hz
  by_cases c : x.length ≤ 1000 ∧ -1000 ≤ y ∧ y ≤ 1000
  · rw [if_pos c] at hz
    cases hz
    exact ⟨x, y, r1, r2, PyProof.Rows.mulOk_of 1000 1000 c.1 (by have := c.2.2; omega) (by have := c.2.1; omega) (by decide) (by decide), q H Z _ (Step.refl zh) rfl⟩
  · rw [if_neg c] at hz
    cases hz) ha hb
theorem px_inT {m1 : Option Sg} {m2 : Option Str} (ha : PX X a Γ m1) (hb : PX X b Γ m2) (hm : behindInMarks .In b = false := by rfl) : PX X (.Compare a [.In] [b] pos) Γ (oInT m1 m2) := px_cmp op_in_sign (fun H Z v w x y z zh r1 r2 hz Q q => by
  cases hz
  exact ⟨x.c, y, r1, r2, q H Z _ (Step.refl zh) rfl⟩) ha hb hm
theorem ptx_inT {m1 : Option Sg} {m2 : Option Str} (ha : PX X a Γ m1) (hb : PX X b Γ m2) (hm : behindInMarks .In b = false := by rfl) : PTX X (.Compare a [.In] [b] pos) Γ (oInT m1 m2) := ptx_cmp op_in_sign (fun H Z v w x y z zh r1 r2 hz Q q => by
  cases hz
  exact ⟨x.c, y, r1, r2, q H Z _ (Step.refl zh) rfl⟩) ha hb hm
theorem px_notinT {m1 : Option Sg} {m2 : Option Str} (ha : PX X a Γ m1) (hb : PX X b Γ m2) (hm : behindInMarks .NotIn b = false := by rfl) : PX X (.Compare a [.NotIn] [b] pos) Γ (oNotInT m1 m2) := px_cmp op_notIn_sign (fun H Z v w x y z zh r1 r2 hz Q q => by
  cases hz
  exact ⟨x.c, y, r1, r2, q H Z _ (Step.refl zh) rfl⟩) ha hb hm
theorem ptx_notinT {m1 : Option Sg} {m2 : Option Str} (ha : PX X a Γ m1) (hb : PX X b Γ m2) (hm : behindInMarks .NotIn b = false := by rfl) : PTX X (.Compare a [.NotIn] [b] pos) Γ (oNotInT m1 m2) := ptx_cmp op_notIn_sign (fun H Z v w x y z zh r1 r2 hz Q q => by
  cases hz
  exact ⟨x.c, y, r1, r2, q H Z _ (Step.refl zh) rfl⟩) ha hb hm
/-- sign by sign -/
theorem pif_txt {m : Option Str} (h : PX X e Γ m) : PIF X tg e Γ (signs m) := pif_of (pi_str pe_w) fun F σ H Z en xs hx R q => by
  obtain ⟨z, hz, rfl⟩ := Option.map_eq_some_iff.mp hx
  refine h.run F σ H Z en z hz _ fun H1 Z1 v s r => ⟨z, r, q _ H1 Z1 s fun H2 Z2 hp zh i => ?_⟩
  have el : (z.cps.toList.map Sg.mk).length = z.cps.size := by rw [List.length_map, Array.length_toList]
  refine ⟨fun hi => by rw [el] at hi; exact hi, fun hi => by rw [el] at hi; exact hi, fun v H' x y hx => ?_⟩
  obtain ⟨rfl, c, hc, rfl⟩ := y
  rw [List.getElem?_map, Array.getElem?_toList, hc] at hx
  cases hx
  exact ⟨Z2, Step.refl zh, rfl⟩
theorem inV_non {K : Fg} {Z : Hp} : ∀ {vs : List V} {xs : List (Option Int)}, All2 (Enc.rel K Z) vs xs → vs.all flatV = true ∧ inV .non vs = xs.any fun x => x.isNone
  | [], [], _ => ⟨rfl, rfl⟩
  | v :: vs, none :: xs, ⟨r, h⟩ => by
    obtain ⟨h1, h2⟩ := inV_non h
    rw [show v = V.non from r]
    exact ⟨by rw [List.all_cons, h1]; rfl, rfl⟩
  | v :: vs, some i :: xs, ⟨r, h⟩ => by
    obtain ⟨h1, h2⟩ := inV_non h
    rw [show v = V.int i from r.2]
    exact ⟨by rw [List.all_cons, h1]; rfl, h2⟩
  | [], _ :: _, h => h.elim
  | _ :: _, [], h => h.elim
theorem ptx_noneIn {j} {m : Option (List (Option Int))} (hb : PL X b Γ m) (hm : behindInMarks .In b = false := by rfl) : PTX X (.Compare (.Constant .none j p) [.In] [b] pos) Γ (oNoneIn m) := ptx_of (pt_cmpR op_in_seq pe_non pe_w hm) fun F σ H Z en x hx Q q => by
  obtain ⟨xs, hj, hx⟩ := Option.bind_eq_some_iff.mp hx
  cases hx
  refine hb.run F σ H Z en xs hj _ fun H1 Z1 l vs s1 hl r1 => ?_
  obtain ⟨h1, h2⟩ := inV_non r1
  exact ⟨l, vs, rfl, .inl (SqL.of hl), rfl, h1, _, rfl, by rw [show (if false = true then !inV V.non vs else inV V.non vs) = inV V.non vs from rfl, h2]; exact q H1 Z1 s1⟩
def oTup2 {α : Type} (m : Option (List α)) : Option (P2 α α) := m.bind fun xs => match xs with
  | [x, y] => some ⟨x, y⟩
  | _ => none
def oTup3 {α : Type} (m : Option (List α)) : Option (P3 α α α) := m.bind fun xs => match xs with
  | [x, y, z] => some ⟨x, y, z⟩
  | _ => none
theorem px_tup2 {m : Option (List α)} (hm : X.mg "tuple" = none) (ha : PL X a Γ m) (hg : Gl X "tuple" := by rfl) (hs : starEach [a] X.env = [(false, eval a X.env)] := by rfl) : PX X (.Call (.Name "tuple" p) [a] [] pos) Γ (oTup2 m) :=
  px_of (pe_callTy call_tuple_of hg hm (by decide +kernel) (pa_cons pe_w pa_nil (by rw [hs]; rfl)) (he := by rw [hs]; rfl) (hpl := rfl)) fun F σ H Z en x hx Q q => by
    obtain ⟨xs, h1, hx⟩ := Option.bind_eq_some_iff.mp hx
    match xs, h1, hx with
    | [y1, y2], h1, hx =>
      cases hx
      refine ha.run F σ H Z en _ h1 _ fun H1 Z1 l vs s1 hl r1 => ?_
      match vs, r1, hl with
      | [v1, v2], ⟨q1, q2, _⟩, hl =>
        refine ⟨l, _, rfl, .inl ⟨SqL.of hl, fun p hp => ?_⟩⟩
        have s2 := Step.new (o := .tup [v1, v2]) s1.zh hp
        exact q _ _ _ (s1.trans s2) ⟨p, v1, v2, rfl, upd_same, Enc.mono s2.zz q1, Enc.mono s2.zz q2⟩
theorem px_tup3 {m : Option (List α)} (hm : X.mg "tuple" = none) (ha : PL X a Γ m) (hg : Gl X "tuple" := by rfl) (hs : starEach [a] X.env = [(false, eval a X.env)] := by rfl) : PX X (.Call (.Name "tuple" p) [a] [] pos) Γ (oTup3 m) :=
  px_of (pe_callTy call_tuple_of hg hm (by decide +kernel) (pa_cons pe_w pa_nil (by rw [hs]; rfl)) (he := by rw [hs]; rfl) (hpl := rfl)) fun F σ H Z en x hx Q q => by
    obtain ⟨xs, h1, hx⟩ := Option.bind_eq_some_iff.mp hx
    match xs, h1, hx with
    | [y1, y2, y3], h1, hx =>
      cases hx
      refine ha.run F σ H Z en _ h1 _ fun H1 Z1 l vs s1 hl r1 => ?_
      match vs, r1, hl with
      | [v1, v2, v3], ⟨q1, q2, q3, _⟩, hl =>
        refine ⟨l, _, rfl, .inl ⟨SqL.of hl, fun p hp => ?_⟩⟩
        have s2 := Step.new (o := .tup [v1, v2, v3]) s1.zh hp
        exact q _ _ _ (s1.trans s2) ⟨p, v1, v2, v3, rfl, upd_same, Enc.mono s2.zz q1, Enc.mono s2.zz q2, Enc.mono s2.zz q3⟩
/-- all of them are there -/
def oAll2 {α β : Type} (m : Option (P2 (Option α) (Option β))) : Option (P2 α β) := m.bind fun x => x.a.bind fun a => x.b.bind fun b => some ⟨a, b⟩
def oAll3 {α : Type} (m : Option (P3 (Option α) (Option α) (Option α))) : Option (P3 α α α) := m.bind fun x => x.a.bind fun a => x.b.bind fun b => x.c.bind fun c => some ⟨a, b, c⟩
theorem px_all2 {m : Option (P2 (Option α) (Option β))} (h : PX X e Γ m) : PX X e Γ (oAll2 m) := .mk fun F σ H Z en x hx Q q => by
  obtain ⟨y, hy, hx⟩ := Option.bind_eq_some_iff.mp hx
  obtain ⟨a1, h1, hx⟩ := Option.bind_eq_some_iff.mp hx
  obtain ⟨a2, h2, hx⟩ := Option.bind_eq_some_iff.mp hx
  cases hx
  obtain ⟨ya, yb⟩ := y
  subst h1 h2
  exact h.run F σ H Z en _ hy Q fun H' Z' v s ⟨p, v1, v2, e1, hz, r1, r2⟩ => q H' Z' v s ⟨p, v1, v2, e1, hz, r1.2, r2.2⟩
theorem px_all3 {m : Option (P3 (Option α) (Option α) (Option α))} (h : PX X e Γ m) : PX X e Γ (oAll3 m) := .mk fun F σ H Z en x hx Q q => by
  obtain ⟨y, hy, hx⟩ := Option.bind_eq_some_iff.mp hx
  obtain ⟨a1, h1, hx⟩ := Option.bind_eq_some_iff.mp hx
  obtain ⟨a2, h2, hx⟩ := Option.bind_eq_some_iff.mp hx
  obtain ⟨a3, h3, hx⟩ := Option.bind_eq_some_iff.mp hx
  cases hx
  obtain ⟨ya, yb, yc⟩ := y
  subst h1 h2 h3
  exact h.run F σ H Z en _ hy Q fun H' Z' v s ⟨p, v1, v2, v3, e1, hz, r1, r2, r3⟩ => q H' Z' v s ⟨p, v1, v2, v3, e1, hz, r1.2, r2.2, r3.2⟩
end
end G
/-! GZpt: zip of tuples; still things of one of two kinds, by the kind. -/
namespace G
open PySem L2
/-- a tuple as the list of its items -/
structure AsT (τ γ : Type) [Enc τ] [Enc γ] (f : τ → List γ) : Prop where
  at_ : ∀ {K : Fg} {Z : Hp} {v : V} {x : τ}, Enc.rel K Z v x → ∃ (p : Addr) (vs : List V), v = .ref p ∧ Z p = some (.tup vs) ∧ All2 (Enc.rel K Z) vs (f x)
section
variable {α β γ : Type} [Enc α] [Enc β] [Enc γ]
theorem ast_2 : AsT (P2 α α) α (fun x => [x.a, x.b]) := ⟨fun ⟨p, v1, v2, e, h, r1, r2⟩ => ⟨p, [v1, v2], e, h, r1, r2, trivial⟩⟩
theorem ast_3 : AsT (P3 α α α) α (fun x => [x.a, x.b, x.c]) := ⟨fun ⟨p, v1, v2, v3, e, h, r1, r2, r3⟩ => ⟨p, [v1, v2, v3], e, h, r1, r2, r3, trivial⟩⟩
theorem ast_31 : AsT (P4 α α α β) (α ⊕ β) (fun x => [.inl x.a, .inl x.b, .inl x.c, .inr x.d]) := ⟨fun ⟨p, v1, v2, v3, v4, e, h, r1, r2, r3, r4⟩ => ⟨p, [v1, v2, v3, v4], e, h, r1, r2, r3, r4, trivial⟩⟩
def oZipT {τ υ γ δ : Type} (f : τ → List γ) (g : υ → List δ) (m1 : Option τ) (m2 : Option υ) : Option (List (P2 γ δ)) := m1.bind fun x => m2.map fun y => zipL (f x) (g y)
def TupZ (K : Fg) (P : Hp → Hp → Prop) (l : Addr) (xs : List α) : Prop := ∀ (H Z : Hp), P H Z → Same Z H → ∃ vs, H l = some (.tup vs) ∧ All2 (Enc.rel K Z) vs xs
theorem src_zipT {K : Fg} {P : Hp → Hp → Prop} {l l2 : Addr} {xs : List α} {ys : List β} (h : TupZ K P l xs) (h2 : TupZ K P l2 ys) : Src K (RZ.ItzT K l l2) P (zipL xs ys) := fun H Z hp zh i => by
  obtain ⟨vs, hl, r⟩ := h H Z hp zh
  obtain ⟨us, hl2, r2⟩ := h2 H Z hp zh
  have e := r.len
  have e2 := r2.len
  have e3 : (zipL xs ys).length = min xs.length ys.length := by unfold zipL; rw [List.length_zipWith]
  refine ⟨fun hi => ⟨vs, us, vs[i]'(by omega), us[i]'(by omega), SqT.of hl, SqT.of hl2, by simp, by simp⟩, fun hi => ⟨vs, us, SqT.of hl, SqT.of hl2, by omega⟩, fun v H' x y hx => ?_⟩
  obtain ⟨T, x1, y1, rfl, hT, rfl, y, y2⟩ := y
  unfold zipL at hx
  rw [List.getElem?_zipWith] at hx
  cases hx1 : xs[i]? with
  | none => rw [hx1] at hx; cases hx
  | some a =>
    cases hy1 : ys[i]? with
    | none => rw [hx1, hy1] at hx; cases hx
    | some b =>
      rw [hx1, hy1] at hx
      cases hx
      obtain ⟨v', h3, r1⟩ := r.get' hx1
      obtain ⟨v2', h4, r3⟩ := r2.get' hy1
      have h5 := y vs (SqT.of hl)
      have h6 := y2 us (SqT.of hl2)
      rw [h3] at h5
      rw [h4] at h6
      obtain rfl : v' = x1 := Option.some.inj h5
      obtain rfl : v2' = y1 := Option.some.inj h6
      have st := Step.new (o := .tup [v', v2']) zh hT
      exact ⟨_, st, T, _, _, rfl, upd_same, Enc.mono st.zz r1, Enc.mono st.zz r3⟩
end
section
variable {X : Cx} {Γ : List Ent} {a b : Expr} {elts : List Expr} {kk : Nat} {pos p tpos : Pos} {τ υ γ δ : Type} [Enc τ] [Enc υ] [Enc γ] [Enc δ]
theorem pif_zipT {f : τ → List γ} {g : υ → List δ} {m : Option τ} {m2 : Option υ} (hf : AsT τ γ f) (hg2 : AsT υ δ g) (hm : X.mg "zip" = none) (ha : PX X a Γ m) (hb : PX X b Γ m2) (hg : Gl X "zip" := by rfl)
    (hs : starEach [a, b] X.env = (false, eval a X.env) :: starEach [b] X.env := by rfl) (hs2 : starEach [b] X.env = (false, eval b X.env) :: starEach [] X.env := by rfl) (hpl : (backTo pos (starEach [b] X.env)).any (·.1) = false := by rfl) :
    PIF X (.Tuple elts kk tpos) (.Call (.Name "zip" p) [a, b] [] pos) Γ (oZipT f g m m2) := pif_of (RZ.pi_zipA hg hm (pa_cons pe_w (pa_cons pe_w pa_nil hs2) hs) hs hpl) fun F σ H Z en xs hx R q => by
    obtain ⟨y, hy, hx⟩ := Option.bind_eq_some_iff.mp hx
    obtain ⟨z, hz, rfl⟩ := Option.map_eq_some_iff.mp hx
    refine ha.run F σ H Z en y hy _ fun H1 Z1 v s r => ?_
    refine hb.run F σ H1 Z1 (en.step s) z hz _ fun H2 Z2 v2 s2 r2 => ?_
    obtain ⟨l, vs, e1, hl, q1⟩ := hf.at_ (Enc.mono s2.zz r)
    obtain ⟨l2, us, e2, hl2, q2⟩ := hg2.at_ r2
    subst e1 e2
    exact ⟨l, l2, vs, us, rfl, .inr ⟨SqT.of (s2.zh _ _ hl), SqT.of (s2.zh _ _ hl2), q _ H2 Z2 (s.trans s2) (src_zipT (fun H Z hp zh => ⟨vs, zh _ _ (hp _ _ hl), all2_mono hp q1⟩) (fun H Z hp zh => ⟨us, zh _ _ (hp _ _ hl2), all2_mono hp q2⟩))⟩⟩
end
section
variable {X : Cx} {W : WX} {ER : ExS} {rest : List Stmt} {Γ : List Ent} {α β : Type} [Enc α] [Enc β] {N L R : Type} [Res R] {GN : N → List Ent} {GL : L → List Ent} {o : Fl N L R}
/-- by the kind -/
theorem bx_caseF (i : Nat) {x : α ⊕ β} {f : α → Option (Fl N L R)} {g : β → Option (Fl N L R)} (h : caseS x f g = some o) (h1 : ∀ a, f a = some o → BX X W ER rest (Γ.set i (.fz a)) GN GL o) (h2 : ∀ b, g b = some o → BX X W ER rest (Γ.set i (.fz b)) GN GL o) (hi : Γ[i]? = some (.fz x) := by rfl) : BX X W ER rest Γ GN GL o := by
  cases x with
  | inl a => exact .mk fun F D ac σ H Z en => (h1 a h).run F D ac σ H Z (en.swap hi fun _ _ q => q)
  | inr b => exact .mk fun F D ac σ H Z en => (h2 b h).run F D ac σ H Z (en.swap hi fun _ _ q => q)
end
end G
/-! ## the law k77: mirrors, printed by gen.py -/
namespace G
open PySem L2
def m_shown_lines (v_some : (List (P2 Int Int))) : Option Str := retOf (N := Unit) (L := Unit) (R := Str)
  ((oJoinT (some (PySem.Str.ofString "\n")) (oComp (some v_some) (fun (v_c_1 : (P2 Int Int)) => (some true)) (fun (v_c_1 : (P2 Int Int)) => (oJoinT (some (PySem.Str.ofString " ")) (oComp ((some v_c_1).map fun x => [x.a, x.b]) (fun (v_c_2 : Int) => (some true)) (fun (v_c_2 : Int) => (oStrI (some v_c_2)))))))).bind fun r => some (.rt r))
def m_number_told (v_word : Str) : Option (Option Int) := retOf (N := Unit) (L := Unit) (R := (Option Int))
  ((some v_word).bind fun (v_figures_1 : Str) => (thenFl (J := Str) ((oEq (oCutT (some v_word) (some none) ((some (1 : Int)).map some)) (some (PySem.Str.ofString "-"))).bind fun b => if b = true then ((oCutT (some v_word) ((some (1 : Int)).map some) (some none)).bind fun (v_figures_3 : Str) => (some (.nx (v_figures_3)))) else (some (.nx (v_figures_1)))) (fun v_j_2 => (thenFl (J := Unit) ((oOr (oLt (oLenT (some v_j_2)) (some (1 : Int))) (oOr (oGt (oLenT (some v_j_2)) (some (60 : Int))) (oAnd (oEq (oIxT (some v_j_2) (some (0 : Int))) (some (PySem.Str.ofString "0"))) (oNe (some v_word) (some (PySem.Str.ofString "0")))))).bind fun b => if b = true then ((some (none : (Option Int))).bind fun r => some (.rt r)) else (some (.nx ()))) (fun v_j_4 => ((signs (some v_j_2)).bind fun xs => thenFl (J := Unit) (forM xs (fun (v_s_5 : Unit) (v_x_6 : Sg) => (thenFl (J := Unit) ((oNotInT (some v_x_6) (some (PySem.Str.ofString "0123456789"))).bind fun b => if b = true then ((some (none : (Option Int))).bind fun r => some (.rt r)) else (some (.nx ()))) (fun v_j_7 => (some (.nx ()))))) ()) (fun v_s_5 => (((oIntT (some v_word)).map some).bind fun r => some (.rt r)))))))))
def m_Lmix (v_cell_here : Int) (v_k : Int) : Option Int := retOf (N := Unit) (L := Unit) (R := Int)
  ((oMod (oMul (oAdd (some v_cell_here) (some (1 : Int))) (oAdd (some (48271 : Int)) (oMul (some (118 : Int)) (some v_k)))) (some (2147483629 : Int))).bind fun (v_first_1 : Int) => ((oMod (oAdd (oAdd (oMul (oDiv (some v_first_1) (some (977 : Int))) (some (16807 : Int))) (oMul (some v_first_1) (oAdd (oMul (some v_k) (some v_k)) (some (7 : Int))))) (some v_k)) (some (2147483587 : Int))).bind fun r => some (.rt r)))
def m_Lwritten (v_number_here : Int) : Option Str := retOf (N := Unit) (L := Unit) (R := Str)
  ((some (PySem.Str.ofString "0123456789")).bind fun (v_figures_1 : Str) => ((oMax (some v_number_here) (oSub (some (0 : Int)) (some v_number_here))).bind fun (v_rest_2 : Int) => ((oIxT (some v_figures_1) (oMod (some v_rest_2) (some (10 : Int)))).bind fun (v_found_3 : Str) => (thenFl (J := Int × Str) (whileM (v_rest_2.toNat + 1) (fun (v_s_4 : Int × Str) => (oGt (some v_s_4.1) (some (9 : Int)))) (fun (v_s_4 : Int × Str) => ((oDiv (some v_s_4.1) (some (10 : Int))).bind fun (v_rest_5 : Int) => ((oCatT (oIxT (some v_figures_1) (oMod (some v_rest_5) (some (10 : Int)))) (some v_s_4.2)).bind fun (v_found_6 : Str) => (some (.nx (v_rest_5, v_found_6)))))) (v_rest_2, v_found_3)) (fun v_s_4 => ((oCatT (oMulT (some (PySem.Str.ofString "-")) ((oLt (some v_number_here) (some (0 : Int))).map fun b => if b then (1 : Int) else 0)) (some v_s_4.2)).bind fun r => some (.rt r)))))))
def m_shown_row (v_row : (List (P2 Int Int))) : Option Str := retOf (N := Unit) (L := Unit) (R := Str)
  (((oPair (some v_row) (some ())).bind (fun (y : (List (P2 Int Int)) × Unit) => m_shown_lines y.1)).bind fun r => some (.rt r))
def m_numbers_told (v_text : Str) (v_many : Int) : Option (Nw (List (P2 Int Int))) := retOf (N := Unit) (L := Unit) (R := (Nw (List (P2 Int Int))))
  ((some ([] : List (P2 Int Int))).bind fun (v_found_1 : (List (P2 Int Int))) => ((oEnum (oSplit (some v_text) (some (PySem.Str.ofString "\n")))).bind fun xs => thenFl (J := (List (P2 Int Int))) (forM xs (fun (v_s_2 : (List (P2 Int Int))) (v_x_3 : (P2 Int Str)) => ((oComp (oSplit (some v_x_3.b) (some (PySem.Str.ofString " "))) (fun (v_c_4 : Str) => (some true)) (fun (v_c_4 : Str) => ((oPair (some v_c_4) (some ())).bind (fun (y : Str × Unit) => m_number_told y.1)))).bind fun (v_numbers_5 : (List (Option Int))) => (thenFl (J := Unit) ((oOr (oNe (oLen (some v_numbers_5)) (some v_many)) (oNoneIn (some v_numbers_5))).bind fun b => if b = true then none else (some (.nx ()))) (fun v_j_6 => ((oApp v_s_2 (oAll2 (oTup2 (some v_numbers_5)))).bind fun (v_w_7 : (List (P2 Int Int))) => (some (.nx (v_w_7)))))))) (v_found_1)) (fun v_s_2 => ((some v_s_2).bind fun r => some (.rt ⟨r⟩)))))
def m_Lcell (v_script : Scr) (v_k : Int) : Option Int := retOf (N := Unit) (L := Unit) (R := Int)
  ((some (0 : Int)).bind fun (v_cell_here_1 : Int) => (thenFl (J := Int) ((oLt (some v_k) (oLenS (some v_script))).bind fun b => if b = true then ((oMod (oIxS (some v_script) (some v_k)) (some (2147483647 : Int))).bind fun (v_cell_here_3 : Int) => (some (.nx (v_cell_here_3)))) else (some (.nx (v_cell_here_1)))) (fun v_j_2 => (((oPair (some v_j_2) (oPair (oAdd (some v_k) (some (101 : Int))) (some ()))).bind (fun (y : Int × Int × Unit) => m_Lmix y.1 y.2.1)).bind fun r => some (.rt r)))))
def m_Lnumber (v_cell_here : Int) : Option Int := retOf (N := Unit) (L := Unit) (R := Int)
  ((oAdd (some (1 : Int)) (oMod (oDiv (some v_cell_here) (some (8 : Int))) (some (60 : Int)))).bind fun (v_size_1 : Int) => ((oAdd (some (1 : Int)) (oMod ((oPair (some v_cell_here) (oPair (some (1 : Int)) (some ()))).bind (fun (y : Int × Int × Unit) => m_Lmix y.1 y.2.1)) (some (9 : Int)))).bind fun (v_number_here_2 : Int) => ((oRng1 (oSub (some v_size_1) (some (1 : Int)))).bind fun xs => thenFl (J := Int) (forM xs (fun (v_s_3 : Int) (v_x_4 : Int) => ((oAdd (oMul (some v_s_3) (some (10 : Int))) (oMod ((oPair (some v_cell_here) (oPair (oAdd (some (2 : Int)) (some v_x_4)) (some ()))).bind (fun (y : Int × Int × Unit) => m_Lmix y.1 y.2.1)) (some (10 : Int)))).bind fun (v_number_here_5 : Int) => (some (.nx (v_number_here_5))))) (v_number_here_2)) (fun v_s_3 => ((oIx (oCons (some (0 : Int)) (oCons (some (1 : Int)) (oCons (oMod (oDiv (some v_cell_here) (some (8 : Int))) (some (100 : Int))) (oCons (oSub (oSub (some (0 : Int)) (some (1 : Int))) (oMod (oDiv (some v_cell_here) (some (8 : Int))) (some (100 : Int)))) (oCons (some v_s_3) (oCons (oSub (some (0 : Int)) (some v_s_3)) (oCons (oSub (oPow (some (10 : Int)) (some (60 : Int))) (some (1 : Int))) (oCons (oSub (some (1 : Int)) (oPow (some (10 : Int)) (some (60 : Int)))) (some ([] : List Int)))))))))) (oMod (some v_cell_here) (some (8 : Int)))).bind fun r => some (.rt r))))))
def m_read_row (v_text : Str) : Option (Nw (List (P2 Int Int))) := retOf (N := Unit) (L := Unit) (R := (Nw (List (P2 Int Int))))
  (thenFl (J := Unit) ((oEq (some v_text) (some (PySem.Str.ofString ""))).bind fun b => if b = true then ((some ([] : List (P2 Int Int))).bind fun r => some (.rt ⟨r⟩)) else (some (.nx ()))) (fun v_j_1 => ((((oPair (some v_text) (oPair (some (2 : Int)) (some ()))).bind (fun (y : Str × Int × Unit) => m_numbers_told y.1 y.2.1)).map Nw.val).bind fun r => some (.rt ⟨r⟩))))
def m_Lrow (v_script : Scr) : Option (Nw (List (P2 Int Int))) := retOf (N := Unit) (L := Unit) (R := (Nw (List (P2 Int Int))))
  ((some ([] : List (P2 Int Int))).bind fun (v_row_here_1 : (List (P2 Int Int))) => ((oRng2 (some (2 : Int)) (oMin (oLenS (some v_script)) (some (42 : Int)))).bind fun xs => thenFl (J := (List (P2 Int Int))) (forM xs (fun (v_s_2 : (List (P2 Int Int))) (v_x_3 : Int) => (((oPair ((oPair (some v_script) (oPair (some v_x_3) (some ()))).bind (fun (y : Scr × Int × Unit) => m_Lcell y.1 y.2.1)) (oPair (some v_x_3) (some ()))).bind (fun (y : Int × Int × Unit) => m_Lmix y.1 y.2.1)).bind fun (v_cell_here_4 : Int) => ((oIx (oCons (some (1 : Int)) (oCons (oAdd (some (1 : Int)) (oMod (oDiv (some v_cell_here_4) (some (4 : Int))) (some (1000 : Int)))) (oCons (oPow (some (10 : Int)) (some (9 : Int))) (oCons ((oPair ((oPair (some v_cell_here_4) (oPair (some (2 : Int)) (some ()))).bind (fun (y : Int × Int × Unit) => m_Lmix y.1 y.2.1)) (some ())).bind (fun (y : Int × Unit) => m_Lnumber y.1)) (some ([] : List Int)))))) (oMod (some v_cell_here_4) (some (4 : Int)))).bind fun (v_times_5 : Int) => ((oApp v_s_2 (oP2 ((oPair ((oPair (some v_cell_here_4) (oPair (some (3 : Int)) (some ()))).bind (fun (y : Int × Int × Unit) => m_Lmix y.1 y.2.1)) (some ())).bind (fun (y : Int × Unit) => m_Lnumber y.1)) (some v_times_5))).bind fun (v_w_6 : (List (P2 Int Int))) => (some (.nx (v_w_6))))))) (v_row_here_1)) (fun v_s_2 => ((some v_s_2).bind fun r => some (.rt ⟨r⟩)))))
def m_Lasked (v_row_here : (List (P2 Int Int))) : Option Bool := retOf (N := Unit) (L := Unit) (R := Bool)
  ((some v_row_here).bind fun (v_handed_1 : (List (P2 Int Int))) => (((oPair (some v_handed_1) (some ())).bind (fun (y : (List (P2 Int Int)) × Unit) => m_shown_row y.1)).bind fun (v_text_2 : Str) => ((oJoinT (some (PySem.Str.ofString "\n")) (oComp (some v_row_here) (fun (v_c_3 : (P2 Int Int)) => (some true)) (fun (v_c_3 : (P2 Int Int)) => (oCatT (oCatT ((oPair (some v_c_3.a) (some ())).bind (fun (y : Int × Unit) => m_Lwritten y.1)) (some (PySem.Str.ofString " "))) ((oPair (some v_c_3.b) (some ())).bind (fun (y : Int × Unit) => m_Lwritten y.1)))))).bind fun (v_due_4 : Str) => (thenFl (J := Unit) ((oOr (oNot ((some v_text_2).map fun _ => true)) (oOr (oNe (some v_text_2) (some v_due_4)) (oNe (some v_handed_1) (some v_row_here)))).bind fun b => if b = true then ((some false).bind fun r => some (.rt r)) else (some (.nx ()))) (fun v_j_5 => ((((oPair (some v_text_2) (some ())).bind (fun (y : Str × Unit) => m_read_row y.1)).map Nw.val).bind fun (v_found_6 : (List (P2 Int Int))) => (thenFl (J := Unit) ((oOr (oNot ((some v_found_6).map fun _ => true)) (oNe (some v_found_6) (some v_row_here))).bind fun b => if b = true then ((some false).bind fun r => some (.rt r)) else (some (.nx ()))) (fun v_j_7 => ((some v_found_6).bind fun xs => thenFl (J := Unit) (forM xs (fun (v_s_8 : Unit) (v_x_9 : (P2 Int Int)) => (thenFl (J := Unit) ((oOr (oNot ((some v_x_9).map fun _ => true)) (oOr (((some v_x_9).map P2.a).map fun _ => false) (((some v_x_9).map P2.b).map fun _ => false))).bind fun b => if b = true then ((some false).bind fun r => some (.rt r)) else (some (.nx ()))) (fun v_j_10 => (some (.nx ()))))) ()) (fun v_s_8 => ((oApp v_found_6 (oP2 (some (0 : Int)) (some (1 : Int)))).bind fun (v_w_11 : (List (P2 Int Int))) => ((some true).bind fun r => some (.rt r)))))))))))))
def m_law (v_script : Scr) : Option Bool := retOf (N := Unit) (L := Unit) (R := Bool)
  ((((oPair (some v_script) (some ())).bind (fun (y : Scr × Unit) => m_Lrow y.1)).map Nw.val).bind fun (v_row_here_1 : (List (P2 Int Int))) => ((oCut (some v_row_here_1) (some none) ((oMod ((oPair (some v_script) (oPair (some (0 : Int)) (some ()))).bind (fun (y : Scr × Int × Unit) => m_Lcell y.1 y.2.1)) (some (3 : Int))).map some)).bind fun (v_some_2 : (List (P2 Int Int))) => ((oAnd ((oPair (some v_row_here_1) (some ())).bind (fun (y : (List (P2 Int Int)) × Unit) => m_Lasked y.1)) (oAnd ((oPair (some ([] : List (P2 Int Int))) (some ())).bind (fun (y : (List (P2 Int Int)) × Unit) => m_Lasked y.1)) (oAnd ((oPair (some v_some_2) (some ())).bind (fun (y : (List (P2 Int Int)) × Unit) => m_Lasked y.1)) ((oPair (some v_row_here_1) (some ())).bind (fun (y : (List (P2 Int Int)) × Unit) => m_Lasked y.1))))).bind fun r => some (.rt r))))
end G
namespace G
open PySem L2
theorem oMul_s {i j : Int} (h : -4611686018427387904 ≤ i ∧ i ≤ 4611686018427387904) (h2 : -4611686018427387904 ≤ j ∧ j ≤ 4611686018427387904) : oMul (some i) (some j) = some (i * j) := oMul_ok (big62 h.1 h.2) (big62 h2.1 h2.2)
theorem oDiv_s {i j : Int} (h : 0 < j ∧ j ≤ 4611686018427387904) : oDiv (some i) (some j) = some (i / j) := oDiv_ok h.1 (big62 (by omega) h.2)
/-- a join: what comes before leaves one of P -/
theorem thenFl_P {N J L R : Type} {m : Option (Fl J L R)} {k : J → Option (Fl N L R)} (P : J → Prop) (Q : Option (Fl N L R) → Prop) (h : ∃ j, m = some (.nx j) ∧ P j) (hk : ∀ j, P j → Q (k j)) : Q (thenFl m k) := by
  obtain ⟨j, e, hp⟩ := h
  rw [e]
  exact hk j hp
theorem thenFl_E {N J L R : Type} {m : Option (Fl J L R)} {k : J → Option (Fl N L R)} {Q : N → Prop} (P : J → Prop) (h : ∃ j, m = some (.nx j) ∧ P j) (hk : ∀ j, P j → ∃ s, k j = some (.nx s) ∧ Q s) : ∃ s, thenFl m k = some (.nx s) ∧ Q s := by
  obtain ⟨j, e, hp⟩ := h
  rw [e]
  exact hk j hp
/-! ### the law's draws: mix, cell -/
def mixF (c k : Int) : Int := (c + 1) * (48271 + 118 * k) % 2147483629
def mixZ (c k : Int) : Int := (mixF c k / 977 * 16807 + mixF c k * (k * k + 7) + k) % 2147483587
/-- a draw -/
def Dr (z : Int) : Prop := 0 ≤ z ∧ z < 2147483647
theorem mixZ_dr (c k : Int) : Dr (mixZ c k) := by
  have h1 := Int.emod_nonneg (mixF c k / 977 * 16807 + mixF c k * (k * k + 7) + k) (show (2147483587 : Int) ≠ 0 by decide)
  have h2 := Int.emod_lt_of_pos (mixF c k / 977 * 16807 + mixF c k * (k * k + 7) + k) (show (0 : Int) < 2147483587 by decide)
  unfold mixZ Dr
  omega
theorem sq_lt {k : Int} (h : 0 ≤ k ∧ k < 1000000) : 0 ≤ k * k ∧ k * k < 1000000000000 := by
  refine ⟨Int.mul_nonneg h.1 h.1, ?_⟩
  have : k * k ≤ 999999 * 999999 := Int.mul_le_mul (by omega) (by omega) h.1 (by decide)
  omega
theorem mix_ok2 {c k : Int} (hc : 0 ≤ c ∧ c < 3000000000) (hk : 0 ≤ k ∧ k < 1000000) : m_Lmix c k = some (mixZ c k) := by
  obtain ⟨c0, c1⟩ := hc
  obtain ⟨k0, k1⟩ := hk
  have hf0 := Int.emod_nonneg ((c + 1) * (48271 + 118 * k)) (show (2147483629 : Int) ≠ 0 by decide)
  have hf1 := Int.emod_lt_of_pos ((c + 1) * (48271 + 118 * k)) (show (0 : Int) < 2147483629 by decide)
  obtain ⟨s0, s1⟩ := sq_lt ⟨k0, k1⟩
  have e1 : oMul (some (118 : Int)) (some k) = some (118 * k) := oMul_ok (big62 (by omega) (by omega)) (big62 (by omega) (by omega))
  have e2 : oMul (some (c + 1)) (some (48271 + 118 * k)) = some ((c + 1) * (48271 + 118 * k)) := oMul_ok (big62 (by omega) (by omega)) (big62 (by omega) (by omega))
  have e3 : oDiv (some (mixF c k)) (some (977 : Int)) = some (mixF c k / 977) := oDiv_ok (by decide) (big62 (by omega) (by omega))
  have hf : 0 ≤ mixF c k ∧ mixF c k < 2147483629 := ⟨hf0, hf1⟩
  have e4 : oMul (some (mixF c k / 977)) (some (16807 : Int)) = some (mixF c k / 977 * 16807) := oMul_ok (big62 (by omega) (by omega)) (big62 (by omega) (by omega))
  have e5 : oMul (some k) (some k) = some (k * k) := oMul_ok (big62 (by omega) (by omega)) (big62 (by omega) (by omega))
  have e6 : oMul (some (mixF c k)) (some (k * k + 7)) = some (mixF c k * (k * k + 7)) := oMul_ok (big62 (by omega) (by omega)) (big62 (by omega) (by omega))
  have e7 : oMod (some ((c + 1) * (48271 + 118 * k))) (some 2147483629) = some (mixF c k) := oMod_ok (by decide)
  unfold m_Lmix
  rw [oAdd_ok, e1, oAdd_ok, e2, e7]
  show retOf (Option.bind (oMod (oAdd (oAdd (oMul (oDiv (some (mixF c k)) (some (977 : Int))) (some (16807 : Int))) (oMul (some (mixF c k)) (oAdd (oMul (some k) (some k)) (some (7 : Int))))) (some k)) (some (2147483587 : Int))) _) = _
  rw [e3, e4, e5, oAdd_ok, e6, oAdd_ok, oAdd_ok, oMod_ok (by decide)]
  rfl
theorem mix_ok {c k : Int} (hc : Dr c) (hk : 0 ≤ k ∧ k < 1000000) : m_Lmix c k = some (mixZ c k) := mix_ok2 ⟨hc.1, by have := hc.2; omega⟩ hk
def cellZ (s : List Int) (k : Int) : Int := mixZ (if k < s.length then s.getD k.toNat 0 % 2147483647 else 0) (k + 101)
theorem cellZ_dr (s : List Int) (k : Int) : Dr (cellZ s k) := mixZ_dr _ _
theorem cell_ok {s : List Int} {k : Int} (hk : 0 ≤ k ∧ k < 900000) : m_Lcell ⟨s⟩ k = some (cellZ s k) := by
  unfold m_Lcell cellZ
  rw [oLenS_ok, oLt_ok]
  by_cases c : k < s.length
  · have hm := Int.emod_nonneg (s[k.toNat]'(by omega)) (show (2147483647 : Int) ≠ 0 by decide)
    have hm2 := Int.emod_lt_of_pos (s[k.toNat]'(by omega)) (show (0 : Int) < 2147483647 by decide)
    have e : s.getD k.toNat 0 = s[k.toNat]'(by omega) := by
      rw [List.getD_eq_getElem?_getD, List.getElem?_eq_getElem (by omega)]; rfl
    rw [oIxS_ok (s := ⟨s⟩) hk.1 c, oMod_ok (by decide), decide_eq_true c, if_pos c, e]
    show retOf (Option.bind (Option.bind (oPair (some (s[k.toNat]'(by omega) % 2147483647)) (oPair (oAdd (some k) (some (101 : Int))) (some ()))) _) _) = _
    rw [oAdd_ok, oPair_ok, oPair_ok]
    show retOf (Option.bind (m_Lmix (s[k.toNat]'(by omega) % 2147483647) (k + 101)) _) = _
    rw [mix_ok ⟨hm, hm2⟩ ⟨by omega, by omega⟩]
    rfl
  · rw [decide_eq_false c, if_neg c]
    show retOf (Option.bind (Option.bind (oPair (some (0 : Int)) (oPair (oAdd (some k) (some (101 : Int))) (some ()))) _) _) = _
    rw [oAdd_ok, oPair_ok, oPair_ok]
    show retOf (Option.bind (m_Lmix 0 (k + 101)) _) = _
    rw [mix_ok ⟨by decide, by decide⟩ ⟨by omega, by omega⟩]
    rfl
/-! ### a loop that looks for the first -/
def findF {ι S : Type} (g : S → ι → S) (e : S → ι → Bool) : S → List ι → Option (S × ι)
  | _, [] => none
  | s, x :: xs => if e s x = true then some (s, x) else findF g e (g s x) xs
theorem find_rt {ι S L R : Type} {f : S → ι → Option (Fl S S R)} (g : S → ι → S) (e : S → ι → Bool) (r : S → ι → R) : ∀ (xs : List ι) (s : S), (∀ s x, x ∈ xs → f s x = if e s x = true then some (.rt (r s x)) else some (.nx (g s x))) →
    forM (L := L) xs f s = match findF g e s xs with | some z => some (.rt (r z.1 z.2)) | none => some (.nx (xs.foldl g s))
  | [], s, h => rfl
  | x :: xs, s, h => by
    have h1 := h s x List.mem_cons_self
    cases c : e s x with
    | true =>
      rw [c, if_pos rfl] at h1
      simp only [forM, h1, findF, c, if_true]
    | false =>
      rw [c, if_neg (by decide)] at h1
      simp only [forM, h1, findF, c, Bool.false_eq_true, if_false, List.foldl_cons]
      exact find_rt g e r xs (g s x) fun s y hy => h s y (List.mem_cons_of_mem _ hy)
theorem find_xc {ι S L R : Type} {f : S → ι → Option (Fl S S R)} (g : S → ι → S) (e : S → ι → Bool) (c : Nat) (r : S → ι → Option Int) : ∀ (xs : List ι) (s : S), (∀ s x, x ∈ xs → f s x = if e s x = true then some (.xc c (r s x)) else some (.nx (g s x))) →
    forM (L := L) xs f s = match findF g e s xs with | some z => some (.xc c (r z.1 z.2)) | none => some (.nx (xs.foldl g s))
  | [], s, h => rfl
  | x :: xs, s, h => by
    have h1 := h s x List.mem_cons_self
    cases c : e s x with
    | true =>
      rw [c, if_pos rfl] at h1
      simp only [forM, h1, findF, c, if_true]
    | false =>
      rw [c, if_neg (by decide)] at h1
      simp only [forM, h1, findF, c, Bool.false_eq_true, if_false, List.foldl_cons]
      exact find_xc g e _ r xs (g s x) fun s y hy => h s y (List.mem_cons_of_mem _ hy)
theorem findF_some {ι S : Type} {g : S → ι → S} {e : S → ι → Bool} : ∀ {xs : List ι} {s : S} {z : S × ι}, findF g e s xs = some z → ∃ pre post, xs = pre ++ z.2 :: post ∧ findF g e s pre = none ∧ z.1 = pre.foldl g s ∧ e z.1 z.2 = true
  | [], s, z, h => by cases h
  | x :: xs, s, z, h => by
    unfold findF at h
    cases c : e s x with
    | true =>
      rw [c, if_pos rfl] at h
      cases h
      exact ⟨[], xs, rfl, rfl, rfl, c⟩
    | false =>
      rw [c, if_neg (by decide)] at h
      obtain ⟨pre, post, h1, h2, h3, h4⟩ := findF_some h
      refine ⟨x :: pre, post, by rw [h1]; rfl, ?_, h3, h4⟩
      unfold findF
      rw [c, if_neg (by decide)]
      exact h2
theorem eqv_bl (b c : Bool) : PyData.eqv (.bool b) (.bool c) = (b == c) := by simp [PyData.eqv]
/-! ### texts of numbers -/
open TL
theorem numL_len1 (n : Nat) : 1 ≤ (numL n).length := by
  have := numL_ne n
  cases h : numL n with
  | nil => exact absurd h this
  | cons a l => rw [List.length_cons]; omega
def wrL (n : Int) : List Nat := (if n < 0 then [45] else []) ++ numL n.natAbs
theorem tl_nat (m : Nat) : tl (Str.ofString (Nat.repr m)) = numL m := tl_num m
theorem tl_str (n : Int) : tl (Str.ofString (toString n)) = wrL n := by
  cases n with
  | ofNat m =>
    rw [show (Int.ofNat m) = ((m : Nat) : Int) from rfl, tl_num]
    unfold wrL
    rw [if_neg (by omega)]
    rfl
  | negSucc m =>
    have e : toString (Int.negSucc m) = "-" ++ Nat.repr (m + 1) := rfl
    unfold wrL
    rw [e, if_pos (Int.negSucc_lt_zero m), tl_ofString, String.toList_append, List.map_append, show (Int.negSucc m).natAbs = m + 1 from rfl]
    have := tl_nat (m + 1)
    rw [tl_ofString] at this
    rw [this]
    rfl
def Nm (n : Int) : Prop := n.natAbs < 10 ^ 60
theorem Nm.log {n : Int} (h : Nm n) : n.natAbs.log2 < 1920 := by
  have h1 : n.natAbs < 2 ^ 200 := Nat.lt_of_lt_of_le h (by decide +kernel)
  have := PySem.Flt.log2_lt_of (by decide) h1
  omega
theorem wrL_len {n : Int} (h : Nm n) : (wrL n).length ≤ 61 := by
  have := numL_len (k := 60) (by decide) h
  unfold wrL
  rw [List.length_append]
  split <;> simp only [List.length_cons, List.length_nil] <;> omega
theorem strI_ok {n : Int} (h : Nm n) : oStrI (some n) = some (Str.ofString (toString n)) := if_pos h.log
theorem strI_len {n : Int} (h : Nm n) : (Str.ofString (toString n)).length ≤ 61 := by
  rw [len_tl, tl_str]
  exact wrL_len h
theorem str_dec (x y : Str) : decide (x = y) = decide (tl x = tl y) := by
  by_cases c : tl x = tl y
  · rw [decide_eq_true c, decide_eq_true (ext_tl c)]
  · rw [decide_eq_false c, decide_eq_false (fun e => c (by rw [e]))]
theorem cut1 (w : Str) : tl (cutS w none (some 1)) = (tl w).take 1 := by
  unfold cutS
  rw [tl_mk]
  show ((tl w).drop 0).take (HT.sIx w.length w.length (some ((1 : Nat) : Int)) - 0) = _
  rw [HT.sIx_nat, List.drop_zero, Nat.sub_zero, len_tl]
  by_cases c : 1 ≤ (tl w).length
  · rw [Nat.min_eq_left c]
  · have : (tl w).length = 0 := by omega
    rw [this]
    have := List.length_eq_zero_iff.mp this
    rw [this]
    rfl
theorem cut1r (w : Str) : tl (cutS w (some 1) none) = (tl w).drop 1 := by
  unfold cutS
  rw [tl_mk]
  show ((tl w).drop (HT.sIx w.length 0 (some ((1 : Nat) : Int)))).take (w.length - HT.sIx w.length 0 (some ((1 : Nat) : Int))) = _
  rw [HT.sIx_nat, len_tl]
  by_cases c : 1 ≤ (tl w).length
  · rw [Nat.min_eq_left c, List.take_of_length_le (by rw [List.length_drop]; exact Nat.le_refl _)]
  · have : (tl w).length = 0 := by omega
    have := List.length_eq_zero_iff.mp this
    rw [this]
    rfl
def figs (cs : List Nat) : List Nat := if cs.take 1 = [45] then cs.drop 1 else cs
def NumW (cs : List Nat) : Prop := 1 ≤ (figs cs).length ∧ (figs cs).length ≤ 60 ∧ ¬ ((figs cs).take 1 = [48] ∧ cs ≠ [48]) ∧ ∀ c ∈ figs cs, c ∈ [48, 49, 50, 51, 52, 53, 54, 55, 56, 57]
instance (cs : List Nat) : Decidable (NumW cs) := inferInstanceAs (Decidable (_ ∧ _ ∧ _ ∧ _))
def valW (cs : List Nat) : Int := if cs.take 1 = [45] then -((PySem.NumText.digitsVal (figs cs) : Nat) : Int) else ((PySem.NumText.digitsVal (figs cs) : Nat) : Int)
theorem findF_none {ι : Type} {e : Unit → ι → Bool} : ∀ {xs : List ι}, (∀ x ∈ xs, e () x = false) → findF (fun (_ : Unit) (_ : ι) => ()) e () xs = none
  | [], _ => rfl
  | x :: xs, h => by
    unfold findF
    rw [h x List.mem_cons_self, if_neg (by decide)]
    exact findF_none fun y hy => h y (List.mem_cons_of_mem _ hy)
theorem findF_hit {ι : Type} {e : Unit → ι → Bool} : ∀ {xs : List ι}, (∃ x ∈ xs, e () x = true) → ∃ z, findF (fun (_ : Unit) (_ : ι) => ()) e () xs = some z
  | [], ⟨_, h, _⟩ => by cases h
  | x :: xs, h => by
    unfold findF
    by_cases c : e () x = true
    · rw [if_pos c]
      exact ⟨_, rfl⟩
    · rw [if_neg c]
      obtain ⟨y, hy, h2⟩ := h
      rcases List.mem_cons.mp hy with q | q
      · subst q; exact absurd h2 c
      · exact findF_hit ⟨y, q, h2⟩
theorem digs_of {l : List Nat} (h : ∀ c ∈ l, c ∈ [48, 49, 50, 51, 52, 53, 54, 55, 56, 57]) : PySem.NumText.AllDigits l := fun c hc => by
  have := h c hc
  simp only [List.mem_cons, List.not_mem_nil, or_false] at this
  omega
theorem intT_ok {w : Str} (hl : w.length ≤ 640) (h : NumW (tl w)) : oIntT (some w) = some (valW (tl w)) := by
  show (if w.length ≤ 640 then PySem.intText? w else none) = _
  rw [if_pos hl]
  obtain ⟨h1, h2, h3, h4⟩ := h
  unfold valW
  by_cases c : (tl w).take 1 = [45]
  · rw [if_pos c]
    have e : figs (tl w) = (tl w).drop 1 := if_pos c
    have ew : w.cps.toList = 45 :: figs (tl w) := by
      show tl w = _
      rw [e, ← List.take_append_drop 1 (tl w), c]
      rfl
    exact PySem.intText_neg ew (digs_of h4) (fun q => by rw [q] at h1; cases h1) (by omega)
  · rw [if_neg c]
    have e : figs (tl w) = tl w := if_neg c
    rw [e] at h1 h4 ⊢
    exact PySem.intText_digits (digs_of h4) (fun q => by rw [show tl w = [] from q] at h1; cases h1) (by omega)
theorem ixT0 {j : Str} {c : Nat} {r : List Nat} (h : tl j = c :: r) (hl : j.length ≤ 100000) : oIxT (some j) (some (0 : Int)) = some ⟨#[c]⟩ := by
  show (if j.length ≤ sizeLine then (atI (tl j) 0).map fun c => (⟨#[c]⟩ : Str) else none) = _
  rw [if_pos (Nat.le_trans hl (by decide)), h]
  have e : ixN (c :: r).length 0 = some 0 := by
    unfold ixN
    rw [if_pos (by decide), if_pos (by rw [List.length_cons]; omega)]
    rfl
  unfold atI
  rw [e]
  rfl
theorem told_ok {w : Str} (hl : w.length ≤ 640) : m_number_told w = some (if NumW (tl w) then some (valW (tl w)) else none) := by
  have hs : w.length ≤ sizeLine := Nat.le_trans hl (by decide)
  have e1 : oCutT (some w) (some none) ((some (1 : Int)).map some) = some (cutS w none (some 1)) := if_pos hs
  have e2 : oCutT (some w) ((some (1 : Int)).map some) (some none) = some (cutS w (some 1) none) := if_pos hs
  have tm : tl (PySem.Str.ofString "-") = [45] := by rw [tl_ofString]; rfl
  have tz : tl (PySem.Str.ofString "0") = [48] := by rw [tl_ofString]; rfl
  have tf : tl (PySem.Str.ofString "0123456789") = [48, 49, 50, 51, 52, 53, 54, 55, 56, 57] := by rw [tl_ofString]; rfl
  unfold m_number_told
  rw [e1, e2, oEq_ok, str_dec, cut1, tm, Option.bind_some, Option.bind_some]
  have hj : ∃ j : Str, tl j = figs (tl w) ∧ j.length ≤ 640 ∧ (if decide ((tl w).take 1 = [45]) = true then (some (cutS w (some 1) none)).bind fun (v : Str) => (some (.nx v) : Option (Fl Str Unit (Option Int))) else some (.nx w)) = some (.nx j) := by
    unfold figs
    by_cases c : (tl w).take 1 = [45]
    · refine ⟨cutS w (some 1) none, by rw [if_pos c, cut1r], Nat.le_trans (cutS_length _ _ _) hl, ?_⟩
      rw [decide_eq_true c]
      rfl
    · refine ⟨w, by rw [if_neg c], hl, ?_⟩
      rw [decide_eq_false c]
      rfl
  obtain ⟨j, ej, jl, h⟩ := hj
  rw [h, thenFl_nx]
  have el : oLenT (some j) = some ((figs (tl w)).length : Int) := by
    show (if j.length ≤ sizeLine then some (j.length : Int) else none) = _
    rw [if_pos (Nat.le_trans jl (by decide)), len_tl, ej]
  rw [el, oLt_ok, oGt_ok]
  have es : signs (some j) = some ((figs (tl w)).map Sg.mk) := by
    show some ((tl j).map Sg.mk) = _
    rw [ej]
  by_cases c1 : 1 ≤ (figs (tl w)).length
  · rw [decide_eq_false (show ¬ ((figs (tl w)).length : Int) < 1 by omega)]
    by_cases c2 : (figs (tl w)).length ≤ 60
    · rw [decide_eq_false (show ¬ (60 : Int) < ((figs (tl w)).length : Int) by omega)]
      obtain ⟨c, r, ef⟩ : ∃ c r, figs (tl w) = c :: r := by
        cases h : figs (tl w) with
        | nil => rw [h] at c1; cases c1
        | cons c r => exact ⟨c, r, rfl⟩
      rw [ixT0 (ej.trans ef) (by omega), oEq_ok, oNe_ok, str_dec, str_dec, tz, oAnd_ok, oOr_ok, oOr_ok, Bool.false_or, Bool.false_or, Option.bind_some, tl_mk]
      have ed : (decide ([c] = [48]) && !decide (tl w = [48])) = decide ((figs (tl w)).take 1 = [48] ∧ tl w ≠ [48]) := by
        rw [ef, show (c :: r).take 1 = [c] from rfl]
        by_cases q1 : [c] = [48] <;> by_cases q2 : tl w = [48] <;> simp [q1, q2]
      rw [ed]
      by_cases c3 : (figs (tl w)).take 1 = [48] ∧ tl w ≠ [48]
      · rw [decide_eq_true c3, if_pos rfl, if_neg (fun n : NumW (tl w) => n.2.2.1 c3)]
        rfl
      · rw [decide_eq_false c3, if_neg (by decide), thenFl_nx, es, Option.bind_some]
        have hf := find_rt (L := Unit) (R := Option Int) (f := fun (v_s_5 : Unit) (v_x_6 : Sg) => (thenFl (J := Unit) ((oNotInT (some v_x_6) (some (PySem.Str.ofString "0123456789"))).bind fun b => if b = true then ((some (none : (Option Int))).bind fun r => some (.rt r)) else (some (.nx ()))) (fun v_j_7 => (some (.nx ())))))
          (fun _ _ => ()) (fun _ x => !decide (x.c ∈ [48, 49, 50, 51, 52, 53, 54, 55, 56, 57])) (fun _ _ => none) ((figs (tl w)).map Sg.mk) () (fun s x _ => by
            show thenFl ((some (!decide (x.c ∈ tl (PySem.Str.ofString "0123456789")))).bind _) _ = _
            rw [tf, Option.bind_some]
            cases (!decide (x.c ∈ [48, 49, 50, 51, 52, 53, 54, 55, 56, 57])) <;> rfl)
        rw [hf]
        by_cases c4 : ∀ c ∈ figs (tl w), c ∈ [48, 49, 50, 51, 52, 53, 54, 55, 56, 57]
        · have hn : NumW (tl w) := ⟨c1, c2, c3, c4⟩
          rw [findF_none fun x hx => by
            obtain ⟨y, hy, rfl⟩ := List.mem_map.mp hx
            rw [decide_eq_true (c4 y hy)]
            rfl, if_pos hn]
          dsimp only
          rw [thenFl_nx, intT_ok hl hn]
          rfl
        · rw [if_neg fun n => c4 n.2.2.2]
          obtain ⟨z, ez⟩ := findF_hit (e := fun (_ : Unit) (x : Sg) => !decide (x.c ∈ [48, 49, 50, 51, 52, 53, 54, 55, 56, 57])) (xs := (figs (tl w)).map Sg.mk) (by
            obtain ⟨y, hy⟩ := Classical.not_forall.mp c4
            obtain ⟨hy1, hy2⟩ := Classical.not_imp.mp hy
            exact ⟨⟨y⟩, List.mem_map.mpr ⟨y, hy1, rfl⟩, by rw [decide_eq_false hy2]; rfl⟩)
          rw [ez]
          rfl
    · rw [decide_eq_true (show (60 : Int) < ((figs (tl w)).length : Int) by omega), if_neg fun n => c2 n.2.1]
      rfl
  · rw [decide_eq_true (show ((figs (tl w)).length : Int) < 1 by omega), if_neg fun n => c1 n.1]
    rfl
theorem numL_head : ∀ m : Nat, 0 < m → (numL m).take 1 ≠ [48] := fun m => by
  induction m using Nat.strongRecOn with
  | _ m ih =>
    intro h0
    by_cases h : m < 10
    · rw [numL_lt h]
      simp
      omega
    · rw [numL_step (by omega), List.take_append_of_le_length (numL_len1 _)]
      exact ih (m / 10) (by omega) (by omega)
theorem numL_digs (m : Nat) : ∀ c ∈ numL m, c ∈ [48, 49, 50, 51, 52, 53, 54, 55, 56, 57] := fun c hc => by
  have := numL_digits m c hc
  simp only [List.mem_cons, List.not_mem_nil, or_false]
  omega
theorem figs_wr (n : Int) : figs (wrL n) = numL n.natAbs := by
  unfold figs wrL
  by_cases c : n < 0
  · rw [if_pos c, if_pos (by rfl)]
    rfl
  · rw [if_neg c, List.nil_append, if_neg]
    intro q
    cases h : numL n.natAbs with
    | nil => exact numL_ne _ h
    | cons a l =>
      rw [h] at q
      have := numL_digits n.natAbs a (by rw [h]; exact List.mem_cons_self)
      simp at q
      omega
theorem take_wr (n : Int) : ((wrL n).take 1 = [45]) ↔ n < 0 := by
  unfold wrL
  by_cases c : n < 0
  · rw [if_pos c]
    exact ⟨fun _ => c, fun _ => rfl⟩
  · rw [if_neg c, List.nil_append]
    refine ⟨fun q => ?_, fun q => absurd q c⟩
    cases h : numL n.natAbs with
    | nil => exact absurd h (numL_ne _)
    | cons a l =>
      rw [h] at q
      have := numL_digits n.natAbs a (by rw [h]; exact List.mem_cons_self)
      simp at q
      omega
theorem wr_num {n : Int} (h : Nm n) : NumW (wrL n) := by
  refine ⟨by rw [figs_wr]; exact numL_len1 _, by rw [figs_wr]; exact numL_len (by decide) h, ?_, by rw [figs_wr]; exact numL_digs _⟩
  rintro ⟨h1, h2⟩
  rw [figs_wr] at h1
  have z : n = 0 := by
    have : ¬ 0 < n.natAbs := fun q => numL_head n.natAbs q h1
    omega
  subst z
  exact h2 (by rfl)
theorem wr_val (n : Int) : valW (wrL n) = n := by
  unfold valW
  rw [figs_wr, numL_val]
  by_cases c : n < 0
  · rw [if_pos ((take_wr n).mpr c)]
    show -((n.natAbs : Nat) : Int) = n
    omega
  · rw [if_neg fun q => c ((take_wr n).mp q)]
    show ((n.natAbs : Nat) : Int) = n
    omega
theorem told_num {n : Int} (h : Nm n) : m_number_told (Str.ofString (toString n)) = some (some n) := by
  rw [told_ok (by have := strI_len h; omega), tl_str, if_pos (wr_num h), wr_val]
theorem wrL_free {n : Int} {s : Nat} (h : s < 45) : s ∉ wrL n := fun hm => by
  unfold wrL at hm
  rcases List.mem_append.mp hm with q | q
  · by_cases c : n < 0
    · rw [if_pos c] at q
      simp at q
      omega
    · rw [if_neg c] at q
      cases q
  · exact numL_free (by omega) q
/-- join of few -/
theorem joinT_ok {z : Str} {ys : List Str} {B : Nat} (hy : ∀ y ∈ ys, y.length ≤ B) (hz : z.length ≤ 1) (hl : ys.length ≤ 100) (hB : B ≤ 10000) : oJoinT (some z) (some ys) = some (Txt.join z ys) := by
  refine if_pos ?_
  have : ∀ ys : List Str, (∀ y ∈ ys, y.length ≤ B) → (ys.map (·.length)).sum ≤ ys.length * B := fun ys => by
    induction ys with
    | nil => intro _; simp
    | cons y ys ih =>
      intro h
      have h1 := h y List.mem_cons_self
      have h2 := ih fun x hx => h x (List.mem_cons_of_mem _ hx)
      rw [List.map_cons, List.sum_cons, List.length_cons, Nat.succ_mul]
      omega
  have h1 := this ys hy
  have h2 : ys.length * B ≤ 100 * 10000 := Nat.mul_le_mul hl hB
  have h3 : ys.length * z.length ≤ 100 * 1 := Nat.mul_le_mul hl hz
  show (ys.map (·.length)).sum + ys.length * z.length ≤ 16777216
  omega
theorem joinL_len {S : List Nat} {B : Nat} (hS : S.length ≤ 1) : ∀ {ps : List (List Nat)}, (∀ p ∈ ps, p.length ≤ B) → (joinL S ps).length ≤ ps.length * (B + 1)
  | [], _ => by simp [joinL]
  | [p], h => by
    have := h p List.mem_cons_self
    show p.length ≤ _
    simp only [List.length_cons, List.length_nil]
    omega
  | p :: q :: r, h => by
    have h1 := h p List.mem_cons_self
    have h2 := joinL_len hS (ps := q :: r) fun x hx => h x (List.mem_cons_of_mem _ hx)
    show (p ++ (S ++ joinL S (q :: r))).length ≤ _
    rw [List.length_append, List.length_append, List.length_cons (a := p), Nat.succ_mul]
    omega
theorem join_len {z : Str} {ys : List Str} {B : Nat} (hy : ∀ y ∈ ys, y.length ≤ B) (hz : z.length ≤ 1) : (Txt.join z ys).length ≤ ys.length * (B + 1) := by
  rw [join_eq, len_tl, tl_join]
  have := joinL_len (S := tl z) (B := B) (by rw [← len_tl]; exact hz) (ps := ys.map tl) fun p hp => by
    obtain ⟨y, h1, rfl⟩ := List.mem_map.mp hp
    rw [← len_tl]
    exact hy y h1
  rwa [List.length_map] at this
theorem joinL_free {s c : Nat} (hc : s ≠ c) : ∀ {ps : List (List Nat)}, (∀ p ∈ ps, s ∉ p) → s ∉ joinL [c] ps
  | [], _ => fun h => by cases h
  | [p], h => h p List.mem_cons_self
  | p :: q :: r, h => fun hm => by
    have hm : s ∈ p ++ ([c] ++ joinL [c] (q :: r)) := hm
    rcases List.mem_append.mp hm with a | a
    · exact h p List.mem_cons_self a
    · rcases List.mem_append.mp a with a | a
      · exact hc (List.mem_singleton.mp a)
      · exact joinL_free hc (fun x hx => h x (List.mem_cons_of_mem _ hx)) a
abbrev nlT : Str := PySem.Str.ofString "\n"
abbrev spT : Str := PySem.Str.ofString " "
theorem tl_nl : tl nlT = [10] := by rw [tl_ofString]; rfl
theorem tl_sp : tl spT = [32] := by rw [tl_ofString]; rfl
theorem split_ok {z y : Str} {c : Nat} (ey : tl y = [c]) (hl : z.length ≤ 1000000) : oSplit (some z) (some y) = some (Txt.split z y) := by
  refine if_pos ⟨?_, ?_⟩
  · rw [len_tl, ey]; rfl
  · exact Nat.le_trans (Nat.add_le_add_right hl 2) (by decide)
theorem dig_ok {d : Int} (h : 0 ≤ d ∧ d < 10) : oIxT (some (PySem.Str.ofString "0123456789")) (some d) = some ⟨#[48 + d.toNat]⟩ := by
  have tf : tl (PySem.Str.ofString "0123456789") = [48, 49, 50, 51, 52, 53, 54, 55, 56, 57] := by rw [tl_ofString]; rfl
  show (if (PySem.Str.ofString "0123456789").length ≤ sizeLine then (atI (tl (PySem.Str.ofString "0123456789")) d).map fun c => (⟨#[c]⟩ : Str) else none) = _
  rw [if_pos (by rw [len_tl, tf]; decide), tf]
  have h10 : d = 0 ∨ d = 1 ∨ d = 2 ∨ d = 3 ∨ d = 4 ∨ d = 5 ∨ d = 6 ∨ d = 7 ∨ d = 8 ∨ d = 9 := by omega
  rcases h10 with rfl | rfl | rfl | rfl | rfl | rfl | rfl | rfl | rfl | rfl <;> rfl
theorem catT_ok {x y : Str} (h1 : x.length ≤ 100000) (h2 : y.length ≤ 100000) : oCatT (some x) (some y) = some (x ++ y) := if_pos (Nat.le_trans (Nat.add_le_add h1 h2) (by decide))
theorem written_ok {n : Int} (h : Nm n) : m_Lwritten n = some (Str.ofString (toString n)) := by
  have tm : tl (PySem.Str.ofString "-") = [45] := by rw [tl_ofString]; rfl
  have er : oMax (some n) (oSub (some 0) (some n)) = some (n.natAbs : Int) := by
    rw [oSub_ok, oMax_ok]
    congr 1
    omega
  unfold m_Lwritten
  rw [Option.bind_some, er, Option.bind_some]
  have hr : n.natAbs < 10 ^ 60 := h
  have hL := numL_len (k := 60) (by decide) hr
  generalize hm : n.natAbs = m at hr hL
  have m10 : 0 ≤ (m : Int) % 10 ∧ (m : Int) % 10 < 10 := ⟨Int.emod_nonneg _ (by decide), Int.emod_lt_of_pos _ (by decide)⟩
  rw [oMod_ok (by decide), dig_ok m10, Option.bind_some]
  refine loop_while (fun q => retOf q = some (Str.ofString (toString n))) (fun (s : Int × Str) => 0 ≤ s.1 ∧ numL m = (if 10 ≤ s.1 then numL (s.1 / 10).toNat else []) ++ tl s.2) (fun s => s.1.toNat) ⟨by dsimp only; omega, ?_⟩ (by dsimp only; omega) ?_ ?_ ?_
  · dsimp only
    have e48 : (48 + ((m : Int) % 10).toNat) = 48 + m % 10 := by omega
    rw [tl_mk, e48]
    by_cases c : 10 ≤ (m : Int)
    · rw [if_pos c, show ((m : Int) / 10).toNat = m / 10 by omega]
      exact numL_step (by omega)
    · rw [if_neg c, numL_lt (by omega), List.nil_append, Nat.mod_eq_of_lt (by omega)]
  · rintro ⟨r, s⟩ _
    exact ⟨_, oGt_ok⟩
  · rintro ⟨r, s⟩ ⟨r0, e⟩ hc
    dsimp only at r0 e hc ⊢
    rw [oGt_ok] at hc
    have hc : 9 < r := by simpa using hc
    rw [if_pos (by omega)] at e
    have sl : s.length ≤ 60 := by
      have := congrArg List.length e
      rw [List.length_append, ← len_tl] at this
      omega
    have d10 : 0 ≤ r / 10 % 10 ∧ r / 10 % 10 < 10 := ⟨Int.emod_nonneg _ (by decide), Int.emod_lt_of_pos _ (by decide)⟩
    rw [oDiv_s (by decide), Option.bind_some, oMod_ok (by decide), dig_ok d10, catT_ok (by show 1 ≤ 100000; decide) (by omega), Option.bind_some]
    refine ⟨_, rfl, ⟨by dsimp only; omega, ?_⟩, by dsimp only; omega⟩
    dsimp only
    rw [e, tl_append, tl_mk, ← List.append_assoc]
    congr 1
    have e48 : 48 + (r / 10 % 10).toNat = 48 + (r / 10).toNat % 10 := by omega
    show _ = _ ++ [48 + (r / 10 % 10).toNat]
    rw [e48]
    by_cases c : 10 ≤ r / 10
    · rw [if_pos c, show (r / 10 / 10).toNat = (r / 10).toNat / 10 by omega]
      exact numL_step (by omega)
    · rw [if_neg c, numL_lt (by omega), List.nil_append, Nat.mod_eq_of_lt (by omega)]
  · rintro ⟨r, s⟩ ⟨r0, e⟩ hc
    dsimp only at r0 e hc ⊢
    rw [oGt_ok] at hc
    have hc : ¬ 9 < r := by simpa using hc
    rw [if_neg (by omega), List.nil_append] at e
    have sl : s.length ≤ 60 := by
      rw [len_tl, ← e]
      exact hL
    rw [oLt_ok, Option.map_some]
    have fin : tl (Str.ofString (toString n)) = (if n < 0 then [45] else []) ++ tl s := by
      rw [tl_str, ← e, ← hm]
      rfl
    by_cases c : n < 0
    · rw [if_pos c] at fin
      have e1 : oMulT (some (PySem.Str.ofString "-")) (some (if decide (n < 0) = true then (1 : Int) else 0)) = some (PySem.Str.ofString "-") := by
        rw [decide_eq_true c]
        decide +kernel
      rw [e1, catT_ok (by rw [len_tl, tm]; decide) (by omega)]
      exact congrArg (fun z => some z) (ext_tl (by rw [tl_append, tm, fin]))
    · rw [if_neg c] at fin
      have e1 : oMulT (some (PySem.Str.ofString "-")) (some (if decide (n < 0) = true then (1 : Int) else 0)) = some Str.empty := by
        rw [decide_eq_false c]
        decide +kernel
      rw [e1, catT_ok (by decide) (by omega)]
      exact congrArg (fun z => some z) (ext_tl (by rw [tl_append, fin]; rfl))
theorem pow60 : oPow (some (10 : Int)) (some (60 : Int)) = some (10 ^ 60) := by decide +kernel
theorem nm_of {n : Int} (h : -(10 ^ 60) < n ∧ n < 10 ^ 60) : Nm n := by
  show n.natAbs < 10 ^ 60
  omega
theorem Nm.big {n : Int} (h : Nm n) : Big n := by
  have h : n.natAbs < 10 ^ 60 := h
  show n.natAbs < 2 ^ 8192
  exact Nat.lt_of_lt_of_le h (by decide +kernel)
theorem number_ok {c : Int} (hc : Dr c) : ∃ n, m_Lnumber c = some n ∧ Nm n := by
  obtain ⟨c0, c1⟩ := id hc
  have m60 : 0 ≤ c / 8 % 60 ∧ c / 8 % 60 < 60 := ⟨Int.emod_nonneg _ (by decide), Int.emod_lt_of_pos _ (by decide)⟩
  have m8 : 0 ≤ c % 8 ∧ c % 8 < 8 := ⟨Int.emod_nonneg _ (by decide), Int.emod_lt_of_pos _ (by decide)⟩
  have m100 : 0 ≤ c / 8 % 100 ∧ c / 8 % 100 < 100 := ⟨Int.emod_nonneg _ (by decide), Int.emod_lt_of_pos _ (by decide)⟩
  have d1 := mixZ_dr c 1
  have m9 : 0 ≤ mixZ c 1 % 9 ∧ mixZ c 1 % 9 < 9 := ⟨Int.emod_nonneg _ (by decide), Int.emod_lt_of_pos _ (by decide)⟩
  unfold m_Lnumber
  simp -implicitDefEqProofs only [oPair_ok, Option.bind_some, mix_ok hc (k := 1) ⟨by decide, by decide⟩]
  rw [oDiv_s (by decide), oMod_ok (i := c / 8) (j := 60) (by decide), oAdd_ok, Option.bind_some, oMod_ok (i := mixZ c 1) (by decide), oAdd_ok, Option.bind_some, oSub_ok, oRng1_ok (by omega) (by omega), Option.bind_some]
  refine loop_ex (fun m => ∃ n, retOf m = some n ∧ Nm n) (fun pre (s : Int) => 1 ≤ s ∧ s < 10 ^ (pre.length + 1)) ⟨by omega, by show _ < (10 : Int) ^ 1; omega⟩ ?_ ?_
  · rintro pre s x post hx ⟨s0, s1⟩
    have hlen := congrArg List.length hx
    rw [rangeL_len, List.length_append, List.length_cons] at hlen
    obtain ⟨x0, x1⟩ := mem_rangeL (show x ∈ rangeL 0 _ from hx ▸ List.mem_append_right _ List.mem_cons_self)
    have b60 : s < 10 ^ 60 := Int.lt_of_lt_of_le s1 (by
      have : (10 : Nat) ^ (pre.length + 1) ≤ 10 ^ 60 := Nat.pow_le_pow_right (by decide) (by omega)
      exact_mod_cast this)
    have m10 : 0 ≤ mixZ c (2 + x) % 10 ∧ mixZ c (2 + x) % 10 < 10 := ⟨Int.emod_nonneg _ (by decide), Int.emod_lt_of_pos _ (by decide)⟩
    rw [oMul_ok (nm_of ⟨by omega, b60⟩).big (big62 (by decide) (by decide)), oAdd_ok]
    simp -implicitDefEqProofs only [oPair_ok, Option.bind_some, mix_ok hc (k := 2 + x) ⟨by omega, by omega⟩]
    rw [oMod_ok (by decide), oAdd_ok, Option.bind_some]
    refine ⟨_, rfl, by omega, ?_⟩
    rw [List.length_append, List.length_singleton, Int.pow_succ]
    omega
  · rintro s ⟨s0, s1⟩
    rw [rangeL_len] at s1
    have b60 : s < 10 ^ 60 := Int.lt_of_lt_of_le s1 (by
      have : (10 : Nat) ^ ((1 + c / 8 % 60 - 1).toNat + 1) ≤ 10 ^ 60 := Nat.pow_le_pow_right (by decide) (by omega)
      exact_mod_cast this)
    have p60 : (100 : Int) < 10 ^ 60 := by decide +kernel
    rw [oMod_ok (i := c / 8) (j := 100) (by decide), pow60, oSub_ok, oSub_ok, oSub_ok, oSub_ok, oSub_ok, oCons_ok, oCons_ok, oCons_ok, oCons_ok, oCons_ok, oCons_ok, oCons_ok, oCons_ok, oMod_ok (i := c) (by decide)]
    have h8 : c % 8 = 0 ∨ c % 8 = 1 ∨ c % 8 = 2 ∨ c % 8 = 3 ∨ c % 8 = 4 ∨ c % 8 = 5 ∨ c % 8 = 6 ∨ c % 8 = 7 := by omega
    rcases h8 with e | e | e | e | e | e | e | e <;> rw [e] <;> exact ⟨_, rfl, nm_of (by constructor <;> omega)⟩
/-! ### rows -/
def sI (n : Int) : Str := Str.ofString (toString n)
def ln2 (x : P2 Int Int) : Str := Txt.join spT [sI x.a, sI x.b]
def txR (r : List (P2 Int Int)) : Str := Txt.join nlT (r.map ln2)
def Rok (r : List (P2 Int Int)) : Prop := r.length ≤ 60 ∧ ∀ x ∈ r, Nm x.a ∧ Nm x.b
theorem sI_len {n : Int} (h : Nm n) : (sI n).length ≤ 61 := strI_len h
theorem tl_sI (n : Int) : tl (sI n) = wrL n := tl_str n
theorem sp1 : spT.length ≤ 1 := by rw [len_tl, tl_sp]; decide
theorem nl1 : nlT.length ≤ 1 := by rw [len_tl, tl_nl]; decide
theorem ln2_len {x : P2 Int Int} (h : Nm x.a ∧ Nm x.b) : (ln2 x).length ≤ 124 := by
  have := join_len (z := spT) (ys := [sI x.a, sI x.b]) (B := 61) (fun y hy => by
    simp only [List.mem_cons, List.not_mem_nil, or_false] at hy
    rcases hy with rfl | rfl
    · exact sI_len h.1
    · exact sI_len h.2) sp1
  exact this
theorem ln2_free {x : P2 Int Int} : 10 ∉ tl (ln2 x) := by
  unfold ln2
  rw [join_eq, tl_join, tl_sp]
  refine joinL_free (by decide) fun p hp => ?_
  simp only [List.map_cons, List.map_nil, List.mem_cons, List.not_mem_nil, or_false] at hp
  rcases hp with rfl | rfl <;> rw [tl_sI] <;> exact wrL_free (by decide)
theorem ln2_split {x : P2 Int Int} : Txt.split (ln2 x) spT = [sI x.a, sI x.b] := split_join tl_sp (by decide +kernel) (by simp) fun p hp => by
  simp only [List.mem_cons, List.not_mem_nil, or_false] at hp
  rcases hp with rfl | rfl <;> rw [tl_sI] <;> exact wrL_free (by decide)
theorem txR_len {r : List (P2 Int Int)} (h : Rok r) : (txR r).length ≤ 10000 := by
  have := join_len (z := nlT) (ys := r.map ln2) (B := 124) (fun y hy => by
    obtain ⟨x, hx, rfl⟩ := List.mem_map.mp hy
    exact ln2_len (h.2 x hx)) nl1
  rw [List.length_map] at this
  have h1 := h.1
  have : r.length * (124 + 1) ≤ 60 * 125 := Nat.mul_le_mul h1 (Nat.le_refl _)
  unfold txR
  omega
theorem txR_split {r : List (P2 Int Int)} (hr : r ≠ []) : Txt.split (txR r) nlT = r.map ln2 := split_join tl_nl (by decide +kernel) (by simpa using hr) fun p hp => by
  obtain ⟨x, _, rfl⟩ := List.mem_map.mp hp
  exact ln2_free
theorem rows_join {r : List (P2 Int Int)} (h : Rok r) : oJoinT (some nlT) (some (r.map ln2)) = some (txR r) := joinT_ok (B := 124) (fun y hy => by
    obtain ⟨x, hx, rfl⟩ := List.mem_map.mp hy
    exact ln2_len (h.2 x hx)) nl1 (by rw [List.length_map]; have := h.1; omega) (by decide)
theorem shown_ok {r : List (P2 Int Int)} (h : Rok r) : m_shown_row r = some (txR r) := by
  have h1 := h.1
  unfold m_shown_row
  simp -implicitDefEqProofs only [oPair_ok, Option.bind_some]
  unfold m_shown_lines
  rw [oComp_ok (fun _ => true) ln2 (by omega) (fun _ _ => rfl) (fun x hx => ?_), List.filter_eq_self.mpr (fun _ _ => rfl), rows_join h]
  · rfl
  · have e : oComp ((some x).map fun x => [x.a, x.b]) (fun (v_c_2 : Int) => (some true)) (fun (v_c_2 : Int) => (oStrI (some v_c_2))) = some [sI x.a, sI x.b] := by
      rw [Option.map_some, oComp_ok (fun _ => true) sI (by show 2 < 1000000; decide) (fun _ _ => rfl) (fun n hn => strI_ok (by
        simp only [List.mem_cons, List.not_mem_nil, or_false] at hn
        rcases hn with rfl | rfl
        · exact (h.2 x hx).1
        · exact (h.2 x hx).2)), List.filter_eq_self.mpr (fun _ _ => rfl)]
      rfl
    rw [e]
    exact joinT_ok (B := 61) (fun y hy => by
      simp only [List.mem_cons, List.not_mem_nil, or_false] at hy
      rcases hy with rfl | rfl
      · exact sI_len (h.2 x hx).1
      · exact sI_len (h.2 x hx).2) sp1 (by show 2 ≤ 100; decide) (by decide)
theorem due_ok {r : List (P2 Int Int)} (h : Rok r) : oJoinT (some (PySem.Str.ofString "\n")) (oComp (some r) (fun (v_c_3 : (P2 Int Int)) => (some true)) (fun (v_c_3 : (P2 Int Int)) => (oCatT (oCatT ((oPair (some v_c_3.a) (some ())).bind (fun (y : Int × Unit) => m_Lwritten y.1)) (some (PySem.Str.ofString " "))) ((oPair (some v_c_3.b) (some ())).bind (fun (y : Int × Unit) => m_Lwritten y.1))))) = some (txR r) := by
  have h1 := h.1
  rw [oComp_ok (fun _ => true) ln2 (by omega) (fun _ _ => rfl) (fun x hx => ?_), List.filter_eq_self.mpr (fun _ _ => rfl), rows_join h]
  obtain ⟨ha, hb⟩ := h.2 x hx
  have la := strI_len ha
  have lb := strI_len hb
  simp -implicitDefEqProofs only [oPair_ok, Option.bind_some, written_ok ha, written_ok hb]
  have l1 : (Str.ofString (toString x.a) ++ spT).length ≤ 100 := by
    rw [len_tl, tl_append, List.length_append, ← len_tl, ← len_tl]
    have := sp1
    omega
  rw [catT_ok (by omega) (by show spT.length ≤ _; have := sp1; omega), catT_ok (by show (Str.ofString (toString x.a) ++ spT).length ≤ _; omega) (by omega)]
  refine congrArg some (ext_tl ?_)
  unfold ln2
  rw [join_eq, tl_join, tl_append, tl_append, List.append_assoc]
  rfl
theorem told_rows {r : List (P2 Int Int)} (h : Rok r) (hr : r ≠ []) : m_numbers_told (txR r) 2 = some ⟨r⟩ := by
  have hl := txR_len h
  unfold m_numbers_told
  rw [Option.bind_some, split_ok tl_nl (by omega), txR_split hr, show oEnum (some (r.map ln2)) = some (enumL 0 (r.map ln2)) from rfl, Option.bind_some]
  refine loop_ex (fun m => retOf m = some (⟨r⟩ : Nw (List (P2 Int Int)))) (fun pre (s : List (P2 Int Int)) => s = r.take pre.length) rfl ?_ ?_
  · rintro pre s x post hx rfl
    have hi : (enumL 0 (r.map ln2))[pre.length]? = some x := by
      rw [hx, List.getElem?_append_right (Nat.le_refl _), Nat.sub_self]
      rfl
    obtain ⟨w, hw, rfl⟩ := enumL_get 0 _ _ _ hi
    rw [List.getElem?_map] at hw
    obtain ⟨z, hz, rfl⟩ := Option.map_eq_some_iff.mp hw
    obtain ⟨zl, ze⟩ := List.getElem?_eq_some_iff.mp hz
    have zm : z ∈ r := ze ▸ List.getElem_mem zl
    obtain ⟨na, nb⟩ := h.2 z zm
    have ll := ln2_len (h.2 z zm)
    dsimp only
    rw [split_ok tl_sp (by omega), ln2_split, oComp_ok (fun _ => true) (fun w => if NumW (tl w) then some (valW (tl w)) else none) (by show 2 < 1000000; decide) (fun _ _ => rfl) (fun w hw => ?_), List.filter_eq_self.mpr (fun _ _ => rfl)]
    · simp -implicitDefEqProofs only [List.map_cons, List.map_nil, tl_sI, if_pos (wr_num na), if_pos (wr_num nb), wr_val, Option.bind_some, oLen_ok]
      rw [oNe_ok, show (([some z.a, some z.b] : List (Option Int)).length : Int) = 2 from rfl, show oNoneIn (some [some z.a, some z.b]) = some false from rfl, show oAll2 (oTup2 (some [some z.a, some z.b])) = some z from rfl]
      simp -implicitDefEqProofs only [decide_true, Bool.not_true, oOr_ok, Bool.or_self, Option.bind_some, Bool.false_eq_true, if_false, thenFl_nx]
      rw [oApp_ok (by rw [List.length_take]; have := h.1; omega), Option.bind_some]
      refine ⟨_, rfl, ?_⟩
      rw [List.length_append, List.length_singleton, List.take_succ, hz]
      rfl
    · simp only [List.mem_cons, List.not_mem_nil, or_false] at hw
      rw [oPair_ok, Option.bind_some]
      rcases hw with rfl | rfl
      · exact told_ok (w := sI z.a) (by have := sI_len na; omega)
      · exact told_ok (w := sI z.b) (by have := sI_len nb; omega)
  · rintro s rfl
    rw [enumL_len, List.length_map, List.take_of_length_le (Nat.le_refl _)]
    rfl
theorem tl_nil : tl (PySem.Str.ofString "") = [] := by rw [tl_ofString]; rfl
theorem txR_ne {r : List (P2 Int Int)} (hr : r ≠ []) : tl (txR r) ≠ [] := by
  cases r with
  | nil => exact absurd rfl hr
  | cons x xs =>
    have h0 : tl (ln2 x) ≠ [] := by
      unfold ln2
      rw [join_eq, tl_join]
      show tl (sI x.a) ++ (tl spT ++ tl (sI x.b)) ≠ []
      rw [tl_sp]
      simp
    unfold txR
    rw [join_eq, tl_join]
    cases xs with
    | nil => exact h0
    | cons y ys =>
      show tl (ln2 x) ++ (tl nlT ++ joinL (tl nlT) _) ≠ []
      simp [h0]
theorem read_ok {r : List (P2 Int Int)} (h : Rok r) : m_read_row (txR r) = some ⟨r⟩ := by
  unfold m_read_row
  rw [oEq_ok, str_dec, tl_nil, Option.bind_some]
  by_cases c : r = []
  · subst c
    rfl
  · rw [decide_eq_false (txR_ne c)]
    simp -implicitDefEqProofs only [Bool.false_eq_true, if_false, thenFl_nx, oPair_ok, Option.bind_some, told_rows h c, Option.map_some]
    rfl
theorem asked_ok {r : List (P2 Int Int)} (h : Rok r) : m_Lasked r = some true := by
  unfold m_Lasked
  rw [due_ok h]
  simp -implicitDefEqProofs only [Option.bind_some, oPair_ok, shown_ok h, read_ok h, Option.map_some, oNot_ok, Bool.not_true, oNe_ok, decide_true, oOr_ok, Bool.or_self, Bool.false_eq_true, if_false, thenFl_nx]
  refine loop_all (fun m => retOf m = some true) (fun _ => True) trivial ?_ ?_
  · intro _ x _ _
    exact ⟨(), rfl, trivial⟩
  · intro _ _
    rw [oP2_ok, oApp_ok (by have := h.1; omega)]
    rfl
theorem pow9 : oPow (some (10 : Int)) (some (9 : Int)) = some 1000000000 := by decide +kernel
theorem row_ok (ns : List Int) (hl : ns.length ≤ 63) : ∃ r, m_Lrow ⟨ns⟩ = some ⟨r⟩ ∧ Rok r := by
  unfold m_Lrow
  simp -implicitDefEqProofs only [oLenS_ok, oMin_ok, Option.bind_some]
  rw [oRng2_ok (by decide) (by decide) (by omega) (by omega), Option.bind_some]
  refine loop_ex (fun m => ∃ r, retOf m = some (⟨r⟩ : Nw (List (P2 Int Int))) ∧ Rok r) (fun pre (s : List (P2 Int Int)) => s.length = pre.length ∧ ∀ x ∈ s, Nm x.a ∧ Nm x.b) ⟨rfl, fun x hx => (by cases hx)⟩ ?_ ?_
  · rintro pre s x post hx ⟨s1, s2⟩
    have hlen := congrArg List.length hx
    rw [rangeL_len, List.length_append, List.length_cons] at hlen
    obtain ⟨x0, x1⟩ := mem_rangeL (show x ∈ rangeL 2 _ from hx ▸ List.mem_append_right _ List.mem_cons_self)
    have dx := cellZ_dr ns x
    simp -implicitDefEqProofs only [Option.bind_some, oPair_ok, cell_ok (s := ns) (k := x) ⟨by omega, by omega⟩, mix_ok dx (k := x) ⟨by omega, by omega⟩]
    have ds := mixZ_dr (cellZ ns x) x
    generalize mixZ (cellZ ns x) x = sc at ds
    obtain ⟨n2, e2, b2⟩ := number_ok (mixZ_dr sc 2)
    obtain ⟨n3, e3, b3⟩ := number_ok (mixZ_dr sc 3)
    rw [mix_ok ds (k := 2) ⟨by decide, by decide⟩, mix_ok ds (k := 3) ⟨by decide, by decide⟩]
    simp -implicitDefEqProofs only [Option.bind_some, oPair_ok, e2, e3]
    have m1000 : 0 ≤ sc / 4 % 1000 ∧ sc / 4 % 1000 < 1000 := ⟨Int.emod_nonneg _ (by decide), Int.emod_lt_of_pos _ (by decide)⟩
    have m4 : 0 ≤ sc % 4 ∧ sc % 4 < 4 := ⟨Int.emod_nonneg _ (by decide), Int.emod_lt_of_pos _ (by decide)⟩
    have p60 : (10000000000 : Int) < 10 ^ 60 := by decide +kernel
    obtain ⟨t, et, bt⟩ : ∃ t, oIx (oCons (some (1 : Int)) (oCons (oAdd (some (1 : Int)) (oMod (oDiv (some sc) (some (4 : Int))) (some (1000 : Int)))) (oCons (oPow (some (10 : Int)) (some (9 : Int))) (oCons (some n2) (some ([] : List Int)))))) (oMod (some sc) (some (4 : Int))) = some t ∧ Nm t := by
      rw [oDiv_s (by decide), oMod_ok (i := sc / 4) (by decide), oAdd_ok, pow9, oCons_ok, oCons_ok, oCons_ok, oCons_ok, oMod_ok (by decide)]
      have h4 : sc % 4 = 0 ∨ sc % 4 = 1 ∨ sc % 4 = 2 ∨ sc % 4 = 3 := by omega
      rcases h4 with e | e | e | e <;> rw [e]
      · exact ⟨_, rfl, nm_of (by constructor <;> omega)⟩
      · exact ⟨_, rfl, nm_of (by constructor <;> omega)⟩
      · exact ⟨_, rfl, nm_of (by constructor <;> omega)⟩
      · exact ⟨_, rfl, b2⟩
    rw [et, Option.bind_some, oP2_ok, oApp_ok (by omega), Option.bind_some]
    refine ⟨_, rfl, by rw [List.length_append, List.length_append, s1]; rfl, fun y hy => ?_⟩
    rcases List.mem_append.mp hy with q | q
    · exact s2 y q
    · rw [List.mem_singleton.mp q]
      exact ⟨b3, bt⟩
  · rintro s ⟨s1, s2⟩
    rw [rangeL_len] at s1
    exact ⟨s, rfl, by omega, s2⟩
theorem plain : ∀ ns : List Int, ns.length ≤ 63 → m_law ⟨ns⟩ = some true := by
  intro ns hl
  obtain ⟨r, er, hr⟩ := row_ok ns hl
  unfold m_law
  simp -implicitDefEqProofs only [oPair_ok, Option.bind_some, cell_ok (s := ns) (k := 0) ⟨by decide, by decide⟩, er, Option.map_some]
  have d0 := cellZ_dr ns 0
  generalize cellZ ns 0 = c0 at d0
  rw [oMod_ok (by decide), Option.map_some]
  have sub : ∀ a b, oCut (some r) (some none) (some (some b)) = some a → Rok a := fun a b e => by
    have e : some ((r.drop (HT.sIx r.length 0 none)).take (HT.sIx r.length r.length (some b) - HT.sIx r.length 0 none)) = some a := e
    cases e
    exact ⟨by rw [List.length_take, List.length_drop]; have := hr.1; omega, fun x hx => hr.2 x (List.mem_of_mem_drop (List.mem_of_mem_take hx))⟩
  obtain ⟨q, eq⟩ : ∃ q, oCut (some r) (some none) (some (some (c0 % 3))) = some q := ⟨_, rfl⟩
  have hq := sub q _ eq
  rw [eq]
  simp -implicitDefEqProofs only [oPair_ok, Option.bind_some, asked_ok hr, asked_ok hq, asked_ok (r := []) ⟨by decide, fun x hx => (by cases hx)⟩, oAnd_ok, Bool.and_self]
  rfl
end G
/-! ## the law k77: walks, printed by gen.py -/
namespace G
open PySem L2
def topS (i : Nat) : Stmt := PySem.Challenge.pw_rankpouch_k77_rows_as_texts.main.body.getD i (.Pass ⟨0, 0, 0, 0⟩)
/-! ### shown_lines -/
abbrev s_shown_lines : Stmt := topS 6
abbrev nm_shown_lines : List Str := ["some", "numbers", "number"]
theorem sc_shown_lines : FnScope nm_shown_lines ["some"] (defScope s_shown_lines) := ⟨rfl, rfl, rfl, by decide +kernel, rfl, by decide +kernel, by decide +kernel⟩
/-! ### number_told -/
abbrev s_number_told : Stmt := topS 8
abbrev nm_number_told : List Str := ["word", "figures", "sign"]
theorem sc_number_told : FnScope nm_number_told ["word"] (defScope s_number_told) := ⟨rfl, rfl, rfl, by decide +kernel, rfl, by decide +kernel, by decide +kernel⟩
/-! ### _law_mix -/
abbrev s_Lmix : Stmt := topS 12
abbrev nm_Lmix : List Str := ["_law_cell_here", "_law_k", "_law_first"]
theorem sc_Lmix : FnScope nm_Lmix ["_law_cell_here", "_law_k"] (defScope s_Lmix) := ⟨rfl, rfl, rfl, by decide +kernel, rfl, by decide +kernel, by decide +kernel⟩
/-! ### _law_written -/
abbrev s_Lwritten : Stmt := topS 16
abbrev nm_Lwritten : List Str := ["_law_number_here", "_law_figures", "_law_rest", "_law_found"]
theorem sc_Lwritten : FnScope nm_Lwritten ["_law_number_here"] (defScope s_Lwritten) := ⟨rfl, rfl, rfl, by decide +kernel, rfl, by decide +kernel, by decide +kernel⟩
/-! ### shown_row -/
abbrev s_shown_row : Stmt := topS 7
abbrev nm_shown_row : List Str := ["row"]
theorem sc_shown_row : FnScope nm_shown_row ["row"] (defScope s_shown_row) := ⟨rfl, rfl, rfl, by decide +kernel, rfl, by decide +kernel, by decide +kernel⟩
/-! ### numbers_told -/
abbrev s_numbers_told : Stmt := topS 9
abbrev nm_numbers_told : List Str := ["text", "many", "found", "row", "line", "numbers", "word"]
theorem sc_numbers_told : FnScope nm_numbers_told ["text", "many"] (defScope s_numbers_told) := ⟨rfl, rfl, rfl, by decide +kernel, rfl, by decide +kernel, by decide +kernel⟩
/-! ### _law_cell -/
abbrev s_Lcell : Stmt := topS 13
abbrev nm_Lcell : List Str := ["_law_script", "_law_k", "_law_cell_here"]
theorem sc_Lcell : FnScope nm_Lcell ["_law_script", "_law_k"] (defScope s_Lcell) := ⟨rfl, rfl, rfl, by decide +kernel, rfl, by decide +kernel, by decide +kernel⟩
/-! ### _law_number -/
abbrev s_Lnumber : Stmt := topS 14
abbrev nm_Lnumber : List Str := ["_law_cell_here", "_law_size", "_law_number_here", "_law_k"]
theorem sc_Lnumber : FnScope nm_Lnumber ["_law_cell_here"] (defScope s_Lnumber) := ⟨rfl, rfl, rfl, by decide +kernel, rfl, by decide +kernel, by decide +kernel⟩
/-! ### read_row -/
abbrev s_read_row : Stmt := topS 10
abbrev nm_read_row : List Str := ["text"]
theorem sc_read_row : FnScope nm_read_row ["text"] (defScope s_read_row) := ⟨rfl, rfl, rfl, by decide +kernel, rfl, by decide +kernel, by decide +kernel⟩
/-! ### _law_row -/
abbrev s_Lrow : Stmt := topS 15
abbrev nm_Lrow : List Str := ["_law_script", "_law_row_here", "_law_k", "_law_cell_here", "_law_times"]
theorem sc_Lrow : FnScope nm_Lrow ["_law_script"] (defScope s_Lrow) := ⟨rfl, rfl, rfl, by decide +kernel, rfl, by decide +kernel, by decide +kernel⟩
/-! ### _law_asked -/
abbrev s_Lasked : Stmt := topS 17
abbrev nm_Lasked : List Str := ["_law_row_here", "_law_handed", "_law_text", "_law_due", "_law_found", "_law_run", "_law_number_here", "_law_times"]
theorem sc_Lasked : FnScope nm_Lasked ["_law_row_here"] (defScope s_Lasked) := ⟨rfl, rfl, rfl, by decide +kernel, rfl, by decide +kernel, by decide +kernel⟩
/-! ### law -/
abbrev s_law : Stmt := topS 18
abbrev nm_law : List Str := ["_law_script", "_law_row_here", "_law_some"]
theorem sc_law : FnScope nm_law ["_law_script"] (defScope s_law) := ⟨rfl, rfl, rfl, by decide +kernel, rfl, by decide +kernel, by decide +kernel⟩
/-- what the top has written -/
structure Txt (K : Fg) (mg : Str → Option Value) where
  n_bool : mg "bool" = none
  n_enumerate : mg "enumerate" = none
  n_int : mg "int" = none
  n_isinstance : mg "isinstance" = none
  n_len : mg "len" = none
  n_list : mg "list" = none
  n_max : mg "max" = none
  n_min : mg "min" = none
  n_range : mg "range" = none
  n_str : mg "str" = none
  n_tuple : mg "tuple" = none
  c_MOST_FIGURES : ∃ t, mg "MOST_FIGURES" = some (.int 60 t)
  c_FIGURES : ∃ t, mg "FIGURES" = some (.str (PySem.Str.ofString "0123456789") t)
  a_shown_lines : Addr
  d_shown_lines : FuncData
  g_shown_lines : mg "shown_lines" = some (.ref a_shown_lines)
  F_shown_lines : Fun K "shown_lines" "shown_lines" s_shown_lines a_shown_lines d_shown_lines
  b_shown_lines : Binds K d_shown_lines ["some"] []
  a_number_told : Addr
  d_number_told : FuncData
  g_number_told : mg "number_told" = some (.ref a_number_told)
  F_number_told : Fun K "number_told" "number_told" s_number_told a_number_told d_number_told
  b_number_told : Binds K d_number_told ["word"] []
  a_Lmix : Addr
  d_Lmix : FuncData
  g_Lmix : mg "_law_mix" = some (.ref a_Lmix)
  F_Lmix : Fun K "_law_mix" "_law_mix" s_Lmix a_Lmix d_Lmix
  b_Lmix : Binds K d_Lmix ["_law_cell_here", "_law_k"] []
  a_Lwritten : Addr
  d_Lwritten : FuncData
  g_Lwritten : mg "_law_written" = some (.ref a_Lwritten)
  F_Lwritten : Fun K "_law_written" "_law_written" s_Lwritten a_Lwritten d_Lwritten
  b_Lwritten : Binds K d_Lwritten ["_law_number_here"] []
  a_shown_row : Addr
  d_shown_row : FuncData
  g_shown_row : mg "shown_row" = some (.ref a_shown_row)
  F_shown_row : Fun K "shown_row" "shown_row" s_shown_row a_shown_row d_shown_row
  b_shown_row : Binds K d_shown_row ["row"] []
  a_numbers_told : Addr
  d_numbers_told : FuncData
  g_numbers_told : mg "numbers_told" = some (.ref a_numbers_told)
  F_numbers_told : Fun K "numbers_told" "numbers_told" s_numbers_told a_numbers_told d_numbers_told
  b_numbers_told : Binds K d_numbers_told ["text", "many"] []
  a_Lcell : Addr
  d_Lcell : FuncData
  g_Lcell : mg "_law_cell" = some (.ref a_Lcell)
  F_Lcell : Fun K "_law_cell" "_law_cell" s_Lcell a_Lcell d_Lcell
  b_Lcell : Binds K d_Lcell ["_law_script", "_law_k"] []
  a_Lnumber : Addr
  d_Lnumber : FuncData
  g_Lnumber : mg "_law_number" = some (.ref a_Lnumber)
  F_Lnumber : Fun K "_law_number" "_law_number" s_Lnumber a_Lnumber d_Lnumber
  b_Lnumber : Binds K d_Lnumber ["_law_cell_here"] []
  a_read_row : Addr
  d_read_row : FuncData
  g_read_row : mg "read_row" = some (.ref a_read_row)
  F_read_row : Fun K "read_row" "read_row" s_read_row a_read_row d_read_row
  b_read_row : Binds K d_read_row ["text"] []
  a_Lrow : Addr
  d_Lrow : FuncData
  g_Lrow : mg "_law_row" = some (.ref a_Lrow)
  F_Lrow : Fun K "_law_row" "_law_row" s_Lrow a_Lrow d_Lrow
  b_Lrow : Binds K d_Lrow ["_law_script"] []
  a_Lasked : Addr
  d_Lasked : FuncData
  g_Lasked : mg "_law_asked" = some (.ref a_Lasked)
  F_Lasked : Fun K "_law_asked" "_law_asked" s_Lasked a_Lasked d_Lasked
  b_Lasked : Binds K d_Lasked ["_law_row_here"] []
  a_law : Addr
  d_law : FuncData
  g_law : mg "law" = some (.ref a_law)
  F_law : Fun K "law" "law" s_law a_law d_law
  b_law : Binds K d_law ["_law_script"] []
theorem ok_shown_lines {P : Program} {w : World} {K : Fg} {mg : Str → Option Value} {base : Heap} (T : Txt K mg) : FnOk P w K mg base CX0 1 T.a_shown_lines T.d_shown_lines ["some"] (spF K (fun (y : (List (P2 Int Int)) × Unit) => m_shown_lines y.1)) := by
  refine fn_g (n := 2) T.F_shown_lines sc_shown_lines (fun (y : (List (P2 Int Int)) × Unit) => m_shown_lines y.1) (fun _ : Unit => ([] : List Ent)) (fun _ : Unit => ([] : List Ent)) rfl rfl (fun cdv Ar outer s H E hr y r h _ => ?_)
  obtain ⟨v_some, u⟩ := y
  replace h := retOf_some h
  refine bx_start (Γ := [.fz (v_some : (List (P2 Int Int))), .no, .no]) rfl ?_
  exact bx_ret (px_joinT px_str (pl_of_new (pn_comp [("numbers", 1)] rfl sc_shown_lines.nd (by show blkC nm_shown_lines (defScope s_shown_lines) _ _ = true; decide +kernel) (pic_list (pl_of (px_var 0))) (fun _ _ _ _ _ => (pgx_name 1 sc_shown_lines.nd)) (fun _ _ _ _ _ v_c_1 => ptxs_nil) (fun _ _ _ _ _ v_c_1 => (px_joinT px_str (pl_of_new (pn_comp [("number", 2)] rfl sc_shown_lines.nd (by exact rfl) (pic_of (pif_t2 (px_var 1))) (fun _ _ _ _ _ => (pgx_name 2 sc_shown_lines.nd)) (fun _ _ _ _ _ v_c_2 => ptxs_nil) (fun _ _ _ _ _ v_c_2 => (px_strI T.n_str (px_var 2)))))))))) h
theorem ok_number_told {P : Program} {w : World} {K : Fg} {mg : Str → Option Value} {base : Heap} (T : Txt K mg) : FnOk P w K mg base CX0 1 T.a_number_told T.d_number_told ["word"] (spF K (fun (y : Str × Unit) => m_number_told y.1)) := by
  refine fn_g (n := 2) T.F_number_told sc_number_told (fun (y : Str × Unit) => m_number_told y.1) (fun _ : Unit => ([] : List Ent)) (fun _ : Unit => ([] : List Ent)) rfl rfl (fun cdv Ar outer s H E hr y r h _ => ?_)
  obtain ⟨v_word, u⟩ := y
  replace h := retOf_some h
  refine bx_start (Γ := [.fz (v_word : Str), .no, .no]) rfl ?_
  refine bx_asg (px_var 0) (pgx_name 1 sc_number_told.nd) h fun v_figures_1 h => ?_
  refine bx_if (J := Str) (GJ := fun v_j_2 => [.fz (v_word : Str), .fz (v_j_2 : Str), .no]) (ptx_eqs (px_slT (px_var 0) pox_none (pox_some px_int)) px_str) (fun o' h => ?_) (fun o' h => ?_) h (fun v_j_2 h => ?_)
  · refine bx_asg (px_slT (px_var 0) (pox_some px_int) pox_none) (pgx_name 1 sc_number_told.nd) h fun v_figures_3 h => ?_
    exact bx_nil h (by repeat (first | exact Wk.n | apply Wk.s | apply Wk.d))
  · exact bx_nil h (by repeat (first | exact Wk.n | apply Wk.s | apply Wk.d))
  · refine bx_if (J := Unit) (GJ := fun v_j_4 => [.fz (v_word : Str), .fz (v_j_2 : Str), .no]) (ptx_of_w (pwx_or (ptx_lt (px_lnT T.n_len (px_var 1)) px_int) (pwx_or (ptx_gt (px_lnT T.n_len (px_var 1)) (px_globI T.c_MOST_FIGURES)) (pwx_or1 (ptx_of_w (pwx_and (ptx_eqs (px_ixT (px_var 1) px_int) px_str) (pwx_and1 (ptx_nes (px_var 0) px_str)))))))) (fun o' h => ?_) (fun o' h => ?_) h (fun v_j_4 h => ?_)
    · exact bx_ret (px_none (α := Int)) h
    · exact bx_nil h (by repeat (first | exact Wk.n | apply Wk.s | apply Wk.d))
    · refine bx_for (S := Unit) (GS := fun v_s_5 => [.fz (v_word : Str), .fz (v_j_2 : Str), .no]) (s0 := ()) PassesOwn.never rfl (pif_txt (px_var 1)) (pgx_name 2 sc_number_told.nd) (by repeat (first | exact Wk.n | apply Wk.s | apply Wk.d)) (fun v_s_5 v_x_6 o' h => ?_) h (fun v_s_5 h => ?_)
      · refine bx_if (J := Unit) (GJ := fun v_j_7 => [.fz (v_word : Str), .fz (v_j_2 : Str), .fz (v_x_6 : Sg)]) (ptx_notinT (px_var 2) (px_globS T.c_FIGURES)) (fun o' h => ?_) (fun o' h => ?_) h (fun v_j_7 h => ?_)
        · exact bx_ret (px_none (α := Int)) h
        · exact bx_nil h (by repeat (first | exact Wk.n | apply Wk.s | apply Wk.d))
        · exact bx_nil h (by repeat (first | exact Wk.n | apply Wk.s | apply Wk.d))
      · exact bx_ret (px_some (px_intT T.n_int (px_var 0))) h
theorem ok_Lmix {P : Program} {w : World} {K : Fg} {mg : Str → Option Value} {base : Heap} (T : Txt K mg) : FnOk P w K mg base CX0 1 T.a_Lmix T.d_Lmix ["_law_cell_here", "_law_k"] (spF K (fun (y : Int × Int × Unit) => m_Lmix y.1 y.2.1)) := by
  refine fn_g (n := 1) T.F_Lmix sc_Lmix (fun (y : Int × Int × Unit) => m_Lmix y.1 y.2.1) (fun _ : Unit => ([] : List Ent)) (fun _ : Unit => ([] : List Ent)) rfl rfl (fun cdv Ar outer s H E hr y r h _ => ?_)
  obtain ⟨v_cell_here, v_k, u⟩ := y
  replace h := retOf_some h
  refine bx_start (Γ := [.fz (v_cell_here : Int), .fz (v_k : Int), .no]) rfl ?_
  refine bx_asg (px_mod (px_mul (px_add (px_var 0) px_int) (px_add px_int (px_mul px_int (px_var 1)))) px_int) (pgx_name 2 sc_Lmix.nd) h fun v_first_1 h => ?_
  exact bx_ret (px_mod (px_add (px_add (px_mul (px_div (px_var 2) px_int) px_int) (px_mul (px_var 2) (px_add (px_mul (px_var 1) (px_var 1)) px_int))) (px_var 1)) px_int) h
theorem ok_Lwritten {P : Program} {w : World} {K : Fg} {mg : Str → Option Value} {base : Heap} (T : Txt K mg) : FnOk P w K mg base CX0 1 T.a_Lwritten T.d_Lwritten ["_law_number_here"] (spF K (fun (y : Int × Unit) => m_Lwritten y.1)) := by
  refine fn_g (n := 3) T.F_Lwritten sc_Lwritten (fun (y : Int × Unit) => m_Lwritten y.1) (fun _ : Unit => ([] : List Ent)) (fun _ : Unit => ([] : List Ent)) rfl rfl (fun cdv Ar outer s H E hr y r h _ => ?_)
  obtain ⟨v_number_here, u⟩ := y
  replace h := retOf_some h
  refine bx_start (Γ := [.fz (v_number_here : Int), .no, .no, .no]) rfl ?_
  refine bx_asg px_str (pgx_name 1 sc_Lwritten.nd) h fun v_figures_1 h => ?_
  refine bx_asg (px_max T.n_max rfl (px_var 0) (px_sub px_int (px_var 0))) (pgx_name 2 sc_Lwritten.nd) h fun v_rest_2 h => ?_
  refine bx_asg (px_ixT (px_var 1) (px_mod (px_var 2) px_int)) (pgx_name 3 sc_Lwritten.nd) h fun v_found_3 h => ?_
  refine bx_while (S := Int × Str) (GS := fun v_s_4 => [.fz (v_number_here : Int), .fz (v_figures_1 : Str), .fz (v_s_4.1 : Int), .fz (v_s_4.2 : Str)]) (s0 := (v_rest_2, v_found_3)) (n0 := v_rest_2.toNat + 1) PassesOwn.never (fun v_s_4 => (ptx_gt (px_var 2) px_int)) (by repeat (first | exact Wk.n | apply Wk.s | apply Wk.d)) (fun v_s_4 o' h => ?_) h (fun v_s_4 h => ?_)
  · refine bx_asg (px_div (px_var 2) px_int) (pgx_name 2 sc_Lwritten.nd) h fun v_rest_5 h => ?_
    refine bx_asg (px_catT (px_ixT (px_var 1) (px_mod (px_var 2) px_int)) (px_var 3)) (pgx_name 3 sc_Lwritten.nd) h fun v_found_6 h => ?_
    exact bx_nil h (by repeat (first | exact Wk.n | apply Wk.s | apply Wk.d))
  · exact bx_ret (px_catT (px_mulT px_str (px_intB T.n_int (px_lt (px_var 0) px_int))) (px_var 3)) h
theorem ok_shown_row {P : Program} {w : World} {K : Fg} {mg : Str → Option Value} {base : Heap} (T : Txt K mg) : FnOk P w K mg base CX0 2 T.a_shown_row T.d_shown_row ["row"] (spF K (fun (y : (List (P2 Int Int)) × Unit) => m_shown_row y.1)) := by
  refine fn_g (n := 0) T.F_shown_row sc_shown_row (fun (y : (List (P2 Int Int)) × Unit) => m_shown_row y.1) (fun _ : Unit => ([] : List Ent)) (fun _ : Unit => ([] : List Ent)) rfl rfl (fun cdv Ar outer s H E hr y r h _ => ?_)
  obtain ⟨v_row, u⟩ := y
  replace h := retOf_some h
  refine bx_start (Γ := [.fz (v_row : (List (P2 Int Int)))]) rfl ?_
  exact bx_ret (px_call (ok_shown_lines T) (hr.mono (by decide)) T.g_shown_lines T.F_shown_lines.kp T.b_shown_lines (pax_cons (px_var 0) pax_nil)) h
theorem ok_numbers_told {P : Program} {w : World} {K : Fg} {mg : Str → Option Value} {base : Heap} (T : Txt K mg) : FnOk P w K mg base CX0 2 T.a_numbers_told T.d_numbers_told ["text", "many"] (spO K (fun (y : Str × Int × Unit) => m_numbers_told y.1 y.2.1)) := by
  refine fn_o (n := 5) T.F_numbers_told sc_numbers_told (fun (y : Str × Int × Unit) => m_numbers_told y.1 y.2.1) (fun _ : Unit => ([] : List Ent)) (fun _ : Unit => ([] : List Ent)) rfl rfl (fun cdv Ar outer s H E hr y r h _ => ?_)
  obtain ⟨v_text, v_many, u⟩ := y
  replace h := retOf_some h
  refine bx_start (Γ := [.fz (v_text : Str), .fz (v_many : Int), .no, .no, .no, .no, .no]) rfl ?_
  refine bx_new 2 sc_numbers_told.nd (pn_lst (phx_nil (α := (P2 Int Int))) (len_line len_nil)) h fun v_found_1 h => ?_
  refine bx_for (S := (List (P2 Int Int))) (GS := fun v_s_2 => [.fz (v_text : Str), .fz (v_many : Int), .ow none (v_s_2 : (List (P2 Int Int))), .no, .no, .no, .no]) (s0 := (v_found_1)) PassesOwn.never rfl (pif_enum T.n_enumerate (px_of_new (pn_split (px_var 0) px_str))) (pgx_p2 rfl (pgx_name 3 sc_numbers_told.nd) (pgx_name 4 sc_numbers_told.nd)) (by repeat (first | exact Wk.n | apply Wk.s | apply Wk.d)) (fun v_s_2 v_x_3 o' h => ?_) h (fun v_s_2 h => ?_)
  · refine bx_comp 5 [("word", 6)] rfl sc_numbers_told.nd (by show blkC nm_numbers_told (defScope s_numbers_told) _ _ = true; decide +kernel) (pic_list (pl_of_new (pn_split (px_var 4) px_str))) (fun _ _ _ _ _ => (pgx_name 6 sc_numbers_told.nd)) (fun _ _ _ _ _ v_c_4 => ptxs_nil) (fun _ _ _ _ _ v_c_4 => (px_call (ok_number_told T) (hr.mono (by decide)) T.g_number_told T.F_number_told.kp T.b_number_told (pax_cons (px_var 6) pax_nil))) h (fun v_numbers_5 h => ?_) (sw_true rfl rfl rfl (by decide +kernel))
    refine bx_freeze 5 ?_
    refine bx_if (J := Unit) (GJ := fun v_j_6 => [.fz (v_text : Str), .fz (v_many : Int), .ow none (v_s_2 : (List (P2 Int Int))), .fz (v_x_3.a : Int), .fz (v_x_3.b : Str), .fz (v_numbers_5 : (List (Option Int))), .no]) (ptx_of_w (pwx_or (ptx_ne hr.units (px_len T.n_len (pl_of (px_var 5))) (px_var 1)) (pwx_or1 (ptx_noneIn (pl_of (px_var 5)))))) (fun o' h => ?_) (fun o' h => ?_) h (fun v_j_6 h => ?_)
    · exact bx_raiseN h
    · exact bx_nil h (by repeat (first | exact Wk.n | apply Wk.s | apply Wk.d))
    · refine bx_append (pr_var 2) (px_all2 (px_tup2 T.n_tuple (pl_of (px_var 5)))) h fun v_w_7 h => ?_
      exact bx_nil h (by repeat (first | exact Wk.n | apply Wk.s | apply Wk.d))
  · exact bx_retO (prt_var 2) h
theorem ok_Lcell {P : Program} {w : World} {K : Fg} {mg : Str → Option Value} {base : Heap} (T : Txt K mg) : FnOk P w K mg base CX0 2 T.a_Lcell T.d_Lcell ["_law_script", "_law_k"] (spF K (fun (y : Scr × Int × Unit) => m_Lcell y.1 y.2.1)) := by
  refine fn_g (n := 1) T.F_Lcell sc_Lcell (fun (y : Scr × Int × Unit) => m_Lcell y.1 y.2.1) (fun _ : Unit => ([] : List Ent)) (fun _ : Unit => ([] : List Ent)) rfl rfl (fun cdv Ar outer s H E hr y r h _ => ?_)
  obtain ⟨v_script, v_k, u⟩ := y
  replace h := retOf_some h
  refine bx_start (Γ := [.fz (v_script : Scr), .fz (v_k : Int), .no]) rfl ?_
  refine bx_asg px_int (pgx_name 2 sc_Lcell.nd) h fun v_cell_here_1 h => ?_
  refine bx_if (J := Int) (GJ := fun v_j_2 => [.fz (v_script : Scr), .fz (v_k : Int), .fz (v_j_2 : Int)]) (ptx_lt (px_var 1) (px_lenS T.n_len (px_var 0))) (fun o' h => ?_) (fun o' h => ?_) h (fun v_j_2 h => ?_)
  · refine bx_asg (px_mod (px_ixS (px_var 0) (px_var 1)) px_int) (pgx_name 2 sc_Lcell.nd) h fun v_cell_here_3 h => ?_
    exact bx_nil h (by repeat (first | exact Wk.n | apply Wk.s | apply Wk.d))
  · exact bx_nil h (by repeat (first | exact Wk.n | apply Wk.s | apply Wk.d))
  · exact bx_ret (px_call (ok_Lmix T) (hr.mono (by decide)) T.g_Lmix T.F_Lmix.kp T.b_Lmix (pax_cons (px_var 2) (pax_cons (px_add (px_var 1) px_int) pax_nil))) h
theorem ok_Lnumber {P : Program} {w : World} {K : Fg} {mg : Str → Option Value} {base : Heap} (T : Txt K mg) : FnOk P w K mg base CX0 2 T.a_Lnumber T.d_Lnumber ["_law_cell_here"] (spF K (fun (y : Int × Unit) => m_Lnumber y.1)) := by
  refine fn_g (n := 3) T.F_Lnumber sc_Lnumber (fun (y : Int × Unit) => m_Lnumber y.1) (fun _ : Unit => ([] : List Ent)) (fun _ : Unit => ([] : List Ent)) rfl rfl (fun cdv Ar outer s H E hr y r h _ => ?_)
  obtain ⟨v_cell_here, u⟩ := y
  replace h := retOf_some h
  refine bx_start (Γ := [.fz (v_cell_here : Int), .no, .no, .no]) rfl ?_
  refine bx_asg (px_add px_int (px_mod (px_div (px_var 0) px_int) px_int)) (pgx_name 1 sc_Lnumber.nd) h fun v_size_1 h => ?_
  refine bx_asg (px_add px_int (px_mod (px_call (ok_Lmix T) (hr.mono (by decide)) T.g_Lmix T.F_Lmix.kp T.b_Lmix (pax_cons (px_var 0) (pax_cons px_int pax_nil))) px_int)) (pgx_name 2 sc_Lnumber.nd) h fun v_number_here_2 h => ?_
  refine bx_for (S := Int) (GS := fun v_s_3 => [.fz (v_cell_here : Int), .fz (v_size_1 : Int), .fz (v_s_3 : Int), .no]) (s0 := (v_number_here_2)) PassesOwn.never rfl (pif_range1 T.n_range (px_sub (px_var 1) px_int)) (pgx_name 3 sc_Lnumber.nd) (by repeat (first | exact Wk.n | apply Wk.s | apply Wk.d)) (fun v_s_3 v_x_4 o' h => ?_) h (fun v_s_3 h => ?_)
  · refine bx_asg (px_add (px_mul (px_var 2) px_int) (px_mod (px_call (ok_Lmix T) (hr.mono (by decide)) T.g_Lmix T.F_Lmix.kp T.b_Lmix (pax_cons (px_var 0) (pax_cons (px_add px_int (px_var 3)) pax_nil))) px_int)) (pgx_name 2 sc_Lnumber.nd) h fun v_number_here_5 h => ?_
    exact bx_nil h (by repeat (first | exact Wk.n | apply Wk.s | apply Wk.d))
  · exact bx_ret (px_ix (pl_of_new (pn_lst (phx_cons px_int (phx_cons px_int (phx_cons (px_mod (px_div (px_var 0) px_int) px_int) (phx_cons (px_sub (px_sub px_int px_int) (px_mod (px_div (px_var 0) px_int) px_int)) (phx_cons (px_var 2) (phx_cons (px_sub px_int (px_var 2)) (phx_cons (px_sub (px_pow px_int px_int) px_int) (phx_cons (px_sub px_int (px_pow px_int px_int)) (phx_nil (α := Int)))))))))) (len_line (len_cons (len_cons (len_cons (len_cons (len_cons (len_cons (len_cons (len_cons len_nil))))))))))) (px_mod (px_var 0) px_int)) h
theorem ok_read_row {P : Program} {w : World} {K : Fg} {mg : Str → Option Value} {base : Heap} (T : Txt K mg) : FnOk P w K mg base CX0 3 T.a_read_row T.d_read_row ["text"] (spO K (fun (y : Str × Unit) => m_read_row y.1)) := by
  refine fn_o (n := 0) T.F_read_row sc_read_row (fun (y : Str × Unit) => m_read_row y.1) (fun _ : Unit => ([] : List Ent)) (fun _ : Unit => ([] : List Ent)) rfl rfl (fun cdv Ar outer s H E hr y r h _ => ?_)
  obtain ⟨v_text, u⟩ := y
  replace h := retOf_some h
  refine bx_start (Γ := [.fz (v_text : Str)]) rfl ?_
  refine bx_if (J := Unit) (GJ := fun v_j_1 => [.fz (v_text : Str)]) (ptx_eqs (px_var 0) px_str) (fun o' h => ?_) (fun o' h => ?_) h (fun v_j_1 h => ?_)
  · exact bx_retO (prt_new (pno_of_pn (pn_lst (phx_nil (α := (P2 Int Int))) (len_line len_nil)))) h
  · exact bx_nil h (by repeat (first | exact Wk.n | apply Wk.s | apply Wk.d))
  · exact bx_retO (prt_new (pno_call (ok_numbers_told T) (hr.mono (by decide)) T.g_numbers_told T.F_numbers_told.kp T.b_numbers_told (pax_cons (px_var 0) (pax_cons px_int pax_nil)))) h
theorem ok_Lrow {P : Program} {w : World} {K : Fg} {mg : Str → Option Value} {base : Heap} (T : Txt K mg) : FnOk P w K mg base CX0 3 T.a_Lrow T.d_Lrow ["_law_script"] (spO K (fun (y : Scr × Unit) => m_Lrow y.1)) := by
  refine fn_o (n := 4) T.F_Lrow sc_Lrow (fun (y : Scr × Unit) => m_Lrow y.1) (fun _ : Unit => ([] : List Ent)) (fun _ : Unit => ([] : List Ent)) rfl rfl (fun cdv Ar outer s H E hr y r h _ => ?_)
  obtain ⟨v_script, u⟩ := y
  replace h := retOf_some h
  refine bx_start (Γ := [.fz (v_script : Scr), .no, .no, .no, .no]) rfl ?_
  refine bx_new 1 sc_Lrow.nd (pn_lst (phx_nil (α := (P2 Int Int))) (len_line len_nil)) h fun v_row_here_1 h => ?_
  refine bx_for (S := (List (P2 Int Int))) (GS := fun v_s_2 => [.fz (v_script : Scr), .ow none (v_s_2 : (List (P2 Int Int))), .no, .no, .no]) (s0 := (v_row_here_1)) PassesOwn.never rfl (pif_range2 T.n_range px_int (px_min T.n_min rfl (px_lenS T.n_len (px_var 0)) px_int)) (pgx_name 2 sc_Lrow.nd) (by repeat (first | exact Wk.n | apply Wk.s | apply Wk.d)) (fun v_s_2 v_x_3 o' h => ?_) h (fun v_s_2 h => ?_)
  · refine bx_asg (px_call (ok_Lmix T) (hr.mono (by decide)) T.g_Lmix T.F_Lmix.kp T.b_Lmix (pax_cons (px_call (ok_Lcell T) (hr.mono (by decide)) T.g_Lcell T.F_Lcell.kp T.b_Lcell (pax_cons (px_var 0) (pax_cons (px_var 2) pax_nil))) (pax_cons (px_var 2) pax_nil))) (pgx_name 3 sc_Lrow.nd) h fun v_cell_here_4 h => ?_
    refine bx_asg (px_ix (pl_of_new (pn_lst (phx_cons px_int (phx_cons (px_add px_int (px_mod (px_div (px_var 3) px_int) px_int)) (phx_cons (px_pow px_int px_int) (phx_cons (px_call (ok_Lnumber T) (hr.mono (by decide)) T.g_Lnumber T.F_Lnumber.kp T.b_Lnumber (pax_cons (px_call (ok_Lmix T) (hr.mono (by decide)) T.g_Lmix T.F_Lmix.kp T.b_Lmix (pax_cons (px_var 3) (pax_cons px_int pax_nil))) pax_nil)) (phx_nil (α := Int)))))) (len_line (len_cons (len_cons (len_cons (len_cons len_nil))))))) (px_mod (px_var 3) px_int)) (pgx_name 4 sc_Lrow.nd) h fun v_times_5 h => ?_
    refine bx_append (pr_var 1) (px_p2 (px_call (ok_Lnumber T) (hr.mono (by decide)) T.g_Lnumber T.F_Lnumber.kp T.b_Lnumber (pax_cons (px_call (ok_Lmix T) (hr.mono (by decide)) T.g_Lmix T.F_Lmix.kp T.b_Lmix (pax_cons (px_var 3) (pax_cons px_int pax_nil))) pax_nil)) (px_var 4)) h fun v_w_6 h => ?_
    exact bx_nil h (by repeat (first | exact Wk.n | apply Wk.s | apply Wk.d))
  · exact bx_retO (prt_var 1) h
theorem ok_Lasked {P : Program} {w : World} {K : Fg} {mg : Str → Option Value} {base : Heap} (T : Txt K mg) : FnOk P w K mg base CX0 4 T.a_Lasked T.d_Lasked ["_law_row_here"] (spF K (fun (y : (List (P2 Int Int)) × Unit) => m_Lasked y.1)) := by
  refine fn_g (n := 7) T.F_Lasked sc_Lasked (fun (y : (List (P2 Int Int)) × Unit) => m_Lasked y.1) (fun _ : Unit => ([] : List Ent)) (fun _ : Unit => ([] : List Ent)) rfl rfl (fun cdv Ar outer s H E hr y r h _ => ?_)
  obtain ⟨v_row_here, u⟩ := y
  replace h := retOf_some h
  refine bx_start (Γ := [.fz (v_row_here : (List (P2 Int Int))), .no, .no, .no, .no, .no, .no, .no]) rfl ?_
  refine bx_asg (px_of_new (pn_list T.n_list (pl_of (px_var 0)))) (pgx_name 1 sc_Lasked.nd) h fun v_handed_1 h => ?_
  refine bx_asg (px_call (ok_shown_row T) (hr.mono (by decide)) T.g_shown_row T.F_shown_row.kp T.b_shown_row (pax_cons (px_var 1) pax_nil)) (pgx_name 2 sc_Lasked.nd) h fun v_text_2 h => ?_
  refine bx_asg (px_joinT px_str (pl_of_new (pn_comp [("_law_number_here", 6), ("_law_times", 7)] rfl sc_Lasked.nd (by show blkC nm_Lasked (defScope s_Lasked) _ _ = true; decide +kernel) (pic_list (pl_of (px_var 0))) (fun _ _ _ _ _ => (pgx_p2 rfl (pgx_name 6 sc_Lasked.nd) (pgx_name 7 sc_Lasked.nd))) (fun _ _ _ _ _ v_c_3 => ptxs_nil) (fun _ _ _ _ _ v_c_3 => (px_catT (px_catT (px_call (ok_Lwritten T) (hr.mono (by decide)) T.g_Lwritten T.F_Lwritten.kp T.b_Lwritten (pax_cons (px_var 6) pax_nil)) px_str) (px_call (ok_Lwritten T) (hr.mono (by decide)) T.g_Lwritten T.F_Lwritten.kp T.b_Lwritten (pax_cons (px_var 7) pax_nil))))))) (pgx_name 3 sc_Lasked.nd) h fun v_due_4 h => ?_
  refine bx_if (J := Unit) (GJ := fun v_j_5 => [.fz (v_row_here : (List (P2 Int Int))), .fz (v_handed_1 : (List (P2 Int Int))), .fz (v_text_2 : Str), .fz (v_due_4 : Str), .no, .no, .no, .no]) (ptx_of_w (pwx_or (ptx_not (ptx_val (px_isi (T := "str") T.n_isinstance T.n_str (px_var 2)))) (pwx_or (ptx_nes (px_var 2) (px_var 3)) (pwx_or1 (ptx_ne hr.units (px_var 1) (px_var 0)))))) (fun o' h => ?_) (fun o' h => ?_) h (fun v_j_5 h => ?_)
  · exact bx_ret px_bl h
  · exact bx_nil h (by repeat (first | exact Wk.n | apply Wk.s | apply Wk.d))
  · refine bx_newO 4 sc_Lasked.nd (pno_call (ok_read_row T) (hr.mono (by decide)) T.g_read_row T.F_read_row.kp T.b_read_row (pax_cons (px_var 2) pax_nil)) h fun v_found_6 h => ?_
    refine bx_if (J := Unit) (GJ := fun v_j_7 => [.fz (v_row_here : (List (P2 Int Int))), .fz (v_handed_1 : (List (P2 Int Int))), .fz (v_text_2 : Str), .fz (v_due_4 : Str), .ow none (v_found_6 : (List (P2 Int Int))), .no, .no, .no]) (ptx_of_w (pwx_or (ptx_not (ptx_val (px_lend (px_isi (T := "list") T.n_isinstance T.n_list (px_var 4))))) (pwx_or1 (ptx_lend (ptx_ne hr.units (px_var 4) (px_var 0)))))) (fun o' h => ?_) (fun o' h => ?_) h (fun v_j_7 h => ?_)
    · exact bx_ret px_bl h
    · exact bx_nil h (by repeat (first | exact Wk.n | apply Wk.s | apply Wk.d))
    · refine bx_forQ 4 (S := Unit) (GS := fun v_s_8 => [.fz (v_row_here : (List (P2 Int Int))), .fz (v_handed_1 : (List (P2 Int Int))), .fz (v_text_2 : Str), .fz (v_due_4 : Str), .ow none (v_found_6 : (List (P2 Int Int))), .no, .no, .no]) (s0 := ()) PassesOwn.never rfl pip_list rfl (pgx_name 5 sc_Lasked.nd) (by repeat (first | exact Wk.n | apply Wk.s | apply Wk.d)) (fun _ => rfl) (fun _ => by repeat constructor) (fun _ _ _ _ _ h => h) (fun v_s_8 v_x_9 o' h => ?_) h (fun v_s_8 h => ?_)
      · refine bx_if (J := Unit) (GJ := fun v_j_10 => [.fz (v_row_here : (List (P2 Int Int))), .fz (v_handed_1 : (List (P2 Int Int))), .fz (v_text_2 : Str), .fz (v_due_4 : Str), pinE, .fz (v_x_9 : (P2 Int Int)), .no, .no]) (ptx_of_w (pwx_or (ptx_not (ptx_val (px_isi (T := "tuple") T.n_isinstance T.n_tuple (px_var 5)))) (pwx_or (ptx_val (px_isi (T := "bool") T.n_isinstance T.n_bool (px_2a (px_var 5)))) (pwx_or1 (ptx_val (px_isi (T := "bool") T.n_isinstance T.n_bool (px_2b (px_var 5)))))))) (fun o' h => ?_) (fun o' h => ?_) h (fun v_j_10 h => ?_)
        · exact bx_ret px_bl h
        · exact bx_nil h (by repeat (first | exact Wk.n | apply Wk.s | apply Wk.d))
        · exact bx_nil h (by repeat (first | exact Wk.n | apply Wk.s | apply Wk.d))
      · refine bx_append (pr_var 4) (px_p2 px_int px_int) h fun v_w_11 h => ?_
        exact bx_ret px_bl h
theorem ok_law {P : Program} {w : World} {K : Fg} {mg : Str → Option Value} {base : Heap} (T : Txt K mg) : FnOk P w K mg base CX0 5 T.a_law T.d_law ["_law_script"] (spF K (fun (y : Scr × Unit) => m_law y.1)) := by
  refine fn_g (n := 2) T.F_law sc_law (fun (y : Scr × Unit) => m_law y.1) (fun _ : Unit => ([] : List Ent)) (fun _ : Unit => ([] : List Ent)) rfl rfl (fun cdv Ar outer s H E hr y r h _ => ?_)
  obtain ⟨v_script, u⟩ := y
  replace h := retOf_some h
  refine bx_start (Γ := [.fz (v_script : Scr), .no, .no]) rfl ?_
  refine bx_asg (px_of_pno (pno_call (ok_Lrow T) (hr.mono (by decide)) T.g_Lrow T.F_Lrow.kp T.b_Lrow (pax_cons (px_var 0) pax_nil))) (pgx_name 1 sc_law.nd) h fun v_row_here_1 h => ?_
  refine bx_asg (px_of_new (pn_slice (pl_of (px_var 1)) pox_none (pox_some (px_mod (px_call (ok_Lcell T) (hr.mono (by decide)) T.g_Lcell T.F_Lcell.kp T.b_Lcell (pax_cons (px_var 0) (pax_cons px_int pax_nil))) px_int)))) (pgx_name 2 sc_law.nd) h fun v_some_2 h => ?_
  exact bx_ret (px_and (px_call (ok_Lasked T) (hr.mono (by decide)) T.g_Lasked T.F_Lasked.kp T.b_Lasked (pax_cons (px_var 1) pax_nil)) (px_and (px_call (ok_Lasked T) (hr.mono (by decide)) T.g_Lasked T.F_Lasked.kp T.b_Lasked (pax_cons (px_of_new (pn_lst (phx_nil (α := (P2 Int Int))) (len_line len_nil))) pax_nil)) (px_and (px_call (ok_Lasked T) (hr.mono (by decide)) T.g_Lasked T.F_Lasked.kp T.b_Lasked (pax_cons (px_var 2) pax_nil)) (px_one (px_call (ok_Lasked T) (hr.mono (by decide)) T.g_Lasked T.F_Lasked.kp T.b_Lasked (pax_cons (px_var 1) pax_nil)))))) h
end G
namespace G
open PySem L2
def spLaw (K : Fg) : Sp := fun vs H Q _ => ∃ (a : Addr) (ns : List Int), vs = [.ref a] ∧ SqL K H a (ns.map V.int) ∧ ns.length ≤ 63 ∧ ∀ H', Q (.bl true) H'
theorem all_mk {l : PySem.W.OpenLaw} {w : World} {K : PySem.W.Frag} {h : Heap} {mg : Str → Option Value} {fa : Addr} (X : K.In h) (G : h.Ns mainGlobals mg) (hfa : mg "law" = some (.ref fa))
    {od0 an0 : Option Addr} {sl0 : Array (Option Value)} {oc0 kV0 dc0 pm0 cd0 ct0 : Value} {f0 : Addr}
    {od1 an1 : Option Addr} {sl1 : Array (Option Value)} {oc1 kV1 dc1 pm1 cd1 ct1 : Value} {f1 : Addr}
    {od2 an2 : Option Addr} {sl2 : Array (Option Value)} {oc2 kV2 dc2 pm2 cd2 ct2 : Value} {f2 : Addr}
    {od3 an3 : Option Addr} {sl3 : Array (Option Value)} {oc3 kV3 dc3 pm3 cd3 ct3 : Value} {f3 : Addr}
    {od4 an4 : Option Addr} {sl4 : Array (Option Value)} {oc4 kV4 dc4 pm4 cd4 ct4 : Value} {f4 : Addr}
    {od5 an5 : Option Addr} {sl5 : Array (Option Value)} {oc5 kV5 dc5 pm5 cd5 ct5 : Value} {f5 : Addr}
    {od6 an6 : Option Addr} {sl6 : Array (Option Value)} {oc6 kV6 dc6 pm6 cd6 ct6 : Value} {f6 : Addr}
    {od7 an7 : Option Addr} {sl7 : Array (Option Value)} {oc7 kV7 dc7 pm7 cd7 ct7 : Value} {f7 : Addr}
    {od8 an8 : Option Addr} {sl8 : Array (Option Value)} {oc8 kV8 dc8 pm8 cd8 ct8 : Value} {f8 : Addr}
    {od9 an9 : Option Addr} {sl9 : Array (Option Value)} {oc9 kV9 dc9 pm9 cd9 ct9 : Value} {f9 : Addr}
    {od10 an10 : Option Addr} {sl10 : Array (Option Value)} {oc10 kV10 dc10 pm10 cd10 ct10 : Value} {f10 : Addr}
    {od11 an11 : Option Addr} {sl11 : Array (Option Value)} {oc11 kV11 dc11 pm11 cd11 ct11 : Value} {f11 : Addr}
    {tk_MOST_FIGURES : Tok} (h_c_MOST_FIGURES : PySem.W.nsIn K mainGlobals "MOST_FIGURES" = some (some (.int 60 tk_MOST_FIGURES)))
    {tk_FIGURES : Tok} (h_c_FIGURES : PySem.W.nsIn K mainGlobals "FIGURES" = some (some (.str (PySem.Str.ofString "0123456789") tk_FIGURES)))
    (z_bool : PySem.W.nsIn K mainGlobals "bool" = some none)
    (z_enumerate : PySem.W.nsIn K mainGlobals "enumerate" = some none)
    (z_int : PySem.W.nsIn K mainGlobals "int" = some none)
    (z_isinstance : PySem.W.nsIn K mainGlobals "isinstance" = some none)
    (z_len : PySem.W.nsIn K mainGlobals "len" = some none)
    (z_list : PySem.W.nsIn K mainGlobals "list" = some none)
    (z_max : PySem.W.nsIn K mainGlobals "max" = some none)
    (z_min : PySem.W.nsIn K mainGlobals "min" = some none)
    (z_range : PySem.W.nsIn K mainGlobals "range" = some none)
    (z_str : PySem.W.nsIn K mainGlobals "str" = some none)
    (z_tuple : PySem.W.nsIn K mainGlobals "tuple" = some none)
    (a0 : PySem.W.nsIn K mainGlobals "shown_lines" = some (some (.ref f0)))
    (l0 : K.lookup f0 = some ⟨oc0, od0, .func (PySem.W.fnOf "shown_lines" "shown_lines" (defArgs s_shown_lines) (defBody s_shown_lines) (defScope s_shown_lines) .none kV0 dc0 pm0 an0 cd0 ct0), sl0⟩) (c0 : PySem.W.codeIn K cd0 "shown_lines" = true) (k0 : PySem.W.keepIn K (.ref f0) = true)
    (a1 : PySem.W.nsIn K mainGlobals "number_told" = some (some (.ref f1)))
    (l1 : K.lookup f1 = some ⟨oc1, od1, .func (PySem.W.fnOf "number_told" "number_told" (defArgs s_number_told) (defBody s_number_told) (defScope s_number_told) .none kV1 dc1 pm1 an1 cd1 ct1), sl1⟩) (c1 : PySem.W.codeIn K cd1 "number_told" = true) (k1 : PySem.W.keepIn K (.ref f1) = true)
    (a2 : PySem.W.nsIn K mainGlobals "_law_mix" = some (some (.ref f2)))
    (l2 : K.lookup f2 = some ⟨oc2, od2, .func (PySem.W.fnOf "_law_mix" "_law_mix" (defArgs s_Lmix) (defBody s_Lmix) (defScope s_Lmix) .none kV2 dc2 pm2 an2 cd2 ct2), sl2⟩) (c2 : PySem.W.codeIn K cd2 "_law_mix" = true) (k2 : PySem.W.keepIn K (.ref f2) = true)
    (a3 : PySem.W.nsIn K mainGlobals "_law_written" = some (some (.ref f3)))
    (l3 : K.lookup f3 = some ⟨oc3, od3, .func (PySem.W.fnOf "_law_written" "_law_written" (defArgs s_Lwritten) (defBody s_Lwritten) (defScope s_Lwritten) .none kV3 dc3 pm3 an3 cd3 ct3), sl3⟩) (c3 : PySem.W.codeIn K cd3 "_law_written" = true) (k3 : PySem.W.keepIn K (.ref f3) = true)
    (a4 : PySem.W.nsIn K mainGlobals "shown_row" = some (some (.ref f4)))
    (l4 : K.lookup f4 = some ⟨oc4, od4, .func (PySem.W.fnOf "shown_row" "shown_row" (defArgs s_shown_row) (defBody s_shown_row) (defScope s_shown_row) .none kV4 dc4 pm4 an4 cd4 ct4), sl4⟩) (c4 : PySem.W.codeIn K cd4 "shown_row" = true) (k4 : PySem.W.keepIn K (.ref f4) = true)
    (a5 : PySem.W.nsIn K mainGlobals "numbers_told" = some (some (.ref f5)))
    (l5 : K.lookup f5 = some ⟨oc5, od5, .func (PySem.W.fnOf "numbers_told" "numbers_told" (defArgs s_numbers_told) (defBody s_numbers_told) (defScope s_numbers_told) .none kV5 dc5 pm5 an5 cd5 ct5), sl5⟩) (c5 : PySem.W.codeIn K cd5 "numbers_told" = true) (k5 : PySem.W.keepIn K (.ref f5) = true)
    (a6 : PySem.W.nsIn K mainGlobals "_law_cell" = some (some (.ref f6)))
    (l6 : K.lookup f6 = some ⟨oc6, od6, .func (PySem.W.fnOf "_law_cell" "_law_cell" (defArgs s_Lcell) (defBody s_Lcell) (defScope s_Lcell) .none kV6 dc6 pm6 an6 cd6 ct6), sl6⟩) (c6 : PySem.W.codeIn K cd6 "_law_cell" = true) (k6 : PySem.W.keepIn K (.ref f6) = true)
    (a7 : PySem.W.nsIn K mainGlobals "_law_number" = some (some (.ref f7)))
    (l7 : K.lookup f7 = some ⟨oc7, od7, .func (PySem.W.fnOf "_law_number" "_law_number" (defArgs s_Lnumber) (defBody s_Lnumber) (defScope s_Lnumber) .none kV7 dc7 pm7 an7 cd7 ct7), sl7⟩) (c7 : PySem.W.codeIn K cd7 "_law_number" = true) (k7 : PySem.W.keepIn K (.ref f7) = true)
    (a8 : PySem.W.nsIn K mainGlobals "read_row" = some (some (.ref f8)))
    (l8 : K.lookup f8 = some ⟨oc8, od8, .func (PySem.W.fnOf "read_row" "read_row" (defArgs s_read_row) (defBody s_read_row) (defScope s_read_row) .none kV8 dc8 pm8 an8 cd8 ct8), sl8⟩) (c8 : PySem.W.codeIn K cd8 "read_row" = true) (k8 : PySem.W.keepIn K (.ref f8) = true)
    (a9 : PySem.W.nsIn K mainGlobals "_law_row" = some (some (.ref f9)))
    (l9 : K.lookup f9 = some ⟨oc9, od9, .func (PySem.W.fnOf "_law_row" "_law_row" (defArgs s_Lrow) (defBody s_Lrow) (defScope s_Lrow) .none kV9 dc9 pm9 an9 cd9 ct9), sl9⟩) (c9 : PySem.W.codeIn K cd9 "_law_row" = true) (k9 : PySem.W.keepIn K (.ref f9) = true)
    (a10 : PySem.W.nsIn K mainGlobals "_law_asked" = some (some (.ref f10)))
    (l10 : K.lookup f10 = some ⟨oc10, od10, .func (PySem.W.fnOf "_law_asked" "_law_asked" (defArgs s_Lasked) (defBody s_Lasked) (defScope s_Lasked) .none kV10 dc10 pm10 an10 cd10 ct10), sl10⟩) (c10 : PySem.W.codeIn K cd10 "_law_asked" = true) (k10 : PySem.W.keepIn K (.ref f10) = true)
    (a11 : PySem.W.nsIn K mainGlobals "law" = some (some (.ref f11)))
    (l11 : K.lookup f11 = some ⟨oc11, od11, .func (PySem.W.fnOf "law" "law" (defArgs s_law) (defBody s_law) (defScope s_law) .none kV11 dc11 pm11 an11 cd11 ct11), sl11⟩) (c11 : PySem.W.codeIn K cd11 "law" = true) (k11 : PySem.W.keepIn K (.ref f11) = true)
    (plain : ∀ ns : List Int, ns.length ≤ 63 → m_law ⟨ns⟩ = some true) :
    ∃ fd : FuncData, (∀ (s : Shared) (v : Value), BindsTo s fd ⟨[v], []⟩ [("_law_script", v)]) ∧ ∀ base : Heap, K.In base → base.Ns mainGlobals mg → FnOk l.prog w K mg base CX0 5 fa fd ["_law_script"] (spLaw K) := by
  have e := hfa.symm.trans (PySem.W.mg_of X G a11)
  cases e
  have F0 := fun_mk (st := s_shown_lines) l0 c0 k0
  have F1 := fun_mk (st := s_number_told) l1 c1 k1
  have F2 := fun_mk (st := s_Lmix) l2 c2 k2
  have F3 := fun_mk (st := s_Lwritten) l3 c3 k3
  have F4 := fun_mk (st := s_shown_row) l4 c4 k4
  have F5 := fun_mk (st := s_numbers_told) l5 c5 k5
  have F6 := fun_mk (st := s_Lcell) l6 c6 k6
  have F7 := fun_mk (st := s_Lnumber) l7 c7 k7
  have F8 := fun_mk (st := s_read_row) l8 c8 k8
  have F9 := fun_mk (st := s_Lrow) l9 c9 k9
  have F10 := fun_mk (st := s_Lasked) l10 c10 k10
  have F11 := fun_mk (st := s_law) l11 c11 k11
  let T : Txt K mg := {
    n_bool := PySem.W.mg_none_of X G z_bool,
    n_enumerate := PySem.W.mg_none_of X G z_enumerate,
    n_int := PySem.W.mg_none_of X G z_int,
    n_isinstance := PySem.W.mg_none_of X G z_isinstance,
    n_len := PySem.W.mg_none_of X G z_len,
    n_list := PySem.W.mg_none_of X G z_list,
    n_max := PySem.W.mg_none_of X G z_max,
    n_min := PySem.W.mg_none_of X G z_min,
    n_range := PySem.W.mg_none_of X G z_range,
    n_str := PySem.W.mg_none_of X G z_str,
    n_tuple := PySem.W.mg_none_of X G z_tuple,
    c_MOST_FIGURES := ⟨_, PySem.W.mg_of X G h_c_MOST_FIGURES⟩,
    c_FIGURES := ⟨_, PySem.W.mg_of X G h_c_FIGURES⟩,
    a_shown_lines := f0, d_shown_lines := _, g_shown_lines := PySem.W.mg_of X G a0, F_shown_lines := F0, b_shown_lines := F0.binds (ps := ["some"]) fun _ _ _ _ _ _ us hl => match us, hl with | [_], _ => rfl,
    a_number_told := f1, d_number_told := _, g_number_told := PySem.W.mg_of X G a1, F_number_told := F1, b_number_told := F1.binds (ps := ["word"]) fun _ _ _ _ _ _ us hl => match us, hl with | [_], _ => rfl,
    a_Lmix := f2, d_Lmix := _, g_Lmix := PySem.W.mg_of X G a2, F_Lmix := F2, b_Lmix := F2.binds (ps := ["_law_cell_here", "_law_k"]) fun _ _ _ _ _ _ us hl => match us, hl with | [_, _], _ => rfl,
    a_Lwritten := f3, d_Lwritten := _, g_Lwritten := PySem.W.mg_of X G a3, F_Lwritten := F3, b_Lwritten := F3.binds (ps := ["_law_number_here"]) fun _ _ _ _ _ _ us hl => match us, hl with | [_], _ => rfl,
    a_shown_row := f4, d_shown_row := _, g_shown_row := PySem.W.mg_of X G a4, F_shown_row := F4, b_shown_row := F4.binds (ps := ["row"]) fun _ _ _ _ _ _ us hl => match us, hl with | [_], _ => rfl,
    a_numbers_told := f5, d_numbers_told := _, g_numbers_told := PySem.W.mg_of X G a5, F_numbers_told := F5, b_numbers_told := F5.binds (ps := ["text", "many"]) fun _ _ _ _ _ _ us hl => match us, hl with | [_, _], _ => rfl,
    a_Lcell := f6, d_Lcell := _, g_Lcell := PySem.W.mg_of X G a6, F_Lcell := F6, b_Lcell := F6.binds (ps := ["_law_script", "_law_k"]) fun _ _ _ _ _ _ us hl => match us, hl with | [_, _], _ => rfl,
    a_Lnumber := f7, d_Lnumber := _, g_Lnumber := PySem.W.mg_of X G a7, F_Lnumber := F7, b_Lnumber := F7.binds (ps := ["_law_cell_here"]) fun _ _ _ _ _ _ us hl => match us, hl with | [_], _ => rfl,
    a_read_row := f8, d_read_row := _, g_read_row := PySem.W.mg_of X G a8, F_read_row := F8, b_read_row := F8.binds (ps := ["text"]) fun _ _ _ _ _ _ us hl => match us, hl with | [_], _ => rfl,
    a_Lrow := f9, d_Lrow := _, g_Lrow := PySem.W.mg_of X G a9, F_Lrow := F9, b_Lrow := F9.binds (ps := ["_law_script"]) fun _ _ _ _ _ _ us hl => match us, hl with | [_], _ => rfl,
    a_Lasked := f10, d_Lasked := _, g_Lasked := PySem.W.mg_of X G a10, F_Lasked := F10, b_Lasked := F10.binds (ps := ["_law_row_here"]) fun _ _ _ _ _ _ us hl => match us, hl with | [_], _ => rfl,
    a_law := fa, d_law := _, g_law := PySem.W.mg_of X G a11, F_law := F11, b_law := F11.binds (ps := ["_law_script"]) fun _ _ _ _ _ _ us hl => match us, hl with | [_], _ => rfl }
  refine ⟨PySem.W.fnOf "law" "law" (defArgs s_law) (defBody s_law) (defScope s_law) .none kV11 dc11 pm11 an11 cd11 ct11, fun s v => .of_eq rfl, fun base _ _ => ?_⟩
  exact (ok_law (P := l.prog) (w := w) (base := base) T).imp fun vs H Q E ⟨a, ns, e, hS, hl, q⟩ => ⟨H, (⟨ns⟩, ()), true, Same.refl _, ⟨_, _, e, ⟨a, rfl, hS⟩, rfl⟩, plain ns hl, fun H' Z' u _ r => by cases r; exact q H'⟩
end G
open PySem PySem.W PyProof.Rows
set_option maxRecDepth 100000 in
set_option maxHeartbeats 0 in
theorem PySem.Challenge.cw_rankpouch_k77_rows_as_texts_holds : PySem.Challenge.rw_rankpouch_k77_rows_as_texts.Holds := by
  w_on; o_law; k_head; (case hw => w_witness2)
  k_fill
  refine L2.walk_of (l := PySem.Challenge.rw_rankpouch_k77_rows_as_texts) (n := 63) (k := 5) (x := "_law_script") (CX := fun _ => L2.CX0) (sp := fun w => G.spLaw _) rfl (by decide) rfl ⟨rfl, by decide, by decide⟩ (fun w h Y => PySem.W.kIn_of Y) ?F (fun _ _ a ns hl _ hS => ⟨a, ns, rfl, hS, hl, fun _ => rfl⟩) (fun _ _ _ _ _ h => h)
  case F =>
    intro w mg fa h KX GX hmg
    refine' G.all_mk KX GX hmg ?h_c_MOST_FIGURES ?h_c_FIGURES ?z_bool ?z_enumerate ?z_int ?z_isinstance ?z_len ?z_list ?z_max ?z_min ?z_range ?z_str ?z_tuple ?a0 ?l0 ?c0 ?k0 ?a1 ?l1 ?c1 ?k1 ?a2 ?l2 ?c2 ?k2 ?a3 ?l3 ?c3 ?k3 ?a4 ?l4 ?c4 ?k4 ?a5 ?l5 ?c5 ?k5 ?a6 ?l6 ?c6 ?k6 ?a7 ?l7 ?c7 ?k7 ?a8 ?l8 ?c8 ?k8 ?a9 ?l9 ?c9 ?k9 ?a10 ?l10 ?c10 ?k10 ?a11 ?l11 ?c11 ?k11 G.plain
    (case h_c_MOST_FIGURES => k_is)
    (case h_c_FIGURES => k_is)
    (case z_bool => k_is)
    (case z_enumerate => k_is)
    (case z_int => k_is)
    (case z_isinstance => k_is)
    (case z_len => k_is)
    (case z_list => k_is)
    (case z_max => k_is)
    (case z_min => k_is)
    (case z_range => k_is)
    (case z_str => k_is)
    (case z_tuple => k_is)
    (case a0 => k_is)
    (case l0 => k_is)
    (case c0 => k_is)
    (case k0 => k_is)
    (case a1 => k_is)
    (case l1 => k_is)
    (case c1 => k_is)
    (case k1 => k_is)
    (case a2 => k_is)
    (case l2 => k_is)
    (case c2 => k_is)
    (case k2 => k_is)
    (case a3 => k_is)
    (case l3 => k_is)
    (case c3 => k_is)
    (case k3 => k_is)
    (case a4 => k_is)
    (case l4 => k_is)
    (case c4 => k_is)
    (case k4 => k_is)
    (case a5 => k_is)
    (case l5 => k_is)
    (case c5 => k_is)
    (case k5 => k_is)
    (case a6 => k_is)
    (case l6 => k_is)
    (case c6 => k_is)
    (case k6 => k_is)
    (case a7 => k_is)
    (case l7 => k_is)
    (case c7 => k_is)
    (case k7 => k_is)
    (case a8 => k_is)
    (case l8 => k_is)
    (case c8 => k_is)
    (case k8 => k_is)
    (case a9 => k_is)
    (case l9 => k_is)
    (case c9 => k_is)
    (case k9 => k_is)
    (case a10 => k_is)
    (case l10 => k_is)
    (case c10 => k_is)
    (case k10 => k_is)
    (case a11 => k_is)
    (case l11 => k_is)
    (case c11 => k_is)
    (case k11 => k_is)

