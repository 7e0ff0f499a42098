import PyProof.Rows.All
import Wide.All
import OpenK.AllK
import Wide.FinOn
import HandS.ForMost
import HandS.ForExc
import HandS.IsInst
import HandS.Wide
import HandS.FStr
import HandS.HeadHook1
import HandS.EndBits
import HandS.WideBits
import PySem.Challenge.RW_cogtrain_k02_factors
set_option Elab.async false
set_option linter.all false
set_option maxRecDepth 100000
set_option maxHeartbeats 4000000
/-! THE D-LAYER: typed data in the abstract heap, environments as slot facts, judgements. -/
namespace Cg
open PySem PySem.Spec L2
open PyProof.Rows hiding St

/-! ### heaps -/
def Tx (H H' : Hp) : Prop := ∀ a xs, H a = some (.tup xs) → H' a = some (.tup xs)
theorem Tx.refl (H : Hp) : Tx H H := fun _ _ h => h
theorem Tx.trans {A B C : Hp} (x : Tx A B) (y : Tx B C) : Tx A C := fun a xs h => y a xs (x a xs h)
theorem tx_same {H H' : Hp} (s : Same H H') : Tx H H' := fun a xs h => s a _ h
theorem same_new {H : Hp} {p : Addr} {o : HO} (h : H p = none) : Same H (upd H p o) := fun b x e => by
  rw [upd_ne (ne_of_none e h)]
  exact e
theorem tx_upd {H : Hp} {p : Addr} {o u : HO} (h : H p = some u) (hu : ∀ xs, u ≠ .tup xs) : Tx H (upd H p o) := fun b xs e => by
  have n : b ≠ p := fun z => by
    subst z
    rw [h] at e
    exact hu xs (Option.some.inj e)
  rw [upd_ne n]
  exact e
/-- what of B' is new over B0 (tuples, which never change, count as new) -/
def Nw (B0 B : Hp) : Hp := fun a => match B0 a with
  | none => B a
  | some (.tup _) => B a
  | _ => none
def rg (r : Bool) (B0 B : Hp) : Hp := match r with
  | true => Nw B0 B
  | false => B
theorem nw_sub {B0 B : Hp} : Same (Nw B0 B) B := fun a o h => by
  unfold Nw at h
  split at h
  · exact h
  · exact h
  · cases h
theorem nw_mono {B0 B B' : Hp} (s : Same B B') : Same (Nw B0 B) (Nw B0 B') := fun a o h => by
  unfold Nw at h ⊢
  split at h
  · exact s _ _ h
  · exact s _ _ h
  · cases h
theorem rg_mono {r : Bool} {B0 B B' : Hp} (s : Same B B') : Same (rg r B0 B) (rg r B0 B') := by
  cases r with
  | true => exact nw_mono s
  | false => exact s
theorem rg_sub {r : Bool} {B0 B : Hp} : Same (rg r B0 B) B := by
  cases r with
  | true => exact nw_sub
  | false => exact Same.refl _
theorem nw_tup {B0 B : Hp} (s : Same B0 B) : Tx B (Nw B0 B) := fun a xs h => by
  unfold Nw
  cases e : B0 a with
  | none => exact h
  | some o =>
    have z := s a o e
    rw [h] at z
    have q : o = .tup xs := (Option.some.inj z).symm
    subst q
    exact h
theorem rg_tup {r : Bool} {B0 B : Hp} (s : Same B0 B) : Tx B (rg r B0 B) := by
  cases r with
  | true => exact nw_tup s
  | false => exact Tx.refl _

/-! ### data -/
class Dt (α : Type) where
  rep : PySem.W.Frag → Hp → V → α → Prop
  mono : ∀ {K : PySem.W.Frag} {H H' : Hp} {v : V} {a : α}, Same H H' → rep K H v a → rep K H' v a
/-- data that leans on tuples alone -/
class Fl (α : Type) [Dt α] : Prop where
  tx : ∀ {K : PySem.W.Frag} {H H' : Hp} {v : V} {a : α}, Tx H H' → Dt.rep K H v a → Dt.rep K H' v a
instance : Dt Int := ⟨fun _ _ v i => v = .int i, fun _ h => h⟩
instance : Fl Int := ⟨fun _ h => h⟩
instance : Dt Bool := ⟨fun _ _ v i => v = .bl i, fun _ h => h⟩
instance : Fl Bool := ⟨fun _ h => h⟩
instance : Dt Str := ⟨fun _ _ v i => v = .str i, fun _ h => h⟩
instance : Fl Str := ⟨fun _ h => h⟩
instance : Dt Unit := ⟨fun _ _ v _ => v = .non, fun _ h => h⟩
instance : Fl Unit := ⟨fun _ h => h⟩
instance dtProd {α β : Type} [Dt α] [Dt β] : Dt (α × β) := ⟨fun K H v t => ∃ p x y, v = .ref p ∧ H p = some (.tup [x, y]) ∧ Dt.rep K H x t.1 ∧ Dt.rep K H y t.2,
  fun s ⟨p, x, y, e, h, a, b⟩ => ⟨p, x, y, e, s _ _ h, Dt.mono s a, Dt.mono s b⟩⟩
instance flProd {α β : Type} [Dt α] [Dt β] [Fl α] [Fl β] : Fl (α × β) := ⟨fun s ⟨p, x, y, e, h, a, b⟩ => ⟨p, x, y, e, s _ _ h, Fl.tx s a, Fl.tx s b⟩⟩
structure T3 (α β γ : Type) where
  a : α
  b : β
  c : γ
deriving DecidableEq
instance dtT3 {α β γ : Type} [Dt α] [Dt β] [Dt γ] : Dt (T3 α β γ) := ⟨fun K H v t => ∃ p x y z, v = .ref p ∧ H p = some (.tup [x, y, z]) ∧ Dt.rep K H x t.a ∧ Dt.rep K H y t.b ∧ Dt.rep K H z t.c,
  fun s ⟨p, x, y, z, e, h, a, b, c⟩ => ⟨p, x, y, z, e, s _ _ h, Dt.mono s a, Dt.mono s b, Dt.mono s c⟩⟩
instance flT3 {α β γ : Type} [Dt α] [Dt β] [Dt γ] [Fl α] [Fl β] [Fl γ] : Fl (T3 α β γ) := ⟨fun s ⟨p, x, y, z, e, h, a, b, c⟩ => ⟨p, x, y, z, e, s _ _ h, Fl.tx s a, Fl.tx s b, Fl.tx s c⟩⟩
structure T4 (α β γ δ : Type) where
  a : α
  b : β
  c : γ
  d : δ
deriving DecidableEq
instance dtT4 {α β γ δ : Type} [Dt α] [Dt β] [Dt γ] [Dt δ] : Dt (T4 α β γ δ) := ⟨fun K H v t => ∃ p x y z u, v = .ref p ∧ H p = some (.tup [x, y, z, u]) ∧ Dt.rep K H x t.a ∧ Dt.rep K H y t.b ∧ Dt.rep K H z t.c ∧ Dt.rep K H u t.d,
  fun s ⟨p, x, y, z, u, e, h, a, b, c, d⟩ => ⟨p, x, y, z, u, e, s _ _ h, Dt.mono s a, Dt.mono s b, Dt.mono s c, Dt.mono s d⟩⟩
instance flT4 {α β γ δ : Type} [Dt α] [Dt β] [Dt γ] [Dt δ] [Fl α] [Fl β] [Fl γ] [Fl δ] : Fl (T4 α β γ δ) := ⟨fun s ⟨p, x, y, z, u, e, h, a, b, c, d⟩ => ⟨p, x, y, z, u, e, s _ _ h, Fl.tx s a, Fl.tx s b, Fl.tx s c, Fl.tx s d⟩⟩
instance dtOpt {α : Type} [Dt α] : Dt (Option α) := ⟨fun K H v o => match o with
  | none => v = .non
  | some a => v ≠ .non ∧ Dt.rep K H v a, fun {K H H' v o} s h => by
  cases o with
  | none => exact h
  | some a => exact ⟨h.1, Dt.mono s h.2⟩⟩
instance flOpt {α : Type} [Dt α] [Fl α] : Fl (Option α) := ⟨fun {K H H' v o} s h => by
  cases o with
  | none => exact h
  | some a => exact ⟨h.1, Fl.tx s h.2⟩⟩
/-- lists of data: the items' values -/
def Its {α : Type} [Dt α] (K : PySem.W.Frag) (H : Hp) (vs : List V) (xs : List α) : Prop := Paired (Dt.rep K H) vs xs
theorem Its.mono {α : Type} [Dt α] {K : PySem.W.Frag} {H H' : Hp} {vs : List V} {xs : List α} (s : Same H H') (h : Its K H vs xs) : Its K H' vs xs := Paired.mapP h fun _ _ z => Dt.mono s z
theorem Its.tx {α : Type} [Dt α] [Fl α] {K : PySem.W.Frag} {H H' : Hp} {vs : List V} {xs : List α} (s : Tx H H') (h : Its K H vs xs) : Its K H' vs xs := Paired.mapP h fun _ _ z => Fl.tx s z
theorem Its.len {α : Type} [Dt α] {K : PySem.W.Frag} {H : Hp} {vs : List V} {xs : List α} (h : Its K H vs xs) : vs.length = xs.length := Paired.length h
theorem Its.at_ {α : Type} [Dt α] {K : PySem.W.Frag} {H : Hp} : ∀ {vs : List V} {xs : List α} {i : Nat} {x : α}, Its K H vs xs → xs[i]? = some x → ∃ v, vs[i]? = some v ∧ Dt.rep K H v x
  | _, _, _, _, .nil, e => by simp at e
  | _, _, 0, _, .cons r _, e => by
    simp at e
    subst e
    exact ⟨_, rfl, r⟩
  | _, _, i + 1, x, .cons _ t, e => by
    obtain ⟨u, h1, h2⟩ := Its.at_ (i := i) (x := x) t (by simpa using e)
    exact ⟨u, by simpa using h1, h2⟩
theorem Its.back {α : Type} [Dt α] {K : PySem.W.Frag} {H : Hp} : ∀ {vs : List V} {xs : List α} {i : Nat} {v : V}, Its K H vs xs → vs[i]? = some v → ∃ x, xs[i]? = some x ∧ Dt.rep K H v x
  | _, _, _, _, .nil, e => by simp at e
  | _, _, 0, _, .cons r _, e => by
    simp at e
    subst e
    exact ⟨_, rfl, r⟩
  | _, _, i + 1, x, .cons _ t, e => by
    obtain ⟨u, h1, h2⟩ := Its.back (i := i) (v := x) t (by simpa using e)
    exact ⟨u, by simpa using h1, h2⟩
theorem Its.app {α : Type} [Dt α] {K : PySem.W.Frag} {H : Hp} {vs ws : List V} {xs ys : List α} (h : Its K H vs xs) (g : Its K H ws ys) : Its K H (vs ++ ws) (xs ++ ys) := by
  induction h with
  | nil => exact g
  | cons r _ ih => exact .cons r ih
theorem Its.snoc {α : Type} [Dt α] {K : PySem.W.Frag} {H : Hp} {vs : List V} {xs : List α} {v : V} {x : α} (h : Its K H vs xs) (g : Dt.rep K H v x) : Its K H (vs ++ [v]) (xs ++ [x]) := h.app (.cons g .nil)
instance dtList {α : Type} [Dt α] : Dt (List α) := ⟨fun K H v xs => ∃ p vs, v = .ref p ∧ H p = some (.lst vs) ∧ Its K H vs xs, fun s ⟨p, vs, e, h, g⟩ => ⟨p, vs, e, s _ _ h, g.mono s⟩⟩
/-- the script -/
structure Scr where
  ns : List Int
instance : Dt Scr := ⟨fun K H v s => ∃ p, v = .ref p ∧ SqL K H p (s.ns.map V.int), fun s ⟨p, e, h⟩ => ⟨p, e, s.seq h⟩⟩
theorem its_int {K : PySem.W.Frag} {H : Hp} : ∀ ns : List Int, Its K H (ns.map V.int) ns
  | [] => .nil
  | _ :: r => .cons rfl (its_int r)
theorem its_str {K : PySem.W.Frag} {H : Hp} : ∀ ns : List Str, Its K H (ns.map V.str) ns
  | [] => .nil
  | _ :: r => .cons rfl (its_str r)
theorem int_its {K : PySem.W.Frag} {H : Hp} {vs : List V} {ns : List Int} (h : Its K H vs ns) : vs = ns.map V.int := by
  induction h with
  | nil => rfl
  | cons r _ ih => rw [List.map_cons, ← ih, show _ = V.int _ from r]
theorem str_its {K : PySem.W.Frag} {H : Hp} {vs : List V} {ns : List Str} (h : Its K H vs ns) : vs = ns.map V.str := by
  induction h with
  | nil => rfl
  | cons r _ ih => rw [List.map_cons, ← ih, show _ = V.str _ from r]

/-! ### what is owned -/
structure Res where
  at_ : PySem.W.Frag → Hp → Hp → Hp → V → List Addr → Prop
  loc : ∀ {K : PySem.W.Frag} {B0 B B' H H' : Hp} {v : V} {fp : List Addr}, at_ K B0 B H v fp → Same B B' → (∀ a ∈ fp, H' a = H a) → at_ K B0 B' H' v fp
def lstR {α : Type} [Dt α] (r : Bool) (xs : List α) : Res where
  at_ := fun K B0 B H v fp => ∃ l vs, v = .ref l ∧ fp = [l] ∧ H l = some (.lst vs) ∧ Its K (rg r B0 B) vs xs
  loc := fun ⟨l, vs, e, f, h, g⟩ s k => ⟨l, vs, e, f, by
    subst f
    rw [k l List.mem_cons_self]
    exact h, g.mono (rg_mono s)⟩

/-! ### environments -/
inductive Sl : Type 1 where
  | un
  | dt (r : Bool) {α : Type} [Dt α] (a : α)
  | ow (R : Res)
def Sl.ok (K : PySem.W.Frag) (B0 B H : Hp) : Sl → Option V → List Addr → Prop
  | .un, _, fp => fp = []
  | @Sl.dt r α i a, o, fp => fp = [] ∧ ∃ v, o = some v ∧ @Dt.rep α i K (rg r B0 B) v a
  | .ow R, o, fp => ∃ v, o = some v ∧ R.at_ K B0 B H v fp
def Slots (K : PySem.W.Frag) (B0 B H : Hp) : List Sl → St → List Addr → Prop
  | [], [], fp => fp = []
  | s :: ρ, o :: σ, fp => ∃ f1 f2, fp = f1 ++ f2 ∧ s.ok K B0 B H o f1 ∧ Slots K B0 B H ρ σ f2
  | _, _, _ => False
structure Good (K : PySem.W.Frag) (B0 B : Hp) (ρ : List Sl) (σ : St) (H : Hp) : Prop where
  b0 : Same B0 B
  sub : Same B H
  tup : Tx H B
  ex : ∃ fp, Slots K B0 B H ρ σ fp ∧ fp.Nodup ∧ ∀ a ∈ fp, B a = none ∧ H a ≠ none
section
variable {K : PySem.W.Frag} {B0 B B' H H' : Hp} {σ : St} {fp : List Addr}
theorem Sl.ok.move {s : Sl} {o : Option V} (h : s.ok K B0 B H o fp) (sb : Same B B') (k : ∀ a ∈ fp, H' a = H a) : s.ok K B0 B' H' o fp := by
  cases s with
  | un => exact h
  | dt r a =>
    obtain ⟨e, v, q, g⟩ := h
    exact ⟨e, v, q, Dt.mono (rg_mono sb) g⟩
  | ow R =>
    obtain ⟨v, q, g⟩ := h
    exact ⟨v, q, R.loc g sb k⟩
theorem Slots.move : ∀ {ρ : List Sl} {σ : St} {fp : List Addr}, Slots K B0 B H ρ σ fp → Same B B' → (∀ a ∈ fp, H' a = H a) → Slots K B0 B' H' ρ σ fp
  | [], [], _, h, _, _ => h
  | s :: ρ, o :: σ, fp, h, sb, k => by
    obtain ⟨f1, f2, e, a, b⟩ := h
    subst e
    exact ⟨f1, f2, rfl, a.move sb fun x hx => k x (List.mem_append_left _ hx), b.move sb fun x hx => k x (List.mem_append_right _ hx)⟩
  | [], _ :: _, _, h, _, _ => h.elim
  | _ :: _, [], _, h, _, _ => h.elim
theorem Slots.len : ∀ {ρ : List Sl} {σ : St} {fp : List Addr}, Slots K B0 B H ρ σ fp → ρ.length = σ.length
  | [], [], _, _ => rfl
  | s :: ρ, o :: σ, fp, h => by
    obtain ⟨f1, f2, e, a, b⟩ := h
    simp [b.len]
  | [], _ :: _, _, h => h.elim
  | _ :: _, [], _, h => h.elim
theorem Slots.get : ∀ {ρ : List Sl} {σ : St} {fp : List Addr} {i : Nat} {s : Sl}, Slots K B0 B H ρ σ fp → ρ[i]? = some s → ∃ o f1, σ[i]? = some o ∧ (∀ a ∈ f1, a ∈ fp) ∧ s.ok K B0 B H o f1
  | [], _, _, _, _, _, e => by simp at e
  | t :: ρ, [], _, _, _, h, _ => h.elim
  | t :: ρ, o :: σ, fp, 0, s, h, e => by
    obtain ⟨f1, f2, q, a, b⟩ := h
    simp at e
    subst e
    exact ⟨o, f1, rfl, fun x hx => by rw [q]; exact List.mem_append_left _ hx, a⟩
  | t :: ρ, o :: σ, fp, i + 1, s, h, e => by
    obtain ⟨f1, f2, q, a, b⟩ := h
    obtain ⟨o', g, r1, r2, r3⟩ := b.get (i := i) (s := s) (by simpa using e)
    exact ⟨o', g, by simpa using r1, fun x hx => by rw [q]; exact List.mem_append_right _ (r2 x hx), r3⟩
/-- a slot is stored: what it owned is let go, the new footprint comes in -/
theorem Slots.put : ∀ {ρ : List Sl} {σ : St} {fp : List Addr} {i : Nat} {s : Sl} {v : V} {f : List Addr}, Slots K B0 B H ρ σ fp → i < ρ.length → s.ok K B0 B H (some v) f →
    ∃ g, Slots K B0 B H (ρ.set i s) (σ.set i (some v)) g ∧ ∃ f1 f2 f3, fp = f1 ++ (f2 ++ f3) ∧ g = f1 ++ (f ++ f3)
  | [], _, _, _, _, _, _, _, e, _ => by simp at e
  | t :: ρ, [], _, _, _, _, _, h, _, _ => h.elim
  | t :: ρ, o :: σ, fp, 0, s, v, f, h, e, hs => by
    obtain ⟨f1, f2, q, a, b⟩ := h
    exact ⟨f ++ f2, ⟨f, f2, rfl, hs, b⟩, [], f1, f2, by simpa using q, rfl⟩
  | t :: ρ, o :: σ, fp, i + 1, s, v, f, h, e, hs => by
    obtain ⟨f1, f2, q, a, b⟩ := h
    obtain ⟨g, r1, g1, g2, g3, e1, e2⟩ := b.put (i := i) (by simpa using e) hs
    refine ⟨f1 ++ g, ⟨f1, g, rfl, a, r1⟩, f1 ++ g1, g2, g3, by rw [q, e1, List.append_assoc], by rw [e2, List.append_assoc]⟩
variable {ρ : List Sl}
theorem Good.step (g : Good K B0 B ρ σ H) (sb : Same B B') (sh : Same H H') (s2 : Same B' H') (t2 : Tx H' B') (fr : ∀ a, B' a ≠ none → B a ≠ none ∨ H a = none) : Good K B0 B' ρ σ H' := by
  obtain ⟨fp, h, nd, f⟩ := g.ex
  have keep : ∀ a ∈ fp, H' a = H a := fun a ha => by
    cases e : H a with
    | none => exact absurd e (f a ha).2
    | some o => exact sh a o e
  refine ⟨g.b0.trans sb, s2, t2, fp, h.move sb keep, nd, fun a ha => ⟨?_, by rw [keep a ha]; exact (f a ha).2⟩⟩
  cases e : B' a with
  | none => rfl
  | some o =>
    rcases fr a (by rw [e]; simp) with z | z
    · exact absurd (f a ha).1 z
    · exact absurd z (f a ha).2
/-- a new object that is shared -/
theorem Good.laid {p : Addr} {o : HO} (g : Good K B0 B ρ σ H) (hp : H p = none) : Good K B0 (upd B p o) ρ σ (upd H p o) ∧ Same B (upd B p o) := by
  have bp : B p = none := by
    cases e : B p with
    | none => rfl
    | some u =>
      rw [g.sub _ _ e] at hp
      cases hp
  refine ⟨g.step (same_new bp) (same_new hp) (fun a u e => ?_) (fun a xs e => ?_) (fun a e => ?_), same_new bp⟩
  · by_cases z : a = p
    · subst z
      rw [upd_same] at e ⊢
      exact e
    · rw [upd_ne z] at e ⊢
      exact g.sub _ _ e
  · by_cases z : a = p
    · subst z
      rw [upd_same] at e ⊢
      exact e
    · rw [upd_ne z] at e ⊢
      exact g.tup _ _ e
  · by_cases z : a = p
    · subst z
      exact .inr hp
    · rw [upd_ne z] at e
      exact .inl e
/-- a new object that is not shared (not a tuple) -/
theorem Good.own {p : Addr} {o : HO} (g : Good K B0 B ρ σ H) (hp : H p = none) (ho : ∀ xs, o ≠ .tup xs) : Good K B0 B ρ σ (upd H p o) := by
  refine g.step (Same.refl _) (same_new hp) (fun a u e => ?_) (fun a xs e => ?_) (fun a e => .inl e)
  · have z : a ≠ p := fun z => by
      subst z
      rw [g.sub _ _ e] at hp
      cases hp
    rw [upd_ne z]
    exact g.sub _ _ e
  · by_cases z : a = p
    · subst z
      rw [upd_same] at e
      exact absurd (Option.some.inj e) (ho xs)
    · rw [upd_ne z] at e
      exact g.tup _ _ e
/-- behind a call that left all as it was -/
theorem Good.called (g : Good K B0 B ρ σ H) (sh : Same H H') : ∃ B', Same B B' ∧ Good K B0 B' ρ σ H' ∧ Same (Nw H H') (Nw B0 B') := by
  obtain ⟨fp, h, nd, f⟩ := g.ex
  have nt : ∀ a xs, H' a = some (.tup xs) → a ∉ fp := fun a xs e ha => by
    cases q : H a with
    | none => exact (f a ha).2 q
    | some o =>
      have z := sh a o q
      rw [e] at z
      have y : o = .tup xs := (Option.some.inj z).symm
      subst y
      have w := g.tup a xs q
      rw [(f a ha).1] at w
      cases w
  have sB : Same B fun a => if a ∈ fp then none else H' a := fun a o e => by
    have z : a ∉ fp := fun z => by
      rw [(f a z).1] at e
      cases e
    show (if a ∈ fp then none else H' a) = some o
    rw [if_neg z]
    exact sh _ _ (g.sub _ _ e)
  refine ⟨fun a => if a ∈ fp then none else H' a, sB, ⟨g.b0.trans sB, fun a o e => ?_, fun a xs e => ?_, fp, h.move sB fun a ha => ?_, nd, fun a ha => ⟨if_pos ha, ?_⟩⟩, fun a o e => ?_⟩
  · have e2 : (if a ∈ fp then none else H' a) = some o := e
    split at e2
    · cases e2
    · exact e2
  · show (if a ∈ fp then none else H' a) = _
    rw [if_neg (nt a xs e)]
    exact e
  · cases e : H a with
    | none => exact absurd e (f a ha).2
    | some o => exact sh a o e
  · cases e : H a with
    | none => exact absurd e (f a ha).2
    | some o => rw [sh a o e]; simp
  · unfold Nw at e ⊢
    cases q : H a with
    | none =>
      rw [q] at e
      have z : a ∉ fp := fun z => (f a z).2 q
      have b0 : B0 a = none := by
        cases w : B0 a with
        | none => rfl
        | some u =>
          have y := g.sub _ _ (g.b0 _ _ w)
          rw [q] at y
          cases y
      rw [b0]
      show (if a ∈ fp then none else H' a) = some o
      rw [if_neg z]
      exact e
    | some u =>
      rw [q] at e
      cases u with
      | tup xs =>
        have e2 : H' a = some o := e
        have e3 := sh _ _ q
        have z : a ∉ fp := nt a xs e3
        have fin : (if a ∈ fp then none else H' a) = some o := by
          rw [if_neg z]
          exact e2
        cases w : B0 a with
        | none => exact fin
        | some u2 =>
          have y := g.sub _ _ (g.b0 _ _ w)
          rw [q] at y
          have y2 : u2 = .tup xs := (Option.some.inj y).symm
          subst y2
          exact fin
      | _ => cases e
theorem Good.get {i : Nat} {s : Sl} (g : Good K B0 B ρ σ H) (e : ρ[i]? = some s) : ∃ o f1, σ[i]? = some o ∧ s.ok K B0 B H o f1 := by
  obtain ⟨fp, h, _, _⟩ := g.ex
  obtain ⟨o, f1, a, _, c⟩ := h.get e
  exact ⟨o, f1, a, c⟩
/-- a slot is stored -/
theorem Good.put {i : Nat} {s : Sl} {v : V} {f : List Addr} (g : Good K B0 B ρ σ H) (e : i < ρ.length) (hs : s.ok K B0 B H (some v) f) (nd : f.Nodup) (hf : ∀ a ∈ f, B a = none ∧ H a ≠ none)
    (dj : ∀ fp, Slots K B0 B H ρ σ fp → (∀ a ∈ fp, B a = none ∧ H a ≠ none) → ∀ a ∈ f, a ∉ fp) : Good K B0 B (ρ.set i s) (σ.set i (some v)) H := by
  obtain ⟨fp, h, n, q⟩ := g.ex
  obtain ⟨g2, h2, f1, f2, f3, e1, e2⟩ := h.put e hs
  have d := dj fp h q
  subst e1 e2
  refine ⟨g.b0, g.sub, g.tup, _, h2, ?_, ?_⟩
  · rw [List.nodup_append] at n ⊢
    obtain ⟨n1, n2, n3⟩ := n
    rw [List.nodup_append] at n2 ⊢
    obtain ⟨m1, m2, m3⟩ := n2
    refine ⟨n1, ⟨nd, m2, fun a ha b hb z => ?_⟩, fun a ha b hb z => ?_⟩
    · subst z
      exact d a ha (List.mem_append_right _ (List.mem_append_right _ hb))
    · subst z
      rcases List.mem_append.mp hb with hb | hb
      · exact d a hb (List.mem_append_left _ ha)
      · exact n3 a ha a (List.mem_append_right _ hb) rfl
  · intro a ha
    rcases List.mem_append.mp ha with ha | ha
    · exact q a (List.mem_append_left _ ha)
    · rcases List.mem_append.mp ha with ha | ha
      · exact hf a ha
      · exact q a (List.mem_append_right _ (List.mem_append_right _ ha))
theorem Good.putD {i : Nat} {α : Type} [Dt α] {r : Bool} {a : α} {v : V} (g : Good K B0 B ρ σ H) (e : i < ρ.length) (h : Dt.rep K (rg r B0 B) v a) : Good K B0 B (ρ.set i (.dt r a)) (σ.set i (some v)) H :=
  g.put e (f := []) ⟨rfl, v, rfl, h⟩ (by simp) (fun _ z => by simp at z) (fun _ _ _ _ z => by simp at z)
/-! what lies on top -/
theorem Good.push {p : Addr} {o : HO} {R : Res} {v : V} (g : Good K B0 B ρ σ H) (hp : H p = none) (ho : ∀ xs, o ≠ .tup xs) (hR : R.at_ K B0 B (upd H p o) v [p]) : Good K B0 B (.ow R :: ρ) (some v :: σ) (upd H p o) := by
  have g2 := g.own hp ho
  obtain ⟨fp, h, nd, f⟩ := g.ex
  have ne : p ∉ fp := fun z => (f p z).2 hp
  have h2 : Slots K B0 B (upd H p o) ρ σ fp := h.move (Same.refl _) fun a ha => upd_ne fun z => ne (z ▸ ha)
  refine ⟨g2.b0, g2.sub, g2.tup, p :: fp, ⟨[p], fp, rfl, ⟨v, rfl, hR⟩, h2⟩, List.nodup_cons.mpr ⟨ne, nd⟩, fun a ha => ?_⟩
  rcases List.mem_cons.mp ha with z | z
  · subst z
    exact ⟨g.sub.free hp, by rw [upd_same]; simp⟩
  · have y : a ≠ p := fun w => by
      subst w
      exact ne z
    exact ⟨(f a z).1, by rw [upd_ne y]; exact (f a z).2⟩
theorem Good.pop {s : Sl} {o : Option V} (g : Good K B0 B (s :: ρ) (o :: σ) H) : Good K B0 B ρ σ H := by
  obtain ⟨fp, ⟨f1, f2, e, a, b⟩, nd, f⟩ := g.ex
  subst e
  exact ⟨g.b0, g.sub, g.tup, f2, b, (List.nodup_append.mp nd).2.1, fun x hx => f x (List.mem_append_right _ hx)⟩
theorem Good.store {s : Sl} {v : V} {n : Nat} (g : Good K B0 B (s :: ρ) (some v :: σ) H) (e : n < ρ.length) : Good K B0 B (ρ.set n s) (σ.set n (some v)) H := by
  obtain ⟨fp, ⟨f1, f2, q, a, b⟩, nd, f⟩ := g.ex
  subst q
  obtain ⟨n1, n2, n3⟩ := List.nodup_append.mp nd
  obtain ⟨h, h2, g1, g2, g3, e1, e2⟩ := b.put e a
  subst e1 e2
  obtain ⟨m1, m2, m3⟩ := List.nodup_append.mp n2
  obtain ⟨k1, k2, k3⟩ := List.nodup_append.mp m2
  refine ⟨g.b0, g.sub, g.tup, _, h2, ?_, fun x hx => ?_⟩
  · rw [List.nodup_append]
    refine ⟨m1, ?_, fun x hx y hy z => ?_⟩
    · rw [List.nodup_append]
      exact ⟨n1, k2, fun x hx y hy z => n3 x hx y (List.mem_append_right _ (List.mem_append_right _ hy)) z⟩
    · subst z
      rcases List.mem_append.mp hy with hy | hy
      · exact n3 x hy x (List.mem_append_left _ hx) rfl
      · exact m3 x hx x (List.mem_append_right _ hy) rfl
  · rcases List.mem_append.mp hx with hx | hx
    · exact f x (List.mem_append_right _ (List.mem_append_left _ hx))
    · rcases List.mem_append.mp hx with hx | hx
      · exact f x (List.mem_append_left _ hx)
      · exact f x (List.mem_append_right _ (List.mem_append_right _ (List.mem_append_right _ hx)))
/-- behind a call that made the owned object at p -/
theorem Good.calledO {H' : Hp} {R : Res} {v : V} {p : Addr} {o : HO} (g : Good K B0 B ρ σ H) (sh : Same H H') (hp : H p = none) (h' : H' p = some o) (ho : ∀ xs, o ≠ .tup xs)
    (hR : ∀ B', Same B B' → Tx H' B' → Same B0 B' → R.at_ K B0 B' H' v [p]) : ∃ B', Same B B' ∧ Good K B0 B' (.ow R :: ρ) (some v :: σ) H' := by
  obtain ⟨fp, h, nd, f⟩ := g.ex
  have np : p ∉ fp := fun z => (f p z).2 hp
  have nt : ∀ a xs, H' a = some (.tup xs) → a ∉ p :: fp := fun a xs e ha => by
    rcases List.mem_cons.mp ha with z | ha
    · subst z
      rw [h'] at e
      exact ho xs (Option.some.inj e)
    · cases q : H a with
      | none => exact (f a ha).2 q
      | some u =>
        have z := sh a u q
        rw [e] at z
        have y : u = .tup xs := (Option.some.inj z).symm
        subst y
        have w := g.tup a xs q
        rw [(f a ha).1] at w
        cases w
  have sB : Same B fun a => if a ∈ p :: fp then none else H' a := fun a u e => by
    have z : a ∉ p :: fp := fun z => by
      rcases List.mem_cons.mp z with z | z
      · subst z
        have := g.sub _ _ e
        rw [hp] at this
        cases this
      · rw [(f a z).1] at e
        cases e
    show (if a ∈ p :: fp then none else H' a) = some u
    rw [if_neg z]
    exact sh _ _ (g.sub _ _ e)
  have tB : Tx H' fun a => if a ∈ p :: fp then none else H' a := fun a xs e => by
    show (if a ∈ p :: fp then none else H' a) = _
    rw [if_neg (nt a xs e)]
    exact e
  have keep : ∀ a ∈ fp, H' a = H a := fun a ha => by
    cases e : H a with
    | none => exact absurd e (f a ha).2
    | some u => exact sh a u e
  refine ⟨_, sB, g.b0.trans sB, fun a u e => ?_, tB, p :: fp, ⟨[p], fp, rfl, ⟨v, rfl, hR _ sB tB (g.b0.trans sB)⟩, h.move sB keep⟩, List.nodup_cons.mpr ⟨np, nd⟩, fun a ha => ⟨if_pos ha, ?_⟩⟩
  · have e2 : (if a ∈ p :: fp then none else H' a) = some u := e
    split at e2
    · cases e2
    · exact e2
  · rcases List.mem_cons.mp ha with z | z
    · subst z
      rw [h']
      simp
    · rw [keep a z]
      exact (f a z).2
end
end Cg

set_option Elab.async false
set_option linter.all false
set_option maxRecDepth 100000
set_option maxHeartbeats 4000000
namespace Cg
open PySem PySem.Spec L2
open PyProof.Rows hiding St
/-! ### the judgements -/
def DE (K : PySem.W.Frag) (B0 : Hp) (r : Bool) (te : TE) (ρ : List Sl) {α : Type} [Dt α] (a : α) : Prop :=
  ∀ B σ H, Good K B0 B ρ σ H → ∀ Q : VK, (∀ v B' H', Same B B' → Same H H' → Good K B0 B' ρ σ H' → Dt.rep K (rg r B0 B') v a → Q v H') → te σ H Q
/-- the same, told of the whole heap (what is owned may be read) -/
def DF (K : PySem.W.Frag) (B0 : Hp) (te : TE) (ρ : List Sl) {α : Type} [Dt α] (a : α) : Prop :=
  ∀ B σ H, Good K B0 B ρ σ H → ∀ Q : VK, (∀ v B' H', Same B B' → Same H H' → Good K B0 B' ρ σ H' → Dt.rep K H' v a → Q v H') → te σ H Q
def DT (K : PySem.W.Frag) (B0 : Hp) (tt : TT) (ρ : List Sl) (b : Bool) : Prop :=
  ∀ B σ H, Good K B0 B ρ σ H → ∀ Q : Bool → Hp → Prop, (∀ B' H', Same B B' → Same H H' → Good K B0 B' ρ σ H' → Q b H') → tt σ H Q
/-- a list of arguments -/
class Ar (A : Type) where
  args : PySem.W.Frag → Hp → List V → A → Prop
  sl : A → List Sl
  mono : ∀ {K : PySem.W.Frag} {H H' : Hp} {vs : List V} {a : A}, Same H H' → args K H vs a → args K H' vs a
  ps : ∀ {K : PySem.W.Frag} {H : Hp} {vs : List V} {a : A}, args K H vs a → Slots K H H H (sl a) (vs.map some) []
instance arU : Ar Unit := ⟨fun _ _ vs _ => vs = [], fun _ => [], fun _ h => h, fun {K H vs a} h => by
  subst h
  rfl⟩
instance arC {α A : Type} [Dt α] [Ar A] : Ar (α × A) := ⟨fun K H vs t => ∃ v r, vs = v :: r ∧ Dt.rep K H v t.1 ∧ Ar.args K H r t.2, fun t => .dt false t.1 :: Ar.sl t.2, fun s ⟨v, r, e, h, g⟩ => ⟨v, r, e, Dt.mono s h, Ar.mono s g⟩, fun {K H vs a} h => by
  obtain ⟨v, r, e, h, g⟩ := h
  subst e
  exact ⟨[], [], rfl, ⟨rfl, v, rfl, h⟩, Ar.ps g⟩⟩
def DA (K : PySem.W.Frag) (B0 : Hp) (ta : TA) (ρ : List Sl) {A : Type} [Ar A] (a : A) : Prop :=
  ∀ B σ H, Good K B0 B ρ σ H → ∀ Q : List V → Hp → Prop, (∀ vs B' H', Same B B' → Same H H' → Good K B0 B' ρ σ H' → Ar.args K H' vs a → Q vs H') → ta σ H Q
/-- a new object that is owned from now on: it lies on top -/
def DO (K : PySem.W.Frag) (B0 : Hp) (te : TE) (ρ : List Sl) (R : Res) : Prop :=
  ∀ B σ H, Good K B0 B ρ σ H → ∀ Q : VK, (∀ v B' H', Same B B' → Same H H' → Good K B0 B' (.ow R :: ρ) (some v :: σ) H' → Q v H') → te σ H Q
def Post (K : PySem.W.Frag) (B0 : Hp) (ρ : List Sl) : L2.St → Hp → Prop := fun σ H => ∃ B, Good K B0 B ρ σ H
def DN (K : PySem.W.Frag) (B0 : Hp) (ρ : List Sl) (N : L2.St → Hp → Prop) : Prop := ∀ σ H, Post K B0 ρ σ H → N σ H
/-- a pure def's promise -/
def spPure (K : PySem.W.Frag) {A R : Type} [Ar A] [Dt R] (pre : A → Prop) (f : A → R) : Sp := fun vs H Q _ => ∃ a : A, Ar.args K H vs a ∧ pre a ∧ ∀ v H', Same H H' → Dt.rep K (Nw H H') v (f a) → Q v H'
/-- what is wanted of what is handed back -/
def Rt (K : PySem.W.Frag) (B0 : Hp) (rt : VK) {R : Type} [Dt R] (r : R) : Prop := ∀ v H', Same B0 H' → Dt.rep K (Nw B0 H') v r → rt v H'
section
variable {K : PySem.W.Frag} {B0 : Hp} {ρ : List Sl} {r : Bool} {α β γ : Type} {iA : Dt α} {iB : Dt β} {iC : Dt γ} {a a' : α} {b : β} {c : γ} {ta tb tc te : TE} {tt uu : TT} {i j : Int}

/-! ### from one to the other -/
theorem de_weak (h : DE K B0 true te ρ a) : DE K B0 r te ρ a := fun B σ H g Q q => h B σ H g Q fun v B' H' s1 s2 g' e => q v B' H' s1 s2 g' (by
  cases r with
  | true => exact e
  | false => exact Dt.mono nw_sub e)
theorem de_fl (h : DE K B0 false te ρ a) (_ : Fl α) : DE K B0 r te ρ a := fun B σ H g Q q => h B σ H g Q fun v B' H' s1 s2 g' e => q v B' H' s1 s2 g' (Fl.tx (rg_tup g'.b0) e)
theorem df_of (h : DE K B0 false te ρ a) : DF K B0 te ρ a := fun B σ H g Q q => h B σ H g Q fun v B' H' s1 s2 g' e => q v B' H' s1 s2 g' (Dt.mono g'.sub e)
theorem de_df (h : DF K B0 te ρ a) (_ : Fl α) : DE K B0 r te ρ a := fun B σ H g Q q => h B σ H g Q fun v B' H' s1 s2 g' e => q v B' H' s1 s2 g' (Fl.tx (g'.tup.trans (rg_tup g'.b0)) e)
theorem de_is (h : DE K B0 r te ρ a) (e : a = a') : DE K B0 r te ρ a' := e ▸ h
theorem df_is (h : DF K B0 te ρ a) (e : a = a') : DF K B0 te ρ a' := e ▸ h
theorem dt_is {b b' : Bool} (h : DT K B0 tt ρ b) (e : b = b') : DT K B0 tt ρ b' := e ▸ h

/-! ### names, constants -/
theorem de_var {n : Nat} (h : ρ[n]? = some (.dt r a)) : DE K B0 r (tVar n) ρ a := fun B σ H g Q q => by
  obtain ⟨o, f1, e, _, v, e2, h2⟩ := g.get h
  subst e2
  exact ⟨v, e, q v B H (Same.refl _) (Same.refl _) g h2⟩
theorem df_own {n : Nat} {xs : List α} (h : ρ[n]? = some (.ow (lstR r xs))) : DF K B0 (tVar n) ρ xs := fun B σ H g Q q => by
  obtain ⟨o, f1, e, v, e2, l, vs, e3, _, h2, h3⟩ := g.get h
  subst e2
  exact ⟨v, e, q v B H (Same.refl _) (Same.refl _) g ⟨l, vs, e3, h2, h3.mono (fun a o z => g.sub _ _ (rg_sub _ _ z))⟩⟩
theorem de_c {v : V} (h : ∀ H, Dt.rep K H v a) : DE K B0 r (tC v) ρ a := fun B σ H g Q q => q v B H (Same.refl _) (Same.refl _) g (h _)
theorem de_int {n : Int} : DE K B0 r (tC (.int n)) ρ n := de_c fun _ => rfl
theorem de_bl {n : Bool} : DE K B0 r (tC (.bl n)) ρ n := de_c fun _ => rfl
theorem de_str {n : Str} : DE K B0 r (tC (.str n)) ρ n := de_c fun _ => rfl
theorem de_non : DE K B0 r (tC .non) ρ () := de_c fun _ => rfl
theorem de_none : DE K B0 r (tC .non) ρ (none : Option α) := de_c fun _ => rfl
/-- what is never None -/
class Nn (α : Type) [Dt α] : Prop where
  nn : ∀ {K : PySem.W.Frag} {H : Hp} {v : V} {a : α}, Dt.rep K H v a → v ≠ .non
instance : Nn Int := ⟨fun h => by rw [show _ = V.int _ from h]; exact fun z => nomatch z⟩
instance : Nn Bool := ⟨fun h => by rw [show _ = V.bl _ from h]; exact fun z => nomatch z⟩
instance : Nn Str := ⟨fun h => by rw [show _ = V.str _ from h]; exact fun z => nomatch z⟩
instance nnProd {α β : Type} [Dt α] [Dt β] : Nn (α × β) := ⟨fun ⟨p, x, y, e, _⟩ => by rw [e]; exact fun z => nomatch z⟩
instance nnT3 {α β γ : Type} {iA : Dt α} {iB : Dt β} {iC : Dt γ} : Nn (T3 α β γ) := ⟨fun ⟨p, x, y, w, e, _⟩ => by rw [e]; exact fun z => nomatch z⟩
instance nnT4 {α β γ δ : Type} [Dt α] [Dt β] [Dt γ] [Dt δ] : Nn (T4 α β γ δ) := ⟨fun ⟨p, x, y, w, u, e, _⟩ => by rw [e]; exact fun z => nomatch z⟩
instance nnList {α : Type} [Dt α] : Nn (List α) := ⟨fun ⟨p, x, e, _⟩ => by rw [e]; exact fun z => nomatch z⟩
theorem de_some (h : DE K B0 r te ρ a) (_ : Nn α) : DE K B0 r te ρ (some a) := fun B σ H g Q q => h B σ H g Q fun v B' H' s1 s2 g' e => q v B' H' s1 s2 g' ⟨Nn.nn e, e⟩

/-! ### operators on whole numbers -/
theorem de_two {R : V → V → Hp → VK → Prop} {x : α} {y : β} {z : γ} (ha : DF K B0 ta ρ x) (hb : DF K B0 tb ρ y)
    (hr : ∀ u v H, Dt.rep K H u x → Dt.rep K H v y → ∀ Q : VK, (∀ w, (∀ H, Dt.rep K H w z) → Q w H) → R u v H Q) : DE K B0 r (tOp R ta tb) ρ z := fun B σ H g Q q =>
  ha B σ H g _ fun u B1 H1 s1 t1 g1 e1 => hb B1 σ H1 g1 _ fun v B2 H2 s2 t2 g2 e2 => hr u v H2 (Dt.mono t2 e1) e2 Q fun w hw => q w B2 H2 (s1.trans s2) (t1.trans t2) g2 (hw _)
theorem de_opI {f : Int → Int → Int} (ha : DE K B0 false ta ρ i) (hb : DE K B0 false tb ρ j) : DE K B0 r (tOp (rI0 fun x y => .int (f x y)) ta tb) ρ (f i j) :=
  de_two (df_of ha) (df_of hb) fun u v H e1 e2 Q q => ⟨i, j, e1, e2, q _ fun _ => rfl⟩
theorem de_opB {f : Int → Int → Bool} (ha : DE K B0 false ta ρ i) (hb : DE K B0 false tb ρ j) : DE K B0 r (tOp (rI0 fun x y => .bl (f x y)) ta tb) ρ (f i j) :=
  de_two (df_of ha) (df_of hb) fun u v H e1 e2 Q q => ⟨i, j, e1, e2, q _ fun _ => rfl⟩
theorem de_opC {C : Int → Int → Prop} {f : Int → Int → Int} (ha : DE K B0 false ta ρ i) (hb : DE K B0 false tb ρ j) (h : C i j) : DE K B0 r (tOp (rI C fun x y => .int (f x y)) ta tb) ρ (f i j) :=
  de_two (df_of ha) (df_of hb) fun u v H e1 e2 Q q => ⟨i, j, e1, e2, h, q _ fun _ => rfl⟩
theorem de_neg (ha : DE K B0 false ta ρ i) : DE K B0 r (tUn (rU fun x => .int (-x)) ta) ρ (-i) := fun B σ H g Q q =>
  ha B σ H g _ fun u B1 H1 s1 t1 g1 e1 => ⟨i, e1, q _ B1 H1 s1 t1 g1 rfl⟩
/-- scalars -/
class Sc (α : Type) [Dt α] where
  val : α → V
  rp : ∀ {K : PySem.W.Frag} {H : Hp} {v : V} {a : α}, Dt.rep K H v a → v = val a
  inj : ∀ {a b : α}, val a = val b → a = b
  sc : ∀ a b : α, scal (val a) (val b) = true
  flat : ∀ a : α, flatV (val a) = true
  eqv : ∀ a b : α, eqV (val a) (val b) = true ↔ a = b
instance : Sc Int := ⟨V.int, fun h => h, fun h => V.int.inj h, fun _ _ => rfl, fun _ => rfl, fun a b => by simp [eqV]⟩
instance : Sc Str := ⟨V.str, fun h => h, fun h => V.str.inj h, fun _ _ => rfl, fun _ => rfl, fun a b => by simp [eqV]⟩
theorem dec_val {α : Type} [Dt α] [Sc α] [DecidableEq α] (a b : α) : decide (Sc.val a = Sc.val b) = decide (a = b) := by
  by_cases e : a = b
  · rw [decide_eq_true e, decide_eq_true (congrArg Sc.val e)]
  · rw [decide_eq_false e, decide_eq_false fun z => e (Sc.inj z)]
theorem de_eqS (ha : DE K B0 false ta ρ a) (hb : DE K B0 false tb ρ a') (_ : Sc α) (_ : DecidableEq α) : DE K B0 r (tOp rEq ta tb) ρ (decide (a = a')) :=
  de_two (df_of ha) (df_of hb) fun u v H e1 e2 Q q => by
    rw [Sc.rp e1, Sc.rp e2]
    exact ⟨Sc.sc _ _, by rw [dec_val]; exact q _ fun _ => rfl⟩
theorem de_neS (ha : DE K B0 false ta ρ a) (hb : DE K B0 false tb ρ a') (_ : Sc α) (_ : DecidableEq α) : DE K B0 r (tOp rNe ta tb) ρ (!decide (a = a')) :=
  de_two (df_of ha) (df_of hb) fun u v H e1 e2 Q q => by
    rw [Sc.rp e1, Sc.rp e2]
    exact ⟨Sc.sc _ _, by rw [dec_val]; exact q _ fun _ => rfl⟩

/-! ### tests -/
theorem dt_test {b : Bool} (h : DE K B0 false te ρ b) : DT K B0 (tTest te) ρ b := fun B σ H g Q q => h B σ H g _ fun v B' H' s1 s2 g' e => ⟨b, e, q B' H' s1 s2 g'⟩
theorem dt_B {b : Bool} (h : DE K B0 false te ρ b) : DT K B0 (tB te) ρ b := fun B σ H g Q q => h B σ H g _ fun v B' H' s1 s2 g' e => ⟨b, e, q B' H' s1 s2 g'⟩
theorem dt_and {a b : Bool} (h1 : DT K B0 tt ρ a) (h2 : a = true → DT K B0 uu ρ b) : DT K B0 (tAnd tt uu) ρ (a && b) := fun B σ H g Q q => h1 B σ H g _ fun B1 H1 s1 t1 g1 => by
  cases a with
  | true =>
    show uu σ H1 Q
    exact h2 rfl B1 σ H1 g1 Q fun B2 H2 s2 t2 g2 => q B2 H2 (s1.trans s2) (t1.trans t2) g2
  | false =>
    show Q false H1
    exact q B1 H1 s1 t1 g1
theorem dt_or {a b : Bool} (h1 : DT K B0 tt ρ a) (h2 : a = false → DT K B0 uu ρ b) : DT K B0 (tOr tt uu) ρ (a || b) := fun B σ H g Q q => h1 B σ H g _ fun B1 H1 s1 t1 g1 => by
  cases a with
  | true =>
    show Q true H1
    exact q B1 H1 s1 t1 g1
  | false =>
    show uu σ H1 Q
    exact h2 rfl B1 σ H1 g1 Q fun B2 H2 s2 t2 g2 => q B2 H2 (s1.trans s2) (t1.trans t2) g2
theorem dt_not {a : Bool} (h1 : DT K B0 tt ρ a) : DT K B0 (tNot tt) ρ (!a) := fun B σ H g Q q => h1 B σ H g _ fun B1 H1 s1 t1 g1 => q B1 H1 s1 t1 g1
theorem de_andV {x y : Bool} (h1 : DE K B0 false ta ρ x) (h2 : x = true → DE K B0 false tb ρ y) : DE K B0 r (tAndV ta tb) ρ (x && y) := fun B σ H g Q q => h1 B σ H g _ fun v B1 H1 s1 t1 g1 e => ⟨x, e, by
  cases x with
  | true =>
    show tb σ H1 Q
    exact h2 rfl B1 σ H1 g1 Q fun w B2 H2 s2 t2 g2 e2 => q w B2 H2 (s1.trans s2) (t1.trans t2) g2 e2
  | false =>
    show Q (.bl false) H1
    exact q _ B1 H1 s1 t1 g1 rfl⟩
theorem de_orV {x y : Bool} (h1 : DE K B0 false ta ρ x) (h2 : x = false → DE K B0 false tb ρ y) : DE K B0 r (tOrV ta tb) ρ (x || y) := fun B σ H g Q q => h1 B σ H g _ fun v B1 H1 s1 t1 g1 e => ⟨x, e, by
  cases x with
  | true =>
    show Q (.bl true) H1
    exact q _ B1 H1 s1 t1 g1 rfl
  | false =>
    show tb σ H1 Q
    exact h2 rfl B1 σ H1 g1 Q fun w B2 H2 s2 t2 g2 e2 => q w B2 H2 (s1.trans s2) (t1.trans t2) g2 e2⟩
theorem de_notV {x : Bool} (h1 : DE K B0 false ta ρ x) : DE K B0 r (tNotV ta) ρ (!x) := fun B σ H g Q q => h1 B σ H g _ fun v B1 H1 s1 t1 g1 e => ⟨x, e, q _ B1 H1 s1 t1 g1 rfl⟩

/-! ### arguments, calls -/
theorem da_nil : DA K B0 tNil ρ () := fun B σ H g Q q => q [] B H (Same.refl _) (Same.refl _) g rfl
theorem da_cons {A : Type} {_ : Ar A} {tr : TA} {as : A} (h : DF K B0 te ρ a) (hr : DA K B0 tr ρ as) : DA K B0 (tCons te tr) ρ (a, as) := fun B σ H g Q q =>
  h B σ H g _ fun v B1 H1 s1 t1 g1 e1 => hr B1 σ H1 g1 _ fun vs B2 H2 s2 t2 g2 e2 => q (v :: vs) B2 H2 (s1.trans s2) (t1.trans t2) g2 ⟨v, vs, rfl, Dt.mono t2 e1, e2⟩
theorem de_call {A R : Type} {_ : Ar A} {_ : Dt R} {pre : A → Prop} {f : A → R} {E : XK} {t : TA} {as : A} (h : DA K B0 t ρ as) (hp : pre as) : DE K B0 r (tCall (spPure K pre f) [] E t) ρ (f as) := de_weak fun B σ H g Q q =>
  h B σ H g _ fun vs B1 H1 s1 t1 g1 e1 => by
    rw [List.append_nil]
    refine ⟨as, e1, hp, fun v H' sh e => ?_⟩
    obtain ⟨B2, s2, g2, sn⟩ := g1.called sh
    exact q v B2 H' (s1.trans s2) (t1.trans sh) g2 (Dt.mono sn e)
/-- a built-in by its rule on whole numbers and the like -/
theorem de_cb {A : Type} {_ : Ar A} {R : List V → Hp → VK → Prop} {t : TA} {as : A} {z : γ} (h : DA K B0 t ρ as) (hr : ∀ vs H, Ar.args K H vs as → ∀ Q : VK, (∀ w, (∀ H, Dt.rep K H w z) → Q w H) → R vs H Q) : DE K B0 r (tCB R t) ρ z := fun B σ H g Q q =>
  h B σ H g _ fun vs B1 H1 s1 t1 g1 e1 => hr vs H1 e1 Q fun w hw => q w B1 H1 s1 t1 g1 (hw _)

/-! ### tuples -/
theorem rg_at {r : Bool} {B0 B : Hp} {p : Addr} {o : HO} (s : Same B0 B) (h : B p = none) : rg r B0 (upd B p o) p = some o := by
  cases r with
  | true =>
    show Nw B0 (upd B p o) p = some o
    have z : B0 p = none := s.free h
    unfold Nw
    rw [z]
    exact upd_same
  | false => exact upd_same
theorem de_tup2 (ha : DE K B0 r ta ρ a) (hb : DE K B0 r tb ρ b) : DE K B0 r (tTup (tCons ta (tCons tb tNil))) ρ (a, b) := fun B σ H g Q q =>
  ha B σ H g _ fun u B1 H1 s1 t1 g1 e1 => hb B1 σ H1 g1 _ fun v B2 H2 s2 t2 g2 e2 => ⟨by show 2 ≤ sizeLine; decide, fun p hp => by
    have ⟨g3, s3⟩ := g2.laid (o := .tup [u, v]) hp
    have bp : B2 p = none := g2.sub.free hp
    exact q _ _ _ ((s1.trans s2).trans s3) ((t1.trans t2).trans (same_new hp)) g3 ⟨p, u, v, rfl, rg_at g2.b0 bp, Dt.mono (rg_mono (s2.trans s3)) e1, Dt.mono (rg_mono s3) e2⟩⟩
theorem rg_H {r : Bool} {B0 B H : Hp} (s : Same B H) : Same (rg r B0 B) H := rg_sub.trans s
theorem de_fst {t : α × β} (h : DE K B0 r te ρ t) : DE K B0 r (tOp (rIxT K) te (tC (.int 0))) ρ t.1 := fun B σ H g Q q =>
  h B σ H g _ fun u B1 H1 s1 t1 g1 ⟨p, x, y, e, hp, h1, h2⟩ => ⟨p, [x, y], 0, x, e, rfl, SqT.of (rg_H g1.sub _ _ hp), rfl, q x B1 H1 s1 t1 g1 h1⟩
theorem de_snd {t : α × β} (h : DE K B0 r te ρ t) : DE K B0 r (tOp (rIxT K) te (tC (.int 1))) ρ t.2 := fun B σ H g Q q =>
  h B σ H g _ fun u B1 H1 s1 t1 g1 ⟨p, x, y, e, hp, h1, h2⟩ => ⟨p, [x, y], 1, y, e, rfl, SqT.of (rg_H g1.sub _ _ hp), rfl, q y B1 H1 s1 t1 g1 h2⟩
end

/-! ### statements -/
section
variable {K : PySem.W.Frag} {B0 : Hp} {ρ ρ' : List Sl} {r : Bool} {α β γ : Type} {iA : Dt α} {iB : Dt β} {iC : Dt γ} {a a' : α} {b : β} {ta tb te : TE} {tt : TT} {t u : TS} {D : Ends} {n m : Nat}
theorem dn_seq (h : DN K B0 ρ (t { D with nx := u D })) : DN K B0 ρ (tSeq t u D) := h
theorem dn_next (h : DN K B0 ρ D.nx) : DN K B0 ρ (tNext D) := h
theorem dn_break (h : DN K B0 ρ D.bk) : DN K B0 ρ (tBreak D) := h
theorem dn_cont (h : DN K B0 ρ D.ct) : DN K B0 ρ (tCont D) := h
theorem dn_asg (r : Bool) (h : DE K B0 r te ρ a) (k : DN K B0 (ρ.set n (.dt r a)) D.nx) (hn : Nat.blt n ρ.length = true := by rfl) : DN K B0 ρ (tAsg te (gName n) D) := fun σ H ⟨B, g⟩ =>
  h B σ H g _ fun v B' H' s1 s2 g' e => k _ _ ⟨B', g'.putD (Nat.blt_eq.mp hn) e⟩
theorem dn_par (h1 : DE K B0 r ta ρ a) (h2 : DE K B0 r tb ρ b) (k : DN K B0 ((ρ.set n (.dt r a)).set m (.dt r b)) D.nx) (hn : Nat.blt n ρ.length = true := by rfl) (hm : Nat.blt m ρ.length = true := by rfl) : DN K B0 ρ (tPar n m (tCons ta (tCons tb tNil)) D) := fun σ H ⟨B, g⟩ =>
  h1 B σ H g _ fun v B1 H1 s1 t1 g1 e1 => h2 B1 σ H1 g1 _ fun w B2 H2 s2 t2 g2 e2 => ⟨v, w, rfl, k _ _ ⟨B2, (g2.putD (Nat.blt_eq.mp hn) (Dt.mono (rg_mono s2) e1)).putD (by have z := Nat.blt_eq.mp hm; simpa using z) e2⟩⟩
theorem dn_if {b : Bool} (h : DT K B0 tt ρ b) (h1 : b = true → DN K B0 ρ (t D)) (h2 : b = false → DN K B0 ρ (u D)) : DN K B0 ρ (tIfS tt t u D) := fun σ H ⟨B, g⟩ =>
  h B σ H g _ fun B' H' s1 s2 g' => by
    cases b with
    | true => exact h1 rfl _ _ ⟨B', g'⟩
    | false => exact h2 rfl _ _ ⟨B', g'⟩
theorem dn_ifAsg {b : Bool} {x y : α} (r : Bool) (h : DT K B0 tt ρ b) (h1 : b = true → DE K B0 r te ρ x) (h2 : ρ[n]? = some (.dt r y)) (k : DN K B0 (ρ.set n (.dt r (if b then x else y))) D.nx) (hn : Nat.blt n ρ.length = true := by rfl) : DN K B0 ρ (tIfS tt (tAsg te (gName n)) tNext D) := fun σ H ⟨B, g⟩ =>
  h B σ H g _ fun B' H' s1 s2 g' => by
    cases b with
    | true => exact h1 rfl B' σ H' g' _ fun v B2 H2 s3 s4 g2 e => k _ _ ⟨B2, g2.putD (Nat.blt_eq.mp hn) e⟩
    | false =>
      have e : ρ.set n (.dt r y) = ρ := by
        obtain ⟨hl, hv⟩ := List.getElem?_eq_some_iff.mp h2
        rw [← hv, List.set_getElem_self]
      have k2 : DN K B0 (ρ.set n (.dt r y)) D.nx := k
      rw [e] at k2
      exact k2 _ _ ⟨B', g'⟩
theorem Rt.ret (h : Rt K B0 D.rt a) {B : Hp} {σ : L2.St} {H : Hp} {v : V} (g : Good K B0 B ρ σ H) (e : Dt.rep K (rg true B0 B) v a) : D.rt v H := h v H (g.b0.trans g.sub) (Dt.mono (nw_mono g.sub) e)
theorem dn_ret (h : DE K B0 true te ρ a) (k : Rt K B0 D.rt a) : DN K B0 ρ (tRet te D) := fun σ H ⟨B, g⟩ => h B σ H g _ fun v B' H' s1 s2 g' e => k.ret g' e
theorem dn_retN (k : Rt K B0 D.rt ()) : DN K B0 ρ (tRetN D) := fun σ H ⟨B, g⟩ => k.ret g rfl
theorem Rt.is {rt : VK} (h : Rt K B0 rt a) (e : a = a') : Rt K B0 rt a' := e ▸ h
theorem dn_drop (h : DE K B0 r te ρ a) (k : DN K B0 ρ D.nx) : DN K B0 ρ (tDrop te D) := fun σ H ⟨B, g⟩ => h B σ H g _ fun v B' H' s1 s2 g' e => k _ _ ⟨B', g'⟩
/-! weakening -/
inductive Sub : List Sl → List Sl → Prop where
  | nil : Sub [] []
  | same {s ρ ρ'} : Sub ρ ρ' → Sub (s :: ρ) (s :: ρ')
  | drop {s ρ ρ'} : Sub ρ ρ' → Sub (s :: ρ) (.un :: ρ')
  | weak {α : Type} [Dt α] {a : α} {ρ ρ'} : Sub ρ ρ' → Sub (.dt true a :: ρ) (.dt false a :: ρ')
  | eq {α : Type} [Dt α] {a a' : α} {r ρ ρ'} : a = a' → Sub ρ ρ' → Sub (.dt r a :: ρ) (.dt r a' :: ρ')
  | eqR {R R' : Res} {ρ ρ'} : R = R' → Sub ρ ρ' → Sub (.ow R :: ρ) (.ow R' :: ρ')
theorem Sub.refl : ∀ ρ : List Sl, Sub ρ ρ
  | [] => .nil
  | _ :: r => .same (Sub.refl r)
theorem Sub.slots {B H : Hp} {ρ ρ' : List Sl} (s : Sub ρ ρ') : ∀ {σ : L2.St} {fp : List Addr}, Slots K B0 B H ρ σ fp → ∃ fp', Slots K B0 B H ρ' σ fp' ∧ fp'.Sublist fp := by
  induction s with
  | nil => exact fun {σ fp} h => ⟨fp, h, List.Sublist.refl _⟩
  | @same s _ _ _ ih =>
    intro σ fp h
    cases σ with
    | nil => exact h.elim
    | cons o σ =>
      obtain ⟨f1, f2, e, x, y⟩ := h
      subst e
      obtain ⟨f3, z, w⟩ := ih y
      exact ⟨f1 ++ f3, ⟨f1, f3, rfl, x, z⟩, List.Sublist.append (List.Sublist.refl _) w⟩
  | @drop s _ _ _ ih =>
    intro σ fp h
    cases σ with
    | nil => exact h.elim
    | cons o σ =>
      obtain ⟨f1, f2, e, x, y⟩ := h
      subst e
      obtain ⟨f3, z, w⟩ := ih y
      exact ⟨[] ++ f3, ⟨[], f3, rfl, rfl, z⟩, List.Sublist.append (List.nil_sublist _) w⟩
  | @weak α i a _ _ _ ih =>
    intro σ fp h
    cases σ with
    | nil => exact h.elim
    | cons o σ =>
      obtain ⟨f1, f2, e, ⟨x1, v, x2, x3⟩, y⟩ := h
      subst e
      obtain ⟨f3, z, w⟩ := ih y
      exact ⟨f1 ++ f3, ⟨f1, f3, rfl, ⟨x1, v, x2, Dt.mono nw_sub x3⟩, z⟩, List.Sublist.append (List.Sublist.refl _) w⟩
  | @eq α i a a' r _ _ e0 _ ih =>
    subst e0
    intro σ fp h
    cases σ with
    | nil => exact h.elim
    | cons o σ =>
      obtain ⟨f1, f2, e, x, y⟩ := h
      subst e
      obtain ⟨f3, z, w⟩ := ih y
      exact ⟨f1 ++ f3, ⟨f1, f3, rfl, x, z⟩, List.Sublist.append (List.Sublist.refl _) w⟩
  | @eqR R R' _ _ e0 _ ih =>
    subst e0
    intro σ fp h
    cases σ with
    | nil => exact h.elim
    | cons o σ =>
      obtain ⟨f1, f2, e, x, y⟩ := h
      subst e
      obtain ⟨f3, z, w⟩ := ih y
      exact ⟨f1 ++ f3, ⟨f1, f3, rfl, x, z⟩, List.Sublist.append (List.Sublist.refl _) w⟩
theorem Sub.good {B H : Hp} {σ : L2.St} (s : Sub ρ ρ') (g : Good K B0 B ρ σ H) : Good K B0 B ρ' σ H := by
  obtain ⟨fp, h, nd, q⟩ := g.ex
  obtain ⟨fp', h', sb⟩ := s.slots h
  exact ⟨g.b0, g.sub, g.tup, fp', h', nd.sublist sb, fun a ha => q a (sb.subset ha)⟩
theorem dn_post (s : Sub ρ ρ') : DN K B0 ρ (Post K B0 ρ') := fun _ _ ⟨B, g⟩ => ⟨B, s.good g⟩
theorem dn_sub {N : L2.St → Hp → Prop} (s : Sub ρ ρ') (h : DN K B0 ρ' N) : DN K B0 ρ N := fun σ H ⟨B, g⟩ => h σ H ⟨B, s.good g⟩

/-! loops -/
theorem dn_while {ι : Type} (I : ι → Prop) (env : ι → List Sl) (c : ι → Bool) (μ : ι → Nat) (x0 : ι) (h0 : I x0) (hs : Sub ρ (env x0)) (ht : ∀ x, I x → DT K B0 tt (env x) (c x))
    (hb : ∀ x, I x → c x = true → ∃ y, I y ∧ μ y < μ x ∧ DN K B0 (env x) (t { D with nx := Post K B0 (env y), ct := Post K B0 (env y), bk := D.nx }))
    (hd : ∀ x, I x → c x = false → DN K B0 (env x) D.nx) : DN K B0 ρ (tWhile tt t D) := fun σ H ⟨B, g⟩ => by
  refine ⟨fun m σ H => ∃ x, I x ∧ m = μ x ∧ Post K B0 (env x) σ H, ⟨μ x0, x0, h0, rfl, B, hs.good g⟩, fun m σ H => ?_⟩
  rintro ⟨x, hx, rfl, B, g⟩
  refine ht x hx B σ H g _ fun B' H' s1 s2 g' => ?_
  cases e : c x with
  | true =>
    obtain ⟨y, hy, lt, h⟩ := hb x hx e
    exact ⟨Post K B0 (env y), fun σ' H' p => ⟨μ y, lt, y, hy, rfl, p⟩, h _ _ ⟨B', g'⟩⟩
  | false => exact hd x hx e _ _ ⟨B', g'⟩
theorem dn_forR1 {ta : TA} {j : Int} (env : Nat → List Sl) (h : DA K B0 ta ρ ((j, ()) : Int × Unit)) (hj : -(2 ^ 62) ≤ j ∧ j < 2 ^ 62) (h0 : Sub ρ (env 0)) (hn : ∀ i, n < (env i).length)
    (hb : ∀ i : Nat, i < j.toNat → DN K B0 ((env i).set n (.dt false (i : Int))) (t { D with nx := Post K B0 (env (i + 1)), ct := Post K B0 (env (i + 1)), bk := D.nx }))
    (hd : DN K B0 (env j.toNat) D.nx) : DN K B0 ρ (tFor (iRng1 ta) (gName n) t D) := fun σ H ⟨B, g⟩ =>
  h B σ H g _ fun vs B1 H1 s1 t1 g1 ⟨v, r, e, e1, e2⟩ => by
    have e2' : r = [] := e2
    have e1' : v = .int j := e1
    subst e2' e1' e
    refine ⟨j, rfl, hj.1, hj.2, for_range (fun i σ H => Post K B0 (env i) σ H) ⟨B1, h0.good g1⟩ (fun i σ H hi ⟨B, g⟩ => ?_) fun σ H p => hd _ _ p⟩
    refine hb i hi _ _ ⟨B, ?_⟩
    refine g.putD (hn i) (r := false) (a := (i : Int)) ?_
    show V.int (0 + (i : Int)) = V.int (i : Int)
    rw [Int.zero_add]
theorem dn_forR2 {ta : TA} {lo j : Int} (env : Nat → List Sl) (h : DA K B0 ta ρ ((lo, j, ()) : Int × Int × Unit)) (hj : -(2 ^ 62) ≤ lo ∧ lo < 2 ^ 62 ∧ -(2 ^ 62) ≤ j ∧ j < 2 ^ 62) (h0 : Sub ρ (env 0)) (hn : ∀ i, n < (env i).length)
    (hb : ∀ i : Nat, i < (j - lo).toNat → DN K B0 ((env i).set n (.dt false (lo + (i : Int)))) (t { D with nx := Post K B0 (env (i + 1)), ct := Post K B0 (env (i + 1)), bk := D.nx }))
    (hd : DN K B0 (env (j - lo).toNat) D.nx) : DN K B0 ρ (tFor (iRng2 ta) (gName n) t D) := fun σ H ⟨B, g⟩ =>
  h B σ H g _ fun vs B1 H1 s1 t1 g1 ⟨v, r, e, e1, w, r2, e2, e3, e4⟩ => by
    have e1' : v = .int lo := e1
    have e3' : w = .int j := e3
    have e4' : r2 = [] := e4
    subst e4' e1' e3' e2 e
    refine ⟨lo, j, rfl, hj, for_range (fun i σ H => Post K B0 (env i) σ H) ⟨B1, h0.good g1⟩ (fun i σ H hi ⟨B, g⟩ => ?_) fun σ H p => hd _ _ p⟩
    refine hb i hi _ _ ⟨B, ?_⟩
    exact g.putD (hn i) (r := false) (a := lo + (i : Int)) rfl
end

/-! ### the entry of a def -/
theorem slots_app {K : PySem.W.Frag} {B0 B H : Hp} : ∀ {ρ : List Sl} {σ : L2.St} {k : Nat}, Slots K B0 B H ρ σ [] → Slots K B0 B H (ρ ++ List.replicate k .un) (σ ++ List.replicate k none) []
  | [], [], 0, _ => rfl
  | [], [], k + 1, _ => ⟨[], [], rfl, rfl, slots_app (ρ := []) (σ := []) (k := k) rfl⟩
  | s :: ρ, o :: σ, k, h => by
    obtain ⟨f1, f2, e, a, b⟩ := h
    have e2 : f1 = [] ∧ f2 = [] := by simpa using e.symm
    obtain ⟨rfl, rfl⟩ := e2
    exact ⟨[], [], rfl, a, slots_app b⟩
  | [], _ :: _, _, h => h.elim
  | _ :: _, [], _, h => h.elim
theorem good_start {K : PySem.W.Frag} {H : Hp} {A : Type} [Ar A] {a : A} {vs : List V} {N : List Str} (h : Ar.args K H vs a) : Good K H H (Ar.sl a ++ List.replicate (N.length - vs.length) .un) (start N vs) H :=
  ⟨Same.refl _, Same.refl _, Tx.refl _, [], slots_app (Ar.ps h), List.nodup_nil, fun _ z => by simp at z⟩
section
variable {P : Program} {w : World} {K : PySem.W.Frag} {mg : Str → Option Value} {base : Heap}
/-- THE RULE for a pure def: its body by rules, its environment at the entry, what it is worth -/
theorem ok_pure {x qual : Str} {st : Stmt} {f : Addr} {fd : FuncData} {N ps : List Str} {k : Nat} {A R : Type} [Ar A] [Dt R] {pre : A → Prop} {fn : A → R} (F : Fun K x qual st f fd) (S : FnScope N ps (defScope st))
    (hl : ∀ a : A, (Ar.sl a).length = ps.length)
    (hb : ∀ (cdv : Value) (A' : Around) (outer : List Env) (s : Shared) (H : Hp) (E : XK), Room k (A'.deeper (envOfC qual (defScope st) s.heap.objs.size f cdv)) → ∀ a : A, pre a →
      ∃ t, PSs (cxOf (L2.CX P w) P w K mg base N qual (defScope st) f cdv A' outer s H E) (defBody st) t ∧
        ∀ rt : VK, Rt K H rt (fn a) → DN K H (Ar.sl a ++ List.replicate (N.length - ps.length) .un) (t { nx := fun _ H' => rt .non H', rt := rt })) :
    FnOk P w K mg base (L2.CX P w) (k + 1) f fd ps (spPure K pre fn) := by
  have len : ∀ vs H Q E, spPure K pre fn vs H Q E → vs.length = ps.length := fun vs H Q E h => by
    obtain ⟨a, h, _⟩ := h
    have := (Ar.ps h).len
    rw [List.length_map] at this
    rw [← this]
    exact hl a
  refine F.okX S len fun cdv A' outer s H vs Q E hr h => ?_
  have e := len _ _ _ _ h
  obtain ⟨a, h1, h2, h3⟩ := h
  obtain ⟨t, ht, hd⟩ := hb cdv A' outer s H E hr a h2
  refine ⟨t, ht, hd Q (fun v H' s' e' => h3 v H' s' e') _ _ ⟨H, ?_⟩⟩
  rw [← e]
  exact good_start h1
end
end Cg

set_option Elab.async false
set_option linter.all false
set_option maxRecDepth 100000
set_option maxHeartbeats 4000000
namespace Cg
open PySem PySem.Spec L2
open PyProof.Rows hiding St
/-! ### division of numbers of any size -/
/-- the written part holds what a great division looks at -/
def Sees (K : PySem.W.Frag) : Prop := ∀ h : Heap, K.In h → h.NoSeer
theorem op_fdivX {X : Cx} {N ps : List Str} (hS : Sees X.K) (ht : X.prog.given.tree = none) (hr : Room 32 X.A) (hst : X.stack = X.env :: X.outer) (S : FnScope N ps X.env.scope) : OpR X (binaryOp .FloorDiv) (rI (fun _ j => j ≠ 0) fun i j => .int (i.fdiv j)) := by
  intro pins s σ H x y v u Q I rx ry h
  obtain ⟨i, j, rfl, rfl, hc, q⟩ := h
  obtain ⟨t, rfl⟩ := rx
  obtain ⟨t', rfl⟩ := ry
  have fr : X.A.frames = some (X.env :: X.outer) := by rw [I.ok.frames, hst]
  have dp : X.A.depth + Builtin.pylongFrames < recursionLimit := by
    have z := hr.dp
    have e : Builtin.pylongFrames = 100 := rfl
    rw [e]
    omega
  have see : PySem.SeerAt (model X.prog X.w) X.A s.heap := PySem.SeerAt.of (M := model X.prog X.w) (hS _ I.kIn) ht fr S.gen S.co I.ok.blt I.ok.glob
  exact PyProof.Rows.floordiv_int hc ⟨.int (i.fdiv j), H, I.tok _, ⟨_, rfl⟩, q⟩ (.inr (PySem.PylongRoom.of I.nolimit dp see))
theorem frG_has {g : Addr → Option Obj} {a : Addr} {o : Obj} : ∀ {as : List Addr}, a ∈ as → g a = some o → (He.frG g as).lookup a = some o
  | [], h, _ => by cases h
  | b :: r, h, e => by
    show ((b :: r).filterMap fun a => (g a).map fun o => (a, o)).lookup a = some o
    by_cases z : b = a
    · subst z
      rw [List.filterMap_cons, e]
      show ((b, o) :: _).lookup b = some o
      simp
    · have hr : a ∈ r := by
        rcases List.mem_cons.mp h with q | q
        · exact absurd q.symm z
        · exact q
      have ih := frG_has hr e
      cases q : g b with
      | none =>
        rw [List.filterMap_cons, q]
        exact ih
      | some o' =>
        rw [List.filterMap_cons, q]
        show ((b, o') :: _).lookup a = some o
        rw [List.lookup_cons, show (a == b) = false from beq_false_of_ne fun w => z w.symm]
        exact ih
def More (K K' : PySem.W.Frag) : Prop := ∀ a o, K.lookup a = some o → K'.lookup a = some o
theorem widen {K : PySem.W.Frag} {h : Heap} (X : K.In h) (n : h.NoSeer) : ∃ K' : PySem.W.Frag, K'.In h ∧ Sees K' ∧ More K K' := by
  obtain ⟨mc, a1, a2⟩ := n.statics
  obtain ⟨mm, b1, b2⟩ := n.mods
  obtain ⟨mb, c1, c2⟩ := n.imp
  obtain ⟨mg, bm, ob, d1, d2, d3, d4⟩ := n.main
  have inK : PySem.W.Frag.In (K ++ He.frG h.get? [cStatics, sysModules, builtinsNs, mainGlobals, bm]) h := fun a o e => by
    rw [List.lookup_append] at e
    cases q : K.lookup a with
    | some o' =>
      rw [q] at e
      cases e
      exact X _ _ q
    | none =>
      rw [q] at e
      exact He.frG_at _ e
  have has : ∀ a ∈ [cStatics, sysModules, builtinsNs, mainGlobals, bm], ∀ o, h.get? a = some o → (K ++ He.frG h.get? [cStatics, sysModules, builtinsNs, mainGlobals, bm]).lookup a = some o := fun a ha o e => by
    rw [List.lookup_append]
    cases q : K.lookup a with
    | some o' =>
      have z := X _ _ q
      rw [e] at z
      cases z
      rfl
    | none => exact frG_has ha e
  refine ⟨_, inK, fun h' X' => ?_, fun a o e => ?_⟩
  · have k : ∀ a ∈ [cStatics, sysModules, builtinsNs, mainGlobals, bm], ∀ o, h.get? a = some o → h'.get? a = some o := fun a ha o e => X' _ _ (has a ha o e)
    exact ⟨⟨mc, a1.at (k _ (by simp)), a2⟩, ⟨mm, b1.at (k _ (by simp)), b2⟩, ⟨mb, c1.at (k _ (by simp)), c2⟩, ⟨mg, bm, ob, d1.at (k _ (by simp)), d2, k _ (by simp) _ d3, d4⟩⟩
  · rw [List.lookup_append, e]
    rfl
section
variable {K K' : PySem.W.Frag}
theorem More.code (m : More K K') {cd : Value} {q : Str} (h : PySem.W.codeIn K cd q = true) : PySem.W.codeIn K' cd q = true := by
  unfold PySem.W.codeIn at h ⊢
  cases cd with
  | ref c =>
    cases e : K.lookup c with
    | none => simp [e] at h
    | some o =>
      simp only [e] at h
      simp only [m c o e]
      exact h
  | _ => cases h
theorem More.fun_ (m : More K K') {x qual : Str} {st : Stmt} {f : Addr} {fd : FuncData} (F : Fun K x qual st f fd) : Fun K' x qual st f fd := by
  obtain ⟨⟨oc, od, kV, doc, pm, an, cdv, ct, osl, e, l, c⟩, kp⟩ := F
  refine ⟨⟨oc, od, kV, doc, pm, an, cdv, ct, osl, e, m _ _ l, m.code c⟩, ?_⟩
  have l2 := m _ _ l
  show (match K'.lookup f with | some ⟨_, _, .func _, _⟩ => true | some ⟨_, _, .cls _, _⟩ => _ | _ => false) = true
  simp only [l2]
end
theorem cx_no {P : Program} {w : World} {outer : List Env} {H : Hp} {s s' : Shared} {u : Value} (h : L2.CX P w outer H s (fun _ _ _ => False) u s') : False := by
  obtain ⟨_, _, _, _, _, _, _, _, _, _, _, _, z⟩ := h
  exact z
theorem More.in_ {K K' : PySem.W.Frag} (m : More K K') {h : Heap} (X : K'.In h) : K.In h := fun a o e => X a o (m a o e)
theorem More.binds {K K' : PySem.W.Frag} (m : More K K') {fd : FuncData} {ps : List Str} {ds : List Value} (b : Binds K fd ps ds) : Binds K' fd ps ds := fun s us X hl => b s us (m.in_ X) hl
/-- the end of a law whose defs divide great numbers: K is widened -/
theorem walk_wide {l : PySem.W.OpenLaw} {n k : Nat} {q : Program} {loose : List Str} {XP : (Str → Option Value) → Heap → Prop} {YP : World → Heap → Prop} {d : DefRec} {K : Params → PySem.W.Frag} {CX : World → CXT} {sp : PySem.W.Frag → Sp} {x : Str}
    (hn : l.most = some n) (hn2 : n ≤ sizeLine) (hdf : d.params.defaults = []) (hr : Room k callerA) (hi : importsNone q = true)
    (hY : ∀ (w : World) (h : Heap), YP w h → (K w.params).In h)
    (F : ∀ (w : World) (mg : Str → Option Value) (fa : Addr) (h : Heap), (K w.params).In h → h.Ns mainGlobals mg → mg d.name = some (.ref fa) →
      ∃ fd : FuncData, (∀ (s : Shared) (u : Value), BindsTo s fd ⟨[u], []⟩ [(x, u)]) ∧
        ∀ K' : PySem.W.Frag, More (K w.params) K' → Sees K' → ∀ base : Heap, K'.In base → base.Ns mainGlobals mg → FnOk l.prog w K' mg base (CX w) k fa fd [x] (sp K'))
    (hsp : ∀ (K' : PySem.W.Frag) (H : Hp) (a : Addr) (ns : List Int), ns.length ≤ n → (∀ z ∈ ns, Builtin.Int.intBits z ≤ 1048576) → Only H → SqL K' H a (ns.map V.int) → sp K' [.ref a] H (fun v _ => v = .bl true) fun _ _ _ => False)
    (hCX : ∀ (w : World) (H : Hp) (s : Shared) (e : Value) (s' : Shared), CX w [] H s (fun _ _ _ => False) e s' → False) :
    PySem.W.WalkO q loose XP YP l.row.toRowW d [] (fun f vs => PySem.call f vs) := by
  refine Att.attach_callB hn hdf fun w s0 s1 mg mb fa o pm cd doc a vs ns G Y ho hd hcd hmg hobj hints hlen hbits hg => ?_
  obtain ⟨fd, hb, hF⟩ := F w mg fa _ (hY w _ Y) G.T.g hmg
  obtain ⟨K', X', se, m⟩ := widen (hY w _ Y) (G.T.seer hi)
  exact law_call X' G.T.g G.T.b G.T.builtins G.T.nolimit hg hobj hints (Nat.le_trans hlen hn2) hr (hF K' m se) hb (fun H hO hS => hsp K' H a ns hlen hbits hO hS) fun H e s' z => hCX w H s1 e s' z
end Cg

set_option Elab.async false
set_option linter.all false
set_option maxRecDepth 100000
set_option maxHeartbeats 4000000
namespace Cg
open PySem PySem.Spec L2
open PyProof.Rows hiding St
/-! ### sizes of numbers -/
structure Bt (n : Nat) (i : Int) : Prop where
  lt : i.natAbs < 2 ^ n
theorem Bt.mono {m n : Nat} {i : Int} (h : Bt m i) (l : m ≤ n) : Bt n i := ⟨Nat.lt_of_lt_of_le h.lt (Nat.pow_le_pow_right (by decide) l)⟩
theorem Bt.mul {m n : Nat} {i j : Int} (h : Bt m i) (g : Bt n j) : Bt (m + n) (i * j) := ⟨by
  rw [Int.natAbs_mul, Nat.pow_add]
  exact Nat.mul_lt_mul'' h.lt g.lt⟩
theorem Bt.neg {n : Nat} {i : Int} (h : Bt n i) : Bt n (-i) := ⟨by
  rw [Int.natAbs_neg]
  exact h.lt⟩
theorem Bt.le {n : Nat} {i j : Int} (h : Bt n j) (l : i.natAbs ≤ j.natAbs) : Bt n i := ⟨Nat.lt_of_le_of_lt l h.lt⟩
theorem Bt.log {n : Nat} {i : Int} (h : Bt n i) (h0 : 0 < n) : i.natAbs.log2 < n := PySem.Flt.log2_lt_of h0 h.lt
theorem Bt.zero {n : Nat} : Bt n 0 := ⟨Nat.two_pow_pos n⟩
theorem Bt.small {n : Nat} {i : Int} (h : i.natAbs < 1073741824) (l : 30 ≤ n) : Bt n i := Bt.mono (m := 30) ⟨by
  have : (2 : Nat) ^ 30 = 1073741824 := by decide
  rw [this]
  exact h⟩ l
theorem Bt.of_bits {n : Nat} {i : Int} (h : Builtin.Int.intBits i ≤ n) : Bt n i := by
  unfold Builtin.Int.intBits at h
  constructor
  split at h
  · rename_i e
    have e2 : i.natAbs = 0 := by
      first
        | exact (by simpa using e)
        | omega
    rw [e2]
    exact Nat.two_pow_pos n
  · rename_i e
    have e2 : i.natAbs ≠ 0 := by
      first
        | exact (by simpa using e)
        | omega
    exact (Nat.log2_lt e2).mp (by omega)
def CMulG (i j : Int) : Prop := i.natAbs.log2 + j.natAbs.log2 + 2 ≤ 134217728
theorem op_mulG {X : Cx} : OpR X (binaryOp .Mult) (rI CMulG fun i j => .int (i * j)) := opI fun i j _ _ _ _ _ hc q => PyProof.Rows.mul_int q (by
  have b : ∀ x : Int, Builtin.Int.intBits x ≤ x.natAbs.log2 + 1 := fun x => by
    unfold Builtin.Int.intBits
    split <;> omega
  have h1 := b i
  have h2 := b j
  have h3 : i.natAbs.log2 + j.natAbs.log2 + 2 ≤ 134217728 := hc
  have e : bitsLine = 134217728 := by decide
  unfold IntMulOk
  intro z
  rw [Bool.and_eq_true] at z
  have z2 := z.2
  unfold Builtin.Int.intTooBig at z2
  have z3 := of_decide_eq_true z2
  rw [e] at z3
  omega)
theorem Bt.ok {m n : Nat} {i j : Int} (h : Bt m i) (g : Bt n j) (l : m + n ≤ 134000000) : CMulG i j := by
  have a := (h.mono (Nat.le_succ m)).log (Nat.succ_pos m)
  have b := (g.mono (Nat.le_succ n)).log (Nat.succ_pos n)
  unfold CMulG
  omega

section
variable {K : PySem.W.Frag} {B0 : Hp} {ρ : List Sl} {r : Bool} {α β γ : Type} {iA : Dt α} {iB : Dt β} {iC : Dt γ} {a a' : α} {b : β} {ta tb tc te : TE} {tt uu : TT} {i j : Int}
/-! ### built-ins -/
theorem de_abs (h : DE K B0 false te ρ i) : DE K B0 r (tCB (fun xs H Q => ∃ i, xs = [.int i] ∧ Q (.int (if i < 0 then -i else i)) H) (tCons te tNil)) ρ ((i.natAbs : Nat) : Int) :=
  de_cb (da_cons (df_of h) da_nil) fun vs H e Q q => by
    obtain ⟨v, rr, e1, e2, e3⟩ := e
    have e3' : rr = [] := e3
    have e2' : v = .int i := e2
    subst e3' e2' e1
    refine ⟨i, rfl, ?_⟩
    have z : (if i < 0 then -i else i) = ((i.natAbs : Nat) : Int) := by split <;> omega
    rw [z]
    exact q _ fun _ => rfl
theorem de_max2 (h : DE K B0 false ta ρ i) (g : DE K B0 false tb ρ j) : DE K B0 r (tCB (fun xs H Q => ∃ i j, xs = [.int i, .int j] ∧ Q (.int (if j > i then j else i)) H) (tCons ta (tCons tb tNil))) ρ (max i j) :=
  de_cb (da_cons (df_of h) (da_cons (df_of g) da_nil)) fun vs H e Q q => by
    obtain ⟨v, rr, e1, e2, w, r2, e3, e4, e5⟩ := e
    have e5' : r2 = [] := e5
    have e2' : v = .int i := e2
    have e4' : w = .int j := e4
    subst e5' e4' e3 e2' e1
    refine ⟨i, j, rfl, ?_⟩
    have z : (if j > i then j else i) = max i j := by
      split <;> omega
    rw [z]
    exact q _ fun _ => rfl
theorem de_min2 (h : DE K B0 false ta ρ i) (g : DE K B0 false tb ρ j) : DE K B0 r (tCB (fun xs H Q => ∃ i j, xs = [.int i, .int j] ∧ Q (.int (if j < i then j else i)) H) (tCons ta (tCons tb tNil))) ρ (min i j) :=
  de_cb (da_cons (df_of h) (da_cons (df_of g) da_nil)) fun vs H e Q q => by
    obtain ⟨v, rr, e1, e2, w, r2, e3, e4, e5⟩ := e
    have e5' : r2 = [] := e5
    have e2' : v = .int i := e2
    have e4' : w = .int j := e4
    subst e5' e4' e3 e2' e1
    refine ⟨i, j, rfl, ?_⟩
    have z : (if j < i then j else i) = min i j := by
      split <;> omega
    rw [z]
    exact q _ fun _ => rfl
/-- what may be measured by len, item by item -/
class Ln (α : Type) [Dt α] where
  len : α → Nat
  at_ : ∀ {K : PySem.W.Frag} {H : Hp} {v : V} {a : α}, Dt.rep K H v a → ∃ p ys, v = .ref p ∧ (SqL K H p ys ∨ SqT K H p ys) ∧ ys.length = len a
instance : Ln Scr := ⟨fun s => s.ns.length, fun ⟨p, e, h⟩ => ⟨p, _, e, .inl h, by simp⟩⟩
instance lnList {α : Type} [Dt α] : Ln (List α) := ⟨List.length, fun ⟨p, vs, e, h, g⟩ => ⟨p, _, e, .inl (.inl (.inl h)), g.len⟩⟩
instance lnProd {α β : Type} [Dt α] [Dt β] : Ln (α × β) := ⟨fun _ => 2, fun ⟨p, x, y, e, h, _⟩ => ⟨p, _, e, .inr (SqT.of h), rfl⟩⟩
theorem de_len (h : DF K B0 te ρ a) (_ : Ln α) : DE K B0 r (tCB (fun xs H Q => ∃ p ys, xs = [.ref p] ∧ (SqL K H p ys ∨ SqT K H p ys) ∧ Q (.int ys.length) H) (tCons te tNil)) ρ ((Ln.len a : Nat) : Int) := fun B σ H g Q q =>
  h B σ H g _ fun v B1 H1 s1 t1 g1 e => by
    obtain ⟨p, ys, e1, e2, e3⟩ := Ln.at_ e
    exact ⟨p, ys, by rw [e1], e2, by rw [e3]; exact q _ B1 H1 s1 t1 g1 rfl⟩
/-- isinstance with a built-in type -/
class Ty (α : Type) [Dt α] where
  tyn : String
  tyx : ∀ {K : PySem.W.Frag} {H : Hp} {v : V} {a : α}, Dt.rep K H v a → TyX K H v (.type tyn)
instance : Ty Int := ⟨"int", fun h => by rw [show _ = V.int _ from h]; exact .base (.int _)⟩
instance : Ty Bool := ⟨"bool", fun h => by rw [show _ = V.bl _ from h]; exact .base (.bl _)⟩
instance : Ty Str := ⟨"str", fun h => by rw [show _ = V.str _ from h]; exact .base (.str _)⟩
instance : Ty Unit := ⟨"NoneType", fun h => by rw [show _ = V.non from h]; exact .base .non⟩
instance tyProd {α β : Type} [Dt α] [Dt β] : Ty (α × β) := ⟨"tuple", fun ⟨p, x, y, e, h, _⟩ => by rw [e]; exact .base (.tup h)⟩
instance tyList {α : Type} [Dt α] : Ty (List α) := ⟨"list", fun ⟨p, x, e, h, _⟩ => by rw [e]; exact .base (.lst h)⟩
theorem de_isi {T : String} {c : Bool} (h : DF K B0 te ρ a) (_ : Ty α) (hk : kitB (Ty.tyn α) T = some c) : DE K B0 r (tCB (rIsi K) (tCons te (tCons (tC (.ty T)) tNil))) ρ c := fun B σ H g Q q =>
  h B σ H g _ fun v B1 H1 s1 t1 g1 e => ⟨v, .ty T, _, _, c, rfl, .ty T, Ty.tyx e, kit_ty hk, q _ B1 H1 s1 t1 g1 rfl⟩
theorem de_isiO {T : String} {c : Bool} {o : Option α} (h : DF K B0 te ρ o) (_ : Ty α) (_ : Nn α) (hk : (match o with | none => kitB "NoneType" T | some _ => kitB (Ty.tyn α) T) = some c) : DE K B0 r (tCB (rIsi K) (tCons te (tCons (tC (.ty T)) tNil))) ρ c := fun B σ H g Q q =>
  h B σ H g _ fun v B1 H1 s1 t1 g1 e => by
    cases o with
    | none => exact ⟨v, .ty T, _, _, c, rfl, .ty T, Ty.tyx (α := Unit) (a := ()) e, kit_ty hk, q _ B1 H1 s1 t1 g1 rfl⟩
    | some a => exact ⟨v, .ty T, _, _, c, rfl, .ty T, Ty.tyx e.2, kit_ty hk, q _ B1 H1 s1 t1 g1 rfl⟩

/-! ### items of lists -/
theorem atI_of {α : Type} {xs : List α} {k : Int} {x : α} (h0 : 0 ≤ k) (h : xs[k.toNat]? = some x) : atI xs k = some x := by
  have e : k = ((k.toNat : Nat) : Int) := by omega
  rw [e]
  exact atI_nat h
theorem de_ixS {s : Scr} {k : Int} (h : DE K B0 false ta ρ s) (g : DE K B0 false tb ρ k) (hk : 0 ≤ k ∧ k.toNat < s.ns.length) : DE K B0 r (tOp (rIxL K) ta tb) ρ (s.ns.getD k.toNat 0) := fun B σ H gd Q q =>
  h B σ H gd _ fun v B1 H1 s1 t1 g1 ⟨p, e, e2⟩ => g B1 σ H1 g1 _ fun u B2 H2 s2 t2 g2 e3 => by
    refine ⟨p, s.ns.map V.int, k, .int (s.ns.getD k.toNat 0), e, e3, Same.seq ((rg_sub (r := false)).trans (g1.sub.trans t2)) e2, atI_of hk.1 ?_, q _ B2 H2 (s1.trans s2) (t1.trans t2) g2 rfl⟩
    rw [List.getElem?_map, List.getElem?_eq_getElem hk.2, List.getD_eq_getElem?_getD, List.getElem?_eq_getElem hk.2]
    rfl
/-- an item of a list: told whole (the list may be owned) -/
theorem df_ix {xs : List α} {k : Int} {x : α} (h : DF K B0 ta ρ xs) (g : DE K B0 false tb ρ k) (h0 : 0 ≤ k) (hk : xs[k.toNat]? = some x) : DF K B0 (tOp (rIxL K) ta tb) ρ x := fun B σ H gd Q q =>
  h B σ H gd _ fun v B1 H1 s1 t1 g1 ⟨p, vs, e, e2, e4⟩ => g B1 σ H1 g1 _ fun u B2 H2 s2 t2 g2 e3 => by
    obtain ⟨w, w1, w2⟩ := e4.at_ hk
    exact ⟨p, vs, k, w, e, e3, .inl (.inl (t2 _ _ e2)), atI_of h0 w1, q _ B2 H2 (s1.trans s2) (t1.trans t2) g2 (Dt.mono t2 w2)⟩
theorem de_ix {xs : List α} {k : Int} {x : α} (h : DE K B0 r ta ρ xs) (g : DE K B0 false tb ρ k) (h0 : 0 ≤ k) (hk : xs[k.toNat]? = some x) : DE K B0 r (tOp (rIxL K) ta tb) ρ x := fun B σ H gd Q q =>
  h B σ H gd _ fun v B1 H1 s1 t1 g1 ⟨p, vs, e, e2, e4⟩ => g B1 σ H1 g1 _ fun u B2 H2 s2 t2 g2 e3 => by
    obtain ⟨w, w1, w2⟩ := e4.at_ hk
    exact ⟨p, vs, k, w, e, e3, .inl (.inl ((rg_H (s2.trans g2.sub)) _ _ e2)), atI_of h0 w1, q _ B2 H2 (s1.trans s2) (t1.trans t2) g2 (Dt.mono (rg_mono s2) w2)⟩

/-! ### slices -/
def DP (K : PySem.W.Frag) (B0 : Hp) (to : TO) (ρ : List Sl) (o : Option Int) : Prop :=
  ∀ B σ H, Good K B0 B ρ σ H → ∀ Q : Option Int → Hp → Prop, (∀ B' H', Same B B' → Same H H' → Good K B0 B' ρ σ H' → Q o H') → to σ H Q
theorem dp_no : DP K B0 tNoPart ρ none := fun B σ H g Q q => q B H (Same.refl _) (Same.refl _) g
theorem dp_some (h : DE K B0 false te ρ i) : DP K B0 (tPart te) ρ (some i) := fun B σ H g Q q => h B σ H g _ fun v B1 H1 s1 t1 g1 e => ⟨i, e, q B1 H1 s1 t1 g1⟩
def cutL {α : Type} (xs : List α) (lo hi : Option Int) : List α := (xs.drop (HT.sIx xs.length 0 lo)).take (HT.sIx xs.length xs.length hi - HT.sIx xs.length 0 lo)
theorem Its.take {K : PySem.W.Frag} {H : Hp} {vs : List V} {xs : List α} (n : Nat) (h : Its K H vs xs) : Its K H (vs.take n) (xs.take n) := by
  induction h generalizing n with
  | nil => simp; exact .nil
  | cons e _ ih =>
    cases n with
    | zero => exact .nil
    | succ n => exact .cons e (ih n)
theorem Its.drop {K : PySem.W.Frag} {H : Hp} {vs : List V} {xs : List α} (n : Nat) (h : Its K H vs xs) : Its K H (vs.drop n) (xs.drop n) := by
  induction h generalizing n with
  | nil => simp; exact .nil
  | cons e t ih =>
    cases n with
    | zero => exact .cons e t
    | succ n => exact ih n
theorem Its.cut {K : PySem.W.Frag} {H : Hp} {vs : List V} {xs : List α} (lo hi : Option Int) (h : Its K H vs xs) : Its K H (cutV vs lo hi) (cutL xs lo hi) := by
  unfold cutV cutL
  rw [h.len]
  exact (h.drop _).take _
theorem cutL_to {α : Type} (xs : List α) (k : Nat) : cutL xs none (some (k : Int)) = xs.take k := by
  unfold cutL
  rw [HT.sIx_none, HT.sIx_nat, List.drop_zero, Nat.sub_zero]
  by_cases h : k ≤ xs.length
  · rw [Nat.min_eq_left h]
  · rw [Nat.min_eq_right (by omega), List.take_length, List.take_of_length_le (by omega)]
theorem cutL_from {α : Type} (xs : List α) (k : Nat) : cutL xs (some (k : Int)) none = xs.drop k := by
  unfold cutL
  rw [HT.sIx_none, HT.sIx_nat]
  by_cases h : k ≤ xs.length
  · rw [Nat.min_eq_left h]
    exact List.take_of_length_le (by simp)
  · rw [Nat.min_eq_right (by omega), List.drop_length, List.drop_eq_nil_of_le (by omega)]
    simp
/-- a slice is a new list -/
theorem do_cutS {s : Scr} {tl th : TO} {lo hi : Option Int} (h : DE K B0 false te ρ s) (hl : DP K B0 tl ρ lo) (hh : DP K B0 th ρ hi) : DO K B0 (tSl (rSlL K) te tl th) ρ (lstR r (cutL s.ns lo hi)) := fun B σ H g Q q =>
  h B σ H g _ fun v B1 H1 s1 t1 g1 ⟨p, e, e2⟩ => hl B1 σ H1 g1 _ fun B2 H2 s2 t2 g2 => hh B2 σ H2 g2 _ fun B3 H3 s3 t3 g3 =>
    ⟨p, s.ns.map V.int, e, Same.seq (((rg_sub (r := false)).trans s2).trans (s3.trans g3.sub)) e2, fun l hl =>
      q _ B3 _ ((s1.trans s2).trans s3) (((t1.trans t2).trans t3).trans (same_new hl)) (g3.push hl (fun _ z => nomatch z) ⟨l, _, rfl, rfl, upd_same, (its_int s.ns).cut lo hi⟩)⟩
theorem do_cut {xs : List α} {tl th : TO} {lo hi : Option Int} (h : DF K B0 te ρ xs) (hl : DP K B0 tl ρ lo) (hh : DP K B0 th ρ hi) (_ : Fl α) : DO K B0 (tSl (rSlL K) te tl th) ρ (lstR r (cutL xs lo hi)) := fun B σ H g Q q =>
  h B σ H g _ fun v B1 H1 s1 t1 g1 ⟨p, vs, e, e2, e4⟩ => hl B1 σ H1 g1 _ fun B2 H2 s2 t2 g2 => hh B2 σ H2 g2 _ fun B3 H3 s3 t3 g3 =>
    ⟨p, vs, e, .inl (.inl (t3 _ _ (t2 _ _ e2))), fun l hl =>
      q _ B3 _ ((s1.trans s2).trans s3) (((t1.trans t2).trans t3).trans (same_new hl)) (g3.push hl (fun _ z => nomatch z) ⟨l, _, rfl, rfl, upd_same, ((e4.mono (t2.trans t3)).tx (g3.tup.trans (rg_tup g3.b0))).cut lo hi⟩)⟩
/-- a new list that is only looked at -/
theorem df_do {xs : List α} (h : DO K B0 te ρ (lstR r xs)) : DF K B0 te ρ xs := fun B σ H g Q q =>
  h B σ H g _ fun v B1 H1 s1 t1 g1 => by
    obtain ⟨fp, ⟨f1, f2, _, ⟨v', ev, l, vs, e, _, e2, e3⟩, _⟩, _⟩ := g1.ex
    cases ev
    exact q v B1 H1 s1 t1 g1.pop ⟨l, vs, e, e2, e3.mono (rg_H g1.sub)⟩
end
end Cg

set_option Elab.async false
set_option linter.all false
set_option maxRecDepth 100000
set_option maxHeartbeats 4000000
namespace Cg
open PySem PySem.Spec L2
open PyProof.Rows hiding St
/-! ### what is owned changes -/
section
variable {K : PySem.W.Frag} {B0 B H : Hp}
theorem Slots.split : ∀ {ρ : List Sl} {σ : L2.St} {fp : List Addr} {n : Nat} {s : Sl}, Slots K B0 B H ρ σ fp → ρ[n]? = some s →
    ∃ o f0 f1 f2, σ[n]? = some o ∧ fp = f0 ++ (f1 ++ f2) ∧ s.ok K B0 B H o f1 ∧
      ∀ (B' H' : Hp) (s' : Sl) (f1' : List Addr), Same B B' → (∀ a ∈ f0, H' a = H a) → (∀ a ∈ f2, H' a = H a) → s'.ok K B0 B' H' o f1' → Slots K B0 B' H' (ρ.set n s') σ (f0 ++ (f1' ++ f2))
  | [], _, _, _, _, _, e => by simp at e
  | t :: ρ, [], _, _, _, h, _ => h.elim
  | t :: ρ, o :: σ, fp, 0, s, h, e => by
    obtain ⟨f1, f2, q, a, b⟩ := h
    simp at e
    subst e
    exact ⟨o, [], f1, f2, rfl, q, a, fun B' H' s' f1' sb k0 k2 hs => ⟨f1', f2, rfl, hs, b.move sb k2⟩⟩
  | t :: ρ, o :: σ, fp, n + 1, s, h, e => by
    obtain ⟨f1, f2, q, a, b⟩ := h
    obtain ⟨o', g0, g1, g2, r1, r2, r3, r4⟩ := b.split (n := n) (s := s) (by simpa using e)
    refine ⟨o', f1 ++ g0, g1, g2, by simpa using r1, by rw [q, r2, List.append_assoc], r3, fun B' H' s' f1' sb k0 k2 hs => ?_⟩
    refine ⟨f1, g0 ++ (f1' ++ g2), by rw [List.append_assoc], a.move sb fun x hx => k0 x (List.mem_append_left _ hx), r4 B' H' s' f1' sb (fun x hx => k0 x (List.mem_append_right _ hx)) k2 hs⟩
variable {ρ : List Sl} {σ : L2.St}
theorem Good.write {n : Nat} {s : Sl} (g : Good K B0 B ρ σ H) (e : ρ[n]? = some s) : ∃ o f1, σ[n]? = some o ∧ s.ok K B0 B H o f1 ∧ f1.Nodup ∧ (∀ a ∈ f1, B a = none ∧ H a ≠ none) ∧
    ∀ (B' H' : Hp) (s' : Sl) (f1' : List Addr), Same B B' → Same B' H' → Tx H' B' → (∀ a, a ∉ f1 → H a ≠ none → H' a = H a) → (∀ a, B' a ≠ none → B a ≠ none ∨ H a = none) →
      s'.ok K B0 B' H' o f1' → f1'.Nodup → (∀ a ∈ f1', B' a = none ∧ H' a ≠ none ∧ (a ∈ f1 ∨ H a = none)) → Good K B0 B' (ρ.set n s') σ H' := by
  obtain ⟨fp, h, nd, f⟩ := g.ex
  obtain ⟨o, f0, f1, f2, r1, r2, r3, r4⟩ := h.split e
  subst r2
  rw [List.nodup_append] at nd
  obtain ⟨n0, n12, d0⟩ := nd
  rw [List.nodup_append] at n12
  obtain ⟨n1, n2, d1⟩ := n12
  refine ⟨o, f1, r1, r3, n1, fun a ha => f a (List.mem_append_right _ (List.mem_append_left _ ha)), fun B' H' s' f1' sb s2 t2 fr nb hs nd' hf => ?_⟩
  have k0 : ∀ a ∈ f0, H' a = H a := fun a ha => fr a (fun z => d0 a ha a (List.mem_append_left _ z) rfl) (f a (List.mem_append_left _ ha)).2
  have k2 : ∀ a ∈ f2, H' a = H a := fun a ha => fr a (fun z => d1 a z a ha rfl) (f a (List.mem_append_right _ (List.mem_append_right _ ha))).2
  have keepB : ∀ a, B a = none → H a ≠ none → B' a = none := fun a h1 h2 => by
    cases q : B' a with
    | none => rfl
    | some u =>
      rcases nb a (by rw [q]; simp) with z | z
      · exact absurd h1 z
      · exact absurd z h2
  refine ⟨g.b0.trans sb, s2, t2, _, r4 B' H' s' f1' sb k0 k2 hs, ?_, ?_⟩
  · rw [List.nodup_append]
    refine ⟨n0, ?_, fun a ha b hb z => ?_⟩
    · rw [List.nodup_append]
      refine ⟨nd', n2, fun a ha b hb z => ?_⟩
      subst z
      rcases (hf a ha).2.2 with w | w
      · exact d1 a w a hb rfl
      · exact (f a (List.mem_append_right _ (List.mem_append_right _ hb))).2 w
    · subst z
      rcases List.mem_append.mp hb with hb | hb
      · rcases (hf a hb).2.2 with w | w
        · exact d0 a ha a (List.mem_append_left _ w) rfl
        · exact (f a (List.mem_append_left _ ha)).2 w
      · exact d0 a ha a (List.mem_append_right _ hb) rfl
  · intro a ha
    rcases List.mem_append.mp ha with ha | ha
    · have z := f a (List.mem_append_left _ ha)
      exact ⟨keepB a z.1 z.2, by rw [k0 a ha]; exact z.2⟩
    · rcases List.mem_append.mp ha with ha | ha
      · exact ⟨(hf a ha).1, (hf a ha).2.1⟩
      · have z := f a (List.mem_append_right _ (List.mem_append_right _ ha))
        exact ⟨keepB a z.1 z.2, by rw [k2 a ha]; exact z.2⟩
/-- an owned object at l is changed in place -/
theorem Good.poke {n : Nat} {s s' : Sl} {l : Addr} {u u' : HO} (g : Good K B0 B ρ σ H) (e : ρ[n]? = some s) (hl : H l = some u) (hu : ∀ xs, u ≠ .tup xs) (hu' : ∀ xs, u' ≠ .tup xs)
    (h : ∀ o f1, σ[n]? = some o → s.ok K B0 B H o f1 → l ∈ f1 ∧ s'.ok K B0 B (upd H l u') o f1) : Good K B0 B (ρ.set n s') σ (upd H l u') := by
  obtain ⟨o, f1, r1, r3, n1, hf, k⟩ := g.write e
  obtain ⟨m, ok'⟩ := h o f1 r1 r3
  have bl : B l = none := (hf l m).1
  refine k B (upd H l u') s' f1 (Same.refl _) (fun a v q => ?_) (fun a xs q => ?_) (fun a ha _ => ?_) (fun a z => .inl z) ok' n1 (fun a ha => ⟨(hf a ha).1, ?_, .inl ha⟩)
  · have z : a ≠ l := fun z => by
      subst z
      rw [bl] at q
      cases q
    rw [upd_ne z]
    exact g.sub _ _ q
  · by_cases z : a = l
    · subst z
      rw [upd_same] at q
      exact absurd (Option.some.inj q) (hu' xs)
    · rw [upd_ne z] at q
      exact g.tup _ _ q
  · have z : a ≠ l := fun z => by
      subst z
      exact ha m
    rw [upd_ne z]
  · by_cases z : a = l
    · subst z
      rw [upd_same]
      simp
    · rw [upd_ne z]
      exact (hf a ha).2
end

theorem its_set {α : Type} [Dt α] {K : PySem.W.Frag} {H : Hp} {vs : List V} {xs : List α} {i : Nat} {v : V} {x : α} (h : Its K H vs xs) (hx : Dt.rep K H v x) : Its K H (vs.set i v) (xs.set i x) := by
  induction h generalizing i with
  | nil => exact .nil
  | cons e t ih =>
    cases i with
    | zero => exact .cons hx t
    | succ i => exact .cons e (ih (i := i))
/-! ### lists: made, grown, changed -/
section
variable {K : PySem.W.Frag} {B0 : Hp} {ρ ρ' : List Sl} {r : Bool} {α β γ : Type} {iA : Dt α} {iB : Dt β} {iC : Dt γ} {a a' : α} {b : β} {ta tb tc te : TE} {tt : TT} {t u : TS} {D : Ends} {n m : Nat} {tx : TA}
def DI (K : PySem.W.Frag) (B0 : Hp) (r : Bool) (ta : TA) (ρ : List Sl) {α : Type} [Dt α] (xs : List α) : Prop :=
  ∀ B σ H, Good K B0 B ρ σ H → ∀ Q : List V → Hp → Prop, (∀ vs B' H', Same B B' → Same H H' → Good K B0 B' ρ σ H' → Its K (rg r B0 B') vs xs → Q vs H') → ta σ H Q
theorem di_nil : DI K B0 r tNil ρ ([] : List α) := fun B σ H g Q q => q [] B H (Same.refl _) (Same.refl _) g .nil
theorem di_cons {tr : TA} {xs : List α} (h : DE K B0 r te ρ a) (hr : DI K B0 r tr ρ xs) : DI K B0 r (tCons te tr) ρ (a :: xs) := fun B σ H g Q q =>
  h B σ H g _ fun v B1 H1 s1 t1 g1 e1 => hr B1 σ H1 g1 _ fun vs B2 H2 s2 t2 g2 e2 => q (v :: vs) B2 H2 (s1.trans s2) (t1.trans t2) g2 (.cons (Dt.mono (rg_mono s2) e1) e2)
theorem sz_le {k : Nat} (h : k ≤ 1000000) : k ≤ sizeLine := Nat.le_trans h (by decide)
theorem sz_lt {k : Nat} (h : k < 1000000) : k < sizeLine := Nat.lt_of_lt_of_le h (by decide)
theorem do_new {vs : List V} {xs : List α} {B B' H H' : Hp} {σ : L2.St} {Q : VK} (g : Good K B0 B' ρ σ H') (sb : Same B B') (sh : Same H H') (hx : Its K (rg r B0 B') vs xs)
    (q : ∀ v B2 H2, Same B B2 → Same H H2 → Good K B0 B2 (.ow (lstR r xs) :: ρ) (some v :: σ) H2 → Q v H2) : ∀ p, H' p = none → Q (.ref p) (upd H' p (.lst vs)) := fun p hp =>
  q _ B' _ sb (sh.trans (same_new hp)) (g.push hp (fun _ z => nomatch z) ⟨p, vs, rfl, rfl, upd_same, hx⟩)
theorem do_lst {xs : List α} (h : DI K B0 r tx ρ xs) (hl : xs.length ≤ 1000000) : DO K B0 (tLst tx) ρ (lstR r xs) := fun B σ H g Q q =>
  h B σ H g _ fun vs B1 H1 s1 t1 g1 e1 => ⟨by rw [e1.len]; exact sz_le hl, do_new g1 s1 t1 e1 q⟩
theorem do_is {R R' : Res} (h : DO K B0 te ρ R) (e : R = R') : DO K B0 te ρ R' := e ▸ h
theorem dn_asgO {R : Res} (h : DO K B0 te ρ R) (k : DN K B0 (ρ.set n (.ow R)) D.nx) (hn : Nat.blt n ρ.length = true := by rfl) : DN K B0 ρ (tAsg te (gName n) D) := fun σ H ⟨B, g⟩ =>
  h B σ H g _ fun v B' H' s1 s2 g' => k _ _ ⟨B', g'.store (Nat.blt_eq.mp hn)⟩
/-- what is owned and alike, shared from now on -/
theorem dn_asgD (r : Bool) {xs : List α} (h : DO K B0 te ρ (lstR r xs)) (hf : Fl α) (k : DN K B0 (ρ.set n (.dt true xs)) D.nx) (hn : Nat.blt n ρ.length = true := by rfl) : DN K B0 ρ (tAsg te (gName n) D) := fun σ H ⟨B, g⟩ =>
  h B σ H g _ fun v B' H' s1 s2 g' => by
    obtain ⟨fp, ⟨f1, f2, e, ⟨v', ev, l, vs, ev2, e1, e2, e3⟩, b⟩, nd, f⟩ := g'.ex
    cases ev
    subst e1 e ev2
    have fl := f l (List.mem_append_left _ List.mem_cons_self)
    have n2 := List.nodup_append.mp nd
    have sb : Same B' (upd B' l (.lst vs)) := same_new fl.1
    have g2 : Good K B0 (upd B' l (.lst vs)) ρ σ H' := by
      refine ⟨g'.b0.trans sb, fun a u q => ?_, fun a xs q => sb _ _ (g'.tup _ _ q), f2, b.move sb fun _ _ => rfl, n2.2.1, fun a ha => ?_⟩
      · by_cases z : a = l
        · subst z
          rw [upd_same] at q
          rw [← q]
          exact e2
        · rw [upd_ne z] at q
          exact g'.sub _ _ q
      · have z : a ≠ l := fun z => n2.2.2 l List.mem_cons_self a ha z.symm
        have w := f a (List.mem_append_right _ ha)
        exact ⟨by rw [upd_ne z]; exact w.1, w.2⟩
    refine k _ _ ⟨_, g2.putD (Nat.blt_eq.mp hn) ⟨l, vs, rfl, rg_at (r := true) g'.b0 fl.1, ?_⟩⟩
    exact (e3.mono (rg_sub.trans sb)).tx (nw_tup g2.b0)
/-- xs.append(e), xs a name -/
theorem dn_app {xs : List α} (hv : ρ[n]? = some (.ow (lstR r xs))) (h : DE K B0 r te ρ a) (hl : xs.length < 1000000) (k : DN K B0 (ρ.set n (.ow (lstR r (xs ++ [a])))) D.nx) :
    DN K B0 ρ (tDrop (tBM K "list" rAppend (tVar n) (tCons te tNil)) D) := fun σ H ⟨B, g⟩ => by
  obtain ⟨o, f1, e, v, e2, l, vs, e3, e4, h2, h3⟩ := g.get hv
  subst e2 e3
  refine ⟨_, e, .inl ⟨rfl, _, .inl (.inl h2)⟩, h B σ H g _ fun y B' H' s1 t1 g1 hy => ?_⟩
  have h2' := t1 _ _ h2
  refine ⟨l, vs, y, rfl, rfl, h2', by rw [h3.len]; exact sz_lt hl, k _ _ ⟨B', ?_⟩⟩
  refine g1.poke hv h2' (fun _ z => nomatch z) (fun _ z => nomatch z) fun o' f1' q1 q2 => ?_
  rw [e] at q1
  cases q1
  obtain ⟨v2, w1, l2, vs2, w2, w3, w4, w5⟩ := q2
  cases w1
  cases w2
  subst w3
  rw [h2'] at w4
  cases w4
  exact ⟨List.mem_cons_self, .ref l, rfl, l, _, rfl, rfl, upd_same, w5.snoc hy⟩
/-- xs[i] = e, xs a name -/
theorem dn_put {xs : List α} {i : Int} (hv : ρ[n]? = some (.ow (lstR r xs))) (h : DE K B0 r te ρ a) (hi : DE K B0 false ta ρ i) (h0 : 0 ≤ i ∧ i.toNat < xs.length) (k : DN K B0 (ρ.set n (.ow (lstR r (xs.set i.toNat a)))) D.nx) :
    DN K B0 ρ (tAsg te (gSub (tVar n) ta rSetL) D) := fun σ H ⟨B, g⟩ => by
  refine h B σ H g _ fun y B1 H1 s1 t1 g1 hy => ?_
  obtain ⟨o, f1, e, v, e2, l, vs, e3, e4, h2, h3⟩ := g1.get hv
  subst e2 e3
  refine ⟨_, e, hi B1 σ H1 g1 _ fun u B2 H2 s2 t2 g2 hu => ?_⟩
  have h2' := t2 _ _ h2
  have hu' : u = .int i := hu
  subst hu'
  have ixn : ixN vs.length i = some i.toNat := by
    unfold ixN
    rw [if_pos h0.1, if_pos (by rw [h3.len]; omega)]
  refine ⟨l, vs, i, i.toNat, rfl, rfl, h2', ixn, k _ _ ⟨B2, ?_⟩⟩
  refine g2.poke hv h2' (fun _ z => nomatch z) (fun _ z => nomatch z) fun o' f1' q1 q2 => ?_
  rw [e] at q1
  cases q1
  obtain ⟨v2, w1, l2, vs2, w2, w3, w4, w5⟩ := q2
  cases w1
  cases w2
  subst w3
  rw [h2'] at w4
  cases w4
  refine ⟨List.mem_cons_self, .ref l, rfl, l, _, rfl, rfl, upd_same, ?_⟩
  exact its_set w5 (Dt.mono (rg_mono s2) hy)
end
end Cg

set_option Elab.async false
set_option linter.all false
namespace Cg
/-! ### fractions in lowest terms: the plain laws -/
def gcdI (a b : Int) : Int := ((a.natAbs.gcd b.natAbs : Nat) : Int)
def lowestF (a b : Int) : Int × Int := if b < 0 then (a.fdiv (-gcdI a b), b.fdiv (-gcdI a b)) else (a.fdiv (gcdI a b), b.fdiv (gcdI a b))
theorem gcdI_pos {a b : Int} (h : b ≠ 0) : 0 < gcdI a b := by
  have : 0 < a.natAbs.gcd b.natAbs := Nat.gcd_pos_of_pos_right _ (by omega)
  unfold gcdI
  omega
theorem gcdI_ne {a b : Int} (h : b ≠ 0) : gcdI a b ≠ 0 := by
  have := gcdI_pos (a := a) h
  omega
/-- the fraction t is of the worth a / b, in lowest terms -/
def isF (t : Int × Int) (a b : Int) : Bool := if t.2 < 1 then false else decide (t.1 * b = t.2 * a) && decide (gcdI t.1 t.2 = 1)
structure Low (t : Int × Int) (a b : Int) : Prop where
  pos : 0 < t.2
  worth : t.1 * b = t.2 * a
  one : gcdI t.1 t.2 = 1
theorem Low.is {t : Int × Int} {a b : Int} (h : Low t a b) : isF t a b = true := by
  unfold isF
  rw [if_neg (by have := h.pos; omega), decide_eq_true h.worth, decide_eq_true h.one]
  rfl
theorem gcd_split (a b : Int) (h : b ≠ 0) : ∃ x y, a = gcdI a b * x ∧ b = gcdI a b * y ∧ gcdI x y = 1 := by
  have hp := gcdI_pos (a := a) h
  have d1 : gcdI a b ∣ a := Int.ofNat_dvd_left.mpr (Nat.gcd_dvd_left _ _)
  have d2 : gcdI a b ∣ b := Int.ofNat_dvd_left.mpr (Nat.gcd_dvd_right _ _)
  obtain ⟨x, hx⟩ := d1
  obtain ⟨y, hy⟩ := d2
  refine ⟨x, y, hx, hy, ?_⟩
  have e : a.natAbs.gcd b.natAbs = (a.natAbs.gcd b.natAbs) * (x.natAbs.gcd y.natAbs) := by
    have e1 : a.natAbs = (a.natAbs.gcd b.natAbs) * x.natAbs := by
      have := congrArg Int.natAbs hx
      rw [Int.natAbs_mul] at this
      exact this
    have e2 : b.natAbs = (a.natAbs.gcd b.natAbs) * y.natAbs := by
      have := congrArg Int.natAbs hy
      rw [Int.natAbs_mul] at this
      exact this
    have := Nat.gcd_mul_left (a.natAbs.gcd b.natAbs) x.natAbs y.natAbs
    rw [← e1, ← e2] at this
    exact this
  have hp2 : 0 < a.natAbs.gcd b.natAbs := by
    unfold gcdI at hp
    omega
  have e3 : x.natAbs.gcd y.natAbs = 1 := by
    have z : (a.natAbs.gcd b.natAbs) * 1 = (a.natAbs.gcd b.natAbs) * (x.natAbs.gcd y.natAbs) := by rw [Nat.mul_one]; exact e
    exact (Nat.eq_of_mul_eq_mul_left hp2 z).symm
  unfold gcdI
  rw [e3]
  rfl
theorem lowestF_eq {a b : Int} (h : b ≠ 0) : ∃ x y, a = gcdI a b * x ∧ b = gcdI a b * y ∧ gcdI x y = 1 ∧ lowestF a b = (if b < 0 then (-x, -y) else (x, y)) := by
  obtain ⟨x, y, hx, hy, ho⟩ := gcd_split a b h
  have hp := gcdI_pos (a := a) h
  refine ⟨x, y, hx, hy, ho, ?_⟩
  unfold lowestF
  generalize gcdI a b = g at hx hy hp ⊢
  have f1 : ∀ z : Int, (g * z).fdiv g = z := fun z => by
    rw [Int.mul_comm]
    exact Int.mul_fdiv_cancel _ (by omega)
  have f2 : ∀ z : Int, (g * z).fdiv (-g) = -z := fun z => by
    have e : g * z = (-z) * (-g) := by rw [Int.neg_mul_neg, Int.mul_comm]
    rw [e]
    exact Int.mul_fdiv_cancel _ (by omega)
  rw [hx, hy, f1, f1, f2, f2]
theorem gcdI_neg (x y : Int) : gcdI (-x) (-y) = gcdI x y := by
  unfold gcdI
  rw [Int.natAbs_neg, Int.natAbs_neg]
theorem lowestF_low {a b : Int} (h : b ≠ 0) : Low (lowestF a b) a b := by
  obtain ⟨x, y, hx, hy, ho, e⟩ := lowestF_eq (a := a) h
  have hp := gcdI_pos (a := a) h
  rw [e]
  have w : x * b = y * a := by
    generalize gcdI a b = g at hx hy
    rw [hx, hy, Int.mul_left_comm, Int.mul_left_comm y, Int.mul_comm x y]
  by_cases c : b < 0
  · rw [if_pos c]
    have yn : y < 0 := by
      rcases Int.lt_trichotomy y 0 with z | z | z
      · exact z
      · rw [z, Int.mul_zero] at hy
        omega
      · have := Int.mul_pos hp z
        omega
    refine ⟨by show 0 < -y; omega, ?_, ?_⟩
    · show -x * b = -y * a
      rw [Int.neg_mul, Int.neg_mul, w]
    · show gcdI (-x) (-y) = 1
      rw [gcdI_neg, ho]
  · rw [if_neg c]
    have yp : 0 < y := by
      rcases Int.lt_trichotomy y 0 with z | z | z
      · have := Int.mul_neg_of_pos_of_neg hp z
        omega
      · rw [z, Int.mul_zero] at hy
        omega
      · exact z
    exact ⟨yp, w, ho⟩
theorem lowestF_le {a b : Int} (h : b ≠ 0) : (lowestF a b).1.natAbs ≤ a.natAbs ∧ (lowestF a b).2.natAbs ≤ b.natAbs := by
  obtain ⟨x, y, hx, hy, ho, e⟩ := lowestF_eq (a := a) h
  have hp := gcdI_pos (a := a) h
  have e1 : x.natAbs ≤ a.natAbs := by
    have z := congrArg Int.natAbs hx
    rw [Int.natAbs_mul] at z
    rw [z]
    exact Nat.le_mul_of_pos_left _ (by omega)
  have e2 : y.natAbs ≤ b.natAbs := by
    have z := congrArg Int.natAbs hy
    rw [Int.natAbs_mul] at z
    rw [z]
    exact Nat.le_mul_of_pos_left _ (by omega)
  rw [e]
  by_cases c : b < 0
  · rw [if_pos c]
    exact ⟨by show (-x).natAbs ≤ _; omega, by show (-y).natAbs ≤ _; omega⟩
  · rw [if_neg c]
    exact ⟨e1, e2⟩
/-- the product of two fractions, each of its worth -/
theorem low_times {p f : Int × Int} {a b : Int} (hp : 0 < p.2) (hf : Low f a b) : Low (lowestF (p.1 * f.1) (p.2 * f.2)) (a * p.1) (b * p.2) := by
  have n : p.2 * f.2 ≠ 0 := by
    have := Int.mul_pos hp hf.pos
    omega
  have l := lowestF_low (a := p.1 * f.1) n
  refine ⟨l.pos, ?_, l.one⟩
  generalize lowestF (p.1 * f.1) (p.2 * f.2) = m at l
  have w := l.worth
  have v := hf.worth
  have f0 : f.2 ≠ 0 := by
    have := hf.pos
    omega
  refine Int.eq_of_mul_eq_mul_right f0 ?_
  have e1 : m.1 * (b * p.2) * f.2 = (m.1 * (p.2 * f.2)) * b := by
    simp only [Int.mul_assoc, Int.mul_comm, Int.mul_left_comm]
  have e2 : m.2 * (a * p.1) * f.2 = m.2 * p.1 * (f.2 * a) := by
    simp only [Int.mul_assoc, Int.mul_comm, Int.mul_left_comm]
  rw [e1, e2, w, ← v]
  simp only [Int.mul_assoc, Int.mul_comm, Int.mul_left_comm]
/-! ### a cell of the script -/
def cellF (ns : List Int) (k : Int) : Int := if k < (ns.length : Int) then ns.getD k.toNat 0 else 0
theorem cell_bt {ns : List Int} (h : ∀ z ∈ ns, Bt 1048576 z) {k : Int} (h0 : 0 ≤ k) : Bt 1048576 (cellF ns k) := by
  unfold cellF
  split
  · have hl : k.toNat < ns.length := by omega
    rw [List.getD_eq_getElem?_getD, List.getElem?_eq_getElem hl]
    exact h _ (List.getElem_mem hl)
  · exact Bt.zero
end Cg
namespace Cg
open PySem
/-! ### the factor of a join -/
def factorF (kind : Str) (a b : Int) : Int × Int := if decide (kind = "pin") = true then (1, 1) else if decide (kind = "band") = true then lowestF a b else lowestF (-a) b
/-- its worth -/
def worthF (kind : Str) (a b : Int) : Int × Int := if decide (kind = "pin") = true then (1, 1) else if decide (kind = "band") = true then (a, b) else (-a, b)
theorem factorF_low (kind : Str) {a b : Int} (h : b ≠ 0) : Low (factorF kind a b) (worthF kind a b).1 (worthF kind a b).2 := by
  unfold factorF worthF
  by_cases c : decide (kind = "pin") = true
  · rw [if_pos c, if_pos c]
    exact ⟨by decide, rfl, by decide⟩
  · rw [if_neg c, if_neg c]
    by_cases d : decide (kind = "band") = true
    · rw [if_pos d, if_pos d]
      exact lowestF_low h
    · rw [if_neg d, if_neg d]
      exact lowestF_low h
end Cg

set_option Elab.async false
set_option linter.all false
set_option maxRecDepth 100000
set_option maxHeartbeats 4000000
/-! ### the words that take expressions by their rules -/
local macro_rules | `(tactic| decreasing_trivial) => `(tactic| (fail_if_success (with_reducible show Cg.DE _ _ _ (L2.tVar 99991) _ _)); (fail_if_success (with_reducible show Cg.DF _ _ (L2.tVar 99991) _ _)); (fail_if_success (with_reducible show Cg.DT _ _ (L2.tB (L2.tVar 99991)) _ _)); (fail_if_success (with_reducible show Cg.DA _ _ (L2.tCons (L2.tVar 99991) L2.tNil) _ _)); first
  | ((with_reducible apply Cg.de_var); rfl)
  | ((with_reducible apply Cg.de_weak); (with_reducible apply Cg.de_var); rfl)
  | ((with_reducible apply Cg.de_fl) <;> first | ((with_reducible apply Cg.de_var); rfl) | infer_instance)
  | with_reducible exact Cg.de_int
  | with_reducible exact Cg.de_bl
  | with_reducible exact Cg.de_str
  | with_reducible exact Cg.de_non
  | with_reducible exact Cg.de_none
  | ((with_reducible apply Cg.de_opI) <;> (try decreasing_trivial) <;> (try infer_instance))
  | ((with_reducible apply Cg.de_opB) <;> (try decreasing_trivial) <;> (try infer_instance))
  | ((with_reducible apply Cg.de_opC) <;> (try decreasing_trivial) <;> (try infer_instance))
  | ((with_reducible apply Cg.de_neg) <;> (try decreasing_trivial) <;> (try infer_instance))
  | ((with_reducible apply Cg.de_eqS) <;> (try decreasing_trivial) <;> (try infer_instance))
  | ((with_reducible apply Cg.de_neS) <;> (try decreasing_trivial) <;> (try infer_instance))
  | ((with_reducible apply Cg.dt_test) <;> (try decreasing_trivial) <;> (try infer_instance))
  | ((with_reducible apply Cg.dt_B) <;> (try decreasing_trivial) <;> (try infer_instance))
  | ((with_reducible apply Cg.dt_not) <;> (try decreasing_trivial) <;> (try infer_instance))
  | ((with_reducible apply Cg.dt_and) <;> (try (first | decreasing_trivial | (intro _; decreasing_trivial))) <;> (try infer_instance))
  | ((with_reducible apply Cg.dt_or) <;> (try (first | decreasing_trivial | (intro _; decreasing_trivial))) <;> (try infer_instance))
  | ((with_reducible apply Cg.de_andV) <;> (try (first | decreasing_trivial | (intro _; decreasing_trivial))) <;> (try infer_instance))
  | ((with_reducible apply Cg.de_orV) <;> (try (first | decreasing_trivial | (intro _; decreasing_trivial))) <;> (try infer_instance))
  | ((with_reducible apply Cg.de_notV) <;> (try decreasing_trivial) <;> (try infer_instance))
  | with_reducible exact Cg.da_nil
  | ((with_reducible apply Cg.da_cons) <;> (try decreasing_trivial) <;> (try infer_instance))
  | ((with_reducible apply Cg.de_call) <;> (try decreasing_trivial) <;> (try infer_instance))
  | ((with_reducible apply Cg.de_abs) <;> (try decreasing_trivial) <;> (try infer_instance))
  | ((with_reducible apply Cg.de_max2) <;> (try decreasing_trivial) <;> (try infer_instance))
  | ((with_reducible apply Cg.de_min2) <;> (try decreasing_trivial) <;> (try infer_instance))
  | ((with_reducible apply Cg.de_len) <;> (try decreasing_trivial) <;> (try infer_instance))
  | ((with_reducible apply Cg.de_tup2) <;> (try decreasing_trivial) <;> (try infer_instance))
  | ((with_reducible apply Cg.de_fst) <;> (try decreasing_trivial) <;> (try infer_instance))
  | ((with_reducible apply Cg.de_snd) <;> (try decreasing_trivial) <;> (try infer_instance))
  | ((with_reducible apply Cg.de_ixS) <;> (try decreasing_trivial) <;> (try infer_instance))
  | ((with_reducible apply Cg.df_own); rfl)
  | ((with_reducible apply Cg.df_of); decreasing_trivial)
  | (with_reducible show Cg.DE _ _ _ _ _ _)
  | (with_reducible show Cg.DF _ _ _ _ _)
  | (with_reducible show Cg.DT _ _ _ _ _)
  | (with_reducible show Cg.DA _ _ _ _ _))
/-! one statement on -/
local macro_rules | `(tactic| decreasing_trivial_pre_omega) => `(tactic| (try dsimp only [List.set]); first
  | ((with_reducible refine Cg.dn_seq ?_); decreasing_trivial_pre_omega)
  | ((with_reducible show Cg.DN _ _ _ (L2.tAsg _ (L2.gName _) _)); refine Cg.dn_asg false (by decreasing_trivial) ?_; try dsimp only [List.set])
  | ((with_reducible show Cg.DN _ _ _ (L2.tNext _)); refine Cg.dn_next ?_; try dsimp only [List.set])
  | (with_reducible show Cg.DN _ _ _ (L2.tRet _ _))
  | (with_reducible show Cg.DN _ _ _ (L2.tIfS _ _ _ _))
  | (with_reducible show Cg.DN _ _ _ (L2.tFor _ _ _ _))
  | (with_reducible show Cg.DN _ _ _ (L2.tWhile _ _ _)))

namespace Cg
open PySem PySem.Spec L2
open PyProof.Rows hiding St
def top (i : Nat) : Stmt := PySem.Challenge.pw_cogtrain_k02_factors.main.body.getD i (.Pass ⟨0, 0, 0, 0⟩)
abbrev s_divisor : Stmt := top 1
abbrev N_divisor : List Str := ["one", "other"]
theorem sc_divisor : FnScope N_divisor ["one", "other"] (defScope s_divisor) := ⟨rfl, rfl, rfl, by decide +kernel, rfl, by decide +kernel, by decide +kernel⟩
abbrev s_lowest : Stmt := top 2
abbrev N_lowest : List Str := ["top", "bottom", "by"]
theorem sc_lowest : FnScope N_lowest ["top", "bottom"] (defScope s_lowest) := ⟨rfl, rfl, rfl, by decide +kernel, rfl, by decide +kernel, by decide +kernel⟩
abbrev s_factor : Stmt := top 4
abbrev N_factor : List Str := ["kind", "one", "other"]
theorem sc_factor : FnScope N_factor ["kind", "one", "other"] (defScope s_factor) := ⟨rfl, rfl, rfl, by decide +kernel, rfl, by decide +kernel, by decide +kernel⟩
abbrev s__law_cell_at : Stmt := top 6
abbrev N__law_cell_at : List Str := ["_law_script", "_law_k"]
theorem sc__law_cell_at : FnScope N__law_cell_at ["_law_script", "_law_k"] (defScope s__law_cell_at) := ⟨rfl, rfl, rfl, by decide +kernel, rfl, by decide +kernel, by decide +kernel⟩
abbrev s__law_whole : Stmt := top 7
abbrev N__law_whole : List Str := ["_law_found"]
theorem sc__law_whole : FnScope N__law_whole ["_law_found"] (defScope s__law_whole) := ⟨rfl, rfl, rfl, by decide +kernel, rfl, by decide +kernel, by decide +kernel⟩
abbrev s__law_common : Stmt := top 8
abbrev N__law_common : List Str := ["_law_one", "_law_other"]
theorem sc__law_common : FnScope N__law_common ["_law_one", "_law_other"] (defScope s__law_common) := ⟨rfl, rfl, rfl, by decide +kernel, rfl, by decide +kernel, by decide +kernel⟩
abbrev s__law_is : Stmt := top 9
abbrev N__law_is : List Str := ["_law_found", "_law_top", "_law_bottom"]
theorem sc__law_is : FnScope N__law_is ["_law_found", "_law_top", "_law_bottom"] (defScope s__law_is) := ⟨rfl, rfl, rfl, by decide +kernel, rfl, by decide +kernel, by decide +kernel⟩
abbrev s__law_right : Stmt := top 10
abbrev N__law_right : List Str := ["_law_found", "_law_kind", "_law_one", "_law_other"]
theorem sc__law_right : FnScope N__law_right ["_law_found", "_law_kind", "_law_one", "_law_other"] (defScope s__law_right) := ⟨rfl, rfl, rfl, by decide +kernel, rfl, by decide +kernel, by decide +kernel⟩
abbrev s_law : Stmt := top 11
abbrev N_law : List Str := ["_law_script", "_law_kinds", "_law_start", "_law_k", "_law_one", "_law_other", "_law_kind"]
theorem sc_law : FnScope N_law ["_law_script"] (defScope s_law) := ⟨rfl, rfl, rfl, by decide +kernel, rfl, by decide +kernel, by decide +kernel⟩

structure Txt0 (P : Program) (K : PySem.W.Frag) (mg : Str → Option Value) : Type where
  hP : P.given.tree = none
  f_divisor : Addr
  d_divisor : FuncData
  F_divisor : Fun K "divisor" "divisor" s_divisor f_divisor d_divisor
  b_divisor : Binds K d_divisor ["one", "other"] []
  g_divisor : mg "divisor" = some (.ref f_divisor)
  f_lowest : Addr
  d_lowest : FuncData
  F_lowest : Fun K "lowest" "lowest" s_lowest f_lowest d_lowest
  b_lowest : Binds K d_lowest ["top", "bottom"] []
  g_lowest : mg "lowest" = some (.ref f_lowest)
  f_factor : Addr
  d_factor : FuncData
  F_factor : Fun K "factor" "factor" s_factor f_factor d_factor
  b_factor : Binds K d_factor ["kind", "one", "other"] []
  g_factor : mg "factor" = some (.ref f_factor)
  f__law_cell_at : Addr
  d__law_cell_at : FuncData
  F__law_cell_at : Fun K "_law_cell_at" "_law_cell_at" s__law_cell_at f__law_cell_at d__law_cell_at
  b__law_cell_at : Binds K d__law_cell_at ["_law_script", "_law_k"] []
  g__law_cell_at : mg "_law_cell_at" = some (.ref f__law_cell_at)
  f__law_whole : Addr
  d__law_whole : FuncData
  F__law_whole : Fun K "_law_whole" "_law_whole" s__law_whole f__law_whole d__law_whole
  b__law_whole : Binds K d__law_whole ["_law_found"] []
  g__law_whole : mg "_law_whole" = some (.ref f__law_whole)
  f__law_common : Addr
  d__law_common : FuncData
  F__law_common : Fun K "_law_common" "_law_common" s__law_common f__law_common d__law_common
  b__law_common : Binds K d__law_common ["_law_one", "_law_other"] []
  g__law_common : mg "_law_common" = some (.ref f__law_common)
  f__law_is : Addr
  d__law_is : FuncData
  F__law_is : Fun K "_law_is" "_law_is" s__law_is f__law_is d__law_is
  b__law_is : Binds K d__law_is ["_law_found", "_law_top", "_law_bottom"] []
  g__law_is : mg "_law_is" = some (.ref f__law_is)
  f__law_right : Addr
  d__law_right : FuncData
  F__law_right : Fun K "_law_right" "_law_right" s__law_right f__law_right d__law_right
  b__law_right : Binds K d__law_right ["_law_found", "_law_kind", "_law_one", "_law_other"] []
  g__law_right : mg "_law_right" = some (.ref f__law_right)
  f_law : Addr
  d_law : FuncData
  F_law : Fun K "law" "law" s_law f_law d_law
  b_law : Binds K d_law ["_law_script"] []
  g_law : mg "law" = some (.ref f_law)
  B_law : ∀ (s : Shared) (u : Value), BindsTo s d_law ⟨[u], []⟩ [("_law_script", u)]
  m_abs : mg "abs" = none
  m_len : mg "len" = none
  m_isinstance : mg "isinstance" = none
  m_int : mg "int" = none
  m_bool : mg "bool" = none
  m_tuple : mg "tuple" = none
  m_max : mg "max" = none
  m_range : mg "range" = none
structure Txt (P : Program) (K : PySem.W.Frag) (mg : Str → Option Value) : Type extends Txt0 P K mg where
  S : Sees K
/-! ### the law's plain law -/
def kindsL : List Str := ["mesh", "pin", "band", "cross"]
def startF (ns : List Int) : Int := cellF ns 0 % 16
def oneF (ns : List Int) (k : Int) : Int := 1 + ((cellF ns k).natAbs : Nat)
def otherF (ns : List Int) (k : Int) : Int := if decide (startF ns / 4 = 3) = true then oneF ns k else oneF ns (k + 1)
def kindF (ns : List Int) (k : Int) : Str := kindsL.getD ((startF ns + k) % 4).toNat ""
theorem oneF_pos (ns : List Int) (k : Int) : 0 < oneF ns k := by
  unfold oneF
  omega
theorem otherF_pos (ns : List Int) (k : Int) : 0 < otherF ns k := by
  unfold otherF
  split
  · exact oneF_pos _ _
  · exact oneF_pos _ _
theorem succ_bt {n : Nat} {i : Int} (h : Bt n i) : Bt (n + 1) (1 + ((i.natAbs : Nat) : Int)) := ⟨by
  have := h.lt
  have e : (1 + ((i.natAbs : Nat) : Int)).natAbs = 1 + i.natAbs := by omega
  rw [e, Nat.pow_succ]
  omega⟩
theorem one_bt {ns : List Int} (h : ∀ z ∈ ns, Bt 1048576 z) {k : Int} (h0 : 0 ≤ k) : Bt 1048577 (oneF ns k) := succ_bt (cell_bt h h0)
theorem other_bt {ns : List Int} (h : ∀ z ∈ ns, Bt 1048576 z) {k : Int} (h0 : 0 ≤ k) : Bt 1048577 (otherF ns k) := by
  unfold otherF
  split
  · exact one_bt h h0
  · exact one_bt h (by omega)
/-- what the law asks of a factor -/
def rightF (f : Int × Int) (kind : Str) (a b : Int) : Bool := isF f (worthF kind a b).1 (worthF kind a b).2
theorem worth_bt {n : Nat} {a b : Int} (kind : Str) (ha : Bt n a) (hb : Bt n b) (hn : 30 ≤ n) : Bt n (worthF kind a b).1 ∧ Bt n (worthF kind a b).2 := by
  unfold worthF
  split
  · exact ⟨Bt.small (by decide) hn, Bt.small (by decide) hn⟩
  · split
    · exact ⟨ha, hb⟩
    · exact ⟨ha.neg, hb⟩
theorem factor_bt {n : Nat} {a b : Int} (kind : Str) (ha : Bt n a) (hb : Bt n b) (h : b ≠ 0) (hn : 30 ≤ n) : Bt n (factorF kind a b).1 ∧ Bt n (factorF kind a b).2 := by
  unfold factorF
  split
  · exact ⟨Bt.small (by decide) hn, Bt.small (by decide) hn⟩
  · split
    · exact ⟨ha.le (lowestF_le h).1, hb.le (lowestF_le h).2⟩
    · exact ⟨ha.neg.le (lowestF_le h).1, hb.le (lowestF_le h).2⟩
section
variable {P : Program} {w : World} {K : PySem.W.Frag} {mg : Str → Option Value} {base : Heap}
/-! ### ratios -/
theorem ok_divisor (T : Txt P K mg) : FnOk P w K mg base (L2.CX P w) 1 T.f_divisor T.d_divisor ["one", "other"] (spPure K (fun _ : Int × Int × Unit => True) fun x => gcdI x.1 x.2.1) := by
  refine ok_pure T.F_divisor sc_divisor (fun _ => rfl) fun cdv A' outer s H E hr a hp => ⟨_, (pss_cons (ps_set (i := 0) sc_divisor.nd rfl (.inl rfl) (pe_callB call_abs (by rfl) T.m_abs (by decide +kernel) (pa_cons (pv 0) pa_nil)))
      (pss_cons (ps_set (i := 1) sc_divisor.nd rfl (.inl rfl) (pe_callB call_abs (by rfl) T.m_abs (by decide +kernel) (pa_cons (pv 1) pa_nil)))
      (pss_cons (ps_while (passes_of rfl) (pt_cmpR op_gt (pv 1) pe_int (nomark _)) (pss_one (ps_par (i := 0) (j := 1) (by rfl) sc_divisor.nd rfl rfl (by decide) rfl rfl (pa_cons (pv 1) (pa_cons (pe_op op_mod (pv 0) (pv 1)) pa_nil)) (by rfl))))
      (pss_one (ps_ret (pv 0)))))), fun rt hrt => ?_⟩
  obtain ⟨one, other, _⟩ := a
  (try dsimp only [L2.cxOf])
  (try dsimp only at hp)
  (try dsimp only at hrt)
  show DN K H [.dt false one, .dt false other] _
  decreasing_trivial_pre_omega
  decreasing_trivial_pre_omega
  refine dn_seq ?_
  refine dn_while (ι := Nat × Nat) (fun x => x.1.gcd x.2 = one.natAbs.gcd other.natAbs) (fun x => [.dt false (x.1 : Int), .dt false (x.2 : Int)]) (fun x => decide ((0 : Int) < (x.2 : Int))) (fun x => x.2) (one.natAbs, other.natAbs) rfl (Sub.refl _) (fun x hx => by decreasing_trivial) (fun x hx hc => ?_) fun x hx hc => ?_
  · have h0 : 0 < x.2 := by
      have := of_decide_eq_true hc
      omega
    refine ⟨(x.2, x.1 % x.2), ?_, Nat.mod_lt _ h0, ?_⟩
    · rw [← hx]
      show x.2.gcd (x.1 % x.2) = x.1.gcd x.2
      rw [Nat.gcd_comm x.1 x.2, Nat.gcd_rec x.2 x.1, Nat.gcd_comm]
    · refine dn_par (r := false) (by decreasing_trivial) (de_opC (by decreasing_trivial) (by decreasing_trivial) (by show (0 : Int) < _; omega)) ?_
      exact dn_post (.same (.eq (Int.natCast_emod _ _).symm .nil))
  · decreasing_trivial_pre_omega
    refine dn_ret (by decreasing_trivial) (hrt.is ?_)
    have h0 : x.2 = 0 := by
      have := of_decide_eq_false hc
      omega
    rw [h0, Nat.gcd_zero_right] at hx
    show ((one.natAbs.gcd other.natAbs : Nat) : Int) = _
    rw [← hx]
theorem ok_lowest (T : Txt P K mg) : FnOk P w K mg base (L2.CX P w) 33 T.f_lowest T.d_lowest ["top", "bottom"] (spPure K (fun x : Int × Int × Unit => x.2.1 ≠ 0) fun x => lowestF x.1 x.2.1) := by
  refine ok_pure T.F_lowest sc_lowest (fun _ => rfl) fun cdv A' outer s H E hr a hp => ⟨_, (pss_cons (ps_set (i := 2) sc_lowest.nd rfl (.inl rfl) (pe_call (ok_divisor T) (hr.mono (by decide)) (by rfl) T.g_divisor T.F_divisor.kp T.b_divisor .nil passL (pa_cons (pv 0) (pa_cons (pv 1) pa_nil))))
      (pss_cons (ps_if (pt_cmpR op_lt (pv 1) pe_int (nomark _)) (pss_one (ps_set (i := 2) sc_lowest.nd rfl (.inl rfl) (pe_un un_neg (pv 2)))) pss_nil)
      (pss_one (ps_ret (pe_tup (pa_cons (pe_op (op_fdivX T.S T.hP (hr.mono (by decide)) rfl sc_lowest) (pv 0) (pv 2)) (pa_cons (pe_op (op_fdivX T.S T.hP (hr.mono (by decide)) rfl sc_lowest) (pv 1) (pv 2)) pa_nil))))))), fun rt hrt => ?_⟩
  obtain ⟨top_, bottom, _⟩ := a
  (try dsimp only [L2.cxOf])
  (try dsimp only at hp)
  (try dsimp only at hrt)
  show DN K H [.dt false top_, .dt false bottom, .un] _
  have g0 : gcdI top_ bottom ≠ 0 := gcdI_ne (a := top_) hp
  refine dn_seq ?_
  refine dn_asg false (de_call (by decreasing_trivial) trivial) ?_
  decreasing_trivial_pre_omega
  refine dn_if (by decreasing_trivial) (fun hb => ?_) fun hb => ?_
  · decreasing_trivial_pre_omega
    decreasing_trivial_pre_omega
    refine dn_ret (de_tup2 (de_opC (by decreasing_trivial) (by decreasing_trivial) ?_) (de_opC (by decreasing_trivial) (by decreasing_trivial) ?_)) (hrt.is ?_)
    · show -gcdI top_ bottom ≠ 0
      omega
    · show -gcdI top_ bottom ≠ 0
      omega
    · exact if_pos (of_decide_eq_true hb)
  · decreasing_trivial_pre_omega
    decreasing_trivial_pre_omega
    refine dn_ret (de_tup2 (de_opC (by decreasing_trivial) (by decreasing_trivial) g0) (de_opC (by decreasing_trivial) (by decreasing_trivial) g0)) (hrt.is ?_)
    exact if_neg (of_decide_eq_false hb)

theorem ok_factor (T : Txt P K mg) : FnOk P w K mg base (L2.CX P w) 34 T.f_factor T.d_factor ["kind", "one", "other"] (spPure K (fun x : Str × Int × Int × Unit => x.2.2.1 ≠ 0) fun x => factorF x.1 x.2.1 x.2.2.1) := by
  refine ok_pure T.F_factor sc_factor (fun _ => rfl) fun cdv A' outer s H E hr a hp => ⟨_, (pss_cons (ps_if (pt_cmpR op_eq (pv 0) pe_str (nomark _)) (pss_one (ps_ret (pe_tup (pa_cons pe_int (pa_cons pe_int pa_nil))))) pss_nil)
      (pss_cons (ps_if (pt_cmpR op_eq (pv 0) pe_str (nomark _)) (pss_one (ps_ret (pe_call (ok_lowest T) (hr.mono (by decide)) (by rfl) T.g_lowest T.F_lowest.kp T.b_lowest .nil passL (pa_cons (pv 1) (pa_cons (pv 2) pa_nil))))) pss_nil)
      (pss_one (ps_ret (pe_call (ok_lowest T) (hr.mono (by decide)) (by rfl) T.g_lowest T.F_lowest.kp T.b_lowest .nil passL (pa_cons (pe_un un_neg (pv 1)) (pa_cons (pv 2) pa_nil))))))), fun rt hrt => ?_⟩
  obtain ⟨kind, one, other, _⟩ := a
  (try dsimp only [L2.cxOf])
  (try dsimp only at hp)
  (try dsimp only at hrt)
  show DN K H [.dt false kind, .dt false one, .dt false other] _
  decreasing_trivial_pre_omega
  refine dn_if (by decreasing_trivial) (fun hb => ?_) fun hb => ?_
  · exact dn_ret (de_tup2 (by decreasing_trivial) (by decreasing_trivial)) (hrt.is (if_pos hb))
  · decreasing_trivial_pre_omega
    decreasing_trivial_pre_omega
    refine dn_if (by decreasing_trivial) (fun hc => ?_) fun hc => ?_
    · exact dn_ret (de_call (as := (one, other, ())) (by decreasing_trivial) hp) (hrt.is ((if_neg (by rw [hb]; decide)).trans (if_pos hc)))
    · decreasing_trivial_pre_omega
      decreasing_trivial_pre_omega
      exact dn_ret (de_call (as := (-one, other, ())) (by decreasing_trivial) hp) (hrt.is ((if_neg (by rw [hb]; decide)).trans (if_neg (by rw [hc]; decide))))

/-! ### the law's readers -/
theorem ok__law_cell_at (T : Txt P K mg) : FnOk P w K mg base (L2.CX P w) 1 T.f__law_cell_at T.d__law_cell_at ["_law_script", "_law_k"] (spPure K (fun x : Scr × Int × Unit => 0 ≤ x.2.1) fun x => cellF x.1.ns x.2.1) := by
  refine ok_pure T.F__law_cell_at sc__law_cell_at (fun _ => rfl) fun cdv A' outer s H E hr a hp => ⟨_, (pss_cons (ps_if (pt_cmpR op_lt (pv 1) (pe_callB call_len_seq (by rfl) T.m_len (by decide +kernel) (pa_cons (pv 0) pa_nil)) (nomark _)) (pss_one (ps_ret (pe_ix ix_list (pv 0) (pv 1) (fun _ _ => rfl)))) pss_nil)
      (pss_one (ps_ret pe_int))), fun rt hrt => ?_⟩
  obtain ⟨script, k, _⟩ := a
  (try dsimp only [L2.cxOf])
  (try dsimp only at hp)
  (try dsimp only at hrt)
  show DN K H [.dt false script, .dt false k] _
  decreasing_trivial_pre_omega
  refine dn_if (by decreasing_trivial) (fun hb => ?_) fun hb => ?_
  · have h : k < (script.ns.length : Int) := of_decide_eq_true hb
    have h0 : 0 ≤ k := hp
    exact dn_ret (de_ixS (by decreasing_trivial) (by decreasing_trivial) ⟨h0, by omega⟩) (hrt.is (if_pos h))
  · have h : ¬ k < (script.ns.length : Int) := of_decide_eq_false hb
    decreasing_trivial_pre_omega
    exact dn_ret (by decreasing_trivial) (hrt.is (if_neg h))

theorem ok__law_whole (T : Txt P K mg) : FnOk P w K mg base (L2.CX P w) 1 T.f__law_whole T.d__law_whole ["_law_found"] (spPure K (fun _ : Int × Unit => True) fun _ => true) := by
  refine ok_pure T.F__law_whole sc__law_whole (fun _ => rfl) fun cdv A' outer s H E hr a hp => ⟨_, (pss_one (ps_ret (pe_and (pe_callB call_isi (by rfl) T.m_isinstance (by decide +kernel) (pa_cons (pv 0) (pa_cons (pe_bltn (v := .ty "int") (by rfl) T.m_int (by decide +kernel) rfl) pa_nil))) (pe_one (pe_not (pe_callB call_isi (by rfl) T.m_isinstance (by decide +kernel) (pa_cons (pv 0) (pa_cons (pe_bltn (v := .ty "bool") (by rfl) T.m_bool (by decide +kernel) rfl) pa_nil)))))))), fun rt hrt => ?_⟩
  obtain ⟨found, _⟩ := a
  (try dsimp only [L2.cxOf])
  (try dsimp only at hp)
  (try dsimp only at hrt)
  show DN K H [.dt false found] _
  exact dn_ret (de_andV (y := true) (de_isi (c := true) (df_of (de_var rfl)) inferInstance (by decide +kernel)) fun _ => de_notV (x := false) (de_isi (c := false) (df_of (de_var rfl)) inferInstance (by decide +kernel))) hrt

theorem ok__law_common (T : Txt P K mg) : FnOk P w K mg base (L2.CX P w) 1 T.f__law_common T.d__law_common ["_law_one", "_law_other"] (spPure K (fun _ : Int × Int × Unit => True) fun x => gcdI x.1 x.2.1) := by
  refine ok_pure T.F__law_common sc__law_common (fun _ => rfl) fun cdv A' outer s H E hr a hp => ⟨_, (pss_cons (ps_set (i := 0) sc__law_common.nd rfl (.inl rfl) (pe_callB call_abs (by rfl) T.m_abs (by decide +kernel) (pa_cons (pv 0) pa_nil)))
      (pss_cons (ps_set (i := 1) sc__law_common.nd rfl (.inl rfl) (pe_callB call_abs (by rfl) T.m_abs (by decide +kernel) (pa_cons (pv 1) pa_nil)))
      (pss_cons (ps_while (passes_of rfl) (pt_cmpR op_gt (pv 1) pe_int (nomark _)) (pss_one (ps_par (i := 0) (j := 1) (by rfl) sc__law_common.nd rfl rfl (by decide) rfl rfl (pa_cons (pv 1) (pa_cons (pe_op op_mod (pv 0) (pv 1)) pa_nil)) (by rfl))))
      (pss_one (ps_ret (pv 0)))))), fun rt hrt => ?_⟩
  obtain ⟨one, other, _⟩ := a
  (try dsimp only [L2.cxOf])
  (try dsimp only at hp)
  (try dsimp only at hrt)
  show DN K H [.dt false one, .dt false other] _
  decreasing_trivial_pre_omega
  decreasing_trivial_pre_omega
  refine dn_seq ?_
  refine dn_while (ι := Nat × Nat) (fun x => x.1.gcd x.2 = one.natAbs.gcd other.natAbs) (fun x => [.dt false (x.1 : Int), .dt false (x.2 : Int)]) (fun x => decide ((0 : Int) < (x.2 : Int))) (fun x => x.2) (one.natAbs, other.natAbs) rfl (Sub.refl _) (fun x hx => by decreasing_trivial) (fun x hx hc => ?_) fun x hx hc => ?_
  · have h0 : 0 < x.2 := by
      have := of_decide_eq_true hc
      omega
    refine ⟨(x.2, x.1 % x.2), ?_, Nat.mod_lt _ h0, ?_⟩
    · rw [← hx]
      show x.2.gcd (x.1 % x.2) = x.1.gcd x.2
      rw [Nat.gcd_comm x.1 x.2, Nat.gcd_rec x.2 x.1, Nat.gcd_comm]
    · refine dn_par (r := false) (by decreasing_trivial) (de_opC (by decreasing_trivial) (by decreasing_trivial) (by show (0 : Int) < _; omega)) ?_
      exact dn_post (.same (.eq (Int.natCast_emod _ _).symm .nil))
  · decreasing_trivial_pre_omega
    refine dn_ret (by decreasing_trivial) (hrt.is ?_)
    have h0 : x.2 = 0 := by
      have := of_decide_eq_false hc
      omega
    rw [h0, Nat.gcd_zero_right] at hx
    show ((one.natAbs.gcd other.natAbs : Nat) : Int) = _
    rw [← hx]

theorem ok__law_is (T : Txt P K mg) : FnOk P w K mg base (L2.CX P w) 2 T.f__law_is T.d__law_is ["_law_found", "_law_top", "_law_bottom"] (spPure K (fun x : (Int × Int) × Int × Int × Unit => CMulG x.1.1 x.2.2.1 ∧ CMulG x.1.2 x.2.1) fun x => isF x.1 x.2.1 x.2.2.1) := by
  refine ok_pure T.F__law_is sc__law_is (fun _ => rfl) fun cdv A' outer s H E hr a hp => ⟨_, (pss_cons (ps_if (PW.pt (pw_or (pt_not (pt_val (pe_callB call_isi (by rfl) T.m_isinstance (by decide +kernel) (pa_cons (pv 0) (pa_cons (pe_bltn (v := .ty "tuple") (by rfl) T.m_tuple (by decide +kernel) rfl) pa_nil))))) (pw_or1 (pt_cmpR op_ne (pe_callB call_len_seq (by rfl) T.m_len (by decide +kernel) (pa_cons (pv 0) pa_nil)) pe_int (nomark _))))) (pss_one (ps_ret pe_bl)) pss_nil)
      (pss_cons (ps_if (PW.pt (pw_or (pt_not (pt_val (pe_call (ok__law_whole T) (hr.mono (by decide)) (by rfl) T.g__law_whole T.F__law_whole.kp T.b__law_whole .nil passL (pa_cons (pe_ix ix_tup (pv 0) pe_int (fun _ _ => rfl)) pa_nil)))) (pw_or (pt_not (pt_val (pe_call (ok__law_whole T) (hr.mono (by decide)) (by rfl) T.g__law_whole T.F__law_whole.kp T.b__law_whole .nil passL (pa_cons (pe_ix ix_tup (pv 0) pe_int (fun _ _ => rfl)) pa_nil)))) (pw_or1 (pt_cmpR op_lt (pe_ix ix_tup (pv 0) pe_int (fun _ _ => rfl)) pe_int (nomark _)))))) (pss_one (ps_ret pe_bl)) pss_nil)
      (pss_one (ps_ret (pe_and (pe_cmpR op_eq (pe_op op_mulG (pe_ix ix_tup (pv 0) pe_int (fun _ _ => rfl)) (pv 2)) (pe_op op_mulG (pe_ix ix_tup (pv 0) pe_int (fun _ _ => rfl)) (pv 1)) (nomark _)) (pe_one (pe_cmpR op_eq (pe_call (ok__law_common T) (hr.mono (by decide)) (by rfl) T.g__law_common T.F__law_common.kp T.b__law_common .nil passL (pa_cons (pe_ix ix_tup (pv 0) pe_int (fun _ _ => rfl)) (pa_cons (pe_ix ix_tup (pv 0) pe_int (fun _ _ => rfl)) pa_nil))) pe_int (nomark _)))))))), fun rt hrt => ?_⟩
  obtain ⟨found, top_, bottom, _⟩ := a
  (try dsimp only [L2.cxOf])
  (try dsimp only at hp)
  (try dsimp only at hrt)
  show DN K H [.dt false found, .dt false top_, .dt false bottom] _
  obtain ⟨h1, h2⟩ := hp
  have h1 : CMulG found.1 bottom := h1
  have h2 : CMulG found.2 top_ := h2
  refine dn_seq (dn_if (b := false) ?_ (fun z => nomatch z) fun _ => dn_next ?_)
  · exact dt_or (a := false) (b := false) (dt_not (a := true) (dt_B (de_isi (c := true) (df_of (de_var rfl)) inferInstance (by decide +kernel)))) fun _ => dt_is (dt_test (de_neS (de_len (df_of (de_var rfl)) inferInstance) de_int inferInstance inferInstance)) (by rfl)
  decreasing_trivial_pre_omega
  refine dn_if (b := decide (found.2 < 1)) ?_ (fun hb => ?_) fun hb => ?_
  · exact dt_or (a := false) (b := decide (found.2 < 1)) (dt_not (a := true) (dt_B (de_call (as := (found.1, ())) (by decreasing_trivial) trivial))) fun _ => dt_or (a := false) (b := decide (found.2 < 1)) (dt_not (a := true) (dt_B (de_call (as := (found.2, ())) (by decreasing_trivial) trivial))) fun _ => dt_test (by decreasing_trivial)
  · exact dn_ret (by decreasing_trivial) (hrt.is (if_pos (of_decide_eq_true hb)))
  · decreasing_trivial_pre_omega
    decreasing_trivial_pre_omega
    refine dn_ret (de_andV (de_eqS (de_opC (by decreasing_trivial) (by decreasing_trivial) h1) (de_opC (by decreasing_trivial) (by decreasing_trivial) h2) inferInstance inferInstance) fun _ => de_eqS (de_call (as := (found.1, found.2, ())) (by decreasing_trivial) trivial) de_int inferInstance inferInstance) (hrt.is ?_)
    exact if_neg (of_decide_eq_false hb)

theorem ok__law_right (T : Txt P K mg) : FnOk P w K mg base (L2.CX P w) 3 T.f__law_right T.d__law_right ["_law_found", "_law_kind", "_law_one", "_law_other"] (spPure K (fun x : (Int × Int) × Str × Int × Int × Unit => CMulG x.1.1 (worthF x.2.1 x.2.2.1 x.2.2.2.1).2 ∧ CMulG x.1.2 (worthF x.2.1 x.2.2.1 x.2.2.2.1).1) fun x => rightF x.1 x.2.1 x.2.2.1 x.2.2.2.1) := by
  refine ok_pure T.F__law_right sc__law_right (fun _ => rfl) fun cdv A' outer s H E hr a hp => ⟨_, (pss_cons (ps_if (pt_cmpR op_eq (pv 1) pe_str (nomark _)) (pss_one (ps_ret (pe_call (ok__law_is T) (hr.mono (by decide)) (by rfl) T.g__law_is T.F__law_is.kp T.b__law_is .nil passL (pa_cons (pv 0) (pa_cons pe_int (pa_cons pe_int pa_nil)))))) pss_nil)
      (pss_cons (ps_if (pt_cmpR op_eq (pv 1) pe_str (nomark _)) (pss_one (ps_ret (pe_call (ok__law_is T) (hr.mono (by decide)) (by rfl) T.g__law_is T.F__law_is.kp T.b__law_is .nil passL (pa_cons (pv 0) (pa_cons (pv 2) (pa_cons (pv 3) pa_nil)))))) pss_nil)
      (pss_one (ps_ret (pe_call (ok__law_is T) (hr.mono (by decide)) (by rfl) T.g__law_is T.F__law_is.kp T.b__law_is .nil passL (pa_cons (pv 0) (pa_cons (pe_un un_neg (pv 2)) (pa_cons (pv 3) pa_nil)))))))), fun rt hrt => ?_⟩
  obtain ⟨found, kind, one, other, _⟩ := a
  (try dsimp only [L2.cxOf])
  (try dsimp only at hp)
  (try dsimp only at hrt)
  show DN K H [.dt false found, .dt false kind, .dt false one, .dt false other] _
  unfold rightF at hrt
  unfold worthF at hp hrt
  decreasing_trivial_pre_omega
  refine dn_if (by decreasing_trivial) (fun hb => ?_) fun hb => ?_
  · rw [if_pos hb] at hp hrt
    exact dn_ret (de_call (as := (found, 1, 1, ())) (by decreasing_trivial) hp) hrt
  · have nb : ¬ decide (kind = ("pin" : Str)) = true := by rw [hb]; decide
    rw [if_neg nb] at hp hrt
    decreasing_trivial_pre_omega
    decreasing_trivial_pre_omega
    refine dn_if (by decreasing_trivial) (fun hc => ?_) fun hc => ?_
    · rw [if_pos hc] at hp hrt
      exact dn_ret (de_call (as := (found, one, other, ())) (by decreasing_trivial) hp) hrt
    · rw [if_neg (by rw [hc]; decide)] at hp hrt
      decreasing_trivial_pre_omega
      decreasing_trivial_pre_omega
      exact dn_ret (de_call (as := (found, -one, other, ())) (by decreasing_trivial) hp) hrt
theorem ok_law (T : Txt P K mg) : FnOk P w K mg base (L2.CX P w) 35 T.f_law T.d_law ["_law_script"] (spPure K (fun x : Scr × Unit => x.1.ns.length ≤ 63 ∧ ∀ z ∈ x.1.ns, Bt 1048576 z) fun _ => true) := by
  refine ok_pure T.F_law sc_law (fun _ => rfl) fun cdv A' outer s H E hr a hp => ⟨_, (pss_cons (ps_set (i := 1) sc_law.nd rfl (.inl rfl) (pe_lst (pa_cons pe_str (pa_cons pe_str (pa_cons pe_str (pa_cons pe_str pa_nil))))))
      (pss_cons (ps_set (i := 2) sc_law.nd rfl (.inl rfl) (pe_op op_mod (pe_call (ok__law_cell_at T) (hr.mono (by decide)) (by rfl) T.g__law_cell_at T.F__law_cell_at.kp T.b__law_cell_at .nil passL (pa_cons (pv 0) (pa_cons pe_int pa_nil))) pe_int))
      (pss_cons (ps_for (passes_of rfl) rfl (pi_range1 (by rfl) T.m_range (pa_cons (pe_callB (call_max2 rfl) (by rfl) T.m_max (by decide +kernel) (pa_cons pe_int (pa_cons (pe_callB call_len_seq (by rfl) T.m_len (by decide +kernel) (pa_cons (pe_slice sl_list (pv 0) po_none (po_some pe_int)) pa_nil)) pa_nil))) pa_nil)) (pg_name (i := 3) sc_law.nd rfl (.inl rfl)) (pss_cons (ps_set (i := 4) sc_law.nd rfl (.inl rfl) (pe_op op_add pe_int (pe_callB call_abs (by rfl) T.m_abs (by decide +kernel) (pa_cons (pe_call (ok__law_cell_at T) (hr.mono (by decide)) (by rfl) T.g__law_cell_at T.F__law_cell_at.kp T.b__law_cell_at .nil passL (pa_cons (pv 0) (pa_cons (pv 3) pa_nil))) pa_nil))))
      (pss_cons (ps_set (i := 5) sc_law.nd rfl (.inl rfl) (pe_op op_add pe_int (pe_callB call_abs (by rfl) T.m_abs (by decide +kernel) (pa_cons (pe_call (ok__law_cell_at T) (hr.mono (by decide)) (by rfl) T.g__law_cell_at T.F__law_cell_at.kp T.b__law_cell_at .nil passL (pa_cons (pv 0) (pa_cons (pe_op op_add (pv 3) pe_int) pa_nil))) pa_nil))))
      (pss_cons (ps_if (pt_cmpR op_eq (pe_op op_fdiv (pv 2) pe_int) pe_int (nomark _)) (pss_one (ps_set (i := 5) sc_law.nd rfl (.inl rfl) (pv 4))) pss_nil)
      (pss_cons (ps_set (i := 6) sc_law.nd rfl (.inl rfl) (pe_ix ix_list (pv 1) (pe_op op_mod (pe_op op_add (pv 2) (pv 3)) pe_int) (fun _ _ => rfl)))
      (pss_cons (ps_if (pt_not (pt_val (pe_call (ok__law_right T) (hr.mono (by decide)) (by rfl) T.g__law_right T.F__law_right.kp T.b__law_right .nil passL (pa_cons (pe_call (ok_factor T) (hr.mono (by decide)) (by rfl) T.g_factor T.F_factor.kp T.b_factor .nil passL (pa_cons (pv 6) (pa_cons (pv 4) (pa_cons (pv 5) pa_nil)))) (pa_cons (pv 6) (pa_cons (pv 4) (pa_cons (pv 5) pa_nil))))))) (pss_one (ps_ret pe_bl)) pss_nil)
      (pss_one (ps_if (pt_not (pt_val (pe_call (ok__law_right T) (hr.mono (by decide)) (by rfl) T.g__law_right T.F__law_right.kp T.b__law_right .nil passL (pa_cons (pe_call (ok_factor T) (hr.mono (by decide)) (by rfl) T.g_factor T.F_factor.kp T.b_factor .nil passL (pa_cons (pv 6) (pa_cons (pv 5) (pa_cons (pv 4) pa_nil)))) (pa_cons (pv 6) (pa_cons (pv 5) (pa_cons (pv 4) pa_nil))))))) (pss_one (ps_ret pe_bl)) pss_nil))))))))
      (pss_one (ps_ret pe_bl))))), fun rt hrt => ?_⟩
  obtain ⟨script, _⟩ := a
  (try dsimp only [L2.cxOf])
  (try dsimp only at hp)
  (try dsimp only at hrt)
  show DN K H [.dt false script, .un, .un, .un, .un, .un, .un] _
  obtain ⟨hl, hb⟩ := hp
  refine dn_seq (dn_asgO (R := lstR false kindsL) (do_lst (di_cons de_str (di_cons de_str (di_cons de_str (di_cons de_str di_nil)))) (by decide)) ?_)
  dsimp only [List.set]
  refine dn_seq (dn_asg (a := startF script.ns) false (de_opC (de_call (as := (script, 0, ())) (by decreasing_trivial) (Int.le_refl 0)) (by decreasing_trivial) (by decide)) ?_)
  dsimp only [List.set]
  refine dn_seq ?_
  refine dn_forR1 (j := max 1 ((cutL script.ns none (some 63)).length : Int)) (fun k => [.dt false script, .ow (lstR false kindsL), .dt false (startF script.ns), .un, .un, .un, .un]) ?_ ?_ (Sub.refl _) (fun _ => of_decide_eq_true rfl) (fun k hk => ?_) ?_
  · exact da_cons (df_of (de_max2 (by decreasing_trivial) (de_len (df_do (r := false) (do_cutS (by decreasing_trivial) dp_no (dp_some (by decreasing_trivial)))) inferInstance))) da_nil
  · have : (cutL script.ns none (some 63)).length ≤ script.ns.length := by
      unfold cutL
      simp only [List.length_take, List.length_drop]
      omega
    omega
  · have hk0 : (0 : Int) ≤ (k : Int) := by omega
    have p1 := oneF_pos script.ns k
    have p2 := otherF_pos script.ns k
    have b1 := one_bt hb hk0
    have b2 := other_bt hb hk0
    have kin : kindsL[((startF script.ns + (k : Int)) % 4).toNat]? = some (kindF script.ns k) := by
      have l : ((startF script.ns + (k : Int)) % 4).toNat < kindsL.length := by
        show _ < 4
        omega
      unfold kindF
      rw [List.getD_eq_getElem?_getD, List.getElem?_eq_getElem l]
      rfl
    dsimp only [List.set]
    refine dn_seq (dn_asg (a := oneF script.ns k) false (de_opI (by decreasing_trivial) (de_abs (de_call (as := (script, (k : Int), ())) (by decreasing_trivial) hk0))) ?_)
    dsimp only [List.set]
    refine dn_seq (dn_asg (a := oneF script.ns ((k : Int) + 1)) false (de_opI (by decreasing_trivial) (de_abs (de_call (as := (script, (k : Int) + 1, ())) (by decreasing_trivial) (by show (0 : Int) ≤ (k : Int) + 1; omega)))) ?_)
    dsimp only [List.set]
    refine dn_seq (dn_ifAsg (b := decide (startF script.ns / 4 = 3)) (x := oneF script.ns k) (y := oneF script.ns ((k : Int) + 1)) false (dt_test (de_eqS (de_opC (by decreasing_trivial) (by decreasing_trivial) ⟨by decide, by decide⟩) (by decreasing_trivial) inferInstance inferInstance)) (fun _ => by decreasing_trivial) rfl ?_)
    rw [show (if decide (startF script.ns / 4 = 3) = true then oneF script.ns k else oneF script.ns ((k : Int) + 1)) = otherF script.ns k from rfl]
    dsimp only [List.set]
    refine dn_seq (dn_asg (a := kindF script.ns k) false (de_df (df_ix (df_own rfl) (de_opC (by decreasing_trivial) (by decreasing_trivial) (by decide)) (by omega) kin) inferInstance) ?_)
    dsimp only [List.set]
    generalize kindF script.ns k = kind at *
    generalize oneF script.ns k = one at *
    generalize otherF script.ns k = other at *
    have w1 := worth_bt kind b1 b2 (by decide)
    have w2 := worth_bt kind b2 b1 (by decide)
    have f1 := factor_bt kind b1 b2 (by omega) (by decide)
    have f2 := factor_bt kind b2 b1 (by omega) (by decide)
    refine dn_seq (dn_if (b := false) ?_ (fun z => nomatch z) fun _ => dn_next ?_)
    · exact dt_not (a := true) (dt_B (de_is (de_call (as := (factorF kind one other, kind, one, other, ())) (da_cons (df_of (de_call (as := (kind, one, other, ())) (by decreasing_trivial) (by show other ≠ 0; omega))) (by decreasing_trivial)) ⟨f1.1.ok w1.2 (by decide), f1.2.ok w1.1 (by decide)⟩) (factorF_low kind (by omega)).is))
    · dsimp only
      refine dn_if (b := false) ?_ (fun z => nomatch z) fun _ => dn_next (dn_post (.same (.same (.same (.drop (.drop (.drop (.drop .nil))))))))
      exact dt_not (a := true) (dt_B (de_is (de_call (as := (factorF kind other one, kind, other, one, ())) (da_cons (df_of (de_call (as := (kind, other, one, ())) (by decreasing_trivial) (by show one ≠ 0; omega))) (by decreasing_trivial)) ⟨f2.1.ok w2.2 (by decide), f2.2.ok w2.1 (by decide)⟩) (factorF_low kind (by omega)).is))
  · decreasing_trivial_pre_omega
    exact dn_ret (by decreasing_trivial) hrt
end
theorem mkTxt {P : Program} (hP : P.given.tree = none) {K : PySem.W.Frag} {h : Heap} {mg : Str → Option Value} (X : K.In h) (G : h.Ns mainGlobals mg)
    {f_divisor : Addr} {od_divisor an_divisor : Option Addr} {sl_divisor : Array (Option Value)} {oc_divisor kV_divisor dc_divisor pm_divisor cd_divisor ct_divisor : Value}
    {f_lowest : Addr} {od_lowest an_lowest : Option Addr} {sl_lowest : Array (Option Value)} {oc_lowest kV_lowest dc_lowest pm_lowest cd_lowest ct_lowest : Value}
    {f_factor : Addr} {od_factor an_factor : Option Addr} {sl_factor : Array (Option Value)} {oc_factor kV_factor dc_factor pm_factor cd_factor ct_factor : Value}
    {f__law_cell_at : Addr} {od__law_cell_at an__law_cell_at : Option Addr} {sl__law_cell_at : Array (Option Value)} {oc__law_cell_at kV__law_cell_at dc__law_cell_at pm__law_cell_at cd__law_cell_at ct__law_cell_at : Value}
    {f__law_whole : Addr} {od__law_whole an__law_whole : Option Addr} {sl__law_whole : Array (Option Value)} {oc__law_whole kV__law_whole dc__law_whole pm__law_whole cd__law_whole ct__law_whole : Value}
    {f__law_common : Addr} {od__law_common an__law_common : Option Addr} {sl__law_common : Array (Option Value)} {oc__law_common kV__law_common dc__law_common pm__law_common cd__law_common ct__law_common : Value}
    {f__law_is : Addr} {od__law_is an__law_is : Option Addr} {sl__law_is : Array (Option Value)} {oc__law_is kV__law_is dc__law_is pm__law_is cd__law_is ct__law_is : Value}
    {f__law_right : Addr} {od__law_right an__law_right : Option Addr} {sl__law_right : Array (Option Value)} {oc__law_right kV__law_right dc__law_right pm__law_right cd__law_right ct__law_right : Value}
    {f_law : Addr} {od_law an_law : Option Addr} {sl_law : Array (Option Value)} {oc_law kV_law dc_law pm_law cd_law ct_law : Value}
    (a_divisor : PySem.W.nsIn K mainGlobals "divisor" = some (some (.ref f_divisor)))
    (l_divisor : K.lookup f_divisor = some ⟨oc_divisor, od_divisor, .func (PySem.W.fnOf "divisor" "divisor" (defArgs s_divisor) (defBody s_divisor) (defScope s_divisor) .none kV_divisor dc_divisor pm_divisor an_divisor cd_divisor ct_divisor), sl_divisor⟩)
    (c_divisor : PySem.W.codeIn K cd_divisor "divisor" = true)
    (k_divisor : PySem.W.keepIn K (.ref f_divisor) = true)
    (a_lowest : PySem.W.nsIn K mainGlobals "lowest" = some (some (.ref f_lowest)))
    (l_lowest : K.lookup f_lowest = some ⟨oc_lowest, od_lowest, .func (PySem.W.fnOf "lowest" "lowest" (defArgs s_lowest) (defBody s_lowest) (defScope s_lowest) .none kV_lowest dc_lowest pm_lowest an_lowest cd_lowest ct_lowest), sl_lowest⟩)
    (c_lowest : PySem.W.codeIn K cd_lowest "lowest" = true)
    (k_lowest : PySem.W.keepIn K (.ref f_lowest) = true)
    (a_factor : PySem.W.nsIn K mainGlobals "factor" = some (some (.ref f_factor)))
    (l_factor : K.lookup f_factor = some ⟨oc_factor, od_factor, .func (PySem.W.fnOf "factor" "factor" (defArgs s_factor) (defBody s_factor) (defScope s_factor) .none kV_factor dc_factor pm_factor an_factor cd_factor ct_factor), sl_factor⟩)
    (c_factor : PySem.W.codeIn K cd_factor "factor" = true)
    (k_factor : PySem.W.keepIn K (.ref f_factor) = true)
    (a__law_cell_at : PySem.W.nsIn K mainGlobals "_law_cell_at" = some (some (.ref f__law_cell_at)))
    (l__law_cell_at : K.lookup f__law_cell_at = some ⟨oc__law_cell_at, od__law_cell_at, .func (PySem.W.fnOf "_law_cell_at" "_law_cell_at" (defArgs s__law_cell_at) (defBody s__law_cell_at) (defScope s__law_cell_at) .none kV__law_cell_at dc__law_cell_at pm__law_cell_at an__law_cell_at cd__law_cell_at ct__law_cell_at), sl__law_cell_at⟩)
    (c__law_cell_at : PySem.W.codeIn K cd__law_cell_at "_law_cell_at" = true)
    (k__law_cell_at : PySem.W.keepIn K (.ref f__law_cell_at) = true)
    (a__law_whole : PySem.W.nsIn K mainGlobals "_law_whole" = some (some (.ref f__law_whole)))
    (l__law_whole : K.lookup f__law_whole = some ⟨oc__law_whole, od__law_whole, .func (PySem.W.fnOf "_law_whole" "_law_whole" (defArgs s__law_whole) (defBody s__law_whole) (defScope s__law_whole) .none kV__law_whole dc__law_whole pm__law_whole an__law_whole cd__law_whole ct__law_whole), sl__law_whole⟩)
    (c__law_whole : PySem.W.codeIn K cd__law_whole "_law_whole" = true)
    (k__law_whole : PySem.W.keepIn K (.ref f__law_whole) = true)
    (a__law_common : PySem.W.nsIn K mainGlobals "_law_common" = some (some (.ref f__law_common)))
    (l__law_common : K.lookup f__law_common = some ⟨oc__law_common, od__law_common, .func (PySem.W.fnOf "_law_common" "_law_common" (defArgs s__law_common) (defBody s__law_common) (defScope s__law_common) .none kV__law_common dc__law_common pm__law_common an__law_common cd__law_common ct__law_common), sl__law_common⟩)
    (c__law_common : PySem.W.codeIn K cd__law_common "_law_common" = true)
    (k__law_common : PySem.W.keepIn K (.ref f__law_common) = true)
    (a__law_is : PySem.W.nsIn K mainGlobals "_law_is" = some (some (.ref f__law_is)))
    (l__law_is : K.lookup f__law_is = some ⟨oc__law_is, od__law_is, .func (PySem.W.fnOf "_law_is" "_law_is" (defArgs s__law_is) (defBody s__law_is) (defScope s__law_is) .none kV__law_is dc__law_is pm__law_is an__law_is cd__law_is ct__law_is), sl__law_is⟩)
    (c__law_is : PySem.W.codeIn K cd__law_is "_law_is" = true)
    (k__law_is : PySem.W.keepIn K (.ref f__law_is) = true)
    (a__law_right : PySem.W.nsIn K mainGlobals "_law_right" = some (some (.ref f__law_right)))
    (l__law_right : K.lookup f__law_right = some ⟨oc__law_right, od__law_right, .func (PySem.W.fnOf "_law_right" "_law_right" (defArgs s__law_right) (defBody s__law_right) (defScope s__law_right) .none kV__law_right dc__law_right pm__law_right an__law_right cd__law_right ct__law_right), sl__law_right⟩)
    (c__law_right : PySem.W.codeIn K cd__law_right "_law_right" = true)
    (k__law_right : PySem.W.keepIn K (.ref f__law_right) = true)
    (a_law : PySem.W.nsIn K mainGlobals "law" = some (some (.ref f_law)))
    (l_law : K.lookup f_law = some ⟨oc_law, od_law, .func (PySem.W.fnOf "law" "law" (defArgs s_law) (defBody s_law) (defScope s_law) .none kV_law dc_law pm_law an_law cd_law ct_law), sl_law⟩)
    (c_law : PySem.W.codeIn K cd_law "law" = true)
    (k_law : PySem.W.keepIn K (.ref f_law) = true)
    (z_abs : PySem.W.nsIn K mainGlobals "abs" = some none)
    (z_len : PySem.W.nsIn K mainGlobals "len" = some none)
    (z_isinstance : PySem.W.nsIn K mainGlobals "isinstance" = some none)
    (z_int : PySem.W.nsIn K mainGlobals "int" = some none)
    (z_bool : PySem.W.nsIn K mainGlobals "bool" = some none)
    (z_tuple : PySem.W.nsIn K mainGlobals "tuple" = some none)
    (z_max : PySem.W.nsIn K mainGlobals "max" = some none)
    (z_range : PySem.W.nsIn K mainGlobals "range" = some none) : Nonempty (Txt0 P K mg) :=
  ⟨{ hP := hP, f_divisor := f_divisor,
     d_divisor := _,
     F_divisor := fun_mk (st := s_divisor) l_divisor c_divisor k_divisor,
     b_divisor := (fun_mk (st := s_divisor) l_divisor c_divisor k_divisor).binds (ps := ["one", "other"]) fun _ _ _ _ _ _ us hl => match us, hl with | [_, _], _ => rfl,
     g_divisor := PySem.W.mg_of X G a_divisor,
     f_lowest := f_lowest,
     d_lowest := _,
     F_lowest := fun_mk (st := s_lowest) l_lowest c_lowest k_lowest,
     b_lowest := (fun_mk (st := s_lowest) l_lowest c_lowest k_lowest).binds (ps := ["top", "bottom"]) fun _ _ _ _ _ _ us hl => match us, hl with | [_, _], _ => rfl,
     g_lowest := PySem.W.mg_of X G a_lowest,
     f_factor := f_factor,
     d_factor := _,
     F_factor := fun_mk (st := s_factor) l_factor c_factor k_factor,
     b_factor := (fun_mk (st := s_factor) l_factor c_factor k_factor).binds (ps := ["kind", "one", "other"]) fun _ _ _ _ _ _ us hl => match us, hl with | [_, _, _], _ => rfl,
     g_factor := PySem.W.mg_of X G a_factor,
     f__law_cell_at := f__law_cell_at,
     d__law_cell_at := _,
     F__law_cell_at := fun_mk (st := s__law_cell_at) l__law_cell_at c__law_cell_at k__law_cell_at,
     b__law_cell_at := (fun_mk (st := s__law_cell_at) l__law_cell_at c__law_cell_at k__law_cell_at).binds (ps := ["_law_script", "_law_k"]) fun _ _ _ _ _ _ us hl => match us, hl with | [_, _], _ => rfl,
     g__law_cell_at := PySem.W.mg_of X G a__law_cell_at,
     f__law_whole := f__law_whole,
     d__law_whole := _,
     F__law_whole := fun_mk (st := s__law_whole) l__law_whole c__law_whole k__law_whole,
     b__law_whole := (fun_mk (st := s__law_whole) l__law_whole c__law_whole k__law_whole).binds (ps := ["_law_found"]) fun _ _ _ _ _ _ us hl => match us, hl with | [_], _ => rfl,
     g__law_whole := PySem.W.mg_of X G a__law_whole,
     f__law_common := f__law_common,
     d__law_common := _,
     F__law_common := fun_mk (st := s__law_common) l__law_common c__law_common k__law_common,
     b__law_common := (fun_mk (st := s__law_common) l__law_common c__law_common k__law_common).binds (ps := ["_law_one", "_law_other"]) fun _ _ _ _ _ _ us hl => match us, hl with | [_, _], _ => rfl,
     g__law_common := PySem.W.mg_of X G a__law_common,
     f__law_is := f__law_is,
     d__law_is := _,
     F__law_is := fun_mk (st := s__law_is) l__law_is c__law_is k__law_is,
     b__law_is := (fun_mk (st := s__law_is) l__law_is c__law_is k__law_is).binds (ps := ["_law_found", "_law_top", "_law_bottom"]) fun _ _ _ _ _ _ us hl => match us, hl with | [_, _, _], _ => rfl,
     g__law_is := PySem.W.mg_of X G a__law_is,
     f__law_right := f__law_right,
     d__law_right := _,
     F__law_right := fun_mk (st := s__law_right) l__law_right c__law_right k__law_right,
     b__law_right := (fun_mk (st := s__law_right) l__law_right c__law_right k__law_right).binds (ps := ["_law_found", "_law_kind", "_law_one", "_law_other"]) fun _ _ _ _ _ _ us hl => match us, hl with | [_, _, _, _], _ => rfl,
     g__law_right := PySem.W.mg_of X G a__law_right,
     f_law := f_law,
     d_law := _,
     F_law := fun_mk (st := s_law) l_law c_law k_law,
     b_law := (fun_mk (st := s_law) l_law c_law k_law).binds (ps := ["_law_script"]) fun _ _ _ _ _ _ us hl => match us, hl with | [_], _ => rfl,
     g_law := PySem.W.mg_of X G a_law,
     B_law := fun s u => .of_eq rfl,
     m_abs := PySem.W.mg_none_of X G z_abs,
     m_len := PySem.W.mg_none_of X G z_len,
     m_isinstance := PySem.W.mg_none_of X G z_isinstance,
     m_int := PySem.W.mg_none_of X G z_int,
     m_bool := PySem.W.mg_none_of X G z_bool,
     m_tuple := PySem.W.mg_none_of X G z_tuple,
     m_max := PySem.W.mg_none_of X G z_max,
     m_range := PySem.W.mg_none_of X G z_range }⟩
def Txt0.wide {P : Program} {K K' : PySem.W.Frag} {mg : Str → Option Value} (m : More K K') (se : Sees K') (T : Txt0 P K mg) : Txt P K' mg :=
  { hP := T.hP, f_divisor := T.f_divisor, d_divisor := T.d_divisor, F_divisor := m.fun_ T.F_divisor, b_divisor := m.binds T.b_divisor, g_divisor := T.g_divisor, f_lowest := T.f_lowest, d_lowest := T.d_lowest, F_lowest := m.fun_ T.F_lowest, b_lowest := m.binds T.b_lowest, g_lowest := T.g_lowest, f_factor := T.f_factor, d_factor := T.d_factor, F_factor := m.fun_ T.F_factor, b_factor := m.binds T.b_factor, g_factor := T.g_factor, f__law_cell_at := T.f__law_cell_at, d__law_cell_at := T.d__law_cell_at, F__law_cell_at := m.fun_ T.F__law_cell_at, b__law_cell_at := m.binds T.b__law_cell_at, g__law_cell_at := T.g__law_cell_at, f__law_whole := T.f__law_whole, d__law_whole := T.d__law_whole, F__law_whole := m.fun_ T.F__law_whole, b__law_whole := m.binds T.b__law_whole, g__law_whole := T.g__law_whole, f__law_common := T.f__law_common, d__law_common := T.d__law_common, F__law_common := m.fun_ T.F__law_common, b__law_common := m.binds T.b__law_common, g__law_common := T.g__law_common, f__law_is := T.f__law_is, d__law_is := T.d__law_is, F__law_is := m.fun_ T.F__law_is, b__law_is := m.binds T.b__law_is, g__law_is := T.g__law_is, f__law_right := T.f__law_right, d__law_right := T.d__law_right, F__law_right := m.fun_ T.F__law_right, b__law_right := m.binds T.b__law_right, g__law_right := T.g__law_right, f_law := T.f_law, d_law := T.d_law, F_law := m.fun_ T.F_law, b_law := m.binds T.b_law, g_law := T.g_law, B_law := T.B_law, m_abs := T.m_abs, m_len := T.m_len, m_isinstance := T.m_isinstance, m_int := T.m_int, m_bool := T.m_bool, m_tuple := T.m_tuple, m_max := T.m_max, m_range := T.m_range, S := se }
theorem law_of {P : Program} {w : World} {K : PySem.W.Frag} {mg : Str → Option Value} {fa : Addr} (T : Nonempty (Txt0 P K mg)) (h : mg "law" = some (.ref fa)) :
    ∃ fd : FuncData, (∀ (s : Shared) (u : Value), BindsTo s fd ⟨[u], []⟩ [("_law_script", u)]) ∧ ∀ K' : PySem.W.Frag, More K K' → Sees K' → ∀ base : Heap, K'.In base → base.Ns mainGlobals mg →
      FnOk P w K' mg base (L2.CX P w) 35 fa fd ["_law_script"] (spPure K' (fun x : Scr × Unit => x.1.ns.length ≤ 63 ∧ ∀ z ∈ x.1.ns, Bt 1048576 z) fun _ => true) := by
  obtain ⟨T⟩ := T
  have e := T.g_law.symm.trans h
  cases e
  exact ⟨T.d_law, T.B_law, fun K' m se base _ _ => ok_law (T.wide m se)⟩
end Cg
open PySem PySem.W PyProof.Rows
set_option maxHeartbeats 0 in
theorem PySem.Challenge.cw_cogtrain_k02_factors_holds : PySem.Challenge.rw_cogtrain_k02_factors.Holds := by
  w_on; o_law; k_head; (case hw => w_witness2)
  k_fill
  refine Cg.walk_wide (l := PySem.Challenge.rw_cogtrain_k02_factors) (n := 63) (k := 35) (x := "_law_script") (CX := fun w => L2.CX (PySem.Challenge.rw_cogtrain_k02_factors).prog w) (sp := fun K => Cg.spPure K (fun x : Cg.Scr × Unit => x.1.ns.length ≤ 63 ∧ ∀ z ∈ x.1.ns, Cg.Bt 1048576 z) fun _ => true) rfl (by decide) rfl ⟨rfl, by decide, by decide⟩ (by decide +kernel) (fun w h Y => PySem.W.kIn_of Y) ?F ?sp ?cx
  case sp => exact fun K' H a ns hl hb _ hS => ⟨(⟨ns⟩, ()), ⟨_, [], rfl, ⟨a, rfl, hS⟩, rfl⟩, ⟨hl, fun z hz => Cg.Bt.of_bits (hb z hz)⟩, fun v H' _ e => e⟩
  case cx => exact fun w H s e s' h => Cg.cx_no h
  case F =>
    intro w mg fa h KX G hmg
    refine Cg.law_of ?t hmg
    refine' Cg.mkTxt (by rfl) KX G ?a_divisor ?l_divisor ?c_divisor ?k_divisor ?a_lowest ?l_lowest ?c_lowest ?k_lowest ?a_factor ?l_factor ?c_factor ?k_factor ?a__law_cell_at ?l__law_cell_at ?c__law_cell_at ?k__law_cell_at ?a__law_whole ?l__law_whole ?c__law_whole ?k__law_whole ?a__law_common ?l__law_common ?c__law_common ?k__law_common ?a__law_is ?l__law_is ?c__law_is ?k__law_is ?a__law_right ?l__law_right ?c__law_right ?k__law_right ?a_law ?l_law ?c_law ?k_law ?z_abs ?z_len ?z_isinstance ?z_int ?z_bool ?z_tuple ?z_max ?z_range
    (case a_divisor => k_is)
    (case l_divisor => k_is)
    (case c_divisor => k_is)
    (case k_divisor => k_is)
    (case a_lowest => k_is)
    (case l_lowest => k_is)
    (case c_lowest => k_is)
    (case k_lowest => k_is)
    (case a_factor => k_is)
    (case l_factor => k_is)
    (case c_factor => k_is)
    (case k_factor => k_is)
    (case a__law_cell_at => k_is)
    (case l__law_cell_at => k_is)
    (case c__law_cell_at => k_is)
    (case k__law_cell_at => k_is)
    (case a__law_whole => k_is)
    (case l__law_whole => k_is)
    (case c__law_whole => k_is)
    (case k__law_whole => k_is)
    (case a__law_common => k_is)
    (case l__law_common => k_is)
    (case c__law_common => k_is)
    (case k__law_common => k_is)
    (case a__law_is => k_is)
    (case l__law_is => k_is)
    (case c__law_is => k_is)
    (case k__law_is => k_is)
    (case a__law_right => k_is)
    (case l__law_right => k_is)
    (case c__law_right => k_is)
    (case k__law_right => k_is)
    (case a_law => k_is)
    (case l_law => k_is)
    (case c_law => k_is)
    (case k_law => k_is)
    (case z_abs => k_is)
    (case z_len => k_is)
    (case z_isinstance => k_is)
    (case z_int => k_is)
    (case z_bool => k_is)
    (case z_tuple => k_is)
    (case z_max => k_is)
    (case z_range => k_is)
