import PyProof.Rows.All
import Wide.All
import OpenK.AllK
import Wide.FinOn
import HandS.ForMost
import HandS.Defaults
import KE.Datum
import KE.DatumOrd
import HandS.Walk
import HandS.SortInts
import HandS.Flow
import HandS.Conv
import KE.SortData
import KE.SortKeyHeap
import HandS.IsInst
import HandS.SortKw
import KE.KDictDisplayH
import HandS.SetFor
import HandS.Strs
import HandS.More
import PySem.Challenge.RW_foreworth_k57_whole_least_two_ways
/-! ## Cert1.lean -/
section
set_option Elab.async false
set_option linter.all false
set_option maxRecDepth 100000
set_option maxHeartbeats 4000000
/-! Certified translation: typed data over the abstract heap, and what an expression, a statement computes. -/
namespace CT
open PySem L2

abbrev Frag := PySem.W.Frag
/-- addresses of the own classes, by number -/
abbrev Cls := Nat → Addr

/-- from frozen part G and heap H to G2 and H2: nothing is lost, and what H tracked outside of G stays outside of G2 -/
structure Ext (G H G2 H2 : Hp) : Prop where
  g : Same G G2
  h : Same H H2
  gh : Same G2 H2
  fr : ∀ a, G a = none → H a ≠ none → G2 a = none

theorem Ext.refl {G H : Hp} (e : Same G H) : Ext G H G H := ⟨Same.refl G, Same.refl H, e, fun _ h _ => h⟩
theorem Ext.trans {G H G1 H1 G2 H2 : Hp} (a : Ext G H G1 H1) (b : Ext G1 H1 G2 H2) : Ext G H G2 H2 :=
  ⟨a.g.trans b.g, a.h.trans b.h, b.gh, fun x hx hy => b.fr x (a.fr x hx hy) (by
    cases e : H x with
    | none => exact absurd e hy
    | some o => rw [a.h x o e]; simp)⟩
theorem same_new {H : Hp} {p : Addr} {o : HO} (h : H p = none) : Same H (upd H p o) := fun a u e => by
  rw [upd_ne (ne_of_none e h)]
  exact e
theorem none_sub {G H : Hp} (e : Same G H) {p : Addr} (h : H p = none) : G p = none := e.free h
/-- a new object, frozen -/
theorem Ext.new {G H : Hp} (e : Same G H) {p : Addr} {o : HO} (h : H p = none) : Ext G H (upd G p o) (upd H p o) where
  g := same_new (none_sub e h)
  h := same_new h
  gh := fun a u q => by
    by_cases hp : a = p
    · subst hp
      rw [upd_same] at q ⊢
      exact q
    · rw [upd_ne hp] at q ⊢
      exact e a u q
  fr := fun a h1 h2 => by
    have hp : a ≠ p := fun z => h2 (z ▸ h)
    rw [upd_ne hp]
    exact h1

/-! ### data with a Lean type -/
class Py (α : Type) where
  rep : Frag → Cls → Hp → V → α → Prop
  mono : ∀ {K : Frag} {c : Cls} {G G' : Hp} {v : V} {x : α}, Same G G' → rep K c G v x → rep K c G' v x

abbrev All2 {α β : Type} (F : α → β → Prop) : List α → List β → Prop := PySem.Paired F
theorem All2.mono {α β : Type} {F F' : α → β → Prop} (h : ∀ a b, F a b → F' a b) : ∀ {xs : List α} {ys : List β}, All2 F xs ys → All2 F' xs ys
  | _, _, .nil => .nil
  | _, _, .cons r t => .cons (h _ _ r) (All2.mono h t)
theorem All2.len {α β : Type} {F : α → β → Prop} {xs : List α} {ys : List β} (r : All2 F xs ys) : xs.length = ys.length := Paired.length r
theorem All2.app {α β : Type} {F : α → β → Prop} : ∀ {xs xs' : List α} {ys ys' : List β}, All2 F xs ys → All2 F xs' ys' → All2 F (xs ++ xs') (ys ++ ys')
  | _, _, _, _, .nil, s => s
  | _, _, _, _, .cons r t, s => .cons r (All2.app t s)
theorem All2.at {α β : Type} {F : α → β → Prop} : ∀ {xs : List α} {ys : List β} {i : Nat} {y : β}, All2 F xs ys → ys[i]? = some y → ∃ x, xs[i]? = some x ∧ F x y
  | _, _, _, _, .nil, e => by simp at e
  | _, _, 0, _, .cons r _, e => by simp at e; subst e; exact ⟨_, rfl, r⟩
  | _, _, i + 1, y, .cons _ t, e => by
    obtain ⟨u, h1, h2⟩ := All2.at (i := i) (y := y) t (by simpa using e)
    exact ⟨u, by simpa using h1, h2⟩
theorem All2.at' {α β : Type} {F : α → β → Prop} : ∀ {xs : List α} {ys : List β} {i : Nat} {x : α}, All2 F xs ys → xs[i]? = some x → ∃ y, ys[i]? = some y ∧ F x y
  | _, _, _, _, .nil, e => by simp at e
  | _, _, 0, _, .cons r _, e => by simp at e; subst e; exact ⟨_, rfl, r⟩
  | _, _, i + 1, y, .cons _ t, e => by
    obtain ⟨u, h1, h2⟩ := All2.at' (i := i) (x := y) t (by simpa using e)
    exact ⟨u, by simpa using h1, h2⟩
theorem All2.set {α β : Type} {F : α → β → Prop} {x : α} {y : β} (r : F x y) : ∀ {xs : List α} {ys : List β} (i : Nat), All2 F xs ys → All2 F (xs.set i x) (ys.set i y)
  | _, _, _, .nil => .nil
  | _, _, 0, .cons _ t => .cons r t
  | _, _, i + 1, .cons q t => .cons q (All2.set r i t)
theorem All2.take {α β : Type} {F : α → β → Prop} : ∀ {xs : List α} {ys : List β} (n : Nat), All2 F xs ys → All2 F (xs.take n) (ys.take n)
  | _, _, 0, _ => .nil
  | _, _, _ + 1, .nil => .nil
  | _, _, n + 1, .cons r t => .cons r (All2.take n t)
theorem All2.drop {α β : Type} {F : α → β → Prop} : ∀ {xs : List α} {ys : List β} (n : Nat), All2 F xs ys → All2 F (xs.drop n) (ys.drop n)
  | _, _, 0, r => r
  | _, _, _ + 1, .nil => .nil
  | _, _, n + 1, .cons _ t => All2.drop n t
theorem All2.map_left {α β γ : Type} {F : γ → β → Prop} {f : α → γ} : ∀ {xs : List α} {ys : List β}, All2 (fun a b => F (f a) b) xs ys → All2 F (xs.map f) ys
  | _, _, .nil => .nil
  | _, _, .cons r t => .cons r (All2.map_left t)
theorem All2.map_right {α β γ : Type} {F : α → γ → Prop} {f : β → γ} : ∀ {xs : List α} {ys : List β}, All2 (fun a b => F a (f b)) xs ys → All2 F xs (ys.map f)
  | _, _, .nil => .nil
  | _, _, .cons r t => .cons r (All2.map_right t)
theorem all2_int {xs : List V} {ns : List Int} (h : All2 (fun v (n : Int) => v = V.int n) xs ns) : xs = ns.map V.int := by
  induction h with
  | nil => rfl
  | cons r _ ih => rw [r, ih]; rfl
theorem all2_int' (ns : List Int) : All2 (fun v (n : Int) => v = V.int n) (ns.map V.int) ns := by
  induction ns with
  | nil => exact .nil
  | cons n ns ih => exact .cons rfl ih

instance : Py Int := ⟨fun _ _ _ v i => v = .int i, fun _ h => h⟩
instance : Py Bool := ⟨fun _ _ _ v b => v = .bl b, fun _ h => h⟩
instance : Py Unit := ⟨fun _ _ _ v _ => v = .non, fun _ h => h⟩
instance : Py Str := ⟨fun _ _ _ v x => v = .str x, fun _ h => h⟩
/-- None or an α -/
instance {α : Type} [Py α] : Py (Option α) := ⟨fun K c G v o => match o with
  | none => v = .non
  | some x => Py.rep K c G v x, fun {K c G G' v o} e h => by
    cases o with
    | none => exact h
    | some x => exact Py.mono (α := α) e h⟩
theorem Same.seqT {K : Frag} {H H' : Hp} {a : Addr} {xs : List V} (e : Same H H') (h : SqT K H a xs) : SqT K H' a xs := by
  rcases h with (h | ⟨o, h⟩) | h
  · exact .inl (.inl (e _ _ h))
  · exact .inl (.inr ⟨o, e _ _ h⟩)
  · exact .inr h
/-- a list -/
instance {α : Type} [Py α] : Py (List α) := ⟨fun K c G v l => ∃ a xs, v = .ref a ∧ xs.length ≤ sizeLine ∧ SqL K G a xs ∧ All2 (Py.rep K c G) xs l, by
  rintro K c G G' v l e ⟨a, xs, rfl, hz, hs, h⟩
  exact ⟨a, xs, rfl, hz, Same.seq e hs, All2.mono (fun _ _ => Py.mono e) h⟩⟩
abbrev Tup := PySem.W.Tup
/-- a tuple whose items are of one type -/
instance {α : Type} [Py α] : Py (Tup α) := ⟨fun K c G v l => ∃ a xs, v = .ref a ∧ xs.length ≤ sizeLine ∧ G a = some (.tup xs) ∧ All2 (Py.rep K c G) xs l.items, by
  rintro K c G G' v l e ⟨a, xs, rfl, hz, hs, h⟩
  exact ⟨a, xs, rfl, hz, e _ _ hs, All2.mono (fun _ _ => Py.mono e) h⟩⟩
/-- a pair -/
instance {α β : Type} [Py α] [Py β] : Py (α × β) := ⟨fun K c G v p => ∃ a x y, v = .ref a ∧ G a = some (.tup [x, y]) ∧ Py.rep K c G x p.1 ∧ Py.rep K c G y p.2, by
  rintro K c G G' v p e ⟨a, x, y, rfl, hs, h1, h2⟩
  exact ⟨a, x, y, rfl, e _ _ hs, Py.mono e h1, Py.mono e h2⟩⟩
/-- keys that are ints or texts; keys that are tuples of them -/
class KKey (κ : Type) [Py κ] where
  enc : κ → Key
  inj : ∀ {a b : κ}, enc a = enc b → a = b
  val : ∀ {K : Frag} {c : Cls} {G : Hp} {v : V} {k : κ}, Py.rep K c G v k → v = kV (enc k)
class TKey (κ : Type) [Py κ] where
  enc : κ → List Key
  inj : ∀ {a b : κ}, enc a = enc b → a = b
  val : ∀ {K : Frag} {c : Cls} {G : Hp} {v : V} {k : κ}, Py.rep K c G v k → ∃ b, v = .ref b ∧ G b = some (.tup ((enc k).map kV))
instance : KKey Int := ⟨fun i => Sum.inl i, fun h => Sum.inl.inj h, fun h => h⟩
instance : KKey Str := ⟨fun i => Sum.inr i, fun h => Sum.inr.inj h, fun h => h⟩
theorem inl_map_inj : ∀ {a b : List Int}, a.map (Sum.inl : Int → Key) = b.map Sum.inl → a = b
  | [], [], _ => rfl
  | [], _ :: _, h => by simp at h
  | _ :: _, [], h => by simp at h
  | x :: a, y :: b, h => by
    simp only [List.map_cons, List.cons.injEq] at h
    rw [Sum.inl.inj h.1, inl_map_inj h.2]
instance : TKey (Tup Int) where
  enc t := t.items.map Sum.inl
  inj := fun {a b} h => by
    cases a
    cases b
    exact congrArg PySem.W.Tup.mk (inl_map_inj h)
  val := fun {K c G v k} ⟨a, xs, e, _, h, hv⟩ => ⟨a, e, by
    rw [h, all2_int hv, List.map_map]
    rfl⟩
instance : TKey (Int × Int) where
  enc t := [Sum.inl t.1, Sum.inl t.2]
  inj := fun {a b} h => by
    simp only [List.cons.injEq, and_true] at h
    exact Prod.ext (Sum.inl.inj h.1) (Sum.inl.inj h.2)
  val := fun {K c G v k} ⟨a, x, y, e, h, h1, h2⟩ => ⟨a, e, by
    obtain rfl : x = .int k.1 := h1
    obtain rfl : y = .int k.2 := h2
    exact h⟩
/-- a dict by its entries in order: keys ints or texts | keys tuples -/
structure DK (κ α : Type) where
  kvs : List (κ × α)
structure DT (κ α : Type) where
  kvs : List (κ × α)
abbrev EntK (K : Frag) (c : Cls) (G : Hp) {κ α : Type} [Py κ] [KKey κ] [Py α] : Key × V → κ × α → Prop := fun p q => p.1 = KKey.enc q.1 ∧ Py.rep K c G p.2 q.2
abbrev EntT (K : Frag) (c : Cls) (G : Hp) {κ α : Type} [Py κ] [TKey κ] [Py α] : List Key × V → κ × α → Prop := fun p q => p.1 = TKey.enc q.1 ∧ Py.rep K c G p.2 q.2
theorem Rd.mono {G G' : Hp} {a : Addr} {u : HO} (e : Same G G') (h : Rd G a u) : Rd G' a u := by
  rcases h with h | ⟨o, h⟩
  · exact .inl (e _ _ h)
  · exact .inr ⟨o, e _ _ h⟩
instance {κ α : Type} [Py κ] [KKey κ] [Py α] : Py (DK κ α) := ⟨fun K c G v d => ∃ a vs, v = .ref a ∧ Rd G a (.dK vs) ∧ All2 (EntK K c G) vs d.kvs, by
  rintro K c G G' v l e ⟨a, xs, rfl, hs, h⟩
  exact ⟨a, xs, rfl, CT.Rd.mono e hs, All2.mono (fun _ _ r => ⟨r.1, Py.mono e r.2⟩) h⟩⟩
instance {κ α : Type} [Py κ] [TKey κ] [Py α] : Py (DT κ α) := ⟨fun K c G v d => ∃ a vs, v = .ref a ∧ G a = some (.dT vs) ∧ All2 (EntT K c G) vs d.kvs, by
  rintro K c G G' v l e ⟨a, xs, rfl, hs, h⟩
  exact ⟨a, xs, rfl, e _ _ hs, All2.mono (fun _ _ r => ⟨r.1, Py.mono e r.2⟩) h⟩⟩

/-! ### data of a def's own, that it changes: at an address, with a footprint -/
class Mu (α : Type) extends Py α where
  own : Frag → Cls → Hp → Hp → Addr → α → List Addr → Prop
  own_mono : ∀ {K : Frag} {c : Cls} {G G' H H' : Hp} {l : Addr} {x : α} {F : List Addr}, Same G G' → (∀ a ∈ F, H' a = H a) → own K c G H l x F → own K c G' H' l x F
  own_dom : ∀ {K : Frag} {c : Cls} {G H : Hp} {l : Addr} {x : α} {F : List Addr}, own K c G H l x F → ∀ a ∈ F, H a ≠ none
  freeze : ∀ {K : Frag} {c : Cls} {G G' H : Hp} {l : Addr} {x : α} {F : List Addr}, own K c G H l x F → Same G G' → (∀ a ∈ F, G' a = H a) → rep K c G' (.ref l) x

instance {α : Type} [Py α] : Mu (List α) where
  own K c G H l x F := F = [l] ∧ ∃ vs, H l = some (.lst vs) ∧ vs.length ≤ sizeLine ∧ All2 (Py.rep K c G) vs x
  own_mono := by
    rintro K c G G' H H' l x F e hF ⟨rfl, vs, h, hz, hv⟩
    exact ⟨rfl, vs, (hF l (by simp)).trans h, hz, All2.mono (fun _ _ => Py.mono e) hv⟩
  own_dom := by
    rintro K c G H l x F ⟨rfl, vs, h, _, _⟩ a ha
    rw [List.mem_singleton] at ha
    rw [ha, h]
    simp
  freeze := by
    rintro K c G G' H l x F ⟨rfl, vs, h, hz, hv⟩ e hF
    exact ⟨l, vs, rfl, hz, SqL.of ((hF l (by simp)).trans h), All2.mono (fun _ _ => Py.mono e) hv⟩
instance {κ α : Type} [Py κ] [KKey κ] [Py α] : Mu (DK κ α) where
  own K c G H l x F := F = [l] ∧ ∃ vs, H l = some (.dK vs) ∧ All2 (EntK K c G) vs x.kvs
  own_mono := by
    rintro K c G G' H H' l x F e hF ⟨rfl, vs, h, hv⟩
    exact ⟨rfl, vs, (hF l (by simp)).trans h, All2.mono (fun _ _ r => ⟨r.1, Py.mono e r.2⟩) hv⟩
  own_dom := by
    rintro K c G H l x F ⟨rfl, vs, h, _⟩ a ha
    rw [List.mem_singleton] at ha
    rw [ha, h]
    simp
  freeze := by
    rintro K c G G' H l x F ⟨rfl, vs, h, hv⟩ e hF
    exact ⟨l, vs, rfl, Or.inl ((hF l (by simp)).trans h), All2.mono (fun _ _ r => ⟨r.1, Py.mono e r.2⟩) hv⟩
instance {κ α : Type} [Py κ] [TKey κ] [Py α] : Mu (DT κ α) where
  own K c G H l x F := F = [l] ∧ ∃ vs, H l = some (.dT vs) ∧ All2 (EntT K c G) vs x.kvs
  own_mono := by
    rintro K c G G' H H' l x F e hF ⟨rfl, vs, h, hv⟩
    exact ⟨rfl, vs, (hF l (by simp)).trans h, All2.mono (fun _ _ r => ⟨r.1, Py.mono e r.2⟩) hv⟩
  own_dom := by
    rintro K c G H l x F ⟨rfl, vs, h, _⟩ a ha
    rw [List.mem_singleton] at ha
    rw [ha, h]
    simp
  freeze := by
    rintro K c G G' H l x F ⟨rfl, vs, h, hv⟩ e hF
    exact ⟨l, vs, rfl, (hF l (by simp)).trans h, All2.mono (fun _ _ r => ⟨r.1, Py.mono e r.2⟩) hv⟩

/-! ### what is known of the slots -/
inductive Bd : Type 1
  | no
  | fr {α : Type} [Py α] (x : α)
  | ow {α : Type} [Mu α] (x : α)
  | pa (l : Addr) {α : Type} [Mu α] (x : α)

/-- the base of a def: the frozen part and the heap at its entry, and what it may write of what stood -/
structure Base where
  G : Hp
  H : Hp
  W : List Addr

def BdAt (K : Frag) (c : Cls) (B : Base) (G H : Hp) (b : Bd) (o : Option V) (F : List Addr) : Prop :=
  match b with
  | .no => F = []
  | @Bd.fr α _ x => F = [] ∧ ∃ v, o = some v ∧ Py.rep (α := α) K c G v x
  | @Bd.ow α _ x => (∀ a ∈ F, G a = none ∧ B.H a = none) ∧ ∃ l, o = some (.ref l) ∧ Mu.own K c G H l x F
  | @Bd.pa l α _ x => (∀ a ∈ F, G a = none ∧ B.H a = none) ∧ o = some (.ref l) ∧ Mu.own K c G H l x F

structure Holds (K : Frag) (c : Cls) (B : Base) (G H : Hp) (Γ : List Bd) (σ : St) : Prop where
  g0 : Same B.G G
  h0 : ∀ a o, a ∉ B.W → B.H a = some o → H a = some o
  gh : Same G H
  fr : ∀ a, B.G a = none → B.H a ≠ none → G a = none
  dom : ∀ a, B.H a ≠ none → H a ≠ none
  len : σ.length = Γ.length
  sl : ∃ A : Nat → List Addr, (∀ i j, i ≠ j → ∀ a ∈ A i, a ∉ A j) ∧ ∀ i b, Γ[i]? = some b → ∃ o, σ[i]? = some o ∧ BdAt K c B G H b o (A i)

section
variable {K : Frag} {c : Cls} {B : Base} {G H G2 H2 : Hp} {Γ : List Bd} {σ : St}
theorem BdAt.mono {b : Bd} {o : Option V} {F : List Addr} (e : Ext G H G2 H2) (h : BdAt K c B G H b o F) : BdAt K c B G2 H2 b o F := by
  cases b with
  | no => exact h
  | @fr α _ x =>
    obtain ⟨h1, v, h2, h3⟩ := h
    exact ⟨h1, v, h2, Py.mono (α := α) e.g h3⟩
  | @ow α _ x =>
    obtain ⟨h1, l, h2, h3⟩ := h
    have hd := Mu.own_dom h3
    refine ⟨fun a ha => ⟨e.fr a (h1 a ha).1 (hd a ha), (h1 a ha).2⟩, l, h2, Mu.own_mono e.g (fun a ha => ?_) h3⟩
    cases q : H a with
    | none => exact absurd q (hd a ha)
    | some o => exact e.h a o q
  | @pa l α _ x =>
    obtain ⟨h1, h2, h3⟩ := h
    have hd := Mu.own_dom h3
    refine ⟨fun a ha => ⟨e.fr a (h1 a ha).1 (hd a ha), (h1 a ha).2⟩, h2, Mu.own_mono e.g (fun a ha => ?_) h3⟩
    cases q : H a with
    | none => exact absurd q (hd a ha)
    | some o => exact e.h a o q
theorem dom_mono {H H2 : Hp} (e : Same H H2) {a : Addr} (h : H a ≠ none) : H2 a ≠ none := by
  cases q : H a with
  | none => exact absurd q h
  | some o =>
    rw [e a o q]
    simp
theorem Holds.mono (h : Holds K c B G H Γ σ) (e : Ext G H G2 H2) : Holds K c B G2 H2 Γ σ := by
  obtain ⟨A, hA, hs⟩ := h.sl
  refine ⟨h.g0.trans e.g, fun a o w q => e.h a o (h.h0 a o w q), e.gh, fun a h1 h2 => e.fr a (h.fr a h1 h2) (h.dom a h2), fun a h1 => dom_mono e.h (h.dom a h1), h.len, A, hA, fun i b hb => ?_⟩
  obtain ⟨o, h1, h2⟩ := hs i b hb
  exact ⟨o, h1, h2.mono e⟩
/-- what a slot holds -/
theorem Holds.slot {i : Nat} {b : Bd} (h : Holds K c B G H Γ σ) (hb : Γ[i]? = some b) : ∃ o F, σ[i]? = some o ∧ BdAt K c B G H b o F := by
  obtain ⟨A, hA, hs⟩ := h.sl
  obtain ⟨o, h1, h2⟩ := hs i b hb
  exact ⟨o, A i, h1, h2⟩
theorem Holds.var {α : Type} [Py α] {i : Nat} {x : α} (h : Holds K c B G H Γ σ) (hb : Γ[i]? = some (.fr x)) : ∃ v, σ[i]? = some (some v) ∧ Py.rep K c G v x := by
  obtain ⟨o, F, h1, _, v, rfl, h3⟩ := h.slot hb
  exact ⟨v, h1, h3⟩
/-- a slot is forgotten, or set to frozen data -/
theorem Holds.set {α : Type} [Py α] {i : Nat} {x : α} {v : V} (h : Holds K c B G H Γ σ) (r : Py.rep K c G v x) : Holds K c B G H (Γ.set i (.fr x)) (σ.set i (some v)) := by
  obtain ⟨A, hA, hs⟩ := h.sl
  refine ⟨h.g0, h.h0, h.gh, h.fr, h.dom, by simp [h.len], fun j => if j = i then [] else A j, fun j k hjk a ha => ?_, fun j b hb => ?_⟩
  · by_cases hj : j = i
    · simp [hj] at ha
    · by_cases hk : k = i
      · simp [hk]
      · simp only [hj, hk, if_false] at ha ⊢
        exact hA j k hjk a ha
  · by_cases hj : j = i
    · subst hj
      have hl : j < Γ.length := by
        have := (List.getElem?_eq_some_iff.mp hb).1
        simpa using this
      rw [List.getElem?_set_self hl] at hb
      cases hb
      refine ⟨some v, by rw [List.getElem?_set_self (by rw [h.len]; exact hl)], ?_⟩
      simp only [if_true]
      exact ⟨rfl, v, rfl, r⟩
    · rw [List.getElem?_set_ne (Ne.symm hj)] at hb
      obtain ⟨o, h1, h2⟩ := hs j b hb
      refine ⟨o, by rw [List.getElem?_set_ne (Ne.symm hj)]; exact h1, ?_⟩
      simp only [hj, if_false]
      exact h2
theorem Holds.forget {i : Nat} {o : Option V} (h : Holds K c B G H Γ σ) : Holds K c B G H (Γ.set i .no) (σ.set i o) := by
  obtain ⟨A, hA, hs⟩ := h.sl
  refine ⟨h.g0, h.h0, h.gh, h.fr, h.dom, by simp [h.len], fun j => if j = i then [] else A j, fun j k hjk a ha => ?_, fun j b hb => ?_⟩
  · by_cases hj : j = i
    · simp [hj] at ha
    · by_cases hk : k = i
      · simp [hk]
      · simp only [hj, hk, if_false] at ha ⊢
        exact hA j k hjk a ha
  · by_cases hj : j = i
    · subst hj
      have hl : j < Γ.length := by
        have := (List.getElem?_eq_some_iff.mp hb).1
        simpa using this
      rw [List.getElem?_set_self hl] at hb
      cases hb
      refine ⟨o, by rw [List.getElem?_set_self (by rw [h.len]; exact hl)], ?_⟩
      simp only [if_true]
      show ([] : List Addr) = []
      rfl
    · rw [List.getElem?_set_ne (Ne.symm hj)] at hb
      obtain ⟨o, h1, h2⟩ := hs j b hb
      refine ⟨o, by rw [List.getElem?_set_ne (Ne.symm hj)]; exact h1, ?_⟩
      simp only [hj, if_false]
      exact h2
/-- the weaker knowledge: some slots unknown -/
theorem Holds.weak {Γ' : List Bd} (h : Holds K c B G H Γ σ) (hl : Γ'.length = Γ.length) (w : ∀ (i : Nat) (b : Bd), Γ'[i]? = some b → b = Bd.no ∨ Γ[i]? = some b) : Holds K c B G H Γ' σ := by
  classical
  obtain ⟨A, hA, hs⟩ := h.sl
  refine ⟨h.g0, h.h0, h.gh, h.fr, h.dom, h.len.trans hl.symm, fun j => if Γ'[j]? = some Bd.no then [] else A j, fun j k hjk a ha => ?_, fun j b hb => ?_⟩
  · by_cases hj : Γ'[j]? = some Bd.no
    · simp [hj] at ha
    · by_cases hk : Γ'[k]? = some Bd.no
      · simp [hk]
      · simp only [hj, hk, if_false] at ha ⊢
        exact hA j k hjk a ha
  · by_cases hj : Γ'[j]? = some Bd.no
    · rw [hj] at hb
      cases hb
      have hlt : j < σ.length := by
        have := (List.getElem?_eq_some_iff.mp hj).1
        rw [h.len]
        omega
      refine ⟨σ[j], by rw [List.getElem?_eq_getElem hlt], ?_⟩
      simp only [hj, if_true]
      show ([] : List Addr) = []
      rfl
    · rcases w j b hb with e | e
      · subst e
        exact absurd hb hj
      · obtain ⟨o, h1, h2⟩ := hs j b e
        refine ⟨o, h1, ?_⟩
        simp only [hj, if_false]
        exact h2
/-- a new object of the def's own -/
theorem Holds.newO {α : Type} [Mu α] {i : Nat} {x : α} {l : Addr} {F : List Addr} (h : Holds K c B G H Γ σ) (ex : Ext G H G2 H2) (e : Mu.own K c G2 H2 l x F) (hF : ∀ a ∈ F, G2 a = none ∧ H a = none) :
    Holds K c B G2 H2 (Γ.set i (.ow x)) (σ.set i (some (.ref l))) := by
  have h' := h.mono ex
  obtain ⟨A, hA, hs⟩ := h.sl
  refine ⟨h'.g0, h'.h0, h'.gh, h'.fr, h'.dom, by simp [h.len], fun j => if j = i then (if i < Γ.length then F else []) else (if j < Γ.length then A j else []), fun j k hjk a ha => ?_, fun j b hb => ?_⟩
  · have dm : ∀ j, j < Γ.length → ∀ a ∈ A j, H a ≠ none := fun j hl a ha => by
      obtain ⟨o, h1, h2⟩ := hs j Γ[j] (List.getElem?_eq_getElem hl)
      cases hb : Γ[j] with
      | no => rw [hb] at h2; rw [h2] at ha; cases ha
      | fr y => rw [hb] at h2; rw [h2.1] at ha; cases ha
      | ow y =>
        rw [hb] at h2
        obtain ⟨_, l', _, h3⟩ := h2
        exact Mu.own_dom h3 a ha
      | pa l y =>
        rw [hb] at h2
        obtain ⟨_, _, h3⟩ := h2
        exact Mu.own_dom h3 a ha
    by_cases hj : j = i
    · subst hj
      have hk : ¬ k = j := fun z => hjk z.symm
      simp only [if_true, hk, if_false] at ha ⊢
      by_cases hkl : k < Γ.length
      · simp only [hkl, if_true]
        by_cases hl : j < Γ.length
        · simp only [hl, if_true] at ha
          exact fun z => dm k hkl a z (hF a ha).2
        · simp [hl] at ha
      · simp [hkl]
    · by_cases hk : k = i
      · subst hk
        simp only [hj, if_false, if_true] at ha ⊢
        by_cases hjl : j < Γ.length
        · simp only [hjl, if_true] at ha
          by_cases hl : k < Γ.length
          · simp only [hl, if_true]
            exact fun z => dm j hjl a ha (hF a z).2
          · simp [hl]
        · simp [hjl] at ha
      · simp only [hj, hk, if_false] at ha ⊢
        by_cases hjl : j < Γ.length
        · simp only [hjl, if_true] at ha
          by_cases hkl : k < Γ.length
          · simp only [hkl, if_true]
            exact hA j k hjk a ha
          · simp [hkl]
        · simp [hjl] at ha
  · by_cases hj : j = i
    · subst hj
      have hl : j < Γ.length := by
        have := (List.getElem?_eq_some_iff.mp hb).1
        simpa using this
      rw [List.getElem?_set_self hl] at hb
      cases hb
      refine ⟨some (.ref l), by rw [List.getElem?_set_self (by rw [h.len]; exact hl)], ?_⟩
      simp only [if_true, hl]
      refine ⟨fun a ha => ⟨(hF a ha).1, ?_⟩, l, rfl, e⟩
      cases q : B.H a with
      | none => rfl
      | some o =>
        exact absurd (hF a ha).2 (h.dom a (by rw [q]; simp))
    · rw [List.getElem?_set_ne (Ne.symm hj)] at hb
      obtain ⟨o, h1, h2⟩ := hs j b hb
      refine ⟨o, by rw [List.getElem?_set_ne (Ne.symm hj)]; exact h1, ?_⟩
      have hl : j < Γ.length := (List.getElem?_eq_some_iff.mp hb).1
      simp only [hj, if_false, hl, if_true]
      exact h2.mono ex
/-- the object at l, of an owned slot's footprint, is written -/
theorem Holds.write {α : Type} [Mu α] {i : Nat} {x : α} {o : HO} (h : Holds K c B G H Γ σ) (hb : Γ[i]? = some (.ow x)) :
    ∃ l F, σ[i]? = some (some (.ref l)) ∧ Mu.own K c G H l x F ∧ (∀ a ∈ F, G a = none) ∧ ∀ (a : Addr) (y : α), a ∈ F → Mu.own K c G (upd H a o) l y F → Holds K c B G (upd H a o) (Γ.set i (.ow y)) σ := by
  obtain ⟨A, hA, hs⟩ := h.sl
  obtain ⟨_, h1, hF, l, rfl, hw⟩ := hs i _ hb
  refine ⟨l, A i, h1, hw, fun a ha => (hF a ha).1, fun a y ha hy => ?_⟩
  refine ⟨h.g0, fun b u w q => ?_, fun b u q => ?_, h.fr, fun b q => ?_, by simp [h.len], A, hA, fun j b hj => ?_⟩
  · have hne : b ≠ a := fun z => by
      subst z
      rw [(hF b ha).2] at q
      cases q
    rw [upd_ne hne]
    exact h.h0 b u w q
  · have hne : b ≠ a := fun z => by
      subst z
      rw [(hF b ha).1] at q
      cases q
    rw [upd_ne hne]
    exact h.gh b u q
  · by_cases hne : b = a
    · rw [hne, upd_same]; simp
    · rw [upd_ne hne]; exact h.dom b q
  · by_cases hji : j = i
    · subst hji
      have hl : j < Γ.length := (List.getElem?_eq_some_iff.mp hb).1
      rw [List.getElem?_set_self hl] at hj
      cases hj
      exact ⟨_, h1, hF, l, rfl, hy⟩
    · rw [List.getElem?_set_ne (Ne.symm hji)] at hj
      obtain ⟨u, q1, q2⟩ := hs j b hj
      refine ⟨u, q1, ?_⟩
      cases b with
      | no => exact q2
      | fr z => exact q2
      | ow z =>
        obtain ⟨q3, l', q4, q5⟩ := q2
        exact ⟨q3, l', q4, Mu.own_mono (Same.refl G) (fun d hd => upd_ne fun z => hA i j (Ne.symm hji) a ha (z ▸ hd)) q5⟩
      | pa l' z =>
        obtain ⟨q3, q4, q5⟩ := q2
        exact ⟨q3, q4, Mu.own_mono (Same.refl G) (fun d hd => upd_ne fun z => hA i j (Ne.symm hji) a ha (z ▸ hd)) q5⟩
/-- the object at l, of the footprint of a slot that holds the own thing at a told address, is written -/
theorem Holds.writeP {α β : Type} [Mu α] [Mu β] {i : Nat} {x : α} {l : Addr} {o : HO} (h : Holds K c B G H Γ σ) (hb : Γ[i]? = some (.pa l x)) :
    ∃ F, σ[i]? = some (some (.ref l)) ∧ Mu.own K c G H l x F ∧ (∀ a ∈ F, G a = none) ∧ ∀ (a : Addr) (y : β), a ∈ F → Mu.own K c G (upd H a o) l y F → Holds K c B G (upd H a o) (Γ.set i (.pa l y)) σ := by
  obtain ⟨A, hA, hs⟩ := h.sl
  obtain ⟨_, h1, hF, rfl, hw⟩ := hs i _ hb
  refine ⟨A i, h1, hw, fun a ha => (hF a ha).1, fun a y ha hy => ?_⟩
  refine ⟨h.g0, fun b u w q => ?_, fun b u q => ?_, h.fr, fun b q => ?_, by simp [h.len], A, hA, fun j b hj => ?_⟩
  · have hne : b ≠ a := fun z => by
      subst z
      rw [(hF b ha).2] at q
      cases q
    rw [upd_ne hne]
    exact h.h0 b u w q
  · have hne : b ≠ a := fun z => by
      subst z
      rw [(hF b ha).1] at q
      cases q
    rw [upd_ne hne]
    exact h.gh b u q
  · by_cases hne : b = a
    · rw [hne, upd_same]; simp
    · rw [upd_ne hne]; exact h.dom b q
  · by_cases hji : j = i
    · subst hji
      have hl : j < Γ.length := (List.getElem?_eq_some_iff.mp hb).1
      rw [List.getElem?_set_self hl] at hj
      cases hj
      exact ⟨_, h1, hF, rfl, hy⟩
    · rw [List.getElem?_set_ne (Ne.symm hji)] at hj
      obtain ⟨u, q1, q2⟩ := hs j b hj
      refine ⟨u, q1, ?_⟩
      cases b with
      | no => exact q2
      | fr z => exact q2
      | ow z =>
        obtain ⟨q3, l', q4, q5⟩ := q2
        exact ⟨q3, l', q4, Mu.own_mono (Same.refl G) (fun d hd => upd_ne fun z => hA i j (Ne.symm hji) a ha (z ▸ hd)) q5⟩
      | pa l' z =>
        obtain ⟨q3, q4, q5⟩ := q2
        exact ⟨q3, q4, Mu.own_mono (Same.refl G) (fun d hd => upd_ne fun z => hA i j (Ne.symm hji) a ha (z ▸ hd)) q5⟩
/-- the base with a greater frozen part -/
theorem Holds.rebase {G3 : Hp} (h : Holds K c B G H Γ σ) (e0 : Same B.G G3) (e : Same G3 G) : Holds K c { B with G := G3 } G H Γ σ :=
  ⟨e, h.h0, h.gh, fun a h1 h2 => h.fr a (e0.free h1) h2, h.dom, h.len, h.sl⟩
theorem Holds.unbase {G3 : Hp} (h : Holds K c { B with G := G3 } G H Γ σ) (e0 : Same B.G G3) (f0 : ∀ a, B.G a = none → B.H a ≠ none → G3 a = none) : Holds K c B G H Γ σ :=
  ⟨e0.trans h.g0, h.h0, h.gh, fun a h1 h2 => h.fr a (f0 a h1 h2) h2, h.dom, h.len, h.sl⟩
/-- an owned slot's thing grows by new addresses -/
theorem Holds.grow {α : Type} [Mu α] {i : Nat} {x y : α} {o : HO} {l : Addr} {F N : List Addr} (h : Holds K c B G H Γ σ) (hb : Γ[i]? = some (.ow x)) (ex : Ext G H G2 H2) (hN : ∀ a ∈ N, G2 a = none ∧ H a = none)
    (hl : σ[i]? = some (some (.ref l))) (hx : ∀ F', Mu.own K c G H l x F' → F' = F) (a0 : Addr) (h0 : a0 ∈ F) (hy : Mu.own K c G2 (upd H2 a0 o) l y (F ++ N)) : Holds K c B G2 (upd H2 a0 o) (Γ.set i (.ow y)) σ := by
  have h2 := h.mono ex
  obtain ⟨A, hA, hs⟩ := h.sl
  obtain ⟨_, h1, hF, l', rfl, hw⟩ := hs i _ hb
  rw [hl] at h1
  cases h1
  have eF := hx _ hw
  have a0i : a0 ∈ A i := by rw [eF]; exact h0
  have ga0 : G2 a0 = none := ex.fr a0 (hF a0 a0i).1 (Mu.own_dom hw a0 a0i)
  have il : i < Γ.length := (List.getElem?_eq_some_iff.mp hb).1
  have dm : ∀ j, j < Γ.length → ∀ a ∈ A j, H a ≠ none := fun j hjl a ha => by
    obtain ⟨o, q1, q2⟩ := hs j Γ[j] (List.getElem?_eq_getElem hjl)
    cases hbj : Γ[j] with
    | no => rw [hbj] at q2; rw [q2] at ha; cases ha
    | fr y => rw [hbj] at q2; rw [q2.1] at ha; cases ha
    | ow y =>
      rw [hbj] at q2
      obtain ⟨_, l', _, h3⟩ := q2
      exact Mu.own_dom h3 a ha
    | pa l y =>
      rw [hbj] at q2
      obtain ⟨_, _, h3⟩ := q2
      exact Mu.own_dom h3 a ha
  refine ⟨h2.g0, fun b u w q => ?_, fun b u q => ?_, h2.fr, fun b q => ?_, by simp [h.len], fun j => if j = i then F ++ N else (if j < Γ.length then A j else []), fun j k hjk a ha => ?_, fun j b hj => ?_⟩
  · have hne : b ≠ a0 := fun z => by
      subst z
      rw [(hF b a0i).2] at q
      cases q
    rw [upd_ne hne]
    exact h2.h0 b u w q
  · have hne : b ≠ a0 := fun z => by
      subst z
      rw [ga0] at q
      cases q
    rw [upd_ne hne]
    exact h2.gh b u q
  · by_cases hne : b = a0
    · rw [hne, upd_same]; simp
    · rw [upd_ne hne]; exact h2.dom b q
  · by_cases hj : j = i
    · subst hj
      have hk : ¬ k = j := fun z => hjk z.symm
      simp only [if_true, hk, if_false] at ha ⊢
      by_cases hkl : k < Γ.length
      · simp only [hkl, if_true]
        rcases List.mem_append.mp ha with ha | ha
        · exact hA j k hjk a (by rw [eF]; exact ha)
        · exact fun z => dm k hkl a z (hN a ha).2
      · simp [hkl]
    · by_cases hk : k = i
      · subst hk
        simp only [hj, if_false, if_true] at ha ⊢
        by_cases hjl : j < Γ.length
        · simp only [hjl, if_true] at ha
          intro z
          rcases List.mem_append.mp z with z | z
          · exact hA j k hjk a ha (by rw [eF]; exact z)
          · exact dm j hjl a ha (hN a z).2
        · simp [hjl] at ha
      · simp only [hj, hk, if_false] at ha ⊢
        by_cases hjl : j < Γ.length
        · simp only [hjl, if_true] at ha
          by_cases hkl : k < Γ.length
          · simp only [hkl, if_true]
            exact hA j k hjk a ha
          · simp [hkl]
        · simp [hjl] at ha
  · by_cases hji : j = i
    · subst hji
      rw [List.getElem?_set_self il] at hj
      cases hj
      refine ⟨_, hl, ?_⟩
      simp only [if_true]
      refine ⟨fun a ha => ?_, l, rfl, hy⟩
      rcases List.mem_append.mp ha with ha | ha
      · have ha' : a ∈ A j := by rw [eF]; exact ha
        exact ⟨ex.fr a (hF a ha').1 (Mu.own_dom hw a ha'), (hF a ha').2⟩
      · refine ⟨(hN a ha).1, ?_⟩
        cases q : B.H a with
        | none => rfl
        | some o => exact absurd (hN a ha).2 (h.dom a (by rw [q]; simp))
    · rw [List.getElem?_set_ne (Ne.symm hji)] at hj
      obtain ⟨u, q1, q2⟩ := hs j b hj
      refine ⟨u, q1, ?_⟩
      have hjl : j < Γ.length := (List.getElem?_eq_some_iff.mp hj).1
      simp only [hji, if_false, hjl, if_true]
      have q3 := q2.mono ex
      cases b with
      | no => exact q3
      | fr z => exact q3
      | ow z =>
        obtain ⟨q3, l', q4, q5⟩ := q3
        exact ⟨q3, l', q4, Mu.own_mono (Same.refl _) (fun d hd => upd_ne fun z => hA i j (Ne.symm hji) a0 a0i (z ▸ hd)) q5⟩
      | pa l' z =>
        obtain ⟨q3, q4, q5⟩ := q3
        exact ⟨q3, q4, Mu.own_mono (Same.refl _) (fun d hd => upd_ne fun z => hA i j (Ne.symm hji) a0 a0i (z ▸ hd)) q5⟩
/-- an owned slot is frozen -/
theorem Holds.freeze {α : Type} [Mu α] {i : Nat} {x : α} (h : Holds K c B G H Γ σ) (hb : Γ[i]? = some (.ow x)) :
    ∃ G2, Same G G2 ∧ Holds K c B G2 H (Γ.set i (.fr x)) σ := by
  classical
  obtain ⟨A, hA, hs⟩ := h.sl
  obtain ⟨_, h1, hF, l, rfl, hw⟩ := hs i _ hb
  have hd := Mu.own_dom hw
  have s1 : Same G (fun a => if a ∈ A i then H a else G a) := fun a o q => by
    by_cases ha : a ∈ A i
    · rw [(hF a ha).1] at q; cases q
    · simp only [ha, if_false]; exact q
  have s2 : Same (fun a => if a ∈ A i then H a else G a) H := fun a o q => by
    by_cases ha : a ∈ A i
    · simp only [ha, if_true] at q; exact q
    · simp only [ha, if_false] at q; exact h.gh a o q
  have nf : ∀ a, B.H a ≠ none → a ∉ A i := fun a q ha => by
    exact q (hF a ha).2
  refine ⟨fun a => if a ∈ A i then H a else G a, s1, h.g0.trans s1, h.h0, s2, fun a q1 q2 => ?_, h.dom, by simp [h.len], fun j => if j = i then [] else A j, fun j k hjk a ha => ?_, fun j b hj => ?_⟩
  · simp only [nf a q2, if_false]; exact h.fr a q1 q2
  · by_cases hj : j = i
    · simp [hj] at ha
    · by_cases hk : k = i
      · simp [hk]
      · simp only [hj, hk, if_false] at ha ⊢
        exact hA j k hjk a ha
  · by_cases hji : j = i
    · subst hji
      have hl : j < Γ.length := (List.getElem?_eq_some_iff.mp hb).1
      rw [List.getElem?_set_self hl] at hj
      cases hj
      refine ⟨_, h1, ?_⟩
      simp only [if_true]
      exact ⟨rfl, _, rfl, Mu.freeze hw s1 fun a ha => by simp only [ha, if_true]⟩
    · rw [List.getElem?_set_ne (Ne.symm hji)] at hj
      obtain ⟨u, q1, q2⟩ := hs j b hj
      refine ⟨u, q1, ?_⟩
      simp only [hji, if_false]
      cases b with
      | no => exact q2
      | @fr β _ z =>
        obtain ⟨q3, v, q4, q5⟩ := q2
        exact ⟨q3, v, q4, Py.mono (α := β) s1 q5⟩
      | ow z =>
        obtain ⟨q3, l', q4, q5⟩ := q2
        refine ⟨fun a ha => ⟨?_, (q3 a ha).2⟩, l', q4, Mu.own_mono s1 (fun _ _ => rfl) q5⟩
        have : a ∉ A i := fun z => hA j i hji a ha z
        simp only [this, if_false]
        exact (q3 a ha).1
      | pa l' z =>
        obtain ⟨q3, q4, q5⟩ := q2
        refine ⟨fun a ha => ⟨?_, (q3 a ha).2⟩, q4, Mu.own_mono s1 (fun _ _ => rfl) q5⟩
        have : a ∉ A i := fun z => hA j i hji a ha z
        simp only [this, if_false]
        exact (q3 a ha).1
end

/-! ### expressions -/
/-- the weakest reading of an expression, of a test, of arguments, of statements -/
def tEX (X : Cx) (e : Expr) : TE := fun σ H Q => ∀ (pins : List (Addr × Obj)) (s : Shared), Inv X pins σ H s → wpAny (model X.prog X.w) X.A (eval e X.env) (EP X pins σ Q) X.xe s
def tTX (X : Cx) (e : Expr) : TT := fun σ H Q => ∀ (pins : List (Addr × Obj)) (s : Shared), Inv X pins σ H s → wpAny (model X.prog X.w) X.A (isTrue e X.env (eval e X.env)) (TP X pins σ Q) X.xe s
def tWX (X : Cx) (e : Expr) : TT := fun σ H Q => ∀ (whole : Sem Value) (pins : List (Addr × Obj)) (s : Shared), Inv X pins σ H s → wpAny (model X.prog X.w) X.A (isTrue e X.env whole) (TP X pins σ Q) X.xe s
def tAX (X : Cx) (es : List Expr) : TA := fun σ H Q => ∀ (pos : Pos) (pins : List (Addr × Obj)) (s : Shared), Inv X pins σ H s → wpAny (model X.prog X.w) X.A (spliced (backTo pos (starEach es X.env))) (AP X pins σ Q) X.xe s
def tSX (X : Cx) (sts : List Stmt) : TS := fun D σ H => ∀ (pins : List (Addr × Obj)) (s : Shared), Inv X pins σ H s → wpAny (model X.prog X.w) X.A (execs sts X.env) (SP X pins D) X.xe s
def tS1 (X : Cx) (st : Stmt) : TS := fun D σ H => ∀ (pins : List (Addr × Obj)) (s : Shared), Inv X pins σ H s → wpAny (model X.prog X.w) X.A (exec st X.env) (SP X pins D) X.xe s
section
variable {X : Cx} {e : Expr} {es : List Expr} {st : Stmt} {sts : List Stmt} {σ : St} {H : Hp}
theorem toE : PE X e (tEX X e) := ⟨fun pins s _ _ _ I h => h pins s I⟩
theorem toT : PT X e (tTX X e) := ⟨fun pins s _ _ _ I h => h pins s I⟩
theorem toW : PW X e (tWX X e) := ⟨fun w pins s _ _ _ I h => h w pins s I⟩
theorem toA : PA X es (tAX X es) := ⟨fun p pins s _ _ _ I h => h p pins s I⟩
theorem toS : PSs X sts (tSX X sts) := ⟨fun pins s _ _ _ I h => h pins s I⟩
theorem to1 : PS X st (tS1 X st) := ⟨fun pins s _ _ _ I h => h pins s I⟩
theorem ofE {t : TE} {Q : VK} (p : PE X e t) (h : t σ H Q) : tEX X e σ H Q := fun pins s I => p.run pins s σ H Q I h
theorem ofT {t : TT} {Q : Bool → Hp → Prop} (p : PT X e t) (h : t σ H Q) : tTX X e σ H Q := fun pins s I => p.run pins s σ H Q I h
theorem ofW {t : TT} {Q : Bool → Hp → Prop} (p : PW X e t) (h : t σ H Q) : tWX X e σ H Q := fun w pins s I => p.run w pins s σ H Q I h
theorem ofA {t : TA} {Q : List V → Hp → Prop} (p : PA X es t) (h : t σ H Q) : tAX X es σ H Q := fun pos pins s I => p.run pos pins s σ H Q I h
theorem ofS {t : TS} {D : Ends} (p : PSs X sts t) (h : t D σ H) : tSX X sts D σ H := fun pins s I => p.run pins s σ H D I h
theorem of1 {t : TS} {D : Ends} (p : PS X st t) (h : t D σ H) : tS1 X st D σ H := fun pins s I => p.run pins s σ H D I h
end

/-- e computes m: where m has a value, e has it -/
def EX (X : Cx) (c : Cls) (Γ : List Bd) (e : Expr) {α : Type} [Py α] (m : Option α) : Prop :=
  ∀ (B : Base) (σ : St) (G H : Hp), CT.Holds X.K c B G H Γ σ → ∀ x, m = some x → ∀ Q : VK, (∀ v G2 H2, Ext G H G2 H2 → Py.rep X.K c G2 v x → Q v H2) → tEX X e σ H Q
/-- .. as a new object of the def's own -/
def EO (X : Cx) (c : Cls) (Γ : List Bd) (e : Expr) {α : Type} [Mu α] (m : Option α) : Prop :=
  ∀ (B : Base) (σ : St) (G H : Hp), CT.Holds X.K c B G H Γ σ → ∀ x, m = some x → ∀ Q : VK, (∀ l F G2 H2, Ext G H G2 H2 → Mu.own X.K c G2 H2 l x F → (∀ a ∈ F, G2 a = none ∧ H a = none) → Q (.ref l) H2) → tEX X e σ H Q
/-- e as a test -/
def ET (X : Cx) (c : Cls) (Γ : List Bd) (e : Expr) (m : Option Bool) : Prop :=
  ∀ (B : Base) (σ : St) (G H : Hp), CT.Holds X.K c B G H Γ σ → ∀ x, m = some x → ∀ Q : Bool → Hp → Prop, (∀ G2 H2, Ext G H G2 H2 → Q x H2) → tTX X e σ H Q
/-- .. whatever its whole is -/
def EW (X : Cx) (c : Cls) (Γ : List Bd) (e : Expr) (m : Option Bool) : Prop :=
  ∀ (B : Base) (σ : St) (G H : Hp), CT.Holds X.K c B G H Γ σ → ∀ x, m = some x → ∀ Q : Bool → Hp → Prop, (∀ G2 H2, Ext G H G2 H2 → Q x H2) → tWX X e σ H Q

/-! ### arguments -/
class PyA (δ : Type) where
  rep : Frag → Cls → Hp → List V → δ → Prop
  mono : ∀ {K : Frag} {c : Cls} {G G' : Hp} {vs : List V} {x : δ}, Same G G' → rep K c G vs x → rep K c G' vs x
  bds : δ → List Bd
  at' : ∀ {K : Frag} {c : Cls} {G : Hp} {vs : List V} {x : δ}, rep K c G vs x → vs.length = (bds x).length ∧ ∀ (B : Base) (H : Hp) (i : Nat) (b : Bd), (bds x)[i]? = some b → ∃ v, vs[i]? = some v ∧ BdAt K c B G H b (some v) []
instance : PyA Unit where
  rep _ _ _ vs _ := vs = []
  mono _ h := h
  bds _ := []
  at' := fun h => ⟨by rw [h]; rfl, fun B H i b hb => by simp at hb⟩
instance {α δ : Type} [Py α] [PyA δ] : PyA (α × δ) where
  rep K c G vs p := ∃ v r, vs = v :: r ∧ Py.rep K c G v p.1 ∧ PyA.rep K c G r p.2
  mono := by
    rintro K c G G' vs p e ⟨v, r, rfl, h1, h2⟩
    exact ⟨v, r, rfl, Py.mono e h1, PyA.mono e h2⟩
  bds p := .fr p.1 :: PyA.bds p.2
  at' := by
    rintro K c G vs p ⟨v, r, rfl, h1, h2⟩
    obtain ⟨hl, ha⟩ := PyA.at' h2
    refine ⟨by simp [hl], fun B H i b hb => ?_⟩
    cases i with
    | zero =>
      simp at hb
      subst hb
      exact ⟨v, rfl, rfl, v, rfl, h1⟩
    | succ i =>
      simp at hb
      obtain ⟨u, q1, q2⟩ := ha B H i b hb
      exact ⟨u, by simpa using q1, q2⟩
def EA (X : Cx) (c : Cls) (Γ : List Bd) (es : List Expr) {δ : Type} [PyA δ] (m : Option δ) : Prop :=
  ∀ (B : Base) (σ : St) (G H : Hp), CT.Holds X.K c B G H Γ σ → ∀ x, m = some x → ∀ Q : List V → Hp → Prop, (∀ vs G2 H2, Ext G H G2 H2 → PyA.rep X.K c G2 vs x → Q vs H2) → tAX X es σ H Q

/-! ### statements -/
inductive Oc (S L ρ : Type)
  | nx (s : S) | ct (s : L) | bk (s : L) | rt (r : ρ)
def Fin {S L ρ : Type} [Py ρ] (K : Frag) (c : Cls) (B : Base) (D : Ends) (Γn : S → List Bd) (Γl : L → List Bd) : Oc S L ρ → Prop
  | .nx s => ∀ σ G H, CT.Holds K c B G H (Γn s) σ → D.nx σ H
  | .ct s => ∀ σ G H, CT.Holds K c B G H (Γl s) σ → D.ct σ H
  | .bk s => ∀ σ G H, CT.Holds K c B G H (Γl s) σ → D.bk σ H
  | .rt r => ∀ v G H Γ σ, CT.Holds K c B G H Γ σ → Py.rep K c G v r → D.rt v H
def SX (X : Cx) (c : Cls) (Γ : List Bd) (sts : List Stmt) {S L ρ : Type} [Py ρ] (m : Option (Oc S L ρ)) (Γn : S → List Bd) (Γl : L → List Bd) : Prop :=
  ∀ (B : Base) (σ : St) (G H : Hp), CT.Holds X.K c B G H Γ σ → ∀ o, m = some o → ∀ D : Ends, Fin X.K c B D Γn Γl o → tSX X sts D σ H
def S1 (X : Cx) (c : Cls) (Γ : List Bd) (st : Stmt) {S L ρ : Type} [Py ρ] (m : Option (Oc S L ρ)) (Γn : S → List Bd) (Γl : L → List Bd) : Prop :=
  ∀ (B : Base) (σ : St) (G H : Hp), CT.Holds X.K c B G H Γ σ → ∀ o, m = some o → ∀ D : Ends, Fin X.K c B D Γn Γl o → tS1 X st D σ H
def Oc.seq {S S' L ρ : Type} (k : S → Option (Oc S' L ρ)) : Oc S L ρ → Option (Oc S' L ρ)
  | .nx s => k s
  | .ct s => some (.ct s)
  | .bk s => some (.bk s)
  | .rt r => some (.rt r)

section
variable {X : Cx} {c : Cls} {Γ : List Bd} {e a b : Expr} {es : List Expr} {pos : Pos} {α β γ : Type} [Py α] [Py β] [Py γ]
theorem bind_some' {α β : Type} {m : Option α} {f : α → Option β} {y : β} (h : m.bind f = some y) : ∃ x, m = some x ∧ f x = some y := by
  cases m with
  | none => cases h
  | some x => exact ⟨x, rfl, h⟩
/-- an owned thing as frozen data -/
theorem EO.ex {α : Type} [Mu α] {m : Option α} (h : EO X c Γ e m) : EX X c Γ e m := by
  classical
  intro B σ G H hh x hx Q k
  refine h B σ G H hh x hx Q fun l F G2 H2 ex hw hF => ?_
  have hd := Mu.own_dom hw
  have s1 : Same G2 (fun a => if a ∈ F then H2 a else G2 a) := fun a o q => by
    by_cases ha : a ∈ F
    · rw [(hF a ha).1] at q; cases q
    · simp only [ha, if_false]; exact q
  refine k (.ref l) (fun a => if a ∈ F then H2 a else G2 a) H2 ⟨ex.g.trans s1, ex.h, fun a o q => ?_, fun a q1 q2 => ?_⟩ (Mu.freeze hw s1 fun a ha => by simp only [ha, if_true])
  · by_cases ha : a ∈ F
    · simp only [ha, if_true] at q; exact q
    · simp only [ha, if_false] at q; exact ex.gh a o q
  · have ha : a ∉ F := fun z => q2 (hF a z).2
    simp only [ha, if_false]
    exact ex.fr a q1 q2
theorem ex_var {i : Nat} {x : Str} {y : α} (hN : X.N[i]? = some x) (hv : Vis X.env.scope x) (hb : Γ[i]? = some (.fr y)) (hd : (x == ("__debug__" : Str)) = false := by decide) (hcd : (x == ("__classdict__" : Str)) = false := by decide) :
    EX X c Γ (.Name x pos) (some y) := by
  intro B σ G H hh z hz Q k
  cases hz
  obtain ⟨v, h1, h2⟩ := hh.var hb
  exact ofE (pe_var hN hv hd hcd) ⟨v, h1, k v G H (Ext.refl hh.gh) h2⟩
theorem ex_int {i : Int} {j : Nat} : EX X c Γ (.Constant (.int i) j pos) (some i) := by
  intro B σ G H hh z hz Q k
  cases hz
  exact ofE pe_int (k _ G H (Ext.refl hh.gh) rfl)
theorem ex_bl {i : Bool} {j : Nat} : EX X c Γ (.Constant (.bool i) j pos) (some i) := by
  intro B σ G H hh z hz Q k
  cases hz
  exact ofE pe_bl (k _ G H (Ext.refl hh.gh) rfl)
theorem ex_str {i : Str} {j : Nat} : EX X c Γ (.Constant (.str i) j pos) (some i) := by
  intro B σ G H hh z hz Q k
  cases hz
  exact ofE pe_str (k _ G H (Ext.refl hh.gh) rfl)
theorem ex_non {j : Nat} : EX X c Γ (.Constant .none j pos) (some ()) := by
  intro B σ G H hh z hz Q k
  cases hz
  exact ofE pe_non (k _ G H (Ext.refl hh.gh) rfl)
theorem ex_nonO {j : Nat} : EX X c Γ (.Constant .none j pos) (some (none : Option α)) := by
  intro B σ G H hh z hz Q k
  cases hz
  exact ofE pe_non (k _ G H (Ext.refl hh.gh) rfl)
theorem ex_some {m : Option α} (h : EX X c Γ e m) : EX X c Γ e (m.map some) := by
  intro B σ G H hh z hz Q k
  cases m with
  | none => cases hz
  | some x =>
    cases hz
    exact h B σ G H hh x rfl Q fun v G2 H2 ex r => k v G2 H2 ex r
/-- a module's constant that is an int -/
theorem ex_globI {x : Str} {i : Int} {t : Tok} (hg : Gl X x) (hm : X.mg x = some (.int i t)) (hd : (x == ("__debug__" : Str)) = false := by decide) : EX X c Γ (.Name x pos) (some i) := by
  intro B σ G H hh z hz Q k
  cases hz
  exact ofE (pe_glob (v := .int i) hg hm ⟨_, rfl⟩ hd) (k _ G H (Ext.refl hh.gh) rfl)

/-- a two-place operation, by what it does on values -/
def Op2 (X : Cx) (c : Cls) (r : R2) {α β γ : Type} [Py α] [Py β] [Py γ] (f : α → β → Option γ) : Prop :=
  ∀ (x : α) (y : β) (z : γ) (v u : V) (G H : Hp) (Q : VK), Same G H → Py.rep X.K c G v x → Py.rep X.K c G u y → f x y = some z → (∀ w G2 H2, Ext G H G2 H2 → Py.rep X.K c G2 w z → Q w H2) → r v u H Q
theorem run2 {r : R2} {f : α → β → Option γ} (hf : Op2 X c r f) {ma : Option α} {mb : Option β} (ha : EX X c Γ a ma) (hb : EX X c Γ b mb)
    {B : Base} {σ : St} {G H : Hp} (hh : CT.Holds X.K c B G H Γ σ) {z : γ} (hz : (ma.bind fun x => mb.bind fun y => f x y) = some z) {Q : VK} (k : ∀ v G2 H2, Ext G H G2 H2 → Py.rep X.K c G2 v z → Q v H2) :
    tOp r (tEX X a) (tEX X b) σ H Q := by
  obtain ⟨x, hx, hz⟩ := bind_some' hz
  obtain ⟨y, hy, hz⟩ := bind_some' hz
  refine ha B σ G H hh x hx _ fun v G1 H1 e1 r1 => hb B σ G1 H1 (hh.mono e1) y hy _ fun u G2 H2 e2 r2 => ?_
  exact hf x y z v u G2 H2 Q e2.gh (Py.mono e2.g r1) r2 hz fun w G3 H3 e3 r3 => k w G3 H3 ((e1.trans e2).trans e3) r3
theorem ex_op {op : Operator} {r : R2} {f : α → β → Option γ} (ho : OpR X (binaryOp op) r) (hf : Op2 X c r f) {ma : Option α} {mb : Option β} (ha : EX X c Γ a ma) (hb : EX X c Γ b mb) :
    EX X c Γ (.BinOp a op b pos) (ma.bind fun x => mb.bind fun y => f x y) := fun B σ G H hh z hz Q k => ofE (pe_op ho toE toE) (run2 hf ha hb hh hz k)
theorem ex_cmp {op : CmpOp} {r : R2} {f : α → β → Option Bool} (ho : OpR X (compareOp op) r) (hf : Op2 X c r f) {ma : Option α} {mb : Option β} (ha : EX X c Γ a ma) (hb : EX X c Γ b mb) (hm : behindInMarks op b = false) :
    EX X c Γ (.Compare a [op] [b] pos) (ma.bind fun x => mb.bind fun y => f x y) := fun B σ G H hh z hz Q k => ofE (pe_cmpR ho toE toE hm) (run2 hf ha hb hh hz k)
theorem et_cmp {op : CmpOp} {r : R2} {f : α → β → Option Bool} (ho : OpR X (compareOp op) r) (hf : Op2 X c r f) {ma : Option α} {mb : Option β} (ha : EX X c Γ a ma) (hb : EX X c Γ b mb) (hm : behindInMarks op b = false) :
    ET X c Γ (.Compare a [op] [b] pos) (ma.bind fun x => mb.bind fun y => f x y) := fun B σ G H hh z hz Q k => by
  refine ofT (pt_cmpR ho toE toE hm) ?_
  refine run2 hf ha hb hh hz (Q := fun x H' => ∃ k, x = .bl k ∧ Q k H') fun v G2 H2 ex r => ⟨z, r, k G2 H2 ex⟩
end
end CT

end
/-! ## Cert2.lean -/
section
set_option Elab.async false
set_option linter.all false
set_option maxRecDepth 100000
set_option maxHeartbeats 4000000
/-! Certified translation: statements, loops, comprehensions, calls. -/
namespace CT
open PySem L2

/-! ### slots forgotten -/
inductive Weak : List Bd → List Bd → Prop
  | nil : Weak [] []
  | s {b : Bd} {Γ Γ' : List Bd} (h : Weak Γ Γ') : Weak (b :: Γ) (b :: Γ')
  | d {b : Bd} {Γ Γ' : List Bd} (h : Weak Γ Γ') : Weak (b :: Γ) (.no :: Γ')
theorem Weak.len {Γ Γ' : List Bd} (w : Weak Γ Γ') : Γ'.length = Γ.length := by
  induction w with
  | nil => rfl
  | s _ ih => simp [ih]
  | d _ ih => simp [ih]
theorem Weak.at' {Γ Γ' : List Bd} (w : Weak Γ Γ') : ∀ (i : Nat) (b : Bd), Γ'[i]? = some b → b = Bd.no ∨ Γ[i]? = some b := by
  induction w with
  | nil => intro i b h; simp at h
  | s _ ih =>
    intro i b h
    cases i with
    | zero => simp at h; subst h; right; rfl
    | succ i => simp at h ⊢; exact ih i b h
  | d _ ih =>
    intro i b h
    cases i with
    | zero => simp at h; left; exact h.symm
    | succ i => simp at h ⊢; exact ih i b h
theorem Weak.refl : ∀ Γ : List Bd, Weak Γ Γ
  | [] => .nil
  | _ :: Γ => .s (Weak.refl Γ)
theorem Holds.wk {K : Frag} {c : Cls} {B : Base} {G H : Hp} {Γ Γ' : List Bd} {σ : L2.St} (h : CT.Holds K c B G H Γ σ) (w : Weak Γ Γ') : CT.Holds K c B G H Γ' σ := h.weak w.len w.at'

section
variable {X : Cx} {c : Cls} {B : Base} {Γ Γ1 : List Bd} {e a b : Expr} {es : List Expr} {rest : List Stmt} {pos : Pos} {α β γ : Type} [Py α] [Py β] [Py γ]
  {S S' L ρ : Type} [Py ρ] {Γn : S → List Bd} {Γl : L → List Bd}

/-! ### blocks -/
theorem sx_nil {s : S} (w : Weak Γ (Γn s)) : SX X c Γ [] (ρ := ρ) (some (.nx s)) Γn Γl := by
  intro B σ G H hh o ho D hf
  cases ho
  exact ofS pss_nil (hf σ G H (hh.wk w))
theorem sx_never {sts : List Stmt} : SX X c Γ sts (S := S) (L := L) (ρ := ρ) none Γn Γl := by
  intro B σ G H hh o ho
  cases ho
theorem sx_wk {sts : List Stmt} {m : Option (Oc S L ρ)} (w : Weak Γ Γ1) (h : SX X c Γ1 sts m Γn Γl) : SX X c Γ sts m Γn Γl := fun B σ G H hh o ho D hf => h B σ G H (hh.wk w) o ho D hf
theorem fin_seq {Γs : S' → List Bd} {k : S' → Option (Oc S L ρ)} {st : Stmt} (hr : ∀ s, SX X c (Γs s) rest (k s) Γn Γl) {o' : Oc S' L ρ} {o : Oc S L ρ} (h : Oc.seq k o' = some o) {D : Ends} (hf : Fin X.K c B D Γn Γl o) :
    Fin X.K c B { D with nx := tSX X rest D } Γs Γl o' := by
  cases o' with
  | nx s => exact fun σ G H hh => hr s B σ G H hh o h D hf
  | ct s => cases h; exact hf
  | bk s => cases h; exact hf
  | rt r => cases h; exact hf
/-- a statement, then the rest -/
theorem sx_seq {st : Stmt} {Γs : S' → List Bd} {m : Option (Oc S' L ρ)} {k : S' → Option (Oc S L ρ)} (h : S1 X c Γ st m Γs Γl) (hr : ∀ s, SX X c (Γs s) rest (k s) Γn Γl) : SX X c Γ (st :: rest) (m.bind (Oc.seq k)) Γn Γl := by
  intro B σ G H hh o ho D hf
  obtain ⟨o', h1, h2⟩ := bind_some' ho
  refine ofS (pss_cons to1 toS) ?_
  exact h B σ G H hh o' h1 _ (fin_seq (st := st) hr h2 hf)
/-- the last statement -/
theorem sx_one {st : Stmt} {m : Option (Oc S L ρ)} (h : S1 X c Γ st m Γn Γl) : SX X c Γ [st] m Γn Γl := by
  intro B σ G H hh o ho D hf
  refine ofS (pss_one to1) ?_
  exact h B σ G H hh o ho D hf
/-- name = e -/
theorem sx_set {i : Nat} {x : Str} {p : Pos} {m : Option α} {k : α → Option (Oc S L ρ)} (hN : X.N.Nodup) (hi : X.N[i]? = some x) (hl : Loc X.env.scope x) (he : EX X c Γ e m) (hr : ∀ x, SX X c (Γ.set i (.fr x)) rest (k x) Γn Γl)
    (hs : swapsWith e (some (.Name x p)) pos.line X.env = pure false := by rfl) (hf : X.fn x = true ∨ X.env.scope.names.lookup x = some .local := by first | exact .inl rfl | exact .inr rfl) :
    SX X c Γ (.Assign [.Name x p] e pos :: rest) (m.bind k) Γn Γl := by
  intro B σ G H hh o ho D hfin
  obtain ⟨y, hy, hk⟩ := bind_some' ho
  refine ofS (pss_cons (ps_set hN hi hl toE hs hf) toS) ?_
  refine he B σ G H hh y hy _ fun v G2 H2 ex r => ?_
  exact hr y B _ G2 H2 ((hh.mono ex).set r) o hk D hfin
/-- name = a new thing of the def's own -/
theorem sx_setO {α : Type} [Mu α] {i : Nat} {x : Str} {p : Pos} {m : Option α} {k : α → Option (Oc S L ρ)} (hN : X.N.Nodup) (hi : X.N[i]? = some x) (hl : Loc X.env.scope x) (he : EO X c Γ e m) (hr : ∀ x, SX X c (Γ.set i (.ow x)) rest (k x) Γn Γl)
    (hs : swapsWith e (some (.Name x p)) pos.line X.env = pure false := by rfl) (hf : X.fn x = true ∨ X.env.scope.names.lookup x = some .local := by first | exact .inl rfl | exact .inr rfl) :
    SX X c Γ (.Assign [.Name x p] e pos :: rest) (m.bind k) Γn Γl := by
  intro B σ G H hh o ho D hfin
  obtain ⟨y, hy, hk⟩ := bind_some' ho
  refine ofS (pss_cons (ps_set hN hi hl toE hs hf) toS) ?_
  refine he B σ G H hh y hy _ fun l F G2 H2 ex r hF => ?_
  exact hr y B _ G2 H2 (hh.newO ex r hF) o hk D hfin
/-- name += e, ints -/
theorem sx_aug {i : Nat} {x : Str} {p : Pos} {op : Operator} {f : Int → Int → Int} {y : Int} {m : Option Int} {k : Int → Option (Oc S L ρ)} (ho : PIp X op (ipI f)) (hN : X.N.Nodup) (hi : X.N[i]? = some x) (hl : Loc X.env.scope x) (hb : Γ[i]? = some (.fr y)) (he : EX X c Γ e m) (hr : ∀ x : Int, SX X c (Γ.set i (.fr x)) rest (k x) Γn Γl)
    (hf : X.fn x = true ∨ X.env.scope.names.lookup x = some .local := by first | exact .inl rfl | exact .inr rfl) :
    SX X c Γ (.AugAssign (.Name x p) op e pos :: rest) (m.bind fun z => k (f y z)) Γn Γl := by
  intro B σ G H hh o ho' D hfin
  obtain ⟨z, hz, hk⟩ := bind_some' ho'
  refine ofS (pss_cons (ps_aug hN hi hl toE ho hf) toS) ?_
  obtain ⟨v, h1, h2⟩ := hh.var hb
  refine ⟨v, h1, ?_⟩
  refine he B σ G H hh z hz _ fun w G2 H2 ex r => ?_
  refine ⟨y, z, h2, r, ?_⟩
  exact hr (f y z) B _ G2 H2 ((hh.mono ex).set rfl) o hk D hfin
/-- return e -/
theorem sx_ret {m : Option ρ} (he : EX X c Γ e m) : SX X c Γ (.Return (some e) pos :: rest) (S := S) (L := L) (m.bind fun r => some (.rt r)) Γn Γl := by
  intro B σ G H hh o ho D hf
  obtain ⟨z, hz, hk⟩ := bind_some' ho
  cases hk
  refine ofS (pss_cons (ps_ret toE) (u := tNever) pss_never) ?_
  refine he B σ G H hh z hz _ fun w G2 H2 ex r => ?_
  exact hf w G2 H2 Γ σ (hh.mono ex) r
theorem sx_retN : SX X c Γ (.Return none pos :: rest) (S := S) (L := L) (ρ := Unit) (some (.rt ())) Γn Γl := by
  intro B σ G H hh o ho D hf
  cases ho
  refine ofS (pss_cons ps_retN (u := tNever) pss_never) ?_
  exact hf .non G H Γ σ hh rfl
theorem sx_continue {s : L} (w : Weak Γ (Γl s)) : SX X c Γ (.Continue pos :: rest) (S := S) (ρ := ρ) (some (.ct s)) Γn Γl := by
  intro B σ G H hh o ho D hf
  cases ho
  refine ofS (pss_cons ps_continue (u := tNever) pss_never) ?_
  exact hf σ G H (hh.wk w)
theorem sx_break {s : L} (w : Weak Γ (Γl s)) : SX X c Γ (.Break pos :: rest) (S := S) (ρ := ρ) (some (.bk s)) Γn Γl := by
  intro B σ G H hh o ho D hf
  cases ho
  refine ofS (pss_cons ps_break (u := tNever) pss_never) ?_
  exact hf σ G H (hh.wk w)
theorem sx_pass {m : Option (Oc S L ρ)} (h : SX X c Γ rest m Γn Γl) : SX X c Γ (.Pass pos :: rest) m Γn Γl := by
  intro B σ G H hh o ho D hf
  refine ofS (pss_cons ps_pass toS) ?_
  exact h B σ G H hh o ho D hf
/-- e as a statement -/
theorem sx_expr {m : Option α} {k : α → Option (Oc S L ρ)} (he : EX X c Γ e m) (hr : ∀ x, SX X c Γ rest (k x) Γn Γl) (hs : swapsWith e none pos.line X.env = pure false := by rfl) : SX X c Γ (.Expr e pos :: rest) (m.bind k) Γn Γl := by
  intro B σ G H hh o ho D hf
  obtain ⟨z, hz, hk⟩ := bind_some' ho
  refine ofS (pss_cons (ps_expr toE hs) toS) ?_
  refine he B σ G H hh z hz _ fun w G2 H2 ex r => ?_
  exact hr z B σ G2 H2 (hh.mono ex) o hk D hf
/-- if, as a statement among others -/
theorem s1_if {t : Expr} {A A' : List Stmt} {mc : Option Bool} {mA mB : Option (Oc S L ρ)} (hc : ET X c Γ t mc) (hA : SX X c Γ A mA Γn Γl) (hB : SX X c Γ A' mB Γn Γl) :
    S1 X c Γ (.If t A A' pos) (mc.bind fun q => if q = true then mA else mB) Γn Γl := by
  intro B σ G H hh o ho D hf
  obtain ⟨q, hq, hk⟩ := bind_some' ho
  refine of1 (ps_if toT toS toS) ?_
  refine hc B σ G H hh q hq _ fun G2 H2 ex => ?_
  cases q with
  | true =>
    rw [if_pos rfl] at hk
    show tSX X A D σ H2
    exact hA B σ G2 H2 (hh.mono ex) o hk D hf
  | false =>
    rw [if_neg Bool.false_ne_true] at hk
    show tSX X A' D σ H2
    exact hB B σ G2 H2 (hh.mono ex) o hk D hf
/-- no state -/
def noS : Empty → List Bd := fun z => z.elim
def Oc.up {S L ρ : Type} : Oc Empty L ρ → Option (Oc S L ρ)
  | .nx s => s.elim
  | .ct s => some (.ct s)
  | .bk s => some (.bk s)
  | .rt r => some (.rt r)
/-- if c: A, where A returns (or raises, breaks, continues) -/
theorem sx_ifR {t : Expr} {A : List Stmt} {mc : Option Bool} {mA : Option (Oc Empty L ρ)} {mB : Option (Oc S L ρ)} (hc : ET X c Γ t mc) (hA : SX X c Γ A mA noS Γl) (hB : SX X c Γ rest mB Γn Γl) :
    SX X c Γ (.If t A [] pos :: rest) (mc.bind fun q => if q = true then mA.bind Oc.up else mB) Γn Γl := by
  intro B σ G H hh o ho D hf
  obtain ⟨q, hq, hk⟩ := bind_some' ho
  refine ofS (pss_cons (ps_if toT toS pss_nil) toS) ?_
  refine hc B σ G H hh q hq _ fun G2 H2 ex => ?_
  cases q with
  | true =>
    rw [if_pos rfl] at hk
    obtain ⟨o', h1, h2⟩ := bind_some' hk
    show tSX X A { D with nx := tSX X rest D } σ H2
    refine hA B σ G2 H2 (hh.mono ex) o' h1 _ ?_
    cases o' with
    | nx s => cases s
    | ct s => cases h2; exact hf
    | bk s => cases h2; exact hf
    | rt r => cases h2; exact hf
  | false =>
    rw [if_neg Bool.false_ne_true] at hk
    show tSX X rest D σ H2
    exact hB B σ G2 H2 (hh.mono ex) o hk D hf
/-- if c: A (returns), else: A' as the last statement, or both forms at a block's end -/
theorem sx_ifE {t : Expr} {A A' : List Stmt} {mc : Option Bool} {mA mB : Option (Oc S L ρ)} (hc : ET X c Γ t mc) (hA : SX X c Γ A mA Γn Γl) (hB : SX X c Γ A' mB Γn Γl) :
    SX X c Γ [.If t A A' pos] (mc.bind fun q => if q = true then mA else mB) Γn Γl := sx_one (s1_if hc hA hB)
/-- an owned slot is frozen (no statement) -/
theorem sx_freeze {α : Type} [Mu α] {sts : List Stmt} {m : Option (Oc S L ρ)} {i : Nat} {x : α} (hb : Γ[i]? = some (.ow x)) (h : SX X c (Γ.set i (.fr x)) sts m Γn Γl) : SX X c Γ sts m Γn Γl := by
  intro B σ G H hh o ho D hf
  obtain ⟨G2, _, h2⟩ := hh.freeze hb
  exact h B σ G2 H h2 o ho D hf

/-! ### loops -/
/-- the turns of a while: fuel, test, body -/
def whileM {S L ρ : Type} (t : S → Option Bool) (b : S → Option (Oc S S ρ)) : Nat → S → Option (Oc S L ρ)
  | 0, _ => none
  | n + 1, s => (t s).bind fun q => if q = true then (b s).bind fun o => match o with
      | .nx s' => whileM t b n s'
      | .ct s' => whileM t b n s'
      | .bk s' => some (.nx s')
      | .rt r => some (.rt r)
    else some (.nx s)
theorem s1_while {t : Expr} {A : List Stmt} {Γs : S → List Bd} {mt : S → Option Bool} {mb : S → Option (Oc S S ρ)} {s0 : S} (fuel : Nat) (hp : PassesOwn (model X.prog X.w) X.A X.env X.xe) (w : Weak Γ (Γs s0)) (hc : ∀ s, ET X c (Γs s) t (mt s)) (hA : ∀ s, SX X c (Γs s) A (mb s) Γs Γs) :
    S1 X c Γ (.While t A [] pos) (L := L) (whileM mt mb fuel s0) Γs Γl := by
  intro B σ G H hh o ho D hf
  refine of1 (ps_while hp toT toS) ?_
  refine ⟨fun n σ' H' => ∃ G' s, CT.Holds X.K c B G' H' (Γs s) σ' ∧ whileM mt mb n s = some o, ⟨fuel, G, s0, hh.wk w, ho⟩, ?_⟩
  rintro n σ1 H1 ⟨G1, s, h1, hw⟩
  cases n with
  | zero => cases hw
  | succ n =>
    unfold whileM at hw
    obtain ⟨q, hq, hk⟩ := bind_some' hw
    refine hc s B σ1 G1 H1 h1 q hq _ fun G2 H2 ex => ?_
    cases q with
    | false =>
      rw [if_neg Bool.false_ne_true] at hk
      cases hk
      exact hf σ1 G2 H2 (h1.mono ex)
    | true =>
      rw [if_pos rfl] at hk
      obtain ⟨o', hb, hk⟩ := bind_some' hk
      show ∃ N : L2.St → Hp → Prop, _
      refine ⟨fun σ' H' => ∃ G' s', CT.Holds X.K c B G' H' (Γs s') σ' ∧ whileM mt mb n s' = some o, fun σ' H' ⟨G', s', a1, a2⟩ => ⟨n, Nat.lt_succ_self n, G', s', a1, a2⟩, ?_⟩
      refine hA s B σ1 G2 H2 (h1.mono ex) o' hb _ ?_
      cases o' with
      | nx s' => exact fun σ' G' H' hh' => ⟨G', s', hh', hk⟩
      | ct s' => exact fun σ' G' H' hh' => ⟨G', s', hh', hk⟩
      | bk s' => cases hk; exact hf
      | rt r => cases hk; exact hf

/-- what a for walks: the items of a Lean list -/
def WalkR (K : Frag) (c : Cls) (G : Hp) (J : It) {α : Type} [Py α] (xs : List α) : Prop :=
  xs.length ≤ sizeLine ∧ Walk J xs.length (fun H => Same G H) (fun i H v H' => ∀ G', Same G G' → Same G' H → ∃ G'' x, Ext G' H G'' H' ∧ xs[i]? = some x ∧ Py.rep K c G'' v x)
def EI (X : Cx) (c : Cls) (Γ : List Bd) (tg e : Expr) {α : Type} [Py α] (m : Option (List α)) : Prop :=
  ∃ wi, PI X tg e wi ∧ ∀ (B : Base) (σ : L2.St) (G H : Hp), CT.Holds X.K c B G H Γ σ → ∀ xs, m = some xs → ∀ R : It → Hp → Prop, (∀ J G2 H2, Ext G H G2 H2 → WalkR X.K c G2 J xs → R J H2) → wi σ H R
/-- a target: what it does to the slots -/
def TGS (K : Frag) (c : Cls) (g : TG) {α : Type} [Py α] (f : List Bd → α → List Bd) (vs : List Nat) : Prop :=
  ∀ (B : Base) (Γ : List Bd) (σ : L2.St) (G H : Hp) (v : V) (x : α), CT.Holds K c B G H Γ σ → Py.rep K c G v x → ∀ Q : L2.St → Hp → Prop, (∀ σ2, CT.Holds K c B G H (f Γ x) σ2 → wipe σ2 vs = wipe σ vs → Q σ2 H) → g v σ H Q
/-- the turns of a for -/
def forM {α S L ρ : Type} (b : α → S → Option (Oc S S ρ)) : List α → S → Option (Oc S L ρ)
  | [], s => some (.nx s)
  | x :: xs, s => (b x s).bind fun o => match o with
      | .nx s' => forM b xs s'
      | .ct s' => forM b xs s'
      | .bk s' => some (.nx s')
      | .rt r => some (.rt r)
theorem s1_for {tg iter : Expr} {g : TG} {A : List Stmt} {vs : List Nat} {Γs : S → List Bd} {f : List Bd → α → List Bd} {m : Option (List α)} {mb : α → S → Option (Oc S S ρ)} {s0 : S} (hp : PassesOwn (model X.prog X.w) X.A X.env X.xe) (hcalm : X.calm = true)
    (hi : EI X c Γ tg iter m) (hpg : PG X tg g) (hgg : TGS X.K c g f vs) (w : Weak Γ (Γs s0)) (hA : ∀ x s, SX X c (f (Γs s) x) A (mb x s) Γs Γs)
    (hs : ∀ x, foldedSetIterable iter X.env x = pure x := by intro _; rfl) : S1 X c Γ (.For tg iter A [] pos) (L := L) (m.bind fun xs => forM mb xs s0) Γs Γl := by
  intro B σ G H hh o ho D hf
  obtain ⟨xs, hx, hk⟩ := bind_some' ho
  obtain ⟨wi, hpi, hwi⟩ := hi
  refine of1 (ps_for hp hcalm hpi hpg toS hs) ?_
  refine hwi B σ G H hh xs hx _ fun J G2 H2 ex ⟨hz, hw⟩ => ?_
  refine ⟨fun i n σ' H' => n = xs.length - i ∧ i ≤ xs.length ∧ ∃ G' s, CT.Holds X.K c B G' H' (Γs s) σ' ∧ Same G2 G' ∧ forM mb (xs.drop i) s = some o, ⟨xs.length, by simp, Nat.zero_le _, G2, s0, (hh.mono ex).wk w, Same.refl _, hk⟩, ?_⟩
  rintro i n σ1 H1 ⟨rfl, hi, G1, s, h1, hg1, hr⟩
  have q : Same G2 H1 := hg1.trans h1.gh
  by_cases hlt : i < xs.length
  · refine .inr ⟨hw.goes i H1 hlt q, fun σ' H' => i + 1 ≤ xs.length ∧ ∃ G' s', CT.Holds X.K c B G' H' (Γs s') σ' ∧ Same G2 G' ∧ forM mb (xs.drop (i + 1)) s' = some o, fun σ' H' ⟨a0, G', s', a1, a2, a3⟩ => ⟨xs.length - (i + 1), by omega, rfl, a0, G', s', a1, a2, a3⟩, fun v H' y => ?_⟩
    obtain ⟨G3, x, ex3, hx3, r3⟩ := hw.yields i H1 v H' hlt q y G1 hg1 h1.gh
    have hxi : xs[i] = x := by
      rw [List.getElem?_eq_getElem hlt] at hx3
      exact Option.some.inj hx3
    rw [List.drop_eq_getElem_cons hlt, hxi] at hr
    unfold forM at hr
    obtain ⟨o', hb, hr⟩ := bind_some' hr
    refine hgg B (Γs s) σ1 G3 H' v x (h1.mono ex3) r3 _ fun σ2 h2 _ => ?_
    have e0 : Same B.G G3 := h2.g0
    have f0 := h2.fr
    refine hA x s { B with G := G3 } σ2 G3 H' (h2.rebase e0 (Same.refl _)) o' hb _ ?_
    cases o' with
    | nx s' => exact fun σ' G' H' hh' => ⟨hlt, G', s', hh'.unbase e0 f0, (hg1.trans ex3.g).trans hh'.g0, hr⟩
    | ct s' => exact fun σ' G' H' hh' => ⟨hlt, G', s', hh'.unbase e0 f0, (hg1.trans ex3.g).trans hh'.g0, hr⟩
    | bk s' => cases hr; exact fun σ' G' H' hh' => hf σ' G' H' (hh'.unbase e0 f0)
    | rt r => cases hr; exact fun v' G' H' Γ' σ' hh' rr => hf v' G' H' Γ' σ' (hh'.unbase e0 f0) rr
  · have e : i = xs.length := by omega
    subst e
    rw [List.drop_length] at hr
    unfold forM at hr
    cases hr
    exact .inl ⟨hw.stops H1 q, hf σ1 G1 H1 h1⟩
end
end CT

end
/-! ## Cert3.lean -/
section
set_option Elab.async false
set_option linter.all false
set_option maxRecDepth 100000
set_option maxHeartbeats 4000000
/-! Certified translation: walks, targets, comprehensions, calls. -/
namespace CT
open PySem L2 PySem.Spec PyProof.Rows

def wipeB (Γ : List Bd) : List Nat → List Bd
  | [] => Γ
  | v :: vs => (wipeB Γ vs).set v .no
theorem Holds.wipe {K : Frag} {c : Cls} {B : Base} {G H : Hp} {Γ : List Bd} {σ : L2.St} (h : CT.Holds K c B G H Γ σ) : ∀ vs : List Nat, CT.Holds K c B G H (wipeB Γ vs) (L2.wipe σ vs)
  | [] => h
  | v :: vs => (Holds.wipe h vs).forget

section
variable {X : Cx} {c : Cls} {Γ Γ1 : List Bd} {e a b : Expr} {es : List Expr} {rest : List Stmt} {pos p : Pos} {α β γ : Type} [Py α] [Py β] [Py γ]

/-! ### walks -/
theorem ei_list {tg : Expr} {m : Option (List α)} (h : EX X c Γ e m) : EI X c Γ tg e m := by
  refine ⟨iList X.K (tEX X e), pi_list toE, fun B σ G H hh xs hx R k => ?_⟩
  refine h B σ G H hh xs hx _ fun v G2 H2 ex r => ?_
  obtain ⟨a, vs, rfl, hz, hs, hv⟩ := r
  refine ⟨a, rfl, ⟨vs, Same.seq ex.gh hs⟩, k _ G2 H2 ex ⟨by rw [← hv.len]; exact hz, ?_⟩⟩
  rw [← hv.len]
  refine (walk_list (K := X.K) (a := a) (xs := vs)).mono (fun H' s => Same.seq s hs) fun i H' v H'' hi s y => ?_
  obtain ⟨rfl, hv'⟩ := y
  intro G' s1 s2
  obtain ⟨x, h1, h2⟩ := hv.at' hv'
  exact ⟨G', x, Ext.refl s2, h1, Py.mono s1 h2⟩
theorem ei_tup {tg : Expr} {m : Option (Tup α)} (h : EX X c Γ e m) : EI X c Γ tg e (m.bind fun t => some t.items) := by
  refine ⟨iTup X.K (tEX X e), pi_tup toE, fun B σ G H hh xs hx R k => ?_⟩
  obtain ⟨t, ht, hx⟩ := bind_some' hx
  cases hx
  refine h B σ G H hh t ht _ fun v G2 H2 ex r => ?_
  obtain ⟨a, vs, rfl, hz, hs, hv⟩ := r
  refine ⟨a, rfl, ⟨vs, SqT.of (ex.gh _ _ hs)⟩, k _ G2 H2 ex ⟨by rw [← hv.len]; exact hz, ?_⟩⟩
  rw [← hv.len]
  refine (walk_tup (K := X.K) (a := a) (xs := vs)).mono (fun H' s => SqT.of (s _ _ hs)) fun i H' v H'' hi s y => ?_
  obtain ⟨rfl, hv'⟩ := y
  intro G' s1 s2
  obtain ⟨x, h1, h2⟩ := hv.at' hv'
  exact ⟨G', x, Ext.refl s2, h1, Py.mono s1 h2⟩
/-- lo, lo + 1, .. below hi -/
def rangeI (lo hi : Int) : List Int := (List.range (hi - lo).toNat).map fun (i : Nat) => lo + (i : Int)
def rngM (lo hi : Int) : Option (List Int) := if -1000000000000 ≤ lo ∧ lo ≤ 1000000000000 ∧ -1000000000000 ≤ hi ∧ hi ≤ 1000000000000 ∧ hi - lo ≤ 16777216 then some (rangeI lo hi) else none
theorem rangeI_len {lo hi : Int} : (rangeI lo hi).length = (hi - lo).toNat := by simp [rangeI]
theorem rangeI_at {lo hi : Int} {i : Nat} (h : i < (hi - lo).toNat) : (rangeI lo hi)[i]? = some (lo + (i : Int)) := by simp [rangeI, h]
theorem rngM_some {lo hi : Int} {xs : List Int} (h : rngM lo hi = some xs) : xs = rangeI lo hi ∧ -1000000000000 ≤ lo ∧ lo ≤ 1000000000000 ∧ -1000000000000 ≤ hi ∧ hi ≤ 1000000000000 ∧ hi - lo ≤ 16777216 := by
  unfold rngM at h
  split at h
  · rename_i q
    exact ⟨(Option.some.inj h).symm, q⟩
  · cases h
theorem walk_rng {K : Frag} {G : Hp} {lo hi : Int} (hz : hi - lo ≤ 16777216) : WalkR K c G (Itr lo (hi - lo).toNat) (rangeI lo hi) := by
  refine ⟨?_, ?_⟩
  · rw [rangeI_len]
    show (hi - lo).toNat ≤ 16777216
    omega
  · rw [rangeI_len]
    refine walk_range.mono (fun _ _ => trivial) fun i H' v H'' hi' s y => ?_
    obtain ⟨rfl, rfl⟩ := y
    intro G' s1 s2
    exact ⟨G', _, Ext.refl s2, rangeI_at hi', rfl⟩
theorem ei_range1 {tg : Expr} {m : Option Int} (hg : Gl X "range") (hm : X.mg "range" = none) (h : EX X c Γ a m) (hs : starEach [a] X.env = (false, eval a X.env) :: starEach [] X.env := by rfl) :
    EI X c Γ tg (.Call (.Name "range" p) [a] [] pos) (m.bind fun n => rngM 0 n) := by
  refine ⟨_, pi_range1 hg hm (pa_cons toE pa_nil hs) hs, fun B σ G H hh xs hx R k => ?_⟩
  obtain ⟨n, hn, hx⟩ := bind_some' hx
  obtain ⟨rfl, h1, h2, h3, h4, h5⟩ := rngM_some hx
  refine h B σ G H hh n hn _ fun v G2 H2 ex r => ?_
  have q := walk_rng (c := c) (K := X.K) (G := G2) h5
  rw [Int.sub_zero] at q
  exact ⟨n, by rw [show v = .int n from r], by omega, by omega, k _ G2 H2 ex q⟩
theorem ei_range2 {tg : Expr} {m m' : Option Int} (hg : Gl X "range") (hm : X.mg "range" = none) (h : EX X c Γ a m) (h' : EX X c Γ b m') (hs : starEach [a, b] X.env = (false, eval a X.env) :: starEach [b] X.env := by rfl) (hs2 : starEach [b] X.env = (false, eval b X.env) :: starEach [] X.env := by rfl) :
    EI X c Γ tg (.Call (.Name "range" p) [a, b] [] pos) (m.bind fun lo => m'.bind fun hi => rngM lo hi) := by
  refine ⟨_, pi_range2 hg hm (pa_cons toE (pa_cons toE pa_nil hs2) hs) (by rw [hs, hs2]; rfl) hs2, fun B σ G H hh xs hx R k => ?_⟩
  obtain ⟨lo, hl, hx⟩ := bind_some' hx
  obtain ⟨hi, hi', hx⟩ := bind_some' hx
  obtain ⟨rfl, h1, h2, h3, h4, h5⟩ := rngM_some hx
  refine h B σ G H hh lo hl _ fun v G1 H1 ex r => ?_
  refine h' B σ G1 H1 (hh.mono ex) hi hi' _ fun u G2 H2 ex2 r2 => ?_
  exact ⟨lo, hi, by rw [show v = .int lo from r, show u = .int hi from r2], ⟨by omega, by omega, by omega, by omega⟩, k _ G2 H2 (ex.trans ex2) (walk_rng h5)⟩
/-- enumerate(list): a new pair each turn -/
def enumI (xs : List α) : List (Int × α) := List.zipWith (fun (i : Nat) x => ((i : Int), x)) (List.range xs.length) xs
theorem enumI_len {α : Type} [Py α] (xs : List α) : (enumI xs).length = xs.length := by simp [enumI]
theorem enumI_at {xs : List α} {i : Nat} {x : α} (h : xs[i]? = some x) : (enumI xs)[i]? = some ((i : Int), x) := by
  have hi := (List.getElem?_eq_some_iff.mp h).1
  have hx : xs[i] = x := by
    rw [List.getElem?_eq_getElem hi] at h
    exact Option.some.inj h
  simp [enumI, List.getElem?_zipWith, hi, hx]
theorem ei_enum {elts : List Expr} {kk : Nat} {tpos : Pos} {m : Option (List α)} (hg : Gl X "enumerate") (hm : X.mg "enumerate" = none) (h : EX X c Γ e m) (hs : starEach [e] X.env = (false, eval e X.env) :: starEach [] X.env := by rfl) :
    EI X c Γ (.Tuple elts kk tpos) (.Call (.Name "enumerate" p) [e] [] pos) (m.bind fun xs => some (enumI xs)) := by
  refine ⟨_, pi_enum hg hm (pa_cons toE pa_nil hs) hs, fun B σ G H hh xs hx R k => ?_⟩
  obtain ⟨ys, hy, hx⟩ := bind_some' hx
  cases hx
  refine h B σ G H hh ys hy _ fun v G2 H2 ex r => ?_
  obtain ⟨a, vs, rfl, hz, hs', hv⟩ := r
  refine ⟨a, vs, rfl, Same.seq ex.gh hs', k _ G2 H2 ex ⟨by rw [enumI_len, ← hv.len]; exact hz, ?_⟩⟩
  rw [enumI_len, ← hv.len]
  refine (walk_enum (K := X.K) (a := a) (xs := vs)).mono (fun H' s => Same.seq s hs') fun i H' v H'' hi s y => ?_
  obtain ⟨T, x1, x2, rfl, hT, rfl, e1, e2⟩ := y
  intro G' s1 s2
  cases e1
  obtain ⟨x, h1, h2⟩ := hv.at' e2
  have ext := Ext.new (o := .tup [.int (i : Nat), x2]) s2 hT
  exact ⟨_, ((i : Int), x), ext, enumI_at h1, T, _, _, rfl, upd_same, rfl, Py.mono (s1.trans ext.g) h2⟩

/-! ### targets -/
theorem tgs_name {K : Frag} {i : Nat} : TGS K c (gName i) (α := α) (fun Γ y => Γ.set i (.fr y)) [i] :=
  fun B Γ σ G H v y hh r Q k => k _ (hh.set r) (by
    show (σ.set i (some v)).set i none = σ.set i none
    rw [List.set_set])
theorem pg_two {i j : Nat} {x y : Str} {p1 p2 : Pos} {kk : Nat} (hcalm : X.calm = true) (hN : X.N.Nodup) (hi : X.N[i]? = some x) (hl : Loc X.env.scope x) (hj : X.N[j]? = some y) (hl' : Loc X.env.scope y)
    (hf : X.fn x = true ∨ X.env.scope.names.lookup x = some .local := by first | exact .inl rfl | exact .inr rfl) (hf' : X.fn y = true ∨ X.env.scope.names.lookup y = some .local := by first | exact .inl rfl | exact .inr rfl)
    (hs1 : (assignEach [.Name x p1, .Name y p2] X.env).map (·.2) = assign (.Name x p1) X.env :: (assignEach [.Name y p2] X.env).map (·.2) := by rfl)
    (hs2 : (assignEach [.Name y p2] X.env).map (·.2) = assign (.Name y p2) X.env :: (assignEach [] X.env).map (·.2) := by rfl)
    (hn : (assignEach [.Name x p1, .Name y p2] X.env).length = 2 := by rfl) (hst : (assignEach [.Name x p1, .Name y p2] X.env).findIdx? (·.1) = none := by rfl) :
    PG X (.Tuple [.Name x p1, .Name y p2] kk pos) (gTup X.K 2 (gCons (gName i) (gCons (gName j) gNil))) :=
  pg_tup hcalm (pgs_cons (pg_name hN hi hl hf) (pgs_cons (pg_name hN hj hl' hf') pgs_nil hs2) hs1) hn hst
theorem tgs_pair {K : Frag} {i j : Nat} (hij : i ≠ j) : TGS K c (gTup K 2 (gCons (gName i) (gCons (gName j) gNil))) (α := α × β) (fun Γ q => (Γ.set i (.fr q.1)).set j (.fr q.2)) [i, j] :=
  fun B Γ σ G H v q hh r Q k => by
    obtain ⟨a, x1, x2, rfl, hs, r1, r2⟩ := r
    refine ⟨a, [x1, x2], rfl, SqT.of (hh.gh _ _ hs), rfl, x1, [x2], rfl, x2, [], rfl, rfl, k _ ((hh.set r1).set r2) ?_⟩
    show ((((σ.set i (some x1)).set j (some x2)).set j none).set i none) = (σ.set j none).set i none
    rw [List.set_set, List.set_comm _ _ hij, List.set_set]

/-! ### comprehensions -/
def lcM {α β : Type} (t : α → Option Bool) (e : α → Option β) : List α → Option (List β)
  | [] => some []
  | x :: xs => (t x).bind fun q => if q = true then (e x).bind fun y => (lcM t e xs).bind fun ys => some (y :: ys) else lcM t e xs
theorem lcM_pure {α β : Type} (t : α → Bool) (e : α → β) : ∀ xs : List α, lcM (fun x => some (t x)) (fun x => some (e x)) xs = some ((xs.filter t).map e)
  | [] => rfl
  | x :: xs => by
    unfold lcM
    rw [lcM_pure t e xs]
    cases h : t x with
    | true => simp [h]
    | false => simp [h]
theorem lcM_map {α β : Type} (e : α → β) : ∀ xs : List α, lcM (fun _ => some true) (fun x => some (e x)) xs = some (xs.map e)
  | [] => rfl
  | x :: xs => by
    unfold lcM
    rw [lcM_map e xs]
    simp
/-- a block's tests -/
def tTs (X : Cx) (ifs : List Expr) : TT := fun σ H Q => ∀ (pins : List (Addr × Obj)) (s : Shared), Inv X pins σ H s →
  wpAny (model X.prog X.w) X.A (forIn ifs true fun c r => if r = true then do let ok ← isTrue c X.env (eval c X.env); pure (ForInStep.yield ok) else pure (ForInStep.yield r)) (TP X pins σ Q) X.xe s
def ETs (X : Cx) (c : Cls) (Γ : List Bd) (ifs : List Expr) (m : Option Bool) : Prop :=
  ∀ (B : Base) (σ : L2.St) (G H : Hp), CT.Holds X.K c B G H Γ σ → ∀ x, m = some x → ∀ Q : Bool → Hp → Prop, (∀ G2 H2, Ext G H G2 H2 → Q x H2) → tTs X ifs σ H Q
theorem ets_nil : ETs X c Γ [] (some true) := by
  intro B σ G H hh x hx Q k pins s I
  cases hx
  exact pts_nil.run pins s σ H Q I (k G H (Ext.refl hh.gh))
theorem ets_one {m : Option Bool} (h : ET X c Γ e m) : ETs X c Γ [e] m := by
  intro B σ G H hh x hx Q k pins s I
  exact (pts_one toT).run pins s σ H Q I (h B σ G H hh x hx Q k)

abbrev Blk (X : Cx) (s : Shared) (H : Hp) (scope : Scope) (cl : List (Str × Addr)) (C : Addr) (fp : List Addr) : Cx := X.blk s H scope (compEnvC scope cl C X.env) fp
theorem wipe_get (σ : L2.St) (i : Nat) : ∀ vs : List Nat, (L2.wipe σ vs)[i]? = if i ∈ vs then (σ[i]?).map (fun _ => none) else σ[i]?
  | [] => by simp [L2.wipe]
  | v :: vs => by
    have ih := wipe_get σ i vs
    unfold L2.wipe
    rw [List.getElem?_set]
    by_cases h : v = i
    · subst h
      simp only [if_true, List.mem_cons, true_or]
      have hl := wipe_length σ vs
      by_cases hv : v < σ.length
      · simp [hl, hv]
      · simp [hl, hv]
    · have h2 : ¬ i = v := fun z => h z.symm
      simp only [h, if_false, List.mem_cons, h2, false_or]
      exact ih
theorem wipe_wipe (σ : L2.St) (vs : List Nat) : L2.wipe (L2.wipe σ vs) vs = L2.wipe σ vs := by
  apply List.ext_getElem?
  intro i
  rw [wipe_get, wipe_get]
  by_cases h : i ∈ vs
  · simp only [h, if_true]
    cases σ[i]? <;> rfl
  · simp only [h, if_false]
def tTsB (X : Cx) (scope : Scope) (ifs : List Expr) : TT := fun σ H Q => ∀ (s : Shared) (H' : Hp) (C : Addr) (cl : List (Str × Addr)) (fp : List Addr), tTs (Blk X s H' scope cl C fp) ifs σ H Q
def tEXB (X : Cx) (scope : Scope) (elt : Expr) : TE := fun σ H Q => ∀ (s : Shared) (H' : Hp) (C : Addr) (cl : List (Str × Addr)) (fp : List Addr), tEX (Blk X s H' scope cl C fp) elt σ H Q
section
variable {elt tg iter : Expr} {ifs : List Expr} {scope : Scope} {own : List (Str × Nat)} {g : TG} {f : List Bd → α → List Bd} {m : Option (List α)} {t : α → Option Bool} {e' : α → Option β}
theorem lc_read (hi : EI X c Γ tg iter m) {wi : TI} (hwi : ∀ (B : Base) (σ : L2.St) (G H : Hp), CT.Holds X.K c B G H Γ σ → ∀ xs, m = some xs → ∀ R : It → Hp → Prop, (∀ J G2 H2, Ext G H G2 H2 → WalkR X.K c G2 J xs → R J H2) → wi σ H R)
    (hg : TGS X.K c g f (own.map (·.2)))
    (ht : ∀ (s : Shared) (H : Hp) (C : Addr) (cl : List (Str × Addr)) (fp : List Addr) (x : α), ETs (Blk X s H scope cl C fp) c (f (wipeB Γ (own.map (·.2))) x) ifs (t x))
    (he : ∀ (s : Shared) (H : Hp) (C : Addr) (cl : List (Str × Addr)) (fp : List Addr) (x : α), EX (Blk X s H scope cl C fp) c (f (wipeB Γ (own.map (·.2))) x) elt (e' x))
    {B : Base} {σ : L2.St} {G H : Hp} (hh : CT.Holds X.K c B G H Γ σ) {ys : List β} (hy : m.bind (lcM t e') = some ys) {Q : VK} (k : ∀ l F G2 H2, Ext G H G2 H2 → Mu.own X.K c G2 H2 l ys F → (∀ a ∈ F, G2 a = none ∧ H a = none) → Q (.ref l) H2) :
    tLc wi g (tTsB X scope ifs) (tEXB X scope elt) (own.map (·.2)) σ H Q := by
  obtain ⟨xs, hx, hl⟩ := bind_some' hy
  refine hwi B σ G H hh xs hx _ fun J G2 H2 ex ⟨hz, hw⟩ => ?_
  intro D hD
  have gD : G2 D = none := none_sub ex.gh hD
  have hD0 : H D = none := none_sub ex.h hD
  refine lc_it (g := g) (tt := tTsB X scope ifs) (te := tEXB X scope elt) (vs := own.map (·.2)) (σ := σ) (H1 := H2) (D := D) (Qd := fun H => Q (.ref D) H) hw (Pv := fun i H' => ∃ G' acc zs ws, Ext G2 H2 G' H' ∧ G' D = none ∧ H' D = some (.lst acc) ∧ acc.length ≤ i ∧ All2 (Py.rep X.K c G') acc zs ∧ lcM t e' (xs.drop i) = some ws ∧ zs ++ ws = ys) ?_ ?_ ?_ ?_
  · refine ⟨G2, [], [], ys, ⟨Same.refl _, same_new hD, fun a o q => ?_, fun a h _ => h⟩, gD, upd_same, Nat.le_refl _, .nil, hl, rfl⟩
    rw [upd_ne (ne_of_none q gD)]
    exact ex.gh a o q
  · rintro i H' _ ⟨G', acc, zs, ws, e1, _⟩
    exact e1.g.trans e1.gh
  · rintro i v H' H'' hi ⟨G', acc, zs, ws, e1, gD', hD', hlen, hr, hl', hzs⟩ y
    obtain ⟨G3, x, e3, hx3, r3⟩ := y G' e1.g e1.gh
    have e13 := e1.trans e3
    have hxi : xs[i] = x := by
      rw [List.getElem?_eq_getElem hi] at hx3
      exact Option.some.inj hx3
    rw [List.drop_eq_getElem_cons hi, hxi] at hl'
    unfold lcM at hl'
    obtain ⟨q, hq, hl'⟩ := bind_some' hl'
    have hB := ((hh.mono ex).mono e13).wipe (own.map (·.2))
    refine hg B _ _ G3 H'' v x hB r3 _ fun σ2 h2 hw2 => ?_
    refine ⟨hw2.trans (wipe_wipe σ _), fun s0 H0 C cl fp => ?_⟩
    refine ht s0 H0 C cl fp x B σ2 G3 H'' h2 q hq _ fun G4 H4 e4 => ?_
    have D3 : G3 D = none := e3.fr D gD' (by rw [hD']; simp)
    have E3 : H'' D = some (.lst acc) := e3.h D _ hD'
    have D4 : G4 D = none := e4.fr D D3 (by rw [E3]; simp)
    have E4 : H4 D = some (.lst acc) := e4.h D _ E3
    have e14 := e13.trans e4
    cases q with
    | false =>
      rw [if_neg Bool.false_ne_true] at hl' ⊢
      exact ⟨G4, acc, zs, ws, e14, D4, E4, Nat.le_succ_of_le hlen, All2.mono (fun _ _ => Py.mono (e3.g.trans e4.g)) hr, hl', hzs⟩
    | true =>
      rw [if_pos rfl] at hl' ⊢
      obtain ⟨y, hy', hl'⟩ := bind_some' hl'
      obtain ⟨ws', hw', hl'⟩ := bind_some' hl'
      cases hl'
      intro s1 H1 C1 cl1 fp1
      refine he s1 H1 C1 cl1 fp1 x B σ2 G4 H4 (h2.mono e4) y hy' _ fun u G5 H5 e5 r5 => ?_
      have D5 : G5 D = none := e5.fr D D4 (by rw [E4]; simp)
      have E5 : H5 D = some (.lst acc) := e5.h D _ E4
      have e15 := e14.trans e5
      refine ⟨acc, E5, Nat.lt_of_le_of_lt hlen (Nat.lt_of_lt_of_le hi hz), G5, acc ++ [u], zs ++ [y], ws', ⟨e15.g, fun a o q => ?_, fun a o q => ?_, e15.fr⟩, D5, upd_same, by simp; exact hlen, All2.app (All2.mono (fun _ _ => Py.mono ((e3.g.trans e4.g).trans e5.g)) hr) (.cons r5 .nil), hw', by simp [hzs]⟩
      · rw [upd_ne (ne_of_none q hD)]
        exact e15.h a o q
      · rw [upd_ne (ne_of_none q D5)]
        exact e15.gh a o q
  · rintro H' ⟨G', acc, zs, ws, e1, gD', hD', hlen, hr, hl', hzs⟩
    rw [List.drop_length] at hl'
    unfold lcM at hl'
    cases hl'
    rw [List.append_nil] at hzs
    subst hzs
    refine k D [D] G' H' (ex.trans e1) ⟨rfl, acc, hD', Nat.le_trans hlen hz, hr⟩ fun a ha => ?_
    rw [List.mem_singleton] at ha
    rw [ha]
    exact ⟨gD', hD0⟩
variable (hcalm : X.calm = true) (hN : X.N.Nodup) (hi : EI X c Γ tg iter m) (ok : BlkOk X.N X.env.scope scope own) (hpg : ∀ (s : Shared) (H : Hp) (C : Addr) (cl : List (Str × Addr)) (fp : List Addr), PG (Blk X s H scope cl C fp) tg g) (hg : TGS X.K c g f (own.map (·.2)))
include hcalm hN hi ok hpg hg
/-- [elt for tg in iter if ..] -/
theorem eo_lc (ht : ∀ (s : Shared) (H : Hp) (C : Addr) (cl : List (Str × Addr)) (fp : List Addr) (x : α), ETs (Blk X s H scope cl C fp) c (f (wipeB Γ (own.map (·.2))) x) ifs (t x))
    (he : ∀ (s : Shared) (H : Hp) (C : Addr) (cl : List (Str × Addr)) (fp : List Addr) (x : α), EX (Blk X s H scope cl C fp) c (f (wipeB Γ (own.map (·.2))) x) elt (e' x)) (hs : ∀ x, foldedSetIterable iter X.env x = pure x := by intro _; rfl) :
    EO X c Γ (.ListComp elt [⟨tg, iter, ifs, 0⟩] scope pos) (m.bind (lcM t e')) := by
  intro B σ G H hh ys hy Q k
  obtain ⟨wi, hpi, hwi⟩ := id hi
  refine ofE (pe_lc (tt := tTsB X scope ifs) (te := tEXB X scope elt) hcalm hN hpi ok hpg (fun s H C cl fp => ⟨fun pins s' σ H' Q I h => h s H C cl fp pins s' I⟩) (fun s H C cl fp => ⟨fun pins s' σ H' Q I h => h s H C cl fp pins s' I⟩) hs) ?_
  exact lc_read hi hwi hg ht he hh hy k
/-- y = [elt for ..], y a local name -/
theorem sx_setLcO {S L ρ : Type} [Py ρ] {Γn : S → List Bd} {Γl : L → List Bd} {i : Nat} {y : Str} {py spos : Pos} {k : List β → Option (Oc S L ρ)} (hy : X.N[i]? = some y) (hyl : X.env.scope.names.lookup y = some .local)
    (hsw : swapsWith (.ListComp elt [⟨tg, iter, ifs, 0⟩] scope pos) (some (.Name y py)) spos.line X.env = pure true)
    (ht : ∀ (s : Shared) (H : Hp) (C : Addr) (cl : List (Str × Addr)) (fp : List Addr) (x : α), ETs (Blk X s H scope cl C fp) c (f (wipeB Γ (own.map (·.2))) x) ifs (t x))
    (he : ∀ (s : Shared) (H : Hp) (C : Addr) (cl : List (Str × Addr)) (fp : List Addr) (x : α), EX (Blk X s H scope cl C fp) c (f (wipeB Γ (own.map (·.2))) x) elt (e' x))
    (hr : ∀ x : List β, SX X c (Γ.set i (.ow x)) rest (k x) Γn Γl) (hs : ∀ x, foldedSetIterable iter X.env x = pure x := by intro _; rfl) :
    SX X c Γ (.Assign [.Name y py] (.ListComp elt [⟨tg, iter, ifs, 0⟩] scope pos) spos :: rest) ((m.bind (lcM t e')).bind k) Γn Γl := by
  intro B σ G H hh o ho D hfin
  obtain ⟨ys, hys, hk⟩ := bind_some' ho
  obtain ⟨wi, hpi, hwi⟩ := id hi
  refine ofS (pss_cons (ps_setLc (tt := tTsB X scope ifs) (te := tEXB X scope elt) hcalm hN hy hyl hsw hpi ok hpg (fun s H C cl fp => ⟨fun pins s' σ H' Q I h => h s H C cl fp pins s' I⟩) (fun s H C cl fp => ⟨fun pins s' σ H' Q I h => h s H C cl fp pins s' I⟩) hs) toS) ?_
  refine lc_read hi hwi hg ht he hh hys (Q := fun v H1 => gName i v σ H1 (tSX X rest D)) fun l F G2 H2 ex ow hF => ?_
  exact hr ys B _ G2 H2 (hh.newO ex ow hF) o hk D hfin
theorem sx_setLc {S L ρ : Type} [Py ρ] {Γn : S → List Bd} {Γl : L → List Bd} {i : Nat} {y : Str} {py spos : Pos} {k : List β → Option (Oc S L ρ)} (hy : X.N[i]? = some y) (hyl : X.env.scope.names.lookup y = some .local)
    (hsw : swapsWith (.ListComp elt [⟨tg, iter, ifs, 0⟩] scope pos) (some (.Name y py)) spos.line X.env = pure true)
    (ht : ∀ (s : Shared) (H : Hp) (C : Addr) (cl : List (Str × Addr)) (fp : List Addr) (x : α), ETs (Blk X s H scope cl C fp) c (f (wipeB Γ (own.map (·.2))) x) ifs (t x))
    (he : ∀ (s : Shared) (H : Hp) (C : Addr) (cl : List (Str × Addr)) (fp : List Addr) (x : α), EX (Blk X s H scope cl C fp) c (f (wipeB Γ (own.map (·.2))) x) elt (e' x))
    (hlt : i < Γ.length) (hr : ∀ x : List β, SX X c (Γ.set i (.fr x)) rest (k x) Γn Γl) (hs : ∀ x, foldedSetIterable iter X.env x = pure x := by intro _; rfl) :
    SX X c Γ (.Assign [.Name y py] (.ListComp elt [⟨tg, iter, ifs, 0⟩] scope pos) spos :: rest) ((m.bind (lcM t e')).bind k) Γn Γl := by
  refine sx_setLcO hcalm hN hi ok hpg hg hy hyl hsw ht he (fun x => ?_) hs
  refine sx_freeze (i := i) (x := x) (by rw [List.getElem?_set_self hlt]) ?_
  rw [List.set_set]
  exact hr x
end

/-! ### arguments, calls of own defs -/
theorem ea_nil : EA X c Γ [] (some ()) := by
  intro B σ G H hh x hx Q k
  cases hx
  exact ofA pa_nil (k [] G H (Ext.refl hh.gh) rfl)
theorem ea_cons {δ : Type} [PyA δ] {m : Option α} {ms : Option δ} (h : EX X c Γ e m) (hr : EA X c Γ es ms) (he : starEach (e :: es) X.env = (false, eval e X.env) :: starEach es X.env := by rfl) : EA X c Γ (e :: es) (m.bind fun x => ms.bind fun r => some (x, r)) := by
  intro B σ G H hh z hz Q k
  obtain ⟨x, hx, hz⟩ := bind_some' hz
  obtain ⟨r, hr', hz⟩ := bind_some' hz
  cases hz
  refine ofA (pa_cons toE toA he) ?_
  refine h B σ G H hh x hx _ fun v G1 H1 e1 r1 => hr B σ G1 H1 (hh.mono e1) r hr' _ fun vs G2 H2 e2 r2 => ?_
  exact k (v :: vs) G2 H2 (e1.trans e2) ⟨v, vs, rfl, Py.mono e2.g r1, r2⟩
/-- the promise of a def that computes m -/
def spM (K : Frag) (c : Cls) {δ ρ : Type} [PyA δ] [Py ρ] (m : δ → Option ρ) : Sp := fun vs H Q _ => ∃ G x r, Same G H ∧ PyA.rep K c G vs x ∧ m x = some r ∧ ∀ v G2 H2, Ext G H G2 H2 → Py.rep K c G2 v r → Q v H2
/-- the def of the module's name x computes m, at level k -/
structure FnM (P : Program) (w : World) (K : Frag) (mg : Str → Option Value) (base : Heap) (c : Cls) (x : Str) (k : Nat) {δ ρ : Type} [PyA δ] [Py ρ] (m : δ → Option ρ) : Prop where
  ex : ∃ f fd ps, FnOk P w K mg base CX0 k f fd ps (spM K c m) ∧ mg x = some (.ref f) ∧ PySem.W.keepIn K (.ref f) = true ∧ Binds K fd ps []
theorem FnOk.up {P : Program} {w : World} {K : PySem.W.Frag} {mg : Str → Option Value} {base : Heap} {CX : CXT} {k j : Nat} {f : Addr} {fd : FuncData} {ps : List Str} {sp : Sp} (h : k ≤ j) (F : FnOk P w K mg base CX k f fd ps sp) : FnOk P w K mg base CX j f fd ps sp := F.mono h
theorem ex_call {δ ρ : Type} [PyA δ] [Py ρ] {x : Str} {k j : Nat} {mf : δ → Option ρ} {ms : Option δ} (F : FnM X.prog X.w X.K X.mg X.base c x k mf) (hr : Room j X.A) (hk : k ≤ j) (hg : Gl X x) (ha : EA X c Γ (e :: es) ms)
    (hdb : (x == ("__debug__" : Str)) = false := by decide) (he : starEach (e :: es) X.env = (false, eval e X.env) :: starEach es X.env := by rfl) (hpl : (backTo pos (starEach es X.env)).any (·.1) = false := by rfl) :
    EX X c Γ (.Call (.Name x p) (e :: es) [] pos) (ms.bind mf) := by
  intro B σ G H hh z hz Q q
  obtain ⟨y, hy, hz⟩ := bind_some' hz
  obtain ⟨f, fd, ps, F1, h1, h2, h3⟩ := F.ex
  refine ofE (pe_call F1 (hr.mono hk) hg h1 h2 h3 .nil pass0 toA hdb he hpl) ?_
  refine ha B σ G H hh y hy _ fun vs G2 H2 ex r => ?_
  refine ⟨G2, y, z, ex.gh, by rw [List.append_nil]; exact r, hz, fun v G3 H3 ex3 r3 => q v G3 H3 (ex.trans ex3) r3⟩
theorem ex_call0 {ρ : Type} [Py ρ] {x : Str} {k j : Nat} {mf : Unit → Option ρ} (F : FnM X.prog X.w X.K X.mg X.base c x k mf) (hr : Room j X.A) (hk : k ≤ j) (hg : Gl X x) (hdb : (x == ("__debug__" : Str)) = false := by decide) :
    EX X c Γ (.Call (.Name x p) [] [] pos) (mf ()) := by
  intro B σ G H hh z hz Q q
  obtain ⟨f, fd, ps, F1, h1, h2, h3⟩ := F.ex
  refine ofE (pe_call0 F1 (hr.mono hk) hg h1 h2 h3 .nil pass0 hdb) ?_
  exact ⟨G, (), z, hh.gh, rfl, hz, fun v G3 H3 ex3 r3 => q v G3 H3 ex3 r3⟩

/-! ### a def by its body -/
def Oc.out {S L ρ : Type} : Oc S L ρ → Option ρ
  | .rt r => some r
  | _ => none
/-- a def that hands back None at its end -/
def Oc.outU {S L : Type} : Oc S L Unit → Option Unit
  | .rt _ => some ()
  | .nx _ => some ()
  | _ => none
theorem holds_start {K : Frag} {G H : Hp} {δ : Type} [PyA δ] {vs : List V} {x : δ} (e : Same G H) (h : PyA.rep K c G vs x) (N : List Str) (hl : (PyA.bds x).length ≤ N.length) :
    CT.Holds K c ⟨G, H, []⟩ G H (PyA.bds x ++ List.replicate (N.length - (PyA.bds x).length) Bd.no) (L2.start N vs) := by
  obtain ⟨h1, h2⟩ := PyA.at' h
  refine ⟨Same.refl G, fun a o _ q => q, e, fun a q _ => q, fun a q => q, ?_, fun _ => [], (fun i j _ a ha => nomatch ha), fun i b hb => ?_⟩
  · unfold L2.start
    simp [h1]
  · unfold L2.start
    by_cases hi : i < (PyA.bds x).length
    · rw [List.getElem?_append_left hi] at hb
      obtain ⟨v, q1, q2⟩ := h2 ⟨G, H, []⟩ H i b hb
      refine ⟨some v, ?_, q2⟩
      rw [List.getElem?_append_left (by simp; omega)]
      simp [q1]
    · rw [List.getElem?_append_right (by omega)] at hb
      have hb' := hb
      rw [List.getElem?_replicate] at hb
      split at hb
      · rename_i hlt
        cases hb
        refine ⟨none, ?_, rfl⟩
        have hvl : vs.length ≤ i := by omega
        rw [List.getElem?_append_right (by simpa using hvl), List.getElem?_replicate, List.length_map, h1, if_pos hlt]
      · cases hb
theorem fin_out {K : Frag} {G H : Hp} {S L ρ : Type} [Py ρ] {Γn : S → List Bd} {Γl : L → List Bd} {Q : VK} {o : Oc S L ρ} {r : ρ} (ho : o.out = some r) (q : ∀ v G2 H2, Ext G H G2 H2 → Py.rep K c G2 v r → Q v H2) {D : Ends} (hD : D.rt = Q) :
    Fin K c ⟨G, H, []⟩ D Γn Γl o := by
  cases o with
  | rt r' =>
    cases ho
    intro v G2 H2 Γ' σ' hh rr
    rw [hD]
    exact q v G2 H2 ⟨hh.g0, fun a o e => hh.h0 a o (by simp) e, hh.gh, hh.fr⟩ rr
  | nx s => cases ho
  | ct s => cases ho
  | bk s => cases ho
theorem fin_outU {K : Frag} {G H : Hp} {S L : Type} {Γn : S → List Bd} {Γl : L → List Bd} {Q : VK} {o : Oc S L Unit} {r : Unit} (ho : o.outU = some r) (q : ∀ v G2 H2, Ext G H G2 H2 → Py.rep K c G2 v r → Q v H2) :
    Fin K c ⟨G, H, []⟩ { nx := fun _ H' => Q .non H', rt := Q } Γn Γl o := by
  cases o with
  | rt r' =>
    intro v G2 H2 Γ' σ' hh rr
    exact q v G2 H2 ⟨hh.g0, fun a o e => hh.h0 a o (by simp) e, hh.gh, hh.fr⟩ rr
  | nx s =>
    intro σ' G2 H2 hh
    exact q .non G2 H2 ⟨hh.g0, fun a o e => hh.h0 a o (by simp) e, hh.gh, hh.fr⟩ rfl
  | ct s => cases ho
  | bk s => cases ho
end
section
variable {P : Program} {w : World} {K : Frag} {mg : Str → Option Value} {base : Heap} {c : Cls}
abbrev BodyCx (P : Program) (w : World) (K : Frag) (mg : Str → Option Value) (base : Heap) (N : List Str) (qual : Str) (scope : Scope) (f : Addr) (cdv : Value) (A : Around) (outer : List Env) (s : Shared) (H : Hp) (E : XK) : Cx := (cxOf CX0 P w K mg base N qual scope f cdv A outer s H E).nox
theorem fn_body {x qual : Str} {st : Stmt} {f : Addr} {fd : FuncData} {N ps : List Str} {k : Nat} {δ S L ρ : Type} [PyA δ] [Py ρ] {m : δ → Option (Oc S L ρ)} {Γn : S → List Bd} {Γl : L → List Bd} (F : Fun K x qual st f fd) (SC : FnScope N ps (defScope st)) (hl : ∀ x : δ, (PyA.bds x).length = ps.length) (hle : ps.length ≤ N.length)
    (hb : ∀ (cdv : Value) (A : Around) (outer : List Env) (s : Shared) (H : Hp) (E : XK) (x : δ), Room k (A.deeper (envOfC qual (defScope st) s.heap.objs.size f cdv)) → SX (BodyCx P w K mg base N qual (defScope st) f cdv A outer s H E) c (PyA.bds x ++ List.replicate (N.length - ps.length) Bd.no) (defBody st) (m x) Γn Γl) :
    FnOk P w K mg base CX0 (k + 1) f fd ps (spM K c fun x => (m x).bind Oc.out) := by
  refine F.ok SC (fun vs H Q E h => ?_) (fun cdv A outer s H vs Q E hr h => ⟨_, toS, ?_⟩)
  · obtain ⟨G, x, r, _, h1, _⟩ := h
    rw [(PyA.at' h1).1]
    exact hl x
  · obtain ⟨G, x, r, h0, h1, h2, h3⟩ := h
    obtain ⟨o, ho, hr'⟩ := bind_some' h2
    have hs := holds_start h0 h1 N (by rw [hl]; exact hle)
    rw [hl] at hs
    exact hb cdv A outer s H E x hr ⟨G, H, []⟩ _ G H hs o ho _ (fin_out hr' h3 rfl)
theorem fn_bodyU {x qual : Str} {st : Stmt} {f : Addr} {fd : FuncData} {N ps : List Str} {k : Nat} {δ S L : Type} [PyA δ] {m : δ → Option (Oc S L Unit)} {Γn : S → List Bd} {Γl : L → List Bd} (F : Fun K x qual st f fd) (SC : FnScope N ps (defScope st)) (hl : ∀ x : δ, (PyA.bds x).length = ps.length) (hle : ps.length ≤ N.length)
    (hb : ∀ (cdv : Value) (A : Around) (outer : List Env) (s : Shared) (H : Hp) (E : XK) (x : δ), Room k (A.deeper (envOfC qual (defScope st) s.heap.objs.size f cdv)) → SX (BodyCx P w K mg base N qual (defScope st) f cdv A outer s H E) c (PyA.bds x ++ List.replicate (N.length - ps.length) Bd.no) (defBody st) (m x) Γn Γl) :
    FnOk P w K mg base CX0 (k + 1) f fd ps (spM K c fun x => (m x).bind Oc.outU) := by
  refine F.ok SC (fun vs H Q E h => ?_) (fun cdv A outer s H vs Q E hr h => ⟨_, toS, ?_⟩)
  · obtain ⟨G, x, r, _, h1, _⟩ := h
    rw [(PyA.at' h1).1]
    exact hl x
  · obtain ⟨G, x, r, h0, h1, h2, h3⟩ := h
    obtain ⟨o, ho, hr'⟩ := bind_some' h2
    have hs := holds_start h0 h1 N (by rw [hl]; exact hle)
    rw [hl] at hs
    exact hb cdv A outer s H E x hr ⟨G, H, []⟩ _ G H hs o ho _ (fin_outU hr' h3)
end
end CT

end
/-! ## Cert4.lean -/
section
set_option Elab.async false
set_option linter.all false
set_option maxRecDepth 100000
set_option maxHeartbeats 4000000
/-! Certified translation: operators, tests, built-in functions. -/
namespace CT
open PySem L2 PySem.Spec PyProof.Rows

section
variable {X : Cx} {c : Cls} {Γ Γ1 : List Bd} {e a b d : Expr} {es : List Expr} {rest : List Stmt} {pos p : Pos} {α β γ : Type} [Py α] [Py β] [Py γ]

/-! ### whole numbers -/
theorem ext0 {G H : Hp} (e : Same G H) {Q : VK} {v : V} {x : α} (k : ∀ w G2 H2, Ext G H G2 H2 → Py.rep X.K c G2 w x → Q w H2) (r : Py.rep X.K c G v x) : Q v H := k v G H (Ext.refl e) r
theorem o2_add : Op2 X c (rI0 fun i j => .int (i + j)) (fun x y : Int => some (x + y)) := fun x y z v u G H Q e r1 r2 h k => ⟨x, y, r1, r2, ext0 e k (by cases h; rfl)⟩
theorem o2_sub : Op2 X c (rI0 fun i j => .int (i - j)) (fun x y : Int => some (x - y)) := fun x y z v u G H Q e r1 r2 h k => ⟨x, y, r1, r2, ext0 e k (by cases h; rfl)⟩
def mulM (x y : Int) : Option Int := if (-(2 ^ 64) < x ∧ x < 2 ^ 64) ∨ (-(2 ^ 64) < y ∧ y < 2 ^ 64) then some (x * y) else none
theorem o2_mul : Op2 X c (rI CMul fun i j => .int (i * j)) mulM := fun x y z v u G H Q e r1 r2 h k => by
  unfold mulM at h
  split at h
  · rename_i q
    cases h
    exact ⟨x, y, r1, r2, q, ext0 e k rfl⟩
  · cases h
def fdivM (x y : Int) : Option Int := if 0 < y ∧ y < 1073741824 then some (x / y) else none
theorem o2_fdiv : Op2 X c (rI CDiv fun i j => .int (i / j)) fdivM := fun x y z v u G H Q e r1 r2 h k => by
  unfold fdivM at h
  split at h
  · rename_i q
    cases h
    exact ⟨x, y, r1, r2, q, ext0 e k rfl⟩
  · cases h
def modM (x y : Int) : Option Int := if 0 < y then some (x % y) else none
theorem o2_mod : Op2 X c (rI (fun _ j => 0 < j) fun i j => .int (i % j)) modM := fun x y z v u G H Q e r1 r2 h k => by
  unfold modM at h
  split at h
  · rename_i q
    cases h
    exact ⟨x, y, r1, r2, q, ext0 e k rfl⟩
  · cases h
def powM (x y : Int) : Option Int := if 0 ≤ y ∧ y ≤ 1000000 ∧ x.natAbs < 2 ^ 64 then some (x ^ y.toNat) else none
theorem o2_pow : Op2 X c (rI CPow fun i j => .int (i ^ j.toNat)) powM := fun x y z v u G H Q e r1 r2 h k => by
  unfold powM at h
  split at h
  · rename_i q
    cases h
    exact ⟨x, y, r1, r2, q, ext0 e k rfl⟩
  · cases h
/-- by a written number -/
theorem ex_fdivL {m : Option Int} {n : Int} {j : Nat} {q : Pos} (ha : EX X c Γ a m) (hn : 0 < n ∧ n < 1073741824 := by decide) : EX X c Γ (.BinOp a .FloorDiv (.Constant (.int n) j q) pos) (m.bind fun x => some (x / n)) := by
  have h := ex_op (c := c) (pos := pos) op_fdiv o2_fdiv ha (ex_int (i := n) (j := j) (pos := q))
  have e : (m.bind fun x => (some n).bind fun y => fdivM x y) = m.bind fun x => some (x / n) := by
    cases m with
    | none => rfl
    | some x => show fdivM x n = _; unfold fdivM; rw [if_pos hn]; rfl
  rw [← e]
  exact h
theorem ex_modL {m : Option Int} {n : Int} {j : Nat} {q : Pos} (ha : EX X c Γ a m) (hn : 0 < n := by decide) : EX X c Γ (.BinOp a .Mod (.Constant (.int n) j q) pos) (m.bind fun x => some (x % n)) := by
  have h := ex_op (c := c) (pos := pos) op_mod o2_mod ha (ex_int (i := n) (j := j) (pos := q))
  have e : (m.bind fun x => (some n).bind fun y => modM x y) = m.bind fun x => some (x % n) := by
    cases m with
    | none => rfl
    | some x => show modM x n = _; unfold modM; rw [if_pos hn]; rfl
  rw [← e]
  exact h
theorem ex_mulR {m : Option Int} {n : Int} {j : Nat} {q : Pos} (ha : EX X c Γ a m) (hn : -(2 ^ 64) < n ∧ n < 2 ^ 64 := by decide) : EX X c Γ (.BinOp a .Mult (.Constant (.int n) j q) pos) (m.bind fun x => some (x * n)) := by
  have h := ex_op (c := c) (pos := pos) op_mul o2_mul ha (ex_int (i := n) (j := j) (pos := q))
  have e : (m.bind fun x => (some n).bind fun y => mulM x y) = m.bind fun x => some (x * n) := by
    cases m with
    | none => rfl
    | some x => show mulM x n = _; unfold mulM; rw [if_pos (.inr hn)]; rfl
  rw [← e]
  exact h
theorem ex_mulL {m : Option Int} {n : Int} {j : Nat} {q : Pos} (ha : EX X c Γ a m) (hn : -(2 ^ 64) < n ∧ n < 2 ^ 64 := by decide) : EX X c Γ (.BinOp (.Constant (.int n) j q) .Mult a pos) (m.bind fun x => some (n * x)) := by
  have h := ex_op (c := c) (pos := pos) op_mul o2_mul (ex_int (i := n) (j := j) (pos := q)) ha
  have e : ((some n).bind fun y => m.bind fun x => mulM y x) = m.bind fun x => some (n * x) := by
    cases m with
    | none => rfl
    | some x => show mulM n x = _; unfold mulM; rw [if_pos (.inl hn)]; rfl
  rw [← e]
  exact h
theorem ex_powL {n k : Int} {j j' : Nat} {q q' : Pos} {z : Int} (hn : powM n k = some z) : EX X c Γ (.BinOp (.Constant (.int n) j q) .Pow (.Constant (.int k) j' q') pos) (some z) := by
  rw [← hn]
  exact ex_op (c := c) (pos := pos) op_pow o2_pow (ex_int (i := n) (j := j) (pos := q)) (ex_int (i := k) (j := j') (pos := q'))
theorem ex_neg {m : Option Int} (ha : EX X c Γ a m) : EX X c Γ (.UnaryOp .USub a pos) (m.bind fun x => some (-x)) := by
  intro B σ G H hh z hz Q k
  obtain ⟨x, hx, hz⟩ := bind_some' hz
  cases hz
  refine ofE (pe_un un_neg toE) ?_
  refine ha B σ G H hh x hx _ fun v G2 H2 ex r => ?_
  exact ⟨x, r, k _ G2 H2 ex rfl⟩
theorem o2_lt : Op2 X c (rI0 fun i j => .bl (decide (i < j))) (fun x y : Int => some (decide (x < y))) := fun x y z v u G H Q e r1 r2 h k => ⟨x, y, r1, r2, ext0 e k (by cases h; rfl)⟩
theorem o2_le : Op2 X c (rI0 fun i j => .bl (decide (i ≤ j))) (fun x y : Int => some (decide (x ≤ y))) := fun x y z v u G H Q e r1 r2 h k => ⟨x, y, r1, r2, ext0 e k (by cases h; rfl)⟩
theorem o2_gt : Op2 X c (rI0 fun i j => .bl (decide (j < i))) (fun x y : Int => some (decide (x > y))) := fun x y z v u G H Q e r1 r2 h k => ⟨x, y, r1, r2, ext0 e k (by cases h; rfl)⟩
theorem o2_ge : Op2 X c (rI0 fun i j => .bl (decide (j ≤ i))) (fun x y : Int => some (decide (x ≥ y))) := fun x y z v u G H Q e r1 r2 h k => ⟨x, y, r1, r2, ext0 e k (by cases h; rfl)⟩
theorem vint_eq (x y : Int) : decide (V.int x = V.int y) = decide (x = y) := by
  by_cases h : x = y
  · subst h; simp
  · simp [h]
theorem o2_eq : Op2 X c rEq (fun x y : Int => some (decide (x = y))) := fun x y z v u G H Q e r1 r2 h k => by
  cases h
  obtain rfl : v = .int x := r1
  obtain rfl : u = .int y := r2
  exact ⟨rfl, ext0 (X := X) (c := c) e k (show V.bl _ = V.bl _ by rw [vint_eq])⟩
theorem o2_ne : Op2 X c rNe (fun x y : Int => some (decide (x ≠ y))) := fun x y z v u G H Q e r1 r2 h k => by
  cases h
  obtain rfl : v = .int x := r1
  obtain rfl : u = .int y := r2
  exact ⟨rfl, ext0 (X := X) (c := c) e k (show V.bl _ = V.bl _ by rw [vint_eq]; simp)⟩
/-- a < b < d -/
theorem chain_read {r r' : R2} {f : α → β → Option Bool} {g : β → γ → Option Bool} (hf : Op2 X c r f) (hg : Op2 X c r' g) {ma : Option α} {mb : Option β} {mc : Option γ} (ha : EX X c Γ a ma) (hb : EX X c Γ b mb) (hd : EX X c Γ d mc)
    {B : Base} {σ : L2.St} {G H : Hp} (hh : CT.Holds X.K c B G H Γ σ) {z : Bool} (hz : (ma.bind fun x => mb.bind fun y => (f x y).bind fun q => if q = true then mc.bind fun z => g y z else some false) = some z) {Q : VK}
    (k : ∀ G2 H2, Ext G H G2 H2 → Q (.bl z) H2) : tChain r r' (tEX X a) (tEX X b) (tEX X d) σ H Q := by
  obtain ⟨x, hx, hz⟩ := bind_some' hz
  obtain ⟨y, hy, hz⟩ := bind_some' hz
  obtain ⟨q, hq, hz⟩ := bind_some' hz
  refine ha B σ G H hh x hx _ fun v G1 H1 e1 r1 => hb B σ G1 H1 (hh.mono e1) y hy _ fun u G2 H2 e2 r2 => ?_
  refine hf x y q v u G2 H2 _ e2.gh (Py.mono e2.g r1) r2 hq fun w G3 H3 e3 r3 => ⟨q, r3, ?_⟩
  have e13 := (e1.trans e2).trans e3
  cases q with
  | false =>
    rw [if_neg Bool.false_ne_true] at hz ⊢
    cases hz
    exact k G3 H3 e13
  | true =>
    rw [if_pos rfl] at hz ⊢
    obtain ⟨t, ht, hz⟩ := bind_some' hz
    refine hd B σ G3 H3 (hh.mono e13) t ht _ fun w' G4 H4 e4 r4 => ?_
    exact hg y t z u w' G4 H4 _ e4.gh (Py.mono (e3.g.trans e4.g) r2) r4 hz fun w5 G5 H5 e5 r5 => by
      obtain rfl : w5 = .bl z := r5
      exact k G5 H5 ((e13.trans e4).trans e5)
theorem ex_chain {op op' : CmpOp} {r r' : R2} {f : α → β → Option Bool} {g : β → γ → Option Bool} (ho : OpR X (compareOp op) r) (ho' : OpR X (compareOp op') r') (hf : Op2 X c r f) (hg : Op2 X c r' g) {ma : Option α} {mb : Option β} {mc : Option γ} (ha : EX X c Γ a ma) (hb : EX X c Γ b mb) (hd : EX X c Γ d mc)
    (hm : lastMarks [op, op'] [b, d] = false := by with_unfolding_all rfl) :
    EX X c Γ (.Compare a [op, op'] [b, d] pos) (ma.bind fun x => mb.bind fun y => (f x y).bind fun q => if q = true then mc.bind fun z => g y z else some false) :=
  fun B σ G H hh z hz Q k => ofE (pe_chain ho ho' toE toE toE hm) (chain_read hf hg ha hb hd hh hz fun G2 H2 ex => k (.bl z) G2 H2 ex rfl)
theorem et_chain {op op' : CmpOp} {r r' : R2} {f : α → β → Option Bool} {g : β → γ → Option Bool} (ho : OpR X (compareOp op) r) (ho' : OpR X (compareOp op') r') (hf : Op2 X c r f) (hg : Op2 X c r' g) {ma : Option α} {mb : Option β} {mc : Option γ} (ha : EX X c Γ a ma) (hb : EX X c Γ b mb) (hd : EX X c Γ d mc)
    (hm : lastMarks [op, op'] [b, d] = false := by with_unfolding_all rfl) :
    ET X c Γ (.Compare a [op, op'] [b, d] pos) (ma.bind fun x => mb.bind fun y => (f x y).bind fun q => if q = true then mc.bind fun z => g y z else some false) :=
  fun B σ G H hh z hz Q k => ofT (pt_chain ho ho' toE toE toE hm) (chain_read hf hg ha hb hd hh hz fun G2 H2 ex => ⟨z, rfl, k G2 H2 ex⟩)

/-! ### tests -/
theorem et_bool {m : Option Bool} (h : EX X c Γ e m) (he : ∀ whole, isTrue e X.env whole = (do let v ← whole; standAt e.pos; holding [v] (truthy v)) := by intro _; rfl) : ET X c Γ e m := by
  intro B σ G H hh z hz Q k
  refine ofT (pt_val toE he) ?_
  exact h B σ G H hh z hz _ fun v G2 H2 ex r => ⟨z, r, k G2 H2 ex⟩
/-- data with a truth -/
class Tru (α : Type) [Py α] where
  tru : α → Bool
  ok : ∀ {K : Frag} {c : Cls} {G H : Hp} {v : V} {x : α}, Same G H → Py.rep K c G v x → TruV K v H (tru x)
instance : Tru Int := ⟨fun i => i != 0, fun {K c G H v x} _ r => by
  obtain rfl : v = .int x := r
  rfl⟩
instance : Tru Bool := ⟨fun b => b, fun {K c G H v x} _ r => by
  obtain rfl : v = .bl x := r
  rfl⟩
theorem isEmpty_all2 {α β : Type} {F : α → β → Prop} {xs : List α} {ys : List β} (h : All2 F xs ys) : xs.isEmpty = ys.isEmpty := by
  cases h <;> rfl
instance {α : Type} [Py α] : Tru (List α) := ⟨fun l => !l.isEmpty, fun {K c G H v x} e r => by
  obtain ⟨a, xs, rfl, _, hs, h⟩ := r
  exact .inl ⟨xs, Same.seq e hs, by rw [isEmpty_all2 h]⟩⟩
instance {α : Type} [Py α] : Tru (Tup α) := ⟨fun l => !l.items.isEmpty, fun {K c G H v x} e r => by
  obtain ⟨a, xs, rfl, _, hs, h⟩ := r
  exact .inr (.inl ⟨xs, SqT.of (e _ _ hs), by rw [isEmpty_all2 h]⟩)⟩
theorem et_tru [Tru α] {m : Option α} (h : EX X c Γ e m) (he : ∀ whole, isTrue e X.env whole = (do let v ← whole; standAt e.pos; holding [v] (truthy v)) := by intro _; rfl) : ET X c Γ e (m.bind fun x => some (Tru.tru x)) := by
  intro B σ G H hh z hz Q k
  obtain ⟨x, hx, hz⟩ := bind_some' hz
  cases hz
  refine ofT (pt_truth toE he) ?_
  exact h B σ G H hh x hx _ fun v G2 H2 ex r => ⟨_, Tru.ok ex.gh r, k G2 H2 ex⟩
theorem et_not {m : Option Bool} (h : ET X c Γ a m) : ET X c Γ (.UnaryOp .Not a pos) (m.bind fun q => some (!q)) := by
  intro B σ G H hh z hz Q k
  obtain ⟨q, hq, hz⟩ := bind_some' hz
  cases hz
  refine ofT (pt_not toT) ?_
  exact h B σ G H hh q hq _ fun G2 H2 ex => k G2 H2 ex
theorem et_w {m : Option Bool} (h : EW X c Γ e m) : ET X c Γ e m := by
  intro B σ G H hh z hz Q k
  exact ofT (PW.pt toW) (h B σ G H hh z hz Q k)
theorem ew_and1 {m : Option Bool} (h : ET X c Γ a m) : EW X c Γ (.BoolOp .And [a] pos) m := by
  intro B σ G H hh z hz Q k
  exact ofW (pw_and1 toT) (h B σ G H hh z hz Q k)
theorem ew_or1 {m : Option Bool} (h : ET X c Γ a m) : EW X c Γ (.BoolOp .Or [a] pos) m := by
  intro B σ G H hh z hz Q k
  exact ofW (pw_or1 toT) (h B σ G H hh z hz Q k)
theorem ew_and {m m' : Option Bool} (h : ET X c Γ a m) (h' : EW X c Γ (.BoolOp .And (b :: es) pos) m') : EW X c Γ (.BoolOp .And (a :: b :: es) pos) (m.bind fun q => if q = true then m' else some false) := by
  intro B σ G H hh z hz Q k
  obtain ⟨q, hq, hz⟩ := bind_some' hz
  refine ofW (pw_and toT toW) ?_
  refine h B σ G H hh q hq _ fun G2 H2 ex => ?_
  cases q with
  | true =>
    rw [if_pos rfl] at hz ⊢
    exact h' B σ G2 H2 (hh.mono ex) z hz Q fun G3 H3 ex3 => k G3 H3 (ex.trans ex3)
  | false =>
    rw [if_neg Bool.false_ne_true] at hz ⊢
    cases hz
    exact k G2 H2 ex
theorem ew_or {m m' : Option Bool} (h : ET X c Γ a m) (h' : EW X c Γ (.BoolOp .Or (b :: es) pos) m') : EW X c Γ (.BoolOp .Or (a :: b :: es) pos) (m.bind fun q => if q = true then some true else m') := by
  intro B σ G H hh z hz Q k
  obtain ⟨q, hq, hz⟩ := bind_some' hz
  refine ofW (pw_or toT toW) ?_
  refine h B σ G H hh q hq _ fun G2 H2 ex => ?_
  cases q with
  | true =>
    rw [if_pos rfl] at hz ⊢
    cases hz
    exact k G2 H2 ex
  | false =>
    rw [if_neg Bool.false_ne_true] at hz ⊢
    exact h' B σ G2 H2 (hh.mono ex) z hz Q fun G3 H3 ex3 => k G3 H3 (ex.trans ex3)
/-- and, or, not as values -/
theorem ex_bo1 {op : BoolOp} {m : Option Bool} (h : EX X c Γ a m) : EX X c Γ (.BoolOp op [a] pos) m := by
  intro B σ G H hh z hz Q k
  exact ofE (pe_one toE) (h B σ G H hh z hz Q k)
theorem ex_and {m m' : Option Bool} (h : EX X c Γ a m) (h' : EX X c Γ (.BoolOp .And (b :: es) pos) m') : EX X c Γ (.BoolOp .And (a :: b :: es) pos) (m.bind fun q => if q = true then m' else some false) := by
  intro B σ G H hh z hz Q k
  obtain ⟨q, hq, hz⟩ := bind_some' hz
  refine ofE (pe_and toE toE) ?_
  refine h B σ G H hh q hq _ fun v G2 H2 ex r => ⟨q, r, ?_⟩
  cases q with
  | true =>
    rw [if_pos rfl] at hz ⊢
    exact h' B σ G2 H2 (hh.mono ex) z hz Q fun w G3 H3 ex3 r3 => k w G3 H3 (ex.trans ex3) r3
  | false =>
    rw [if_neg Bool.false_ne_true] at hz ⊢
    cases hz
    exact k _ G2 H2 ex rfl
theorem ex_or {m m' : Option Bool} (h : EX X c Γ a m) (h' : EX X c Γ (.BoolOp .Or (b :: es) pos) m') : EX X c Γ (.BoolOp .Or (a :: b :: es) pos) (m.bind fun q => if q = true then some true else m') := by
  intro B σ G H hh z hz Q k
  obtain ⟨q, hq, hz⟩ := bind_some' hz
  refine ofE (pe_or toE toE) ?_
  refine h B σ G H hh q hq _ fun v G2 H2 ex r => ⟨q, r, ?_⟩
  cases q with
  | true =>
    rw [if_pos rfl] at hz ⊢
    cases hz
    exact k _ G2 H2 ex rfl
  | false =>
    rw [if_neg Bool.false_ne_true] at hz ⊢
    exact h' B σ G2 H2 (hh.mono ex) z hz Q fun w G3 H3 ex3 r3 => k w G3 H3 (ex.trans ex3) r3
theorem ex_not {m : Option Bool} (h : EX X c Γ a m) : EX X c Γ (.UnaryOp .Not a pos) (m.bind fun q => some (!q)) := by
  intro B σ G H hh z hz Q k
  obtain ⟨q, hq, hz⟩ := bind_some' hz
  cases hz
  refine ofE (pe_not toE) ?_
  exact h B σ G H hh q hq _ fun v G2 H2 ex r => ⟨q, r, k _ G2 H2 ex rfl⟩
/-- a if t else b -/
theorem ex_ifE {t : Expr} {mt : Option Bool} {m m' : Option α} (ht : ET X c Γ t mt) (h : EX X c Γ a m) (h' : EX X c Γ b m') : EX X c Γ (.IfExp t a b pos) (mt.bind fun q => if q = true then m else m') := by
  intro B σ G H hh z hz Q k
  obtain ⟨q, hq, hz⟩ := bind_some' hz
  refine ofE (pe_ifExp toT toE toE) ?_
  refine ht B σ G H hh q hq _ fun G2 H2 ex => ?_
  cases q with
  | true =>
    rw [if_pos rfl] at hz ⊢
    exact h B σ G2 H2 (hh.mono ex) z hz Q fun w G3 H3 ex3 r3 => k w G3 H3 (ex.trans ex3) r3
  | false =>
    rw [if_neg Bool.false_ne_true] at hz ⊢
    exact h' B σ G2 H2 (hh.mono ex) z hz Q fun w G3 H3 ex3 r3 => k w G3 H3 (ex.trans ex3) r3
/-- data that is never None -/
class NN (α : Type) [Py α] : Prop where
  nn : ∀ {K : Frag} {c : Cls} {G : Hp} {x : α}, ¬ Py.rep K c G .non x
instance : NN Int := ⟨fun h => nomatch h⟩
instance : NN Bool := ⟨fun h => nomatch h⟩
instance : NN Str := ⟨fun h => nomatch h⟩
instance {α : Type} [Py α] : NN (List α) := ⟨fun ⟨_, _, h, _⟩ => nomatch h⟩
instance {α : Type} [Py α] : NN (Tup α) := ⟨fun ⟨_, _, h, _⟩ => nomatch h⟩
instance {α β : Type} [Py α] [Py β] : NN (α × β) := ⟨fun ⟨_, _, _, h, _⟩ => nomatch h⟩
theorem isN_val [NN α] {K : Frag} {G : Hp} {v : V} {o : Option α} (r : Py.rep K c G v o) : decide (v = .non) = o.isNone := by
  cases o with
  | none =>
    obtain rfl : v = .non := r
    simp
  | some x =>
    have : v ≠ .non := fun z => NN.nn (α := α) (K := K) (c := c) (G := G) (x := x) (z ▸ r)
    simp [this]
theorem o2_isN [NN α] : Op2 X c (fun x y H Q => y = .non ∧ Q (.bl (decide (x = .non))) H) (fun (x : Option α) (_ : Unit) => some x.isNone) := fun x y z v u G H Q e r1 r2 h k => by
  cases h
  refine ⟨r2, ext0 (X := X) (c := c) e k ?_⟩
  show V.bl _ = V.bl _
  rw [isN_val r1]
theorem o2_notN [NN α] : Op2 X c (fun x y H Q => y = .non ∧ Q (.bl (!decide (x = .non))) H) (fun (x : Option α) (_ : Unit) => some x.isSome) := fun x y z v u G H Q e r1 r2 h k => by
  cases h
  refine ⟨r2, ext0 (X := X) (c := c) e k ?_⟩
  show V.bl _ = V.bl _
  rw [isN_val r1]
  cases x <;> rfl
end
end CT

end
/-! ## Cert5.lean -/
section
set_option Elab.async false
set_option linter.all false
set_option maxRecDepth 100000
set_option maxHeartbeats 4000000
/-! Certified translation: typed data compared, looked for, sorted; built-in functions; displays. -/
namespace CT
open PySem L2 PySem.Spec PyProof.Rows

/-- data that can be compared -/
class PyD (α : Type) [Py α] [DecidableEq α] [PySem.W.Datum α] : Prop where
  dp : ∀ {K : Frag} {c : Cls} {G : Hp} {v : V} {x : α}, Py.rep K c G v x → Dp K G v (PySem.W.Datum.toD x)
theorem dp_mono {K : Frag} {G H : Hp} (e : Same G H) : ∀ {d : PyData} {v : V}, Dp K G v d → Dp K H v d := by
  intro d v h
  induction h using Dp.rec (motive_2 := fun vs ds _ => DpAll K H vs ds) with
  | non => exact .non
  | bl b => exact .bl b
  | int i => exact .int i
  | str x => exact .str x
  | lst hs _ ih => exact .lst (Same.seq e hs) ih
  | tup hs _ ih => exact .tup (Same.seqT e hs) ih
  | nil => exact .nil
  | cons _ _ ih1 ih2 => exact .cons ih1 ih2
instance : PyD Int := ⟨fun {K c G v x} r => by
  obtain rfl : v = .int x := r
  exact .int x⟩
instance : PyD Bool := ⟨fun {K c G v x} r => by
  obtain rfl : v = .bl x := r
  exact .bl x⟩
instance : PyD Str := ⟨fun {K c G v x} r => by
  obtain rfl : v = .str x := r
  exact .str x⟩
instance : PyD Unit := ⟨fun {K c G v x} r => by
  obtain rfl : v = .non := r
  exact .non⟩
section
variable {α β : Type} [Py α] [DecidableEq α] [PySem.W.Datum α] [PyD α] [Py β] [DecidableEq β] [PySem.W.Datum β] [PyD β]
theorem dp_all {K : Frag} {c : Cls} {G : Hp} {xs : List V} {ys : List α} (h : All2 (Py.rep K c G) xs ys) : DpAll K G xs (ys.map PySem.W.Datum.toD) := by
  induction h with
  | nil => exact .nil
  | cons r _ ih => exact .cons (PyD.dp r) ih
instance : PyD (List α) := ⟨fun {K c G v x} ⟨a, xs, e, _, hs, h⟩ => by
  subst e
  exact .lst hs (dp_all h)⟩
instance : PyD (Tup α) := ⟨fun {K c G v x} ⟨a, xs, e, _, hs, h⟩ => by
  subst e
  exact .tup (SqT.of hs) (dp_all h)⟩
instance : PyD (α × β) := ⟨fun {K c G v x} ⟨a, y, z, e, hs, h1, h2⟩ => by
  subst e
  exact .tup (SqT.of hs) (.cons (PyD.dp h1) (.cons (PyD.dp h2) .nil))⟩
end
section
variable {X : Cx} {c : Cls} {Γ Γ1 : List Bd} {e a b d : Expr} {es : List Expr} {rest : List Stmt} {pos p : Pos} {α β γ : Type} [Py α] [Py β] [Py γ]

/-! ### ==, != of typed data -/
section
variable [DecidableEq α] [PySem.W.Datum α] [PyD α]
def rEqT (K : Frag) (α : Type) [DecidableEq α] [PySem.W.Datum α] : R2 := fun v u H Q => ∃ x y : α, Dp K H v (PySem.W.Datum.toD x) ∧ Dp K H u (PySem.W.Datum.toD y) ∧ Q (.bl (decide (x = y))) H
def rNeT (K : Frag) (α : Type) [DecidableEq α] [PySem.W.Datum α] : R2 := fun v u H Q => ∃ x y : α, Dp K H v (PySem.W.Datum.toD x) ∧ Dp K H u (PySem.W.Datum.toD y) ∧ Q (.bl (decide (x ≠ y))) H
theorem op_eqT (hu : X.A.units + PySem.W.Datum.depth α < cLine) : OpR X (compareOp .Eq) (rEqT X.K α) := by
  intro pins s σ H v u v' u' Q I rv ru h
  obtain ⟨x, y, hx, hy, q⟩ := h
  exact PySem.W.eq_datum (x := x) (y := y) (Dp.reads I _ _ _ hx rv) (Dp.reads I _ _ _ hy ru) hu ⟨.bl _, H, I, rfl, q⟩
theorem op_neT (hu : X.A.units + PySem.W.Datum.depth α < cLine) : OpR X (compareOp .NotEq) (rNeT X.K α) := by
  intro pins s σ H v u v' u' Q I rv ru h
  obtain ⟨x, y, hx, hy, q⟩ := h
  exact PySem.W.ne_datum (x := x) (y := y) (Dp.reads I _ _ _ hx rv) (Dp.reads I _ _ _ hy ru) hu ⟨.bl _, H, I, rfl, q⟩
theorem o2_eqT : Op2 X c (rEqT X.K α) (fun x y : α => some (decide (x = y))) := fun x y z v u G H Q e r1 r2 h k => by
  cases h
  exact ⟨x, y, dp_mono e (PyD.dp r1), dp_mono e (PyD.dp r2), ext0 (X := X) (c := c) e k rfl⟩
theorem o2_neT : Op2 X c (rNeT X.K α) (fun x y : α => some (decide (x ≠ y))) := fun x y z v u G H Q e r1 r2 h k => by
  cases h
  exact ⟨x, y, dp_mono e (PyD.dp r1), dp_mono e (PyD.dp r2), ext0 (X := X) (c := c) e k rfl⟩
/-- in, not in: a list, a tuple -/
def rInT (K : Frag) (neg : Bool) (α : Type) [DecidableEq α] [PySem.W.Datum α] : R2 := fun v u H Q => ∃ (p : Addr) (vs : List V) (x : α) (xs : List α), u = .ref p ∧ (SqL K H p vs ∨ SqT K H p vs) ∧ DpAll K H vs (xs.map PySem.W.Datum.toD) ∧ Dp K H v (PySem.W.Datum.toD x) ∧ Q (.bl (if neg then decide (x ∉ xs) else decide (x ∈ xs))) H
theorem op_inT (hu : X.A.units + 1 + PySem.W.Datum.depth α < cLine) : OpR X (compareOp .In) (rInT X.K false α) := by
  intro pins s σ H v u v' u' Q I rv ru h
  obtain ⟨p, vs, x, xs, rfl, hs, hx, hy, q⟩ := h
  cases ru
  rcases hs with hs | hs
  · obtain ⟨its, r, hl, hz⟩ := I.list hs
    exact PySem.W.in_list_datum (x := x) (xs := xs) hl.isList (Dp.readsAll I _ _ _ hx r) (Dp.reads I _ _ _ hy rv) hu ⟨.bl _, H, I, rfl, q⟩
  · obtain ⟨its, r, hl, hz⟩ := I.tuple hs
    exact PySem.W.in_tuple_datum (x := x) (xs := xs) hl (Dp.readsAll I _ _ _ hx r) (Dp.reads I _ _ _ hy rv) hu ⟨.bl _, H, I, rfl, q⟩
theorem op_ninT (hu : X.A.units + 1 + PySem.W.Datum.depth α < cLine) : OpR X (compareOp .NotIn) (rInT X.K true α) := by
  intro pins s σ H v u v' u' Q I rv ru h
  obtain ⟨p, vs, x, xs, rfl, hs, hx, hy, q⟩ := h
  cases ru
  rcases hs with hs | hs
  · obtain ⟨its, r, hl, hz⟩ := I.list hs
    exact PySem.W.notIn_list_datum (x := x) (xs := xs) hl.isList (Dp.readsAll I _ _ _ hx r) (Dp.reads I _ _ _ hy rv) hu ⟨.bl _, H, I, rfl, q⟩
  · obtain ⟨its, r, hl, hz⟩ := I.tuple hs
    exact PySem.W.notIn_tuple_datum (x := x) (xs := xs) hl (Dp.readsAll I _ _ _ hx r) (Dp.reads I _ _ _ hy rv) hu ⟨.bl _, H, I, rfl, q⟩
theorem dpAll_mono {K : Frag} {G H : Hp} (e : Same G H) : ∀ {ds : List PyData} {vs : List V}, DpAll K G vs ds → DpAll K H vs ds
  | _, _, .nil => .nil
  | _, _, .cons h t => .cons (dp_mono e h) (dpAll_mono e t)
theorem o2_inL : Op2 X c (rInT X.K false α) (fun (x : α) (xs : List α) => some (decide (x ∈ xs))) := fun x y z v u G H Q e r1 r2 h k => by
  cases h
  obtain ⟨a, vs, rfl, _, hs, hv⟩ := r2
  exact ⟨a, vs, x, y, rfl, .inl (Same.seq e hs), dpAll_mono e (dp_all hv), dp_mono e (PyD.dp r1), ext0 (X := X) (c := c) e k rfl⟩
theorem o2_inU : Op2 X c (rInT X.K false α) (fun (x : α) (xs : Tup α) => some (decide (x ∈ xs.items))) := fun x y z v u G H Q e r1 r2 h k => by
  cases h
  obtain ⟨a, vs, rfl, _, hs, hv⟩ := r2
  exact ⟨a, vs, x, y.items, rfl, .inr (SqT.of (e _ _ hs)), dpAll_mono e (dp_all hv), dp_mono e (PyD.dp r1), ext0 (X := X) (c := c) e k rfl⟩
theorem o2_ninL : Op2 X c (rInT X.K true α) (fun (x : α) (xs : List α) => some (decide (x ∉ xs))) := fun x y z v u G H Q e r1 r2 h k => by
  cases h
  obtain ⟨a, vs, rfl, _, hs, hv⟩ := r2
  exact ⟨a, vs, x, y, rfl, .inl (Same.seq e hs), dpAll_mono e (dp_all hv), dp_mono e (PyD.dp r1), ext0 (X := X) (c := c) e k rfl⟩
theorem o2_ninU : Op2 X c (rInT X.K true α) (fun (x : α) (xs : Tup α) => some (decide (x ∉ xs.items))) := fun x y z v u G H Q e r1 r2 h k => by
  cases h
  obtain ⟨a, vs, rfl, _, hs, hv⟩ := r2
  exact ⟨a, vs, x, y.items, rfl, .inr (SqT.of (e _ _ hs)), dpAll_mono e (dp_all hv), dp_mono e (PyD.dp r1), ext0 (X := X) (c := c) e k rfl⟩
end

/-! ### built-in functions: what a call does on values -/
/-- on typed arguments -/
def Cal (X : Cx) (c : Cls) (r : List V → Hp → VK → Prop) {δ γ : Type} [PyA δ] [Py γ] (f : δ → Option γ) : Prop :=
  ∀ (x : δ) (z : γ) (vs : List V) (G H : Hp) (Q : VK), Same G H → PyA.rep X.K c G vs x → f x = some z → (∀ w G2 H2, Ext G H G2 H2 → Py.rep X.K c G2 w z → Q w H2) → r vs H Q
/-- .. to a new thing -/
def CalO (X : Cx) (c : Cls) (r : List V → Hp → VK → Prop) {δ γ : Type} [PyA δ] [Mu γ] (f : δ → Option γ) : Prop :=
  ∀ (x : δ) (z : γ) (vs : List V) (G H : Hp) (Q : VK), Same G H → PyA.rep X.K c G vs x → f x = some z → (∀ l F G2 H2, Ext G H G2 H2 → Mu.own X.K c G2 H2 l z F → (∀ a ∈ F, G2 a = none ∧ H a = none) → Q (.ref l) H2) → r vs H Q
theorem ex_B {δ : Type} [PyA δ] {r : List V → Hp → VK → Prop} {f : δ → Option γ} {id : String} {x : Str} {ms : Option δ} (hc : CallR X (.builtin id) r) (hf : Cal X c r f) (hg : Gl X x) (hm : X.mg x = none) (hv : bootBuiltins x = some (.builtin id)) (ha : EA X c Γ (e :: es) ms)
    (hn : x ≠ "__name__" := by decide) (hdb : (x == ("__debug__" : Str)) = false := by decide) (he : starEach (e :: es) X.env = (false, eval e X.env) :: starEach es X.env := by rfl) (hpl : (backTo pos (starEach es X.env)).any (·.1) = false := by rfl) :
    EX X c Γ (.Call (.Name x p) (e :: es) [] pos) (ms.bind f) := by
  intro B σ G H hh z hz Q k
  obtain ⟨y, hy, hz⟩ := bind_some' hz
  refine ofE (pe_callB hc hg hm hv toA hn hdb he hpl) ?_
  refine ha B σ G H hh y hy _ fun vs G2 H2 ex r => ?_
  exact hf y z vs G2 H2 Q ex.gh r hz fun w G3 H3 ex3 r3 => k w G3 H3 (ex.trans ex3) r3
theorem ex_Ty {δ : Type} [PyA δ] {r : List V → Hp → VK → Prop} {f : δ → Option γ} {id : String} {x : Str} {ms : Option δ} (hc : CallR X (.type id) r) (hf : Cal X c r f) (hg : Gl X x) (hm : X.mg x = none) (hv : bootBuiltins x = some (.type id)) (ha : EA X c Γ (e :: es) ms)
    (hn : x ≠ "__name__" := by decide) (hdb : (x == ("__debug__" : Str)) = false := by decide) (he : starEach (e :: es) X.env = (false, eval e X.env) :: starEach es X.env := by rfl) (hpl : (backTo pos (starEach es X.env)).any (·.1) = false := by rfl) :
    EX X c Γ (.Call (.Name x p) (e :: es) [] pos) (ms.bind f) := by
  intro B σ G H hh z hz Q k
  obtain ⟨y, hy, hz⟩ := bind_some' hz
  refine ofE (pe_callTy hc hg hm hv toA hn hdb he hpl) ?_
  refine ha B σ G H hh y hy _ fun vs G2 H2 ex r => ?_
  exact hf y z vs G2 H2 Q ex.gh r hz fun w G3 H3 ex3 r3 => k w G3 H3 (ex.trans ex3) r3
theorem eo_B {δ : Type} [PyA δ] {γ : Type} [Mu γ] {r : List V → Hp → VK → Prop} {f : δ → Option γ} {id : String} {x : Str} {ms : Option δ} (hc : CallR X (.builtin id) r) (hf : CalO X c r f) (hg : Gl X x) (hm : X.mg x = none) (hv : bootBuiltins x = some (.builtin id)) (ha : EA X c Γ (e :: es) ms)
    (hn : x ≠ "__name__" := by decide) (hdb : (x == ("__debug__" : Str)) = false := by decide) (he : starEach (e :: es) X.env = (false, eval e X.env) :: starEach es X.env := by rfl) (hpl : (backTo pos (starEach es X.env)).any (·.1) = false := by rfl) :
    EO X c Γ (.Call (.Name x p) (e :: es) [] pos) (ms.bind f) := by
  intro B σ G H hh z hz Q k
  obtain ⟨y, hy, hz⟩ := bind_some' hz
  refine ofE (pe_callB hc hg hm hv toA hn hdb he hpl) ?_
  refine ha B σ G H hh y hy _ fun vs G2 H2 ex r => ?_
  exact hf y z vs G2 H2 Q ex.gh r hz fun l F G3 H3 ex3 r3 hF => k l F G3 H3 (ex.trans ex3) r3 fun a ha => ⟨(hF a ha).1, none_sub ex.h (hF a ha).2⟩
theorem eo_Ty {δ : Type} [PyA δ] {γ : Type} [Mu γ] {r : List V → Hp → VK → Prop} {f : δ → Option γ} {id : String} {x : Str} {ms : Option δ} (hc : CallR X (.type id) r) (hf : CalO X c r f) (hg : Gl X x) (hm : X.mg x = none) (hv : bootBuiltins x = some (.type id)) (ha : EA X c Γ (e :: es) ms)
    (hn : x ≠ "__name__" := by decide) (hdb : (x == ("__debug__" : Str)) = false := by decide) (he : starEach (e :: es) X.env = (false, eval e X.env) :: starEach es X.env := by rfl) (hpl : (backTo pos (starEach es X.env)).any (·.1) = false := by rfl) :
    EO X c Γ (.Call (.Name x p) (e :: es) [] pos) (ms.bind f) := by
  intro B σ G H hh z hz Q k
  obtain ⟨y, hy, hz⟩ := bind_some' hz
  refine ofE (pe_callTy hc hg hm hv toA hn hdb he hpl) ?_
  refine ha B σ G H hh y hy _ fun vs G2 H2 ex r => ?_
  exact hf y z vs G2 H2 Q ex.gh r hz fun l F G3 H3 ex3 r3 hF => k l F G3 H3 (ex.trans ex3) r3 fun a ha => ⟨(hF a ha).1, none_sub ex.h (hF a ha).2⟩
abbrev rLen (K : Frag) : List V → Hp → VK → Prop := fun xs H Q => ∃ p ys, xs = [.ref p] ∧ (SqL K H p ys ∨ SqT K H p ys) ∧ Q (.int ys.length) H
theorem cal_lenL : Cal X c (rLen X.K) (fun x : List α × Unit => some (x.1.length : Int)) := fun x z vs G H Q e r h k => by
  cases h
  obtain ⟨v, _, rfl, ⟨a, ws, rfl, _, hs, hv⟩, rfl⟩ := r
  exact ⟨a, ws, rfl, .inl (Same.seq e hs), ext0 (X := X) (c := c) e k (by show V.int _ = V.int _; rw [hv.len])⟩
theorem cal_lenU : Cal X c (rLen X.K) (fun x : Tup α × Unit => some (x.1.items.length : Int)) := fun x z vs G H Q e r h k => by
  cases h
  obtain ⟨v, _, rfl, ⟨a, ws, rfl, _, hs, hv⟩, rfl⟩ := r
  exact ⟨a, ws, rfl, .inr (SqT.of (e _ _ hs)), ext0 (X := X) (c := c) e k (by show V.int _ = V.int _; rw [hv.len])⟩
theorem cal_lenP : Cal X c (rLen X.K) (fun x : (α × β) × Unit => some (2 : Int)) := fun x z vs G H Q e r h k => by
  cases h
  obtain ⟨v, _, rfl, ⟨a, w1, w2, rfl, hs, _⟩, rfl⟩ := r
  exact ⟨a, [w1, w2], rfl, .inr (SqT.of (e _ _ hs)), ext0 (X := X) (c := c) e k rfl⟩
theorem cal_abs : Cal X c (fun xs H Q => ∃ i, xs = [.int i] ∧ Q (.int (if i < 0 then -i else i)) H) (fun x : Int × Unit => some (x.1.natAbs : Int)) := fun x z vs G H Q e r h k => by
  cases h
  obtain ⟨v, _, rfl, rfl, rfl⟩ := r
  exact ⟨x.1, rfl, ext0 (X := X) (c := c) e k (by show V.int _ = V.int _; congr 1; split <;> omega)⟩
theorem cal_max2 : Cal X c (fun xs H Q => ∃ i j, xs = [.int i, .int j] ∧ Q (.int (if j > i then j else i)) H) (fun x : Int × Int × Unit => some (max x.1 x.2.1)) := fun x z vs G H Q e r h k => by
  cases h
  obtain ⟨v, _, rfl, rfl, u, _, rfl, rfl, rfl⟩ := r
  exact ⟨x.1, x.2.1, rfl, ext0 (X := X) (c := c) e k (by show V.int _ = V.int _; congr 1; split <;> omega)⟩
theorem cal_min2 : Cal X c (fun xs H Q => ∃ i j, xs = [.int i, .int j] ∧ Q (.int (if j < i then j else i)) H) (fun x : Int × Int × Unit => some (min x.1 x.2.1)) := fun x z vs G H Q e r h k => by
  cases h
  obtain ⟨v, _, rfl, rfl, u, _, rfl, rfl, rfl⟩ := r
  exact ⟨x.1, x.2.1, rfl, ext0 (X := X) (c := c) e k (by show V.int _ = V.int _; congr 1; split <;> omega)⟩
theorem cal_int : Cal X c (fun xs H Q => (∃ i, xs = [.int i] ∧ Q (.int i) H) ∨ ∃ k, xs = [.bl k] ∧ Q (.int (if k then 1 else 0)) H) (fun x : Int × Unit => some x.1) := fun x z vs G H Q e r h k => by
  cases h
  obtain ⟨v, _, rfl, rfl, rfl⟩ := r
  exact .inl ⟨x.1, rfl, ext0 (X := X) (c := c) e k rfl⟩
theorem cal_sum : Cal X c (rSum X.K) (fun x : List Int × Unit => some x.1.sum) := fun x z vs G H Q e r h k => by
  cases h
  obtain ⟨v, _, rfl, ⟨a, ws, rfl, _, hs, hv⟩, rfl⟩ := r
  rw [all2_int hv] at hs
  exact ⟨a, x.1, rfl, Same.seq e hs, ext0 (X := X) (c := c) e k rfl⟩
theorem cal_max : Cal X c (rMax X.K) (fun x : List Int × Unit => x.1.max?) := fun x z vs G H Q e r h k => by
  obtain ⟨v, _, rfl, ⟨a, ws, rfl, _, hs, hv⟩, rfl⟩ := r
  rw [all2_int hv] at hs
  have hz := List.max?_eq_some_iff.mp h
  refine ⟨a, x.1, rfl, Same.seq e hs, List.length_pos_of_mem hz.1, fun m hm hle => ?_⟩
  have : m = z := by
    have h1 := hle z hz.1
    have h2 := hz.2 m hm
    omega
  subst this
  exact ext0 (X := X) (c := c) e k rfl
theorem cal_min : Cal X c (rMin X.K) (fun x : List Int × Unit => x.1.min?) := fun x z vs G H Q e r h k => by
  obtain ⟨v, _, rfl, ⟨a, ws, rfl, _, hs, hv⟩, rfl⟩ := r
  rw [all2_int hv] at hs
  have hz := List.min?_eq_some_iff.mp h
  refine ⟨a, x.1, rfl, Same.seq e hs, List.length_pos_of_mem hz.1, fun m hm hle => ?_⟩
  have : m = z := by
    have h1 := hle z hz.1
    have h2 := hz.2 m hm
    omega
  subst this
  exact ext0 (X := X) (c := c) e k rfl
abbrev rLs (K : Frag) : List V → Hp → VK → Prop := fun xs H Q => ∃ p ys, xs = [.ref p] ∧ (SqL K H p ys ∨ SqT K H p ys) ∧ ∀ l, H l = none → Q (.ref l) (upd H l (.lst ys))
/-- a new list at l -/
theorem own_new {G H : Hp} (e : Same G H) {l : Addr} (hl : H l = none) {vs : List V} {xs : List α} (hz : vs.length ≤ sizeLine) (hv : All2 (Py.rep X.K c G) vs xs) :
    Ext G H G (upd H l (.lst vs)) ∧ Mu.own X.K c G (upd H l (.lst vs)) l xs [l] ∧ ∀ a ∈ [l], G a = none ∧ H a = none := by
  have gl := none_sub e hl
  refine ⟨⟨Same.refl G, same_new hl, fun a o q => ?_, fun a h _ => h⟩, ⟨rfl, vs, upd_same, hz, hv⟩, fun a ha => ?_⟩
  · rw [upd_ne (ne_of_none q gl)]
    exact e a o q
  · rw [List.mem_singleton] at ha
    rw [ha]
    exact ⟨gl, hl⟩
theorem calO_listL : CalO X c (rLs X.K) (fun x : List α × Unit => some x.1) := fun x z vs G H Q e r h k => by
  cases h
  obtain ⟨v, _, rfl, ⟨a, ws, rfl, hz, hs, hv⟩, rfl⟩ := r
  refine ⟨a, ws, rfl, .inl (Same.seq e hs), fun l hl => ?_⟩
  obtain ⟨h1, h2, h3⟩ := own_new (X := X) (c := c) e hl hz hv
  exact k l [l] G _ h1 h2 h3
theorem calO_listU : CalO X c (rLs X.K) (fun x : Tup α × Unit => some x.1.items) := fun x z vs G H Q e r h k => by
  cases h
  obtain ⟨v, _, rfl, ⟨a, ws, rfl, hz, hs, hv⟩, rfl⟩ := r
  refine ⟨a, ws, rfl, .inr (SqT.of (e _ _ hs)), fun l hl => ?_⟩
  obtain ⟨h1, h2, h3⟩ := own_new (X := X) (c := c) e hl hz hv
  exact k l [l] G _ h1 h2 h3
abbrev rTu (K : Frag) : List V → Hp → VK → Prop := fun xs H Q => ∃ p ys, xs = [.ref p] ∧ ((SqL K H p ys ∧ ∀ l, H l = none → Q (.ref l) (upd H l (.tup ys))) ∨ (SqT K H p ys ∧ Q (.ref p) H))
theorem cal_tupL : Cal X c (rTu X.K) (fun x : List α × Unit => some (PySem.W.Tup.mk x.1)) := fun x z vs G H Q e r h k => by
  cases h
  obtain ⟨v, _, rfl, ⟨a, ws, rfl, hz, hs, hv⟩, rfl⟩ := r
  refine ⟨a, ws, rfl, .inl ⟨Same.seq e hs, fun l hl => ?_⟩⟩
  have ex := Ext.new (o := .tup ws) e hl
  exact k (.ref l) _ _ ex ⟨l, ws, rfl, hz, upd_same, All2.mono (fun _ _ => Py.mono ex.g) hv⟩
theorem cal_tupU : Cal X c (rTu X.K) (fun x : Tup α × Unit => some x.1) := fun x z vs G H Q e r h k => by
  cases h
  obtain ⟨v, _, rfl, ⟨a, ws, rfl, hz, hs, hv⟩, rfl⟩ := r
  exact ⟨a, ws, rfl, .inr ⟨SqT.of (e _ _ hs), ext0 (X := X) (c := c) e k ⟨a, ws, rfl, hz, hs, hv⟩⟩⟩

/-! ### displays -/
/-- items of one type -/
def EL (X : Cx) (c : Cls) (Γ : List Bd) (es : List Expr) {α : Type} [Py α] (m : Option (List α)) : Prop :=
  ∀ (B : Base) (σ : L2.St) (G H : Hp), CT.Holds X.K c B G H Γ σ → ∀ xs, m = some xs → ∀ Q : List V → Hp → Prop, (∀ vs G2 H2, Ext G H G2 H2 → All2 (Py.rep X.K c G2) vs xs → Q vs H2) → tAX X es σ H Q
theorem el_nil : EL X c Γ [] (some ([] : List α)) := by
  intro B σ G H hh x hx Q k
  cases hx
  exact ofA pa_nil (k [] G H (Ext.refl hh.gh) .nil)
theorem el_cons {m : Option α} {ms : Option (List α)} (h : EX X c Γ e m) (hr : EL X c Γ es ms) (he : starEach (e :: es) X.env = (false, eval e X.env) :: starEach es X.env := by rfl) : EL X c Γ (e :: es) (m.bind fun x => ms.bind fun r => some (x :: r)) := by
  intro B σ G H hh z hz Q k
  obtain ⟨x, hx, hz⟩ := bind_some' hz
  obtain ⟨r, hr', hz⟩ := bind_some' hz
  cases hz
  refine ofA (pa_cons toE toA he) ?_
  refine h B σ G H hh x hx _ fun v G1 H1 e1 r1 => hr B σ G1 H1 (hh.mono e1) r hr' _ fun vs G2 H2 e2 r2 => ?_
  exact k (v :: vs) G2 H2 (e1.trans e2) (.cons (Py.mono e2.g r1) r2)
theorem eo_lst {m : Option (List α)} (h : EL X c Γ es m) (hl : ∀ xs, m = some xs → xs.length ≤ 1000) : EO X c Γ (.List es pos) m := by
  intro B σ G H hh z hz Q k
  refine ofE (pe_lst toA) ?_
  refine h B σ G H hh z hz _ fun vs G2 H2 ex r => ?_
  have hz' : vs.length ≤ sizeLine := by
    rw [r.len]
    exact Nat.le_trans (hl z hz) (by decide)
  refine ⟨hz', fun l hl => ?_⟩
  obtain ⟨h1, h2, h3⟩ := own_new (X := X) (c := c) ex.gh hl hz' r
  exact k l [l] G2 _ (ex.trans h1) h2 fun a ha => ⟨(h3 a ha).1, none_sub ex.h (h3 a ha).2⟩
theorem ex_tup {m : Option (List α)} {x1} (h : EL X c Γ es m) (hl : ∀ xs, m = some xs → xs.length ≤ 1000) : EX X c Γ (.Tuple es x1 pos) (m.bind fun xs => some (PySem.W.Tup.mk xs)) := by
  intro B σ G H hh z hz Q k
  obtain ⟨xs, hx, hz⟩ := bind_some' hz
  cases hz
  refine ofE (pe_tup toA) ?_
  refine h B σ G H hh xs hx _ fun vs G2 H2 ex r => ?_
  have hz' : vs.length ≤ sizeLine := by
    rw [r.len]
    exact Nat.le_trans (hl xs hx) (by decide)
  refine ⟨hz', fun l hl => ?_⟩
  have ex2 := Ext.new (o := .tup vs) ex.gh hl
  exact k (.ref l) _ _ (ex.trans ex2) ⟨l, vs, rfl, hz', upd_same, All2.mono (fun _ _ => Py.mono ex2.g) r⟩
theorem ex_pair {m : Option α} {m' : Option β} {x1} (h : EX X c Γ a m) (h' : EX X c Γ b m') (he : starEach [a, b] X.env = (false, eval a X.env) :: starEach [b] X.env := by rfl) (he' : starEach [b] X.env = (false, eval b X.env) :: starEach [] X.env := by rfl) :
    EX X c Γ (.Tuple [a, b] x1 pos) (m.bind fun x => m'.bind fun y => some (x, y)) := by
  intro B σ G H hh z hz Q k
  obtain ⟨x, hx, hz⟩ := bind_some' hz
  obtain ⟨y, hy, hz⟩ := bind_some' hz
  cases hz
  refine ofE (pe_tup (pa_cons toE (pa_cons toE pa_nil he') he)) ?_
  refine h B σ G H hh x hx _ fun v G1 H1 e1 r1 => h' B σ G1 H1 (hh.mono e1) y hy _ fun u G2 H2 e2 r2 => ?_
  refine ⟨by show 2 ≤ sizeLine; decide, fun l hl => ?_⟩
  have ex2 := Ext.new (o := .tup [v, u]) e2.gh hl
  exact k (.ref l) _ _ ((e1.trans e2).trans ex2) ⟨l, v, u, rfl, upd_same, Py.mono (e2.g.trans ex2.g) r1, Py.mono ex2.g r2⟩

/-! ### subscripts -/
theorem atI_all2 {F : V → α → Prop} {vs : List V} {xs : List α} {i : Int} {x : α} (h : All2 F vs xs) (e : atI xs i = some x) : ∃ v, atI vs i = some v ∧ F v x := by
  unfold atI at e ⊢
  rw [h.len]
  obtain ⟨j, h1, h2⟩ := bind_some' e
  obtain ⟨v, q1, q2⟩ := h.at h2
  exact ⟨v, by rw [h1]; exact q1, q2⟩
theorem o2_ixL : Op2 X c (rIxL X.K) (fun (xs : List α) (i : Int) => atI xs i) := fun x y z v u G H Q e r1 r2 h k => by
  obtain ⟨a, ws, rfl, _, hs, hv⟩ := r1
  obtain ⟨w, h1, h2⟩ := atI_all2 hv h
  exact ⟨a, ws, y, w, rfl, r2, Same.seq e hs, h1, ext0 (X := X) (c := c) e k h2⟩
theorem o2_ixU : Op2 X c (rIxT X.K) (fun (xs : Tup α) (i : Int) => atI xs.items i) := fun x y z v u G H Q e r1 r2 h k => by
  obtain ⟨a, ws, rfl, _, hs, hv⟩ := r1
  obtain ⟨w, h1, h2⟩ := atI_all2 hv h
  exact ⟨a, ws, y, w, rfl, r2, SqT.of (e _ _ hs), h1, ext0 (X := X) (c := c) e k h2⟩
theorem ex_ix {r : R2} {f : α → β → Option γ} (ho : IxR X r) (hf : Op2 X c r f) {ma : Option α} {mb : Option β} (ha : EX X c Γ a ma) (hb : EX X c Γ b mb) (hp : PlainIx b := by intro _ _; rfl) :
    EX X c Γ (.Subscript a b pos) (ma.bind fun x => mb.bind fun y => f x y) := fun B σ G H hh z hz Q k => ofE (pe_ix ho toE toE hp) (run2 hf ha hb hh hz k)
theorem ex_fst {m : Option (α × β)} {j : Nat} {q : Pos} (h : EX X c Γ a m) (hp : PlainIx (.Constant (.int 0) j q) := by intro _ _; rfl) : EX X c Γ (.Subscript a (.Constant (.int 0) j q) pos) (m.bind fun x => some x.1) := by
  intro B σ G H hh z hz Q k
  obtain ⟨x, hx, hz⟩ := bind_some' hz
  cases hz
  refine ofE (pe_ix ix_tup toE pe_int hp) ?_
  refine h B σ G H hh x hx _ fun v G2 H2 ex r => ?_
  obtain ⟨l, v1, v2, rfl, hs, r1, r2⟩ := r
  exact ⟨l, [v1, v2], 0, v1, rfl, rfl, SqT.of (ex.gh _ _ hs), rfl, k v1 G2 H2 ex r1⟩
theorem ex_snd {m : Option (α × β)} {j : Nat} {q : Pos} (h : EX X c Γ a m) (hp : PlainIx (.Constant (.int 1) j q) := by intro _ _; rfl) : EX X c Γ (.Subscript a (.Constant (.int 1) j q) pos) (m.bind fun x => some x.2) := by
  intro B σ G H hh z hz Q k
  obtain ⟨x, hx, hz⟩ := bind_some' hz
  cases hz
  refine ofE (pe_ix ix_tup toE pe_int hp) ?_
  refine h B σ G H hh x hx _ fun v G2 H2 ex r => ?_
  obtain ⟨l, v1, v2, rfl, hs, r1, r2⟩ := r
  exact ⟨l, [v1, v2], 1, v2, rfl, rfl, SqT.of (ex.gh _ _ hs), rfl, k v2 G2 H2 ex r2⟩
/-- [x, ..] * n -/
def repM (xs : List α) (n : Int) : Option (List α) := if -1000000000000 ≤ n ∧ n ≤ 1000000 ∧ xs.length ≤ 16 then some (List.flatten (List.replicate n.toNat xs)) else none
end
end CT

end
/-! ## Cert6.lean -/
section
set_option Elab.async false
set_option linter.all false
set_option maxRecDepth 100000
set_option maxHeartbeats 4000000
/-! Certified translation: sorting, own lists and dicts. -/
namespace CT
open PySem L2 PySem.Spec PyProof.Rows

theorem each_of {β : Type} {R : Value → β → Prop} : ∀ {us : List Value} {bs : List β}, PySem.Paired R us bs → PySem.W.EachIs R us bs
  | _, _, .nil => .nil
  | _, _, .cons r t => .cons r (each_of t)
theorem of_each {β : Type} {R : Value → β → Prop} : ∀ {us : List Value} {bs : List β}, PySem.W.EachIs R us bs → PySem.Paired R us bs
  | _, _, .nil => .nil
  | _, _, .cons r t => .cons r (of_each t)
section
variable {X : Cx} {c : Cls} {Γ Γ1 : List Bd} {e a b d : Expr} {es : List Expr} {rest : List Stmt} {pos p : Pos} {α β γ : Type} [Py α] [Py β] [Py γ]
  {S L ρ : Type} [Py ρ] {Γn : S → List Bd} {Γl : L → List Bd}

/-! ### a list times an int -/
theorem eo_rep {m : Option (List α)} {m' : Option Int} (ha : EO X c Γ a m) (hb : EX X c Γ b m') : EO X c Γ (.BinOp a .Mult b pos) (m.bind fun xs => m'.bind fun n => repM xs n) := by
  intro B σ G H hh z hz Q k
  obtain ⟨xs, hx, hz⟩ := bind_some' hz
  obtain ⟨n, hn, hz⟩ := bind_some' hz
  unfold repM at hz
  split at hz
  · rename_i q
    cases hz
    refine ofE (pe_op op_rep toE toE) ?_
    refine ha B σ G H hh xs hx _ fun l F G1 H1 e1 ow hF => ?_
    obtain ⟨rfl, vs, h1, h2, h3⟩ := ow
    refine hb B σ G1 H1 (hh.mono e1) n hn _ fun u G2 H2 e2 r2 => ?_
    have ex := e1.trans e2
    have hl : xs.length * n.toNat ≤ 16 * 1000000 := Nat.mul_le_mul q.2.2 (by omega)
    refine ⟨l, n, vs, rfl, r2, e2.h _ _ h1, by omega, by omega, ?_, fun p hp => ?_⟩
    · rw [h3.len]
      exact Nat.le_trans hl (by decide)
    · have hv : All2 (Py.rep X.K c G2) (List.replicate n.toNat vs).flatten (List.flatten (List.replicate n.toNat xs)) := by
        have h3' := All2.mono (fun _ _ => Py.mono e2.g) h3
        generalize n.toNat = m
        induction m with
        | zero => exact .nil
        | succ m ih =>
          rw [List.replicate_succ, List.replicate_succ, List.flatten_cons, List.flatten_cons]
          exact All2.app h3' ih
      have hz' : (List.replicate n.toNat vs).flatten.length ≤ sizeLine := by
        rw [hv.len, List.length_flatten, List.map_replicate, List.sum_replicate_nat]
        exact Nat.le_trans (by rw [Nat.mul_comm]; exact hl) (by decide)
      obtain ⟨q1, q2, q3⟩ := own_new (X := X) (c := c) e2.gh hp hz' hv
      exact k p [p] G2 _ (ex.trans q1) q2 fun a ha => ⟨(q3 a ha).1, none_sub ex.h (q3 a ha).2⟩
  · cases hz

/-! ### sorted -/
/-- the order of typed data, upwards -/
def leT {α : Type} [DecidableEq α] [PySem.W.DatumOrd α] (x y : α) : Bool := !PySem.W.DatumOrd.lt y x
def sortT {α : Type} [DecidableEq α] [PySem.W.DatumOrd α] (xs : List α) : List α := xs.mergeSort leT
/-- what can be sorted: all tuples with an item, or none a tuple -/
class SortD (α : Type) [DecidableEq α] [PySem.W.DatumOrd α] : Prop where
  srt : ∀ xs : List α, PySem.W.Sortable (xs.map PySem.W.Datum.toD)
instance : SortD Int := ⟨fun xs => .inr fun d hd => by
  obtain ⟨x, _, rfl⟩ := List.mem_map.mp hd
  exact ⟨(fun z => nomatch z), fun ys z => nomatch z⟩⟩
instance {α β : Type} [DecidableEq α] [PySem.W.DatumOrd α] [DecidableEq β] [PySem.W.DatumOrd β] : SortD (α × β) := ⟨fun xs => .inl fun d hd => by
  obtain ⟨x, _, rfl⟩ := List.mem_map.mp hd
  exact ⟨_, _, rfl⟩⟩
def rSortT (K : Frag) (α : Type) [DecidableEq α] [PySem.W.DatumOrd α] : List V → Hp → VK → Prop := fun us H Q => ∃ (a : Addr) (vs : List V) (xs : List α), us = [.ref a] ∧ SqL K H a vs ∧ DpAll K H vs (xs.map PySem.W.Datum.toD) ∧ vs.length = xs.length ∧
  ∀ p, H p = none → Q (.ref p) (upd H p (.lst (((vs.zip xs).mergeSort fun x y => leT x.2 y.2).map Prod.fst)))
theorem cr_sortT [DecidableEq α] [PySem.W.DatumOrd α] [SortD α] (hu : X.A.units + 2 + PySem.W.Datum.depth α < cLine) : CallR X (.builtin "sorted") (rSortT X.K α) := by
  intro pins s σ H us us' Q I r h
  obtain ⟨a, vs, xs, rfl, hs, hd, hlen, q⟩ := h
  obtain ⟨its, rv, hl, hz⟩ := I.list hs
  rw [Vals.ref1 r]
  have hzip : (vs.zip xs).map Prod.fst = vs := List.map_fst_zip (by omega)
  have hzip2 : (vs.zip xs).map Prod.snd = xs := List.map_snd_zip (by omega)
  have h1 : PySem.Paired (fun (u : Value) (b : V × α) => RelV b.1 u) its (vs.zip xs) := by
    have q1 : ∀ (vs : List V) (xs : List α) (its : List Value), vs.length = xs.length → Vals vs its → PySem.Paired (fun (u : Value) (b : V × α) => RelV b.1 u) its (vs.zip xs) := by
      intro vs
      induction vs with
      | nil => intro xs its _ r; cases r; cases xs <;> exact .nil
      | cons v vs ih =>
        intro xs its hl r
        cases xs with
        | nil => simp at hl
        | cons x xs =>
          cases r with
          | cons r t => exact .cons r (ih xs _ (by simpa using hl) t)
    exact q1 vs xs its hlen rv
  have h2 : PySem.Paired (fun (v : Value) (b : V × α) => ∃ as, Reads s.heap v (PySem.W.Datum.toD b.2) as) its (vs.zip xs) := by
    have q1 : ∀ (vs : List V) (xs : List α) (its : List Value), Vals vs its → DpAll X.K H vs (xs.map PySem.W.Datum.toD) → PySem.Paired (fun (v : Value) (b : V × α) => ∃ as, Reads s.heap v (PySem.W.Datum.toD b.2) as) its (vs.zip xs) := by
      intro vs
      induction vs with
      | nil => intro xs its r hd; cases r; cases xs <;> exact .nil
      | cons v vs ih =>
        intro xs its r hd
        cases xs with
        | nil => cases hd
        | cons x xs =>
          cases r with
          | cons r t =>
            cases hd with
            | cons h1 h2 => exact .cons (Dp.reads I _ _ _ h1 r) (ih xs _ t h2)
    exact q1 vs xs its rv hd
  have hm : (vs.zip xs).map (fun b => PySem.W.Datum.toD b.2) = xs.map PySem.W.Datum.toD := by
    rw [← hzip2, List.map_map, hzip2]
    rfl
  have ha : PySem.W.AllAlike ((vs.zip xs).map fun b => PySem.W.Datum.toD b.2) := by
    rw [hm]
    intro d hd d' hd'
    exact (PySem.W.alikeAll_datum xs).1 d hd d' hd'
  have hsrt : PySem.W.Sortable ((vs.zip xs).map fun b => PySem.W.Datum.toD b.2) := by
    rw [hm]
    exact SortD.srt xs
  have hle : (PySem.W.dataLe false fun b : V × α => PySem.W.Datum.toD b.2) = fun x y => leT x.2 y.2 := by
    funext x y
    show (!PySem.W.dataLt _ _) = _
    rw [PySem.W.DatumOrd.lt_eq]
    rfl
  refine PySem.W.sorted_data (R := fun (u : Value) (b : V × α) => RelV b.1 u) (enc := fun b => PySem.W.Datum.toD b.2) (bs := vs.zip xs) hl.isList (each_of h1) (each_of h2) ha hsrt ?_ (fun b _ => ?_) fun out ho hE => ?_
  · rw [List.length_zip]
    omega
  · have := PySem.W.Datum.depth_le b.2
    omega
  · rw [hle] at hE
    obtain ⟨ep, he'⟩ := PyProof.Rows.sortedAll_at s.heap its out.toArray
    have hv : Vals (((vs.zip xs).mergeSort fun x y => leT x.2 y.2).map Prod.fst) out := by
      have q2 := of_each hE
      generalize (vs.zip xs).mergeSort (fun x y => leT x.2 y.2) = bs at q2 ⊢
      clear hE ho he' ep
      induction q2 with
      | nil => exact .nil
      | cons r _ ih => exact .cons r ih
    have hlen' : (((vs.zip xs).mergeSort fun x y => leT x.2 y.2).map Prod.fst).length ≤ sizeLine := by
      rw [hv.length, ho, List.length_zip]
      omega
    exact ⟨.ref _, upd H (s.heap.objs.size + 1) (.lst _), I.laid (t' := s.toks) (fun _ _ => PyProof.Rows.sortedAll_old) (Nat.le_succ _) ⟨hlen', out, ep, hv, he'⟩, rfl, q _ (I.hok.fresh (Nat.le_succ _))⟩
/-- a list of pairs (value, datum), rearranged -/
theorem all2_of_zip {F : V → α → Prop} {bs : List (V × α)} (h : ∀ b ∈ bs, F b.1 b.2) : All2 F (bs.map Prod.fst) (bs.map Prod.snd) := by
  induction bs with
  | nil => exact .nil
  | cons b bs ih => exact .cons (h b (by simp)) (ih fun x hx => h x (by simp [hx]))
theorem zip_rel {F : V → α → Prop} {vs : List V} {xs : List α} (h : All2 F vs xs) : ∀ b ∈ vs.zip xs, F b.1 b.2 := by
  induction h with
  | nil => intro b hb; simp at hb
  | cons r _ ih =>
    intro b hb
    simp only [List.zip_cons_cons, List.mem_cons] at hb
    rcases hb with rfl | hb
    · exact r
    · exact ih b hb
theorem calO_sort [DecidableEq α] [PySem.W.DatumOrd α] [PyD α] : CalO X c (rSortT X.K α) (fun x : List α × Unit => some (sortT x.1)) := fun x z vs G H Q e r h k => by
  cases h
  obtain ⟨v, _, rfl, ⟨a, ws, rfl, hz, hs, hv⟩, rfl⟩ := r
  refine ⟨a, ws, x.1, rfl, Same.seq e hs, dpAll_mono e (dp_all hv), hv.len, fun l hl => ?_⟩
  have hm : ((ws.zip x.1).mergeSort fun x y => leT x.2 y.2).map Prod.snd = sortT x.1 := by
    unfold sortT
    rw [PySem.W.sort_maps (s := leT) Prod.snd (fun _ _ _ _ => rfl), List.map_snd_zip (by rw [hv.len]; omega)]
  have h2 : All2 (Py.rep X.K c G) (((ws.zip x.1).mergeSort fun x y => leT x.2 y.2).map Prod.fst) (sortT x.1) := by
    rw [← hm]
    exact all2_of_zip fun b hb => zip_rel hv b (List.mem_mergeSort.mp hb)
  have hlen : (((ws.zip x.1).mergeSort fun x y => leT x.2 y.2).map Prod.fst).length ≤ sizeLine := by
    rw [List.length_map, List.length_mergeSort, List.length_zip]
    have := hv.len
    omega
  obtain ⟨h1, h3, h4⟩ := own_new (X := X) (c := c) e hl hlen h2
  exact k l [l] G _ h1 h3 h4
end
end CT

end
/-! ## Cert7.lean -/
section
set_option Elab.async false
set_option linter.all false
set_option maxRecDepth 100000
set_option maxHeartbeats 4000000
/-! Certified translation: set(list of ints) sorted, sorted by sum downwards, min with a default. -/
namespace CT
open PySem L2 PySem.Spec PyProof.Rows

/-- an empty set's object -/
abbrev set0 (w : World) : Obj := { cls := .type "set", dict := none, data := .set #[] 0 (.fresh 0 0 (!w.params.followText "set-order")) }
section
variable {P : Program} {w : World} {A : Around} {E : Value → Shared → Prop} {s : Shared}
set_option maxHeartbeats 3200000 in
/-- set(xs), xs a list of ints -/
theorem set_of_list {l : Addr} {its : Array Value} (ns : List Int) {Q : Value → Shared → Prop} (hd : A.handled = none) (hl : s.heap.IsList l its) (hi : IntsAre its.toList ns) (hb : ns.length + 1 < scanBound)
    (k : ∀ (g : Heap) (tk n : Nat), SetR w g s.heap.objs.size (fun j => decide (j ∈ ns)) n → n ≤ ns.length → (∀ b o, s.heap.get? b = some o → g.get? b = some o) → Q (.ref s.heap.objs.size) { s with heap := g, toks := tk }) :
    wpAny (model P w) A (call (.type "set") [.ref l]) Q E s := by
  have hsz : its.size = ns.length := by
    have := IntsAre.length hi
    simpa using this
  have hmk := F.called_set.made
  have hsb := F.called_set.sub
  obtain ⟨cc, tl, hmro⟩ := F.called_set.mro
  refine wpAny_call (codeAny_of_tree (show wpAny _ _ (callAny (.type "set") _) _ _ _ from ?_))
  refine wpAny_pure ⟨Code.quiet_builtin _ (by decide +kernel), codeAny_builtin F.entry_type_call ?_⟩
  rw [Around.under_plain (weight_type_call_type "set" [.ref l] []) rfl]
  have hnt := F.called_set.notType
  have hcr := F.called_set.canCreate
  have htc := F.typeCall_set_1 (.ref l)
  repeat (any_goals (first | assumption | wp_step))
  refine codeAny_mono (code_set_led1 (.ref l) (E := E) (Q₁ := fun ob s1 => ob = .ref s.heap.objs.size ∧ s1 = { s with heap := s.heap.push (set0 w) }) ⟨rfl, rfl⟩) fun r s1 hr => ?_
  rcases r with e | fl
  · exact hr
  cases fl with
  | next => exact hr.elim
  | brk => exact hr.elim
  | cont => exact hr.elim
  | ret ob =>
    obtain ⟨rfl, rfl⟩ := hr
    have at0 : (s.heap.push (set0 w)).get? s.heap.objs.size = some (set0 w) := Heap.get?_push_size _ rfl
    have ty0 : Shared.TypeIs { s with heap := s.heap.push (set0 w) } (.ref s.heap.objs.size) "set" := ⟨_, at0, rfl⟩
    have hlk := F.called_set.init.lookup
    have hbd := F.called_set.init.bind (.ref s.heap.objs.size)
    repeat (any_goals (first | assumption | wp_step))
    refine codeAny_mono (codeAny_call_builtin (R := wants (fun r s2 => r = .none ∧ ∃ g tk n, s2 = { s with heap := g, toks := tk } ∧ SetR w g s.heap.objs.size (fun j => decide (j ∈ ns)) n ∧ n ≤ ns.length ∧ ∀ b o, s.heap.get? b = some o → g.get? b = some o) E)
      F.called_set.init.plain F.entry_set_init (check_set_init_1 ty0 ?_)) fun r2 s2 hr2 => ?_
    · obtain ⟨⟨oc, od, ot, os⟩, hol, hc, n0, hdt⟩ := hl
      simp only at hc hdt
      subst hc
      subst hdt
      have hll : (s.heap.push (set0 w)).IsList l its := ⟨_, Heap.get?_push_of_some _ hol, rfl, n0, rfl⟩
      have hsl := F.sub_list_set
      have hsf := F.sub_list_frozenset
      have hnd : (Value.type "list" == Value.type "dict") = false := by decide
      have hol2 := Heap.get?_push_of_some (set0 w) hol
      unfold Builtin.«set.__init__» noKeywords Builtin.Frozenset.updateFrom
      generalize hPI : pyIter = PI
      wp_walk
      subst hPI
      refine wpAny_pyIter_list hll (wpAny_bind (wpAny_runValue ?_))
      have lts : l < s.heap.objs.size := Heap.lt_size hol
      have hd3 : A.in1.in1.in1.handled = none := by simp [hd]
      have sz1 : (s.heap.push (set0 w)).objs.size = s.heap.objs.size + 1 := Heap.size_push ..
      have ne1 : l ≠ (s.heap.push (set0 w)).objs.size := by rw [sz1]; exact Nat.ne_of_lt (Nat.lt_succ_of_lt lts)
      have fresh : s.heap.objs.size ∉ [(s.heap.push (set0 w)).objs.size, l] := by
        rw [sz1]
        intro z
        rcases List.mem_cons.mp z with z | z
        · exact Nat.ne_of_lt (Nat.lt_succ_self _) z
        · rw [List.mem_singleton] at z
          exact Nat.ne_of_gt lts z
      refine set_update_ints ((Walks.list hd3 _ l ne1 its).toS) s.heap.objs.size fresh ns hsz hb (fun i v hv => ?_) (its.size - 0) 0 _ (by omega) (Nat.zero_le _) ⟨⟨_, Heap.get?_push_size _ rfl, rfl, rfl⟩, hll.push _⟩ ⟨0, Nat.le_refl 0, setR_new_at (Heap.get?_push_of_some _ at0)⟩ ?_
      · have hiv : i < ns.length := by
          rw [← hsz]
          exact (Array.getElem?_eq_some_iff.mp hv).1
        obtain ⟨t, e⟩ := PyProof.Rows.IntsAre.int_at hi i v (by rw [Array.getElem?_toList]; exact hv)
        refine ⟨ns[i], t, List.getElem?_eq_getElem hiv, ?_⟩
        rw [e, List.getD_eq_getElem?_getD, List.getElem?_eq_getElem hiv]
        rfl
      · rintro ⟨g, gs, dr, tk, os'⟩ n hm hn hS
        obtain rfl : gs = s.gens := hm.gens
        obtain rfl : dr = s.drawn := hm.drawn
        obtain rfl : os' = s.os := hm.os
        show wpAny _ _ _ _ _ _
        refine wpAny_pure ?_
        show wpAny _ _ (ret Value.none) _ _ _
        refine wpAny_pure ⟨rfl, g, tk, n, rfl, hS, by rw [← hsz]; exact hn, fun b o hbo => ?_⟩
        have hb0 : b < s.heap.objs.size := Heap.lt_size hbo
        refine hm.heap b o (fun z => ?_) (Heap.get?_push_of_some _ (Heap.get?_push_of_some _ hbo))
        rcases List.mem_cons.mp z with z | z
        · exact Nat.ne_of_lt hb0 z
        · rw [List.mem_singleton] at z
          rw [sz1] at z
          exact Nat.ne_of_lt (Nat.lt_succ_of_lt hb0) z
    · rcases r2 with e | fl2
      · exact hr2
      cases fl2 with
      | next => exact hr2.elim
      | brk => exact hr2.elim
      | cont => exact hr2.elim
      | ret u =>
        obtain ⟨rfl, g, tk, n, rfl, hS, hn, hk⟩ := hr2
        repeat (any_goals (first | assumption | wp_step))
        exact k _ _ _ hS hn hk
/-- sum of a tuple of ints -/
theorem sum_of_tuple {t : Addr} {its : List Value} {ns : List Int} {Q : Value → Shared → Prop} (hd : A.handled = none) (ht : s.heap.IsTuple t its.toArray) (hi : IntsAre its ns)
    (k : ∀ g tk u, (∀ b o, s.heap.get? b = some o → g.get? b = some o) → Q (.int ns.sum u) { s with heap := g, toks := tk }) : wpAny (model P w) A (call (.builtin "sum") [.ref t]) Q E s := by
  obtain ⟨xs, e⟩ := hi.allInts.items
  have hn : numsOf (intItems xs).toList = ns := by
    rw [← e]
    exact hi.numsOf
  rw [nums_intItems] at hn
  rw [e] at ht
  have lt : t < s.heap.objs.size := by
    obtain ⟨o, ho, _⟩ := ht
    exact Heap.lt_size ho
  refine PySem.call_sum_walkG (wpAny_pyIter_tuple ht ?_)
  refine ⟨_, _, _, _, _, _, numAt xs, rfl, Walks.tuple (A := A.in1) hd s.heap.objs.size t (Nat.ne_of_lt lt) (intItems xs), ⟨⟨_, Heap.get?_push_size _ rfl, rfl, rfl⟩, ?_⟩, fun b hb => ?_, fun _ _ => intItems_at, fun g tk u hk => ?_⟩
  · obtain ⟨o, ho, hc, n, hdt⟩ := ht
    exact ⟨o, Heap.get?_push_of_some _ ho, hc, n, hdt⟩
  · show b < (s.heap.push _).objs.size
    rw [Heap.size_push]
    rcases List.mem_cons.mp hb with z | z
    · rw [z]; exact Nat.lt_succ_self _
    · rw [List.mem_singleton] at z
      rw [z]
      exact Nat.lt_succ_of_lt lt
  · have h2 := k g tk u fun b o hb => hk b o (fun z => by
      rw [List.mem_singleton] at z
      exact Nat.ne_of_lt (Heap.lt_size hb) z) (Heap.get?_push_of_some _ hb)
    rw [preSum_eq, List.take_of_length_le (by simp [intItems]), hn]
    exact h2
end
section
variable {X : Cx} {c : Cls} {Γ Γ1 : List Bd} {e a b d : Expr} {es : List Expr} {rest : List Stmt} {pos p : Pos}

/-! ### sorted(set(xs)) -/
def rSet (w : World) (K : Frag) : List V → Hp → VK → Prop := fun us H Q => ∃ (a : Addr) (ns : List Int), us = [.ref a] ∧ SqL K H a (ns.map V.int) ∧ ns.length ≤ 60 ∧ ∀ p n, n ≤ ns.length → H p = none → Q (.ref p) (upd H p (SetO w p (fun j => decide (j ∈ ns)) n))
theorem cr_set (hc : X.calm = true) : CallR X (.type "set") (rSet X.w X.K) := by
  intro pins s σ H us us' Q I r h
  obtain ⟨a, ns, rfl, hs, hl, q⟩ := h
  obtain ⟨its, rv, pl, hz⟩ := I.list hs
  rw [Vals.ref1 r]
  refine set_of_list ns (I.ok.hd hc) pl.isList (by simpa using rv.ints) (by unfold scanBound; omega) fun g tk n hS hn hk => ?_
  exact ⟨.ref _, upd H s.heap.objs.size (SetO X.w s.heap.objs.size _ n), I.laid (t' := tk) hk (Nat.le_refl _) (setO_new hS), rfl, q _ n hn (I.hok.fresh (Nat.le_refl _))⟩
/-- the different values, upwards -/
def insD (x : Int) : List Int → List Int
  | [] => [x]
  | y :: ys => if x < y then x :: y :: ys else if x = y then y :: ys else y :: insD x ys
def distinctI (ns : List Int) : List Int := ns.foldr insD []
theorem mem_insD {x z : Int} : ∀ {ys : List Int}, z ∈ insD x ys ↔ z = x ∨ z ∈ ys
  | [] => by simp [insD]
  | y :: ys => by
    unfold insD
    split
    · simp
    · split
      · rename_i h
        subst h
        simp
      · simp only [List.mem_cons, mem_insD (ys := ys)]
        constructor
        · rintro (h | h | h)
          · exact .inr (.inl h)
          · exact .inl h
          · exact .inr (.inr h)
        · rintro (h | h | h)
          · exact .inr (.inl h)
          · exact .inl h
          · exact .inr (.inr h)
theorem lt_insD {x : Int} : ∀ {ys : List Int}, ys.Pairwise (· < ·) → (insD x ys).Pairwise (· < ·)
  | [], _ => by simp [insD]
  | y :: ys, h => by
    obtain ⟨h1, h2⟩ := List.pairwise_cons.mp h
    unfold insD
    split
    · rename_i hxy
      refine List.pairwise_cons.mpr ⟨fun z hz => ?_, h⟩
      rcases List.mem_cons.mp hz with rfl | hz
      · exact hxy
      · exact Int.lt_trans hxy (h1 z hz)
    · split
      · exact h
      · refine List.pairwise_cons.mpr ⟨fun z hz => ?_, lt_insD h2⟩
        rcases mem_insD.mp hz with rfl | hz
        · omega
        · exact h1 z hz
theorem mem_distinctI {z : Int} : ∀ {ns : List Int}, z ∈ distinctI ns ↔ z ∈ ns
  | [] => by simp [distinctI]
  | n :: ns => by
    show z ∈ insD n (distinctI ns) ↔ _
    rw [mem_insD, mem_distinctI, List.mem_cons]
theorem lt_distinctI : ∀ ns : List Int, (distinctI ns).Pairwise (· < ·)
  | [] => List.Pairwise.nil
  | n :: ns => lt_insD (lt_distinctI ns)
theorem lt_same : ∀ {xs ys : List Int}, xs.Pairwise (· < ·) → ys.Pairwise (· < ·) → (∀ z, z ∈ xs ↔ z ∈ ys) → xs = ys
  | [], [], _, _, _ => rfl
  | [], y :: ys, _, _, h => absurd ((h y).mpr (by simp)) (by simp)
  | x :: xs, [], _, _, h => absurd ((h x).mp (by simp)) (by simp)
  | x :: xs, y :: ys, h1, h2, h => by
    obtain ⟨a1, a2⟩ := List.pairwise_cons.mp h1
    obtain ⟨b1, b2⟩ := List.pairwise_cons.mp h2
    have e : x = y := by
      rcases List.mem_cons.mp ((h x).mp (by simp)) with q | q
      · exact q
      · rcases List.mem_cons.mp ((h y).mpr (by simp)) with q2 | q2
        · exact q2.symm
        · have := b1 x q
          have := a1 y q2
          omega
    subst e
    rw [lt_same a2 b2 fun z => ?_]
    constructor
    · intro hz
      rcases List.mem_cons.mp ((h z).mp (by simp [hz])) with q | q
      · subst q
        exact absurd (a1 z hz) (by omega)
      · exact q
    · intro hz
      rcases List.mem_cons.mp ((h z).mpr (by simp [hz])) with q | q
      · subst q
        exact absurd (b1 z hz) (by omega)
      · exact q
def distinctM (ns : List Int) : Option (List Int) := if ns.length ≤ 60 then some (distinctI ns) else none
theorem eo_distinct {m : Option (List Int)} {p2 q : Pos} (hcm : X.calm = true) (hg : Gl X "sorted") (hm : X.mg "sorted" = none) (hg2 : Gl X "set") (hm2 : X.mg "set" = none) (h : EX X c Γ e m) (he : starEach [e] X.env = (false, eval e X.env) :: starEach [] X.env := by rfl)
    (he2 : starEach [.Call (.Name "set" p2) [e] [] q] X.env = (false, eval (.Call (.Name "set" p2) [e] [] q) X.env) :: starEach [] X.env := by rfl) (hpl : (backTo q (starEach [] X.env)).any (·.1) = false := by rfl) (hpl2 : (backTo pos (starEach [] X.env)).any (·.1) = false := by rfl) :
    EO X c Γ (.Call (.Name "sorted" p) [.Call (.Name "set" p2) [e] [] q] [] pos) (m.bind distinctM) := by
  intro B σ G H hh z hz Q k
  obtain ⟨ns, hn, hz⟩ := bind_some' hz
  unfold distinctM at hz
  split at hz
  · rename_i hle
    cases hz
    refine ofE (pe_callB (cr_sortedSet hcm) hg hm (by decide +kernel) (pa_cons (pe_callTy (cr_set hcm) hg2 hm2 (by decide +kernel) (pa_cons toE pa_nil he) (by decide) (by decide) he hpl) pa_nil he2) (by decide) (by decide) he2 hpl2) ?_
    refine h B σ G H hh ns hn _ fun v G2 H2 ex r => ?_
    obtain ⟨a, ws, rfl, _, hs, hv⟩ := r
    rw [all2_int hv] at hs
    refine ⟨a, ns, rfl, Same.seq ex.gh hs, hle, fun pp n hnn hp => ?_⟩
    refine ⟨pp, _, n, rfl, upd_same, by omega, fun ys l hlt hmem hlen hl => ?_⟩
    have hd : ys = distinctI ns := lt_same hlt (lt_distinctI ns) fun z => by
      rw [hmem, mem_distinctI]
      simp
    subst hd
    have ex2 : Ext G H G2 (upd H2 pp (SetO X.w pp (fun j => decide (j ∈ ns)) n)) := ex.trans ⟨Same.refl _, same_new hp, fun a o q => by
      rw [upd_ne (ne_of_none q (none_sub ex.gh hp))]
      exact ex.gh a o q, fun a h _ => h⟩
    obtain ⟨h1, h2, h3⟩ := own_new (X := X) (c := c) ex2.gh hl (vs := (distinctI ns).map V.int) (xs := distinctI ns) (by rw [List.length_map, hlen]; exact Nat.le_trans (Nat.le_trans hnn hle) (by decide)) (all2_int' _)
    exact k l [l] G2 _ (ex2.trans h1) h2 fun a ha => ⟨(h3 a ha).1, none_sub ex2.h (h3 a ha).2⟩
  · cases hz

/-! ### min(xs, default=n) -/
theorem minOf_int : ∀ (y : Int) (ys : List Int), (y :: ys).min? = some (PySem.W.minOf y ys) := by
  intro y ys
  rw [List.min?_cons']
  congr 1
  unfold PySem.W.minOf
  induction ys generalizing y with
  | nil => rfl
  | cons z zs ih =>
    rw [List.foldl_cons, List.foldl_cons]
    have : min y z = if PySem.W.DatumOrd.lt z y = true then z else y := by
      show min y z = if decide (z < y) = true then z else y
      by_cases h : z < y
      · simp [h]; omega
      · simp [h]; omega
    rw [this]
    exact ih _
theorem ex_minD {m : Option (List Int)} {n : Int} {j : Nat} {q kp : Pos} (hcm : X.calm = true) (hu : X.A.units + 1 < cLine) (hg : Gl X "min") (hm : X.mg "min" = none) (h : EX X c Γ e m)
    (he : backTo pos (starEach [e] X.env) = (false, eval e X.env) :: backTo pos (starEach [] X.env) := by rfl) (he0 : starEach [e] X.env = (false, eval e X.env) :: starEach [] X.env := by rfl) (hpl : (backTo pos (starEach [e] X.env)).any (·.1) = false := by rfl)
    (hall : (backToKw pos (keywordEach [⟨some "default", .Constant (.int n) j q, kp⟩] X.env)).all (·.1.isSome) = true := by rfl) (hnone : (backToKw pos (keywordEach [⟨some "default", .Constant (.int n) j q, kp⟩] X.env)).any (·.1.isNone) = false := by rfl)
    (hks : (backToKw pos (keywordEach [⟨some "default", .Constant (.int n) j q, kp⟩] X.env)).filterMap (·.1) = [Str.ofString "default"] := by rfl) :
    EX X c Γ (.Call (.Name "min" p) [e] [⟨some "default", .Constant (.int n) j q, kp⟩] pos) (m.bind fun xs => some (xs.min?.getD n)) := by
  intro B σ G H hh z hz Q k
  obtain ⟨ns, hn, hz⟩ := bind_some' hz
  cases hz
  refine ofE (pe_callBK (id := "min") (r := fun vs zs H Q => ∃ (a : Addr) (ns : List Int) (d : Int), vs = [V.ref a] ∧ zs = [V.int d] ∧ SqL X.K H a (ns.map V.int) ∧ Q (.int (ns.min?.getD d)) H) ?_ hg hm (by decide +kernel) (pa_cons toE pa_nil he0) (pk_cons pe_int pk_nil) (by decide) (by decide) he hpl hall hnone hks) ?_
  · intro pins s σ H xs zs us ws Q I r rz hq
    obtain ⟨a, ns, d, rfl, rfl, hs, q⟩ := hq
    obtain ⟨its, rv, pl, _⟩ := I.list hs
    rw [Vals.ref1 r]
    obtain ⟨w, rfl, t, rfl⟩ : ∃ w, ws = [w] ∧ ∃ t, w = Value.int d t := by
      cases rz with
      | cons r1 r2 =>
        cases r2
        exact ⟨_, rfl, r1⟩
    have hall : PySem.W.HoldAll s.heap its.toArray.toList ns := by
      exact Dp.readsAll I (ns.map PySem.W.Datum.toD) _ _ (dp_all (K := X.K) (c := c) (G := H) (all2_int' ns)) rv
    refine PySem.W.min_list_datum_default (xs := ns) (I.ok.hd hcm) pl.isList hall (by exact hu) (fun e0 g tk hk => ?_) fun y ys i v g tk ey _ hv hk => ?_
    · refine ⟨.int d, H, I.kept (t' := tk) hk, ⟨t, rfl⟩, ?_⟩
      subst e0
      exact q
    · obtain ⟨as, hr⟩ := hv
      cases hr
      refine ⟨.int (PySem.W.minOf y ys), H, I.kept (t' := tk) hk, ⟨_, rfl⟩, ?_⟩
      rw [ey, minOf_int] at q
      exact q
  · refine h B σ G H hh ns hn _ fun v G2 H2 ex r => ?_
    obtain ⟨a, ws, rfl, _, hs, hv⟩ := r
    rw [all2_int hv] at hs
    exact ⟨a, ns, n, rfl, rfl, Same.seq ex.gh hs, k _ G2 H2 ex rfl⟩
end
end CT

end
/-! ## Cert8.lean -/
section
set_option Elab.async false
set_option linter.all false
set_option maxRecDepth 100000
set_option maxHeartbeats 4000000
/-! Certified translation: own lists and dicts changed, read; isinstance. -/
namespace CT
open PySem L2 PySem.Spec PyProof.Rows

/-- data that no heap bears -/
class Ground (α : Type) [Py α] : Prop where
  any : ∀ {K : Frag} {c : Cls} {G G' : Hp} {v : V} {x : α}, Py.rep K c G v x → Py.rep K c G' v x
instance : Ground Int := ⟨fun h => h⟩
instance : Ground Bool := ⟨fun h => h⟩
instance : Ground Unit := ⟨fun h => h⟩
instance : Ground Str := ⟨fun h => h⟩
instance {α : Type} [Py α] [Ground α] : Ground (Option α) := ⟨fun {K c G G' v x} h => by
  cases x with
  | none => exact h
  | some x => exact Ground.any (α := α) h⟩
section
variable {X : Cx} {c : Cls} {Γ Γ1 : List Bd} {e a b d : Expr} {es : List Expr} {rest : List Stmt} {pos p : Pos} {α β γ κ : Type} [Py α] [Py β] [Py γ] [Py κ]
  {S L ρ : Type} [Py ρ] {Γn : S → List Bd} {Γl : L → List Bd}

/-! ### an own thing is read: as if it were frozen -/
theorem ex_thaw [Ground α] {β : Type} [Mu β] {i : Nat} {y : β} {m : Option α} (hb : Γ[i]? = some (.ow y)) (h : EX X c (Γ.set i (.fr y)) e m) : EX X c Γ e m := by
  intro B σ G H hh x hx Q k
  obtain ⟨G2, s2, h2⟩ := hh.freeze hb
  refine h B σ G2 H h2 x hx Q fun v G3 H3 ex r => ?_
  exact k v G H3 ⟨Same.refl G, ex.h, (s2.trans ex.g).trans ex.gh, fun a q _ => q⟩ (Ground.any r)
theorem et_thaw {β : Type} [Mu β] {i : Nat} {y : β} {m : Option Bool} (hb : Γ[i]? = some (.ow y)) (h : ET X c (Γ.set i (.fr y)) e m) : ET X c Γ e m := by
  intro B σ G H hh x hx Q k
  obtain ⟨G2, s2, h2⟩ := hh.freeze hb
  refine h B σ G2 H h2 x hx Q fun G3 H3 ex => ?_
  exact k G H3 ⟨Same.refl G, ex.h, (s2.trans ex.g).trans ex.gh, fun a q _ => q⟩
/-- an item of an own list -/
theorem ex_ixO {i : Nat} {x : Str} {xs : List α} {m : Option Int} {q : Pos} (hN : X.N[i]? = some x) (hv : Vis X.env.scope x) (hb : Γ[i]? = some (.ow xs)) (h : EX X c Γ b m) (hp : PlainIx b := by intro _ _; rfl)
    (hd : (x == ("__debug__" : Str)) = false := by decide) (hcd : (x == ("__classdict__" : Str)) = false := by decide) :
    EX X c Γ (.Subscript (.Name x q) b pos) (m.bind fun j => atI xs j) := by
  intro B σ G H hh z hz Q k
  obtain ⟨j, hj, hz⟩ := bind_some' hz
  refine ofE (pe_ix ix_list (pe_var hN hv hd hcd) toE hp) ?_
  obtain ⟨l, F, h1, h2, _⟩ := hh.write (o := .lst []) hb
  obtain ⟨rfl, vs, h3, h4, h5⟩ := h2
  refine ⟨.ref l, h1, ?_⟩
  refine h B σ G H hh j hj _ fun w G2 H2 ex r => ?_
  obtain ⟨u, q1, q2⟩ := atI_all2 h5 hz
  exact ⟨l, vs, j, u, rfl, r, SqL.of (ex.h _ _ h3), q1, k u G2 H2 ex (Py.mono ex.g q2)⟩

/-! ### an own list is changed -/
def appM (xs : List α) (x : α) : Option (List α) := if xs.length < 16777216 then some (xs ++ [x]) else none
theorem sx_append {i : Nat} {x : Str} {xs : List α} {m : Option α} {k : List α → Option (Oc S L ρ)} {p1 p2 p3 : Pos} (hN : X.N[i]? = some x) (hv : Vis X.env.scope x) (hb : Γ[i]? = some (.ow xs)) (h : EX X c Γ e m) (hr : ∀ ys : List α, SX X c (Γ.set i (.ow ys)) rest (k ys) Γn Γl)
    (ht : PE X (.Call (.Attribute (.Name x p1) "append" p2) [e] [] p3) (tBM X.K "list" rAppend (tVar i) (tAX X [e]))) (he : starEach [e] X.env = (false, eval e X.env) :: starEach [] X.env := by rfl)
    (hs : swapsWith (.Call (.Attribute (.Name x p1) "append" p2) [e] [] p3) none pos.line X.env = pure false := by rfl) :
    SX X c Γ (.Expr (.Call (.Attribute (.Name x p1) "append" p2) [e] [] p3) pos :: rest) (m.bind fun y => (appM xs y).bind k) Γn Γl := by
  intro B σ G H hh o ho D hf
  obtain ⟨y, hy, ho⟩ := bind_some' ho
  obtain ⟨ys, hys, ho⟩ := bind_some' ho
  unfold appM at hys
  split at hys
  · rename_i hlt
    cases hys
    refine ofS (pss_cons (ps_expr ht hs) toS) ?_
    obtain ⟨l, F, h1, h2, _⟩ := hh.write (o := .lst []) hb
    obtain ⟨rfl, vs, h3, h4, h5⟩ := h2
    refine ⟨.ref l, h1, .inl ⟨rfl, vs, SqL.of h3⟩, ?_⟩
    refine ofA (pa_cons toE pa_nil he) ?_
    refine h B σ G H hh y hy _ fun w G2 H2 ex r => ?_
    have hlen : vs.length < sizeLine := by
      rw [h5.len]
      exact Nat.lt_of_lt_of_le hlt (by decide)
    refine ⟨l, vs, w, rfl, rfl, ex.h _ _ h3, hlen, ?_⟩
    obtain ⟨l', F', q1, q2, q3, q4⟩ := (hh.mono ex).write (o := .lst (vs ++ [w])) hb
    rw [h1] at q1
    cases q1
    obtain ⟨rfl, vs', g1, g2, g3⟩ := q2
    exact hr _ B σ G2 _ (q4 l _ (by simp) ⟨rfl, vs ++ [w], upd_same, by simp; omega, All2.app (All2.mono (fun _ _ => Py.mono ex.g) h5) (.cons r .nil)⟩) o ho D hf
  · cases hys
def setM (xs : List α) (i : Int) (x : α) : Option (List α) := (ixN xs.length i).bind fun j => some (xs.set j x)
/-- xs[i] = e -/
theorem sx_setItem {i : Nat} {x : Str} {xs : List α} {m : Option α} {mi : Option Int} {k : List α → Option (Oc S L ρ)} {p1 p2 : Pos} (hN : X.N[i]? = some x) (hv : Vis X.env.scope x) (hb : Γ[i]? = some (.ow xs)) (h : EX X c Γ e m) (h' : EX X c Γ b mi) (hr : ∀ ys : List α, SX X c (Γ.set i (.ow ys)) rest (k ys) Γn Γl)
    (ht : PS X (.Assign [.Subscript (.Name x p1) b p2] e pos) (tAsg (tEX X e) (gSub (tVar i) (tEX X b) rSetL))) :
    SX X c Γ (.Assign [.Subscript (.Name x p1) b p2] e pos :: rest) (m.bind fun y => mi.bind fun j => (setM xs j y).bind k) Γn Γl := by
  intro B σ G H hh o ho D hf
  obtain ⟨y, hy, ho⟩ := bind_some' ho
  obtain ⟨j, hj, ho⟩ := bind_some' ho
  obtain ⟨ys, hys, ho⟩ := bind_some' ho
  obtain ⟨n, hn, hys⟩ := bind_some' hys
  cases hys
  refine ofS (pss_cons ht toS) ?_
  refine h B σ G H hh y hy _ fun w G2 H2 ex r => ?_
  have hh2 := hh.mono ex
  obtain ⟨l, F, h1, h2, _⟩ := hh2.write (o := .lst []) hb
  obtain ⟨rfl, vs, h3, h4, h5⟩ := h2
  refine ⟨.ref l, h1, ?_⟩
  refine h' B σ G2 H2 hh2 j hj _ fun u G3 H3 ex3 r3 => ?_
  refine ⟨l, vs, j, n, rfl, r3, ex3.h _ _ h3, by rw [h5.len]; exact hn, ?_⟩
  obtain ⟨l', F', q1, q2, q3, q4⟩ := (hh2.mono ex3).write (o := .lst (vs.set n w)) hb
  rw [h1] at q1
  cases q1
  obtain ⟨rfl, vs', g1, g2, g3⟩ := q2
  exact hr _ B σ G3 _ (q4 l _ (by simp) ⟨rfl, vs.set n w, upd_same, by simpa using h4, All2.set (Py.mono ex3.g r) n (All2.mono (fun _ _ => Py.mono ex3.g) h5)⟩) o ho D hf

/-! ### dicts -/
def dget [DecidableEq κ] (kvs : List (κ × α)) (k : κ) : Option α := (kvs.find? fun kv => decide (kv.1 = k)).map (·.2)
def dput [DecidableEq κ] (kvs : List (κ × α)) (k : κ) (x : α) : List (κ × α) := if (kvs.any fun kv => decide (kv.1 = k)) = true then kvs.map (fun kv => if kv.1 = k then (kv.1, x) else kv) else kvs ++ [(k, x)]
def dputM [DecidableEq κ] (kvs : List (κ × α)) (k : κ) (x : α) : Option (List (κ × α)) := if kvs.length < 16777216 then some (dput kvs k x) else none
section
variable {η : Type} [DecidableEq η] [DecidableEq κ] {enc : κ → η} (inj : ∀ {a b : κ}, enc a = enc b → a = b)
include inj
theorem all2_any {F : V → α → Prop} {vs : List (η × V)} {kvs : List (κ × α)} (h : All2 (fun p q => p.1 = enc q.1 ∧ F p.2 q.2) vs kvs) (k : κ) : (vs.any fun kv => decide (kv.1 = enc k)) = (kvs.any fun kv => decide (kv.1 = k)) := by
  induction h with
  | nil => rfl
  | @cons p q ps qs r _ ih =>
    rw [List.any_cons, List.any_cons, ih, r.1]
    congr 1
    by_cases e : q.1 = k
    · simp [e]
    · have : ¬ enc q.1 = enc k := fun z => e (inj z)
      simp [e, this]
theorem all2_get {F : V → α → Prop} {vs : List (η × V)} {kvs : List (κ × α)} (h : All2 (fun p q => p.1 = enc q.1 ∧ F p.2 q.2) vs kvs) (k : κ) :
    match dget kvs k with
    | some x => ∃ v, valV vs (enc k) = some v ∧ F v x
    | none => valV vs (enc k) = none := by
  induction h with
  | nil => exact valV_nil
  | @cons p q ps qs r _ ih =>
    by_cases e : q.1 = k
    · have e1 : dget (q :: qs) k = some q.2 := by simp [dget, List.find?_cons, e]
      rw [e1]
      exact ⟨p.2, valV_pos (by rw [r.1, e]), r.2⟩
    · have e1 : dget (q :: qs) k = dget qs k := by simp [dget, List.find?_cons, e]
      have e2 : valV (p :: ps) (enc k) = valV ps (enc k) := valV_neg (by rw [r.1]; exact fun z => e (inj z))
      rw [e1, e2]
      exact ih
theorem all2_put {F : V → α → Prop} {vs : List (η × V)} {kvs : List (κ × α)} (h : All2 (fun p q => p.1 = enc q.1 ∧ F p.2 q.2) vs kvs) (k : κ) {v : V} {x : α} (r : F v x) : All2 (fun p q => p.1 = enc q.1 ∧ F p.2 q.2) (putK vs (enc k) v) (dput kvs k x) := by
  unfold putK dput
  rw [all2_any inj h k]
  split
  · rename_i hq
    clear hq
    induction h with
    | nil => exact .nil
    | @cons p q ps qs rr _ ih =>
      rw [List.map_cons, List.map_cons]
      refine .cons ?_ ih
      by_cases e : q.1 = k
      · have e' : p.1 = enc k := by rw [rr.1, e]
        rw [if_pos e, if_pos e']
        exact ⟨rr.1, r⟩
      · have e' : ¬ p.1 = enc k := by
          rw [rr.1]
          exact fun z => e (inj z)
        rw [if_neg e, if_neg e']
        exact rr
  · exact All2.app h (.cons ⟨rfl, r⟩ .nil)
end
theorem rep_dgetT [TKey κ] [DecidableEq κ] {K : Frag} {G H : Hp} {d : DT κ α} {k : κ} {vd vk : V} (e : Same G H) (hd : Py.rep K c G vd d) (hk : Py.rep K c G vk k) :
    ∃ a, vd = .ref a ∧ match dget d.kvs k with
    | some x => ∃ v, DGet H a vk (some v) ∧ Py.rep K c G v x
    | none => DGet H a vk none := by
  obtain ⟨a, vs, rfl, h1, h2⟩ := hd
  obtain ⟨b, rfl, hb⟩ := TKey.val hk
  refine ⟨a, rfl, ?_⟩
  have := all2_get (enc := TKey.enc) TKey.inj h2 k
  cases q : dget d.kvs k with
  | none =>
    rw [q] at this
    exact .inr ⟨vs, _, b, CT.Rd.mono e (.inl h1), rfl, e _ _ hb, this.symm⟩
  | some x =>
    rw [q] at this
    obtain ⟨v, q1, q2⟩ := this
    exact ⟨v, .inr ⟨vs, _, b, CT.Rd.mono e (.inl h1), rfl, e _ _ hb, q1.symm⟩, q2⟩
theorem rep_dgetK [KKey κ] [DecidableEq κ] {K : Frag} {G H : Hp} {d : DK κ α} {k : κ} {vd vk : V} (e : Same G H) (hd : Py.rep K c G vd d) (hk : Py.rep K c G vk k) :
    ∃ a, vd = .ref a ∧ match dget d.kvs k with
    | some x => ∃ v, DGet H a vk (some v) ∧ Py.rep K c G v x
    | none => DGet H a vk none := by
  obtain ⟨a, vs, rfl, h1, h2⟩ := hd
  have hb := KKey.val hk
  refine ⟨a, rfl, ?_⟩
  have := all2_get (enc := KKey.enc) KKey.inj h2 k
  cases q : dget d.kvs k with
  | none =>
    rw [q] at this
    exact .inl ⟨vs, _, CT.Rd.mono e h1, hb, this.symm⟩
  | some x =>
    rw [q] at this
    obtain ⟨v, q1, q2⟩ := this
    exact ⟨v, .inl ⟨vs, _, CT.Rd.mono e h1, hb, q1.symm⟩, q2⟩
/-- a dict that can be asked -/
class Dic (δ κ α : Type) [Py δ] [Py κ] [Py α] where
  get : δ → κ → Option α
  ok : ∀ {K : Frag} {c : Cls} {G H : Hp} {d : δ} {k : κ} {vd vk : V}, Same G H → Py.rep K c G vd d → Py.rep K c G vk k → ∃ a, vd = .ref a ∧ match get d k with
    | some x => ∃ v, DGet H a vk (some v) ∧ Py.rep K c G v x
    | none => DGet H a vk none
instance [TKey κ] [DecidableEq κ] : Dic (DT κ α) κ α := ⟨fun d k => dget d.kvs k, fun e h1 h2 => rep_dgetT e h1 h2⟩
instance [KKey κ] [DecidableEq κ] : Dic (DK κ α) κ α := ⟨fun d k => dget d.kvs k, fun e h1 h2 => rep_dgetK e h1 h2⟩
section
variable {δ : Type} [Py δ] [Dic δ κ α] {md : Option δ} {mk : Option κ}
theorem ex_dget (hu : X.A.units + 1 < cLine) (hd : EX X c Γ d md) (hk : EX X c Γ b mk) (hs : NoSl b := by intro _ _; rfl) : EX X c Γ (.Subscript d b pos) (md.bind fun d => mk.bind fun k => Dic.get (α := α) d k) := by
  intro B σ G H hh z hz Q k
  obtain ⟨x, hx, hz⟩ := bind_some' hz
  obtain ⟨y, hy, hz⟩ := bind_some' hz
  refine ofE (pe_dget hu toE toE hs) ?_
  refine hd B σ G H hh x hx _ fun v G1 H1 e1 r1 => hk B σ G1 H1 (hh.mono e1) y hy _ fun u G2 H2 e2 r2 => ?_
  obtain ⟨a, rfl, q⟩ := Dic.ok (α := α) e2.gh (Py.mono e2.g r1) r2
  rw [hz] at q
  obtain ⟨w, q1, q2⟩ := q
  exact ⟨a, w, rfl, q1, k w G2 H2 (e1.trans e2) q2⟩
theorem ex_din (α : Type) [Py α] [Dic δ κ α] (hu : X.A.units + 1 < cLine) (hk : EX X c Γ b mk) (hd : EX X c Γ d md) (hm : behindInMarks .In d = false := by rfl) : EX X c Γ (.Compare b [.In] [d] pos) (mk.bind fun k => md.bind fun d => some (Dic.get (α := α) d k).isSome) := by
  intro B σ G H hh z hz Q k
  obtain ⟨y, hy, hz⟩ := bind_some' hz
  obtain ⟨x, hx, hz⟩ := bind_some' hz
  cases hz
  refine ofE (pe_cmp (pc_din hu toE toE) hm) ?_
  refine hk B σ G H hh y hy _ fun u G1 H1 e1 r1 => hd B σ G1 H1 (hh.mono e1) x hx _ fun v G2 H2 e2 r2 => ?_
  obtain ⟨a, rfl, q⟩ := Dic.ok (α := α) e2.gh r2 (Py.mono e2.g r1)
  cases hq : Dic.get (α := α) x y with
  | none =>
    rw [hq] at q
    exact ⟨a, none, rfl, q, k _ G2 H2 (e1.trans e2) (by rw [hq]; rfl)⟩
  | some w =>
    rw [hq] at q
    obtain ⟨v, q1, q2⟩ := q
    exact ⟨a, some v, rfl, q1, k _ G2 H2 (e1.trans e2) (by rw [hq]; rfl)⟩
theorem ex_dnin (α : Type) [Py α] [Dic δ κ α] (hu : X.A.units + 1 < cLine) (hk : EX X c Γ b mk) (hd : EX X c Γ d md) (hm : behindInMarks .NotIn d = false := by rfl) : EX X c Γ (.Compare b [.NotIn] [d] pos) (mk.bind fun k => md.bind fun d => some (Dic.get (α := α) d k).isNone) := by
  intro B σ G H hh z hz Q k
  obtain ⟨y, hy, hz⟩ := bind_some' hz
  obtain ⟨x, hx, hz⟩ := bind_some' hz
  cases hz
  refine ofE (pe_cmp (pc_dnotin hu toE toE) hm) ?_
  refine hk B σ G H hh y hy _ fun u G1 H1 e1 r1 => hd B σ G1 H1 (hh.mono e1) x hx _ fun v G2 H2 e2 r2 => ?_
  obtain ⟨a, rfl, q⟩ := Dic.ok (α := α) e2.gh r2 (Py.mono e2.g r1)
  cases hq : Dic.get (α := α) x y with
  | none =>
    rw [hq] at q
    exact ⟨a, none, rfl, q, k _ G2 H2 (e1.trans e2) (by rw [hq]; rfl)⟩
  | some w =>
    rw [hq] at q
    obtain ⟨v, q1, q2⟩ := q
    exact ⟨a, some v, rfl, q1, k _ G2 H2 (e1.trans e2) (by rw [hq]; rfl)⟩
end
end
end CT

end
/-! ## Cert9.lean -/
section
set_option Elab.async false
set_option linter.all false
set_option maxRecDepth 100000
set_option maxHeartbeats 4000000
/-! Certified translation: dicts made and changed, dicts of own lists, isinstance, sorted by a sum. -/
namespace CT
open PySem L2 PySem.Spec PyProof.Rows
section
variable {X : Cx} {c : Cls} {Γ Γ1 : List Bd} {e a b d : Expr} {es : List Expr} {rest : List Stmt} {pos p : Pos} {α β γ κ : Type} [Py α] [Py β] [Py γ] [Py κ]
  {S L ρ : Type} [Py ρ] {Γn : S → List Bd} {Γl : L → List Bd}

theorem own_newH {γ : Type} [Mu γ] {G H : Hp} (e : Same G H) {l : Addr} (hl : H l = none) {o : HO} {x : γ} (how : ∀ H', H' l = some o → Mu.own X.K c G H' l x [l]) :
    Ext G H G (upd H l o) ∧ Mu.own X.K c G (upd H l o) l x [l] ∧ ∀ a ∈ [l], G a = none ∧ H a = none := by
  have gl := none_sub e hl
  refine ⟨⟨Same.refl G, same_new hl, fun a o q => ?_, fun a h _ => h⟩, how _ upd_same, fun a ha => ?_⟩
  · rw [upd_ne (ne_of_none q gl)]
    exact e a o q
  · rw [List.mem_singleton] at ha
    rw [ha]
    exact ⟨gl, hl⟩
/-- {} -/
theorem eo_dnewT [TKey κ] : EO X c Γ (.Dict [] [] pos) (some (DT.mk [] : DT κ α)) := by
  intro B σ G H hh z hz Q k
  cases hz
  refine ofE pe_dnewT fun l hl => ?_
  obtain ⟨h1, h2, h3⟩ := own_newH (γ := DT κ α) (X := X) (c := c) hh.gh hl (o := .dT []) (x := (DT.mk [] : DT κ α)) fun H' q => (show Mu.own X.K c G H' l (DT.mk [] : DT κ α) [l] from ⟨rfl, [], q, .nil⟩)
  exact k l [l] G _ h1 h2 h3
theorem eo_dnewK [KKey κ] : EO X c Γ (.Dict [] [] pos) (some (DK.mk [] : DK κ α)) := by
  intro B σ G H hh z hz Q k
  cases hz
  refine ofE pe_dnewK fun l hl => ?_
  obtain ⟨h1, h2, h3⟩ := own_newH (γ := DK κ α) (X := X) (c := c) hh.gh hl (o := .dK []) (x := (DK.mk [] : DK κ α)) fun H' q => (show Mu.own X.K c G H' l (DK.mk [] : DK κ α) [l] from ⟨rfl, [], q, .nil⟩)
  exact k l [l] G _ h1 h2 h3
/-- {k: v} with a tuple as key -/
def tDispT (tk tv : TE) : TE := fun σ H Q => ∀ p, H p = none → tk σ (upd H p (.dT [])) fun x H1 => tv σ H1 fun y H2 => ∃ (b : Addr) (ks : List Key), x = .ref b ∧ H2 b = some (.tup (ks.map kV)) ∧ H2 p = some (.dT []) ∧ Q (.ref p) (upd H2 p (.dT [(ks, y)]))
theorem pe_dispT {tk tv : TE} (hu : X.A.units < cLine) (hk : PE X a tk) (hv : PE X b tv) : PE X (.Dict [some a] [b] pos) (tDispT tk tv) := by
  refine ⟨fun pins s σ H Q I q => ?_⟩
  have hn := I.hok.fresh (Nat.le_refl s.heap.objs.size)
  have I1 := I.laid (a := s.heap.objs.size) (o := .dT []) (h' := s.heap.push { cls := .type "dict", data := .dict #[] }) (t' := s.toks) (fun _ _ q => Heap.get?_push_of_some _ q) (Nat.le_refl _) (dt_empty s.heap I.big)
  have hshape : (evalEachOpt [some a] X.env).zip ((evalEach [b] X.env).map fun v => do let x ← v; standAt pos; pure x) = ([(eval a X.env, do let x ← eval b X.env; standAt pos; pure x)] : List (Sem Value × Sem Value)).map fun p => (some p.1, p.2) := rfl
  rw [arm_eval_Dict, hshape, dictDisplay_pairs _ (by simp) (by simp)]
  refine wpAny_bind (wpAny_standAt (wpAny_bind ?_))
  refine wpAny_subDictH (knd := tupleKind (mixKind X.prog X.w)) (Q := fun d s' => wpAny (model X.prog X.w) X.A (pure (Value.ref d)) (EP X pins σ Q) X.xe s') hu (by simp) ?_
  refine evalPairs_cons ?_
  refine thn (hk.run pins _ σ _ _ I1 (q _ hn)) fun u s1 ⟨x, H1, I2, rx, q1⟩ => ?_
  refine wpAny_bind (thn (hv.run pins s1 σ H1 _ I2 q1) fun w2 s2 ⟨y, H2, I3, ry, b', ks, ex, eb, ed, q2⟩ => ?_)
  subst ex
  obtain rfl : u = Value.ref b' := rx
  refine wpAny_bind (wpAny_standAt (wpAny_pure ?_))
  refine evalPairs_nil ?_
  obtain ⟨z, hd, xs, rel, dd⟩ := dt_of I3.hok ed
  cases rel
  refine ⟨[(ks, b', w2)], ⟨rfl, rfl, key_of I3.hok eb, True.intro⟩, dd, fun h' tk dd' hs => wpAny_pure ?_⟩
  have dd'' := dd'
  obtain ⟨o, es, ep, hq, h2, h3, h4, _, h5⟩ := dd''
  refine ⟨.ref s.heap.objs.size, upd H2 s.heap.objs.size (.dT [(ks, y)]), d_write (t' := tk) I3 (by rw [ed]; exact True.intro) hs ⟨o, hq⟩ ⟨by show 1 ≤ sizeLine; decide, hd, [(ks, b', w2)], .cons ⟨rfl, ?_, ry⟩ .nil, o, es, ep, hq, h2, h3, h4, h5⟩, rfl, q2⟩
  rw [upd_ne (ne_of eb ed (fun z => nomatch z))]
  exact eb
theorem eo_dispT [TKey κ] {mk : Option κ} {mv : Option α} (hu : X.A.units < cLine) (hk : EX X c Γ a mk) (hv : EX X c Γ b mv) : EO X c Γ (.Dict [some a] [b] pos) (mk.bind fun k => mv.bind fun v => some (DT.mk [(k, v)] : DT κ α)) := by
  intro B σ G H hh z hz Q k
  obtain ⟨x, hx, hz⟩ := bind_some' hz
  obtain ⟨y, hy, hz⟩ := bind_some' hz
  cases hz
  refine ofE (pe_dispT hu toE toE) fun l hl => ?_
  have e0 : Ext G H G (upd H l (.dT [])) := ⟨Same.refl G, same_new hl, fun a o q => by
    rw [upd_ne (ne_of_none q (none_sub hh.gh hl))]
    exact hh.gh a o q, fun a h _ => h⟩
  refine hk B σ G _ (hh.mono e0) x hx _ fun v G1 H1 e1 r1 => hv B σ G1 H1 ((hh.mono e0).mono e1) y hy _ fun u G2 H2 e2 r2 => ?_
  obtain ⟨bb, rfl, hb⟩ := TKey.val (Py.mono e2.g r1)
  have e02 := (e0.trans e1).trans e2
  have hl2 : H2 l = some (.dT []) := e2.h _ _ (e1.h _ _ upd_same)
  have gl : G2 l = none := e2.fr l (e1.fr l (none_sub hh.gh hl) (by rw [upd_same]; simp)) (by rw [e1.h _ _ upd_same]; simp)
  refine ⟨bb, TKey.enc x, rfl, e2.gh _ _ hb, hl2, ?_⟩
  refine k l [l] G2 _ ⟨e02.g, fun a o q => ?_, fun a o q => ?_, fun a h1 h2 => ?_⟩ ⟨rfl, _, upd_same, .cons ⟨rfl, r2⟩ .nil⟩ fun a ha => ?_
  · rw [upd_ne (ne_of_none q hl)]
    exact e02.h a o (by exact q)
  · rw [upd_ne (ne_of_none q gl)]
    exact e02.gh a o q
  · exact e02.fr a h1 h2
  · rw [List.mem_singleton] at ha
    rw [ha]
    exact ⟨gl, hl⟩
/-- d[k] = e, d an own dict -/
theorem sx_dputT [TKey κ] [DecidableEq κ] {i : Nat} {x : Str} {dd : DT κ α} {m : Option α} {mk : Option κ} {k : DT κ α → Option (Oc S L ρ)} {p1 p2 : Pos} (hu : X.A.units + 1 < cLine) (hN : X.N[i]? = some x) (hv : Vis X.env.scope x) (hb : Γ[i]? = some (.ow dd)) (h : EX X c Γ e m) (h' : EX X c Γ b mk) (hr : ∀ ys : DT κ α, SX X c (Γ.set i (.ow ys)) rest (k ys) Γn Γl)
    (hs : swapsWith e (some (.Subscript (.Name x p1) b p2)) pos.line X.env = pure false := by rfl) (hd : (x == ("__debug__" : Str)) = false := by decide) (hcd : (x == ("__classdict__" : Str)) = false := by decide) :
    SX X c Γ (.Assign [.Subscript (.Name x p1) b p2] e pos :: rest) (m.bind fun y => mk.bind fun j => (dputM dd.kvs j y).bind fun kvs => k ⟨kvs⟩) Γn Γl := by
  intro B σ G H hh o ho D hf
  obtain ⟨y, hy, ho⟩ := bind_some' ho
  obtain ⟨j, hj, ho⟩ := bind_some' ho
  obtain ⟨kvs, hk, ho⟩ := bind_some' ho
  unfold dputM at hk
  split at hk
  · rename_i hlt
    cases hk
    refine ofS (pss_cons (ps_dput hu (pe_var hN hv hd hcd) toE toE hs) toS) ?_
    refine h B σ G H hh y hy _ fun w G2 H2 ex r => ?_
    have hh2 := hh.mono ex
    obtain ⟨l, F, h1, h2, _⟩ := hh2.write (o := .lst []) hb
    obtain ⟨rfl, vs, h3, h5⟩ := h2
    refine ⟨.ref l, h1, ?_⟩
    refine h' B σ G2 H2 hh2 j hj _ fun u G3 H3 ex3 r3 => ?_
    obtain ⟨bb, rfl, hbb⟩ := TKey.val r3
    refine ⟨l, _, rfl, .inr ⟨vs, _, bb, ex3.h _ _ h3, rfl, ex3.gh _ _ hbb, ?_, rfl⟩, ?_⟩
    · rw [h5.len]
      exact Nat.lt_of_lt_of_le hlt (by decide)
    obtain ⟨l', F', q1, q2, q3, q4⟩ := (hh2.mono ex3).write (o := .dT (putK vs (TKey.enc j) w)) hb
    rw [h1] at q1
    cases q1
    obtain ⟨rfl, vs', g1, g3⟩ := q2
    exact hr _ B σ G3 _ (q4 l _ (by simp) ⟨rfl, _, upd_same, all2_put (enc := TKey.enc) TKey.inj (All2.mono (fun _ _ r => ⟨r.1, Py.mono ex3.g r.2⟩) h5) j (Py.mono ex3.g r)⟩) o ho D hf
  · cases hk
theorem sx_dputK [KKey κ] [DecidableEq κ] {i : Nat} {x : Str} {dd : DK κ α} {m : Option α} {mk : Option κ} {k : DK κ α → Option (Oc S L ρ)} {p1 p2 : Pos} (hu : X.A.units + 1 < cLine) (hN : X.N[i]? = some x) (hv : Vis X.env.scope x) (hb : Γ[i]? = some (.ow dd)) (h : EX X c Γ e m) (h' : EX X c Γ b mk) (hr : ∀ ys : DK κ α, SX X c (Γ.set i (.ow ys)) rest (k ys) Γn Γl)
    (hs : swapsWith e (some (.Subscript (.Name x p1) b p2)) pos.line X.env = pure false := by rfl) (hd : (x == ("__debug__" : Str)) = false := by decide) (hcd : (x == ("__classdict__" : Str)) = false := by decide) :
    SX X c Γ (.Assign [.Subscript (.Name x p1) b p2] e pos :: rest) (m.bind fun y => mk.bind fun j => (dputM dd.kvs j y).bind fun kvs => k ⟨kvs⟩) Γn Γl := by
  intro B σ G H hh o ho D hf
  obtain ⟨y, hy, ho⟩ := bind_some' ho
  obtain ⟨j, hj, ho⟩ := bind_some' ho
  obtain ⟨kvs, hk, ho⟩ := bind_some' ho
  unfold dputM at hk
  split at hk
  · rename_i hlt
    cases hk
    refine ofS (pss_cons (ps_dput hu (pe_var hN hv hd hcd) toE toE hs) toS) ?_
    refine h B σ G H hh y hy _ fun w G2 H2 ex r => ?_
    have hh2 := hh.mono ex
    obtain ⟨l, F, h1, h2, _⟩ := hh2.write (o := .lst []) hb
    obtain ⟨rfl, vs, h3, h5⟩ := h2
    refine ⟨.ref l, h1, ?_⟩
    refine h' B σ G2 H2 hh2 j hj _ fun u G3 H3 ex3 r3 => ?_
    have hkey := KKey.val r3
    refine ⟨l, _, rfl, .inl ⟨vs, _, ex3.h _ _ h3, hkey, ?_, rfl⟩, ?_⟩
    · rw [h5.len]
      exact Nat.lt_of_lt_of_le hlt (by decide)
    obtain ⟨l', F', q1, q2, q3, q4⟩ := (hh2.mono ex3).write (o := .dK (putK vs (KKey.enc j) w)) hb
    rw [h1] at q1
    cases q1
    obtain ⟨rfl, vs', g1, g3⟩ := q2
    exact hr _ B σ G3 _ (q4 l _ (by simp) ⟨rfl, _, upd_same, all2_put (enc := KKey.enc) KKey.inj (All2.mono (fun _ _ r => ⟨r.1, Py.mono ex3.g r.2⟩) h5) j (Py.mono ex3.g r)⟩) o ho D hf
  · cases hk
end
end CT

end
/-! ## Cert10.lean -/
section
set_option Elab.async false
set_option linter.all false
set_option maxRecDepth 100000
set_option maxHeartbeats 4000000
/-! Certified translation: isinstance, sorted(dict), dicts of own lists, sorted by a sum. -/
namespace CT
open PySem L2 PySem.Spec PyProof.Rows

/-- data of one built-in type -/
class PyT (α : Type) [Py α] (tn : outParam String) : Prop where
  ty : ∀ {K : Frag} {c : Cls} {G H : Hp} {v : V} {x : α}, Same G H → Py.rep K c G v x → TyX K H v (.type tn)
instance : PyT Int "int" := ⟨fun {K c G H v x} e r => by
  obtain rfl : v = .int x := r
  exact .base (.int x)⟩
instance : PyT Bool "bool" := ⟨fun {K c G H v x} e r => by
  obtain rfl : v = .bl x := r
  exact .base (.bl x)⟩
instance : PyT Str "str" := ⟨fun {K c G H v x} e r => by
  obtain rfl : v = .str x := r
  exact .base (.str x)⟩
instance : PyT Unit "NoneType" := ⟨fun {K c G H v x} e r => by
  obtain rfl : v = .non := r
  exact .base .non⟩
instance {α : Type} [Py α] : PyT (List α) "list" := ⟨fun {K c G H v x} e ⟨a, xs, ev, _, hs, _⟩ => by
  subst ev
  rcases hs with (h | ⟨o, h⟩) | ⟨o, its, n, h1, h2, _⟩
  · exact .base (.lst (e _ _ h))
  · exact .base (.frz (e _ _ h))
  · exact .kList h1 h2⟩
instance {α : Type} [Py α] : PyT (Tup α) "tuple" := ⟨fun {K c G H v x} e ⟨a, xs, ev, _, hs, _⟩ => by
  subst ev
  exact .base (.tup (e _ _ hs))⟩
instance {α β : Type} [Py α] [Py β] : PyT (α × β) "tuple" := ⟨fun {K c G H v x} e ⟨a, y, z, ev, hs, _⟩ => by
  subst ev
  exact .base (.tup (e _ _ hs))⟩
instance {κ α : Type} [Py κ] [KKey κ] [Py α] : PyT (DK κ α) "dict" := ⟨fun {K c G H v x} e ⟨a, vs, ev, hs, _⟩ => by
  subst ev
  rcases hs with h | ⟨o, h⟩
  · exact .base (.dK (e _ _ h))
  · exact .fDict (e _ _ h)⟩
instance {κ α : Type} [Py κ] [TKey κ] [Py α] : PyT (DT κ α) "dict" := ⟨fun {K c G H v x} e ⟨a, vs, ev, hs, _⟩ => by
  subst ev
  exact .base (.dT (e _ _ hs))⟩
section
variable {X : Cx} {c : Cls} {Γ Γ1 : List Bd} {e a b d : Expr} {es : List Expr} {rest : List Stmt} {pos p : Pos} {α β γ κ : Type} [Py α] [Py β] [Py γ] [Py κ]
  {S L ρ : Type} [Py ρ] {Γn : S → List Bd} {Γl : L → List Bd}
theorem ex_isinst {tn T : String} [PyT α tn] {m : Option α} {q : Bool} {x : Str} {p2 : Pos} (hg : Gl X "isinstance") (hm : X.mg "isinstance" = none) (hg2 : Gl X x) (hm2 : X.mg x = none) (hv2 : bootBuiltins x = some (.type T)) (hq : kitB tn T = some q) (h : EX X c Γ e m)
    (hn : x ≠ "__name__" := by decide) (hdb : (x == ("__debug__" : Str)) = false := by decide) (he : starEach [e, .Name x p2] X.env = (false, eval e X.env) :: starEach [.Name x p2] X.env := by rfl) (he2 : starEach [.Name x p2] X.env = (false, eval (.Name x p2) X.env) :: starEach [] X.env := by rfl)
    (hpl : (backTo pos (starEach [.Name x p2] X.env)).any (·.1) = false := by rfl) : EX X c Γ (.Call (.Name "isinstance" p) [e, .Name x p2] [] pos) (m.bind fun _ => some q) := by
  intro B σ G H hh z hz Q k
  obtain ⟨y, hy, hz⟩ := bind_some' hz
  cases hz
  refine ofE (pe_callB call_isi hg hm (by decide +kernel) (pa_cons toE (pa_cons (pe_bltn (v := .ty T) hg2 hm2 hv2 rfl hn hdb) pa_nil he2) he) (by decide) (by decide) he hpl) ?_
  refine h B σ G H hh y hy _ fun v G2 H2 ex r => ?_
  exact ⟨v, .ty T, .type tn, .type T, q, rfl, .ty T, PyT.ty ex.gh r, kit_ty hq, k _ G2 H2 ex rfl⟩

/-! ### sorted(d), d a dict with int keys -/
theorem perm_le : ∀ {xs ys : List Int}, xs.Perm ys → xs.Pairwise (· ≤ ·) → ys.Pairwise (· ≤ ·) → xs = ys := fun h h1 h2 =>
  h.eq_of_pairwise (fun a b _ _ q1 q2 => Int.le_antisymm q1 q2) h1 h2
theorem sortT_le (xs : List Int) : (sortT xs).Pairwise (· ≤ ·) := by
  have := List.pairwise_mergeSort (le := (leT : Int → Int → Bool)) (fun a b c h1 h2 => by
    simp only [leT, PySem.W.DatumOrd.lt] at *
    simp at *
    omega) (fun a b => by
    simp only [leT, PySem.W.DatumOrd.lt]
    simp
    omega) xs
  refine this.imp fun {a b} h => ?_
  simp only [leT, PySem.W.DatumOrd.lt] at h
  simpa using h
theorem sortT_perm {α : Type} [DecidableEq α] [PySem.W.DatumOrd α] (xs : List α) : (sortT xs).Perm xs := List.mergeSort_perm _ _
def sortK (kvs : List (Int × α)) : Option (List Int) := if kvs.length < 64 then some (sortT (kvs.map (·.1))) else none
def rSortDI (K : Frag) : List V → Hp → VK → Prop := fun xs H Q => ∃ (a : Addr) (kvs : List (Key × V)) (ks : List Int), xs = [.ref a] ∧ Rd H a (.dK kvs) ∧ kvs.map (·.1) = ks.map Sum.inl ∧ ks.length < 64 ∧
    ∀ (ys : List Int) (p : Addr), ys.Perm ks → ys.Pairwise (· ≤ ·) → H p = none → Q (.ref p) (upd H p (.lst (ys.map V.int)))
theorem ent_keys {F : V → α → Prop} {ws : List (Key × V)} {kvs : List (Int × α)} (h : All2 (fun (p : Key × V) (q : Int × α) => p.1 = KKey.enc q.1 ∧ F p.2 q.2) ws kvs) : ws.map (·.1) = (kvs.map (·.1)).map Sum.inl := by
  induction h with
  | nil => rfl
  | cons r _ ih => rw [List.map_cons, List.map_cons, List.map_cons, ih, r.1]; rfl
theorem calO_sortDI : CalO X c (rSortDI X.K) (fun x : DK Int α × Unit => sortK x.1.kvs) := fun x z vs G H Q e r h k => by
  replace h : sortK x.1.kvs = some z := h
  unfold sortK at h
  split at h
  · rename_i hlt
    cases h
    obtain ⟨v, _, rfl, ⟨a, ws, rfl, hs, hv⟩, rfl⟩ := r
    have hks : ws.map (·.1) = (x.1.kvs.map (·.1)).map Sum.inl := ent_keys hv
    refine ⟨a, ws, x.1.kvs.map (·.1), rfl, CT.Rd.mono e hs, hks, by rw [List.length_map]; exact hlt, fun ys l hp hs2 hl => ?_⟩
    have e1 : ys = sortT (x.1.kvs.map (·.1)) := perm_le (hp.trans (sortT_perm _).symm) hs2 (sortT_le _)
    subst e1
    obtain ⟨h1, h2, h3⟩ := own_new (X := X) (c := c) e hl (vs := (sortT (x.1.kvs.map (·.1))).map V.int) (xs := sortT (x.1.kvs.map (·.1))) (by
      rw [List.length_map, (sortT_perm _).length_eq, List.length_map]
      exact Nat.le_trans (Nat.le_of_lt hlt) (by decide)) (all2_int' _)
    exact k l [l] G _ h1 h2 h3
  · cases h

/-! ### dicts whose values are own lists -/
/-- a dict of lists that are changed by place -/
structure DL (κ α : Type) where
  kvs : List (κ × List α)
abbrev entsL [KKey κ] (as : List Addr) (kvs : List (κ × List α)) : List (Key × V) := List.zipWith (fun a (q : κ × List α) => (KKey.enc q.1, V.ref a)) as kvs
abbrev LstAt (K : Frag) (c : Cls) (G H : Hp) : Addr → κ × List α → Prop := fun a q => ∃ ws, H a = some (.lst ws) ∧ ws.length ≤ sizeLine ∧ All2 (Py.rep K c G) ws q.2
theorem entsL_all2 [KKey κ] {F : V → List α → Prop} {as : List Addr} {kvs : List (κ × List α)} (h : All2 (fun (a : Addr) (q : κ × List α) => F (.ref a) q.2) as kvs) : All2 (fun (p : Key × V) (q : κ × List α) => p.1 = KKey.enc q.1 ∧ F p.2 q.2) (entsL as kvs) kvs := by
  induction h with
  | nil => exact .nil
  | cons r _ ih => exact .cons ⟨rfl, r⟩ ih
instance [KKey κ] : Py (DL κ α) := ⟨fun K cc G v d => Py.rep K cc G v (DK.mk d.kvs : DK κ (List α)), fun e h => Py.mono (α := DK κ (List α)) e h⟩
theorem lstAt_mono {K : Frag} {cc : Cls} {G G' H H' : Hp} {as : List Addr} {kvs : List (κ × List α)} (h : All2 (LstAt K cc G H) as kvs) (e : Same G G') (hF : ∀ a ∈ as, ∀ o, H a = some o → H' a = some o) : All2 (LstAt K cc G' H') as kvs := by
  induction h with
  | nil => exact .nil
  | cons r _ ih =>
    obtain ⟨ws, q1, q2, q3⟩ := r
    exact .cons ⟨ws, hF _ (by simp) _ q1, q2, All2.mono (fun _ _ => Py.mono e) q3⟩ (ih fun a ha => hF a (by simp [ha]))
theorem lstAt_dom {K : Frag} {cc : Cls} {G H : Hp} {as : List Addr} {kvs : List (κ × List α)} (h : All2 (LstAt K cc G H) as kvs) : ∀ a ∈ as, H a ≠ none := by
  induction h with
  | nil => intro a ha; cases ha
  | cons r _ ih =>
    intro a ha
    rcases List.mem_cons.mp ha with rfl | ha
    · obtain ⟨ws, q1, _⟩ := r
      rw [q1]; simp
    · exact ih a ha
theorem lstAt_rep {K : Frag} {cc : Cls} {G G' H : Hp} {as : List Addr} {kvs : List (κ × List α)} (h : All2 (LstAt K cc G H) as kvs) (e : Same G G') (hF : ∀ a ∈ as, G' a = H a) : All2 (fun (a : Addr) (q : κ × List α) => Py.rep K cc G' (.ref a) q.2) as kvs := by
  induction h with
  | nil => exact .nil
  | cons r _ ih =>
    obtain ⟨ws, q1, q2, q3⟩ := r
    exact .cons ⟨_, ws, rfl, q2, SqL.of ((hF _ (by simp)).trans q1), All2.mono (fun _ _ => Py.mono e) q3⟩ (ih fun a ha => hF a (by simp [ha]))
theorem entsL_inj [KKey κ] : ∀ {kvs : List (κ × List α)} {as as' : List Addr}, as.length = kvs.length → as'.length = kvs.length → entsL as' kvs = entsL as kvs → as' = as
  | [], as, as', h1, h2, _ => by rw [List.eq_nil_of_length_eq_zero h1, List.eq_nil_of_length_eq_zero h2]
  | _ :: _, [], _, h1, _, _ => by simp at h1
  | _ :: _, _ :: _, [], _, h2, _ => by simp at h2
  | q :: kvs, a :: as, a' :: as', h1, h2, h3 => by
    simp only [entsL, List.zipWith_cons_cons, List.cons.injEq, Prod.mk.injEq, V.ref.injEq, true_and] at h3
    rw [h3.1, entsL_inj (kvs := kvs) (by simpa using h1) (by simpa using h2) h3.2]
instance [KKey κ] : Mu (DL κ α) where
  own K cc G H l x F := ∃ as, F = l :: as ∧ (l :: as).Nodup ∧ H l = some (.dK (entsL as x.kvs)) ∧ All2 (LstAt K cc G H) as x.kvs
  own_mono := by
    rintro K cc G G' H H' l x F e hF ⟨as, rfl, hn, h, hv⟩
    exact ⟨as, rfl, hn, (hF l (by simp)).trans h, lstAt_mono hv e fun a ha o q => (hF a (by simp [ha])).trans q⟩
  own_dom := by
    rintro K cc G H l x F ⟨as, rfl, hn, h, hv⟩ a ha
    rcases List.mem_cons.mp ha with rfl | ha
    · rw [h]; simp
    · exact lstAt_dom hv a ha
  freeze := by
    rintro K cc G G' H l x F ⟨as, rfl, hn, h, hv⟩ e hF
    exact ⟨l, entsL as x.kvs, rfl, .inl ((hF l (by simp)).trans h), entsL_all2 (F := fun v ws => Py.rep K cc G' v ws) (lstAt_rep hv e fun a ha => hF a (by simp [ha]))⟩
instance [KKey κ] [DecidableEq κ] : Dic (DL κ α) κ (List α) := ⟨fun d k => dget d.kvs k, fun e h1 h2 => rep_dgetK (d := DK.mk _) e h1 h2⟩
theorem ex_ofDL [KKey κ] {m : Option (DL κ α)} (h : EX X c Γ e m) : EX X c Γ e (m.bind fun d => some (DK.mk d.kvs : DK κ (List α))) := by
  intro B σ G H hh z hz Q k
  obtain ⟨y, hy, hz⟩ := bind_some' hz
  cases hz
  exact h B σ G H hh y hy Q fun v G2 H2 ex r => k v G2 H2 ex r
theorem eo_dnewL [KKey κ] : EO X c Γ (.Dict [] [] pos) (some (DL.mk [] : DL κ α)) := by
  intro B σ G H hh z hz Q k
  cases hz
  refine ofE pe_dnewK fun l hl => ?_
  obtain ⟨h1, h2, h3⟩ := own_newH (γ := DL κ α) (X := X) (c := c) hh.gh hl (o := .dK []) (x := (DL.mk [] : DL κ α)) fun H' q => (show Mu.own X.K c G H' l (DL.mk [] : DL κ α) [l] from ⟨[], rfl, by simp, q, .nil⟩)
  exact k l [l] G _ h1 h2 h3
/-- d[k] = a new list, k not in d -/
def dlput [DecidableEq κ] (kvs : List (κ × List α)) (k : κ) (xs : List α) : Option (List (κ × List α)) := if (kvs.any fun kv => decide (kv.1 = k)) = true then none else if kvs.length < 16777216 then some (kvs ++ [(k, xs)]) else none
/-- d[k][j] = x -/
def setFirst [DecidableEq κ] (k : κ) (ys : List α) : List (κ × List α) → List (κ × List α)
  | [] => []
  | q :: r => if q.1 = k then (q.1, ys) :: r else q :: setFirst k ys r
def dlset [DecidableEq κ] (kvs : List (κ × List α)) (k : κ) (j : Int) (x : α) : Option (List (κ × List α)) := (dget kvs k).bind fun xs => (setM xs j x).bind fun ys => some (setFirst k ys kvs)
theorem zipWith_app {α β γ : Type} (f : α → β → γ) : ∀ {xs : List α} {ys : List β} {x : α} {y : β}, xs.length = ys.length → List.zipWith f (xs ++ [x]) (ys ++ [y]) = List.zipWith f xs ys ++ [f x y]
  | [], [], _, _, _ => rfl
  | [], _ :: _, _, _, h => by simp at h
  | _ :: _, [], _, _, h => by simp at h
  | a :: xs, b :: ys, x, y, h => by
    simp only [List.cons_append, List.zipWith_cons_cons, zipWith_app f (xs := xs) (ys := ys) (x := x) (y := y) (by simpa using h)]
theorem sx_dlput [KKey κ] [DecidableEq κ] {i : Nat} {x : Str} {dd : DL κ α} {m : Option (List α)} {mk : Option κ} {k : DL κ α → Option (Oc S L ρ)} {p1 p2 : Pos} (hu : X.A.units + 1 < cLine) (hN : X.N[i]? = some x) (hv : Vis X.env.scope x) (hb : Γ[i]? = some (.ow dd)) (h : EO X c Γ e m) (h' : EX X c Γ b mk) (hr : ∀ ys : DL κ α, SX X c (Γ.set i (.ow ys)) rest (k ys) Γn Γl)
    (hs : swapsWith e (some (.Subscript (.Name x p1) b p2)) pos.line X.env = pure false := by rfl) (hd : (x == ("__debug__" : Str)) = false := by decide) (hcd : (x == ("__classdict__" : Str)) = false := by decide) :
    SX X c Γ (.Assign [.Subscript (.Name x p1) b p2] e pos :: rest) (m.bind fun y => mk.bind fun j => (dlput dd.kvs j y).bind fun kvs => k ⟨kvs⟩) Γn Γl := by
  intro B σ G H hh o ho D hf
  obtain ⟨y, hy, ho⟩ := bind_some' ho
  obtain ⟨j, hj, ho⟩ := bind_some' ho
  obtain ⟨kvs, hk, ho⟩ := bind_some' ho
  unfold dlput at hk
  split at hk
  · cases hk
  · rename_i hno
    split at hk
    · rename_i hlt
      cases hk
      refine ofS (pss_cons (ps_dput hu (pe_var hN hv hd hcd) toE toE hs) toS) ?_
      refine h B σ G H hh y hy _ fun la Fa G2 H2 ex ow hF => ?_
      obtain ⟨rfl, ws, w1, w2, w3⟩ := ow
      obtain ⟨l, F, h1, h2, _⟩ := hh.write (o := .lst []) hb
      obtain ⟨as, rfl, hnd, h3, h5⟩ := h2
      refine ⟨.ref l, h1, ?_⟩
      refine h' B σ G2 H2 (hh.mono ex) j hj _ fun u G3 H3 ex3 r3 => ?_
      have hkey := KKey.val r3
      have h3' := ex3.h _ _ (ex.h _ _ h3)
      have hlen : (entsL as dd.kvs).length = dd.kvs.length := by
        unfold entsL
        rw [List.length_zipWith, h5.len]
        omega
      refine ⟨l, _, rfl, .inl ⟨_, _, h3', hkey, ?_, rfl⟩, ?_⟩
      · rw [hlen]
        exact Nat.lt_of_lt_of_le hlt (by decide)
      have hany : ((entsL as dd.kvs).any fun kv => decide (kv.1 = KKey.enc j)) = false := by
        have q := all2_any (enc := KKey.enc) KKey.inj (F := fun (_ : V) (_ : List α) => True) (entsL_all2 (as := as) (kvs := dd.kvs) (F := fun (_ : V) (_ : List α) => True) (All2.mono (fun _ _ _ => trivial) h5)) j
        rw [q]
        exact Bool.eq_false_iff.mpr hno
      have hput : putK (entsL as dd.kvs) (KKey.enc j) (.ref la) = entsL (as ++ [la]) (dd.kvs ++ [(j, y)]) := by
        unfold putK
        rw [if_neg (by rw [hany]; simp)]
        exact (zipWith_app (fun (a : Addr) (q : κ × List α) => (KKey.enc q.1, V.ref a)) (x := la) (y := (j, y)) h5.len).symm
      rw [hput]
      have ex13 := ex.trans ex3
      have dma : ∀ a ∈ l :: as, H a ≠ none := by
        have : Mu.own X.K c G H l dd (l :: as) := ⟨as, rfl, hnd, h3, h5⟩
        exact Mu.own_dom this
      have la0 : H la = none := (hF la (by simp)).2
      have lane : la ∉ l :: as := fun z => dma la z la0
      have gla : G3 la = none := ex3.fr la (hF la (by simp)).1 (by rw [w1]; simp)
      refine hr ⟨dd.kvs ++ [(j, y)]⟩ B σ G3 _ (hh.grow (l := l) (F := l :: as) (N := [la]) hb ex13 (fun a ha => by rw [List.mem_singleton] at ha; rw [ha]; exact ⟨gla, la0⟩) h1 (fun F' hF' => ?_) l (by simp) ?_) o ho D hf
      · obtain ⟨as', rfl, _, q1, q2⟩ := hF'
        rw [q1] at h3
        injection h3 with h3
        injection h3 with h3
        rw [entsL_inj h5.len q2.len h3]
      · refine ⟨as ++ [la], by simp, ?_, upd_same, ?_⟩
        · rw [← List.cons_append]
          exact List.nodup_append.mpr ⟨hnd, by simp, fun a ha b hb e => by
            rw [List.mem_singleton] at hb
            subst hb
            exact lane (e ▸ ha)⟩
        · refine All2.app (lstAt_mono h5 ex13.g fun a ha o q => ?_) (.cons ⟨ws, ?_, w2, All2.mono (fun _ _ => Py.mono ex3.g) w3⟩ .nil)
          · have nl : a ≠ l := fun z => (List.nodup_cons.mp hnd).1 (z ▸ ha)
            rw [upd_ne nl]
            exact ex13.h _ _ q
          · have : la ≠ l := fun z => lane (by simp [z])
            rw [upd_ne this]
            exact ex3.h _ _ w1
    · cases hk
theorem dl_at [KKey κ] [DecidableEq κ] {K : Frag} {cc : Cls} {G H : Hp} {k : κ} {xs : List α} : ∀ {as : List Addr} {kvs : List (κ × List α)}, All2 (LstAt K cc G H) as kvs → as.Nodup → dget kvs k = some xs →
    ∃ A, A ∈ as ∧ valV (entsL as kvs) (KKey.enc k) = some (.ref A) ∧ LstAt K cc G H A (k, xs) ∧ ∀ (ws' : List V) (ys : List α), ws'.length ≤ sizeLine → All2 (Py.rep K cc G) ws' ys → All2 (LstAt K cc G (upd H A (.lst ws'))) as (setFirst k ys kvs) ∧ entsL as (setFirst k ys kvs) = entsL as kvs
  | _, _, .nil, _, h => by cases h
  | _, _, @PySem.Paired.cons _ _ _ a q as kvs r t, hn, h => by
    obtain ⟨hn1, hn2⟩ := List.nodup_cons.mp hn
    by_cases e : q.1 = k
    · have e1 : dget (q :: kvs) k = some q.2 := by simp [dget, List.find?_cons, e]
      rw [e1] at h
      cases h
      refine ⟨a, by simp, valV_pos (by simp [e]), r, fun ws' ys hz hw => ?_⟩
      have e2 : setFirst k ys (q :: kvs) = (q.1, ys) :: kvs := if_pos e
      rw [e2]
      refine ⟨.cons ⟨ws', upd_same, hz, hw⟩ (lstAt_mono t (Same.refl _) fun b hb o ho => ?_), rfl⟩
      have nb : b ≠ a := fun z => hn1 (z ▸ hb)
      rw [upd_ne nb]
      exact ho
    · have e1 : dget (q :: kvs) k = dget kvs k := by simp [dget, List.find?_cons, e]
      rw [e1] at h
      obtain ⟨A, h1, h2, h3, h4⟩ := dl_at t hn2 h
      refine ⟨A, by simp [h1], ?_, h3, fun ws' ys hz hw => ?_⟩
      · rw [← h2]
        exact valV_neg (by simp only []; exact fun z => e (KKey.inj z))
      · obtain ⟨g1, g2⟩ := h4 ws' ys hz hw
        have e2 : setFirst k ys (q :: kvs) = q :: setFirst k ys kvs := if_neg e
        rw [e2]
        refine ⟨.cons ?_ g1, by
          show (KKey.enc q.1, V.ref a) :: entsL as (setFirst k ys kvs) = _
          rw [g2]
          rfl⟩
        obtain ⟨ws, q1, q2, q3⟩ := r
        refine ⟨ws, ?_, q2, q3⟩
        have nb : a ≠ A := fun z => hn1 (z ▸ h1)
        rw [upd_ne nb]
        exact q1
/-- d[k][j] = e -/
theorem sx_dlset [KKey κ] [DecidableEq κ] {i : Nat} {x : Str} {dd : DL κ α} {m : Option α} {mk : Option κ} {mj : Option Int} {k : DL κ α → Option (Oc S L ρ)} {p1 p2 p3 : Pos} (hb : Γ[i]? = some (.ow dd)) (h : EX X c Γ e m) (h' : EX X c Γ a mk) (h'' : EX X c Γ b mj) (hr : ∀ ys : DL κ α, SX X c (Γ.set i (.ow ys)) rest (k ys) Γn Γl)
    (ht : PS X (.Assign [.Subscript (.Subscript (.Name x p1) a p2) b p3] e pos) (tAsg (tEX X e) (gSub (tDGet (tVar i) (tEX X a)) (tEX X b) rSetL))) :
    SX X c Γ (.Assign [.Subscript (.Subscript (.Name x p1) a p2) b p3] e pos :: rest) (m.bind fun y => mk.bind fun q => mj.bind fun j => (dlset dd.kvs q j y).bind fun kvs => k ⟨kvs⟩) Γn Γl := by
  intro B σ G H hh o ho D hf
  obtain ⟨y, hy, ho⟩ := bind_some' ho
  obtain ⟨q, hq, ho⟩ := bind_some' ho
  obtain ⟨j, hj, ho⟩ := bind_some' ho
  obtain ⟨kvs, hk, ho⟩ := bind_some' ho
  obtain ⟨xs, hx, hk⟩ := bind_some' hk
  obtain ⟨ys, hys, hk⟩ := bind_some' hk
  cases hk
  obtain ⟨n, hn, hys⟩ := bind_some' hys
  cases hys
  refine ofS (pss_cons ht toS) ?_
  refine h B σ G H hh y hy _ fun w G2 H2 ex r => ?_
  have hh2 := hh.mono ex
  obtain ⟨l, F, h1, h2, _⟩ := hh2.write (o := .lst []) hb
  obtain ⟨as, rfl, hnd, h3, h5⟩ := h2
  refine ⟨.ref l, h1, ?_⟩
  refine h' B σ G2 H2 hh2 q hq _ fun u G3 H3 ex3 r3 => ?_
  have hkey := KKey.val r3
  obtain ⟨A, g1, g2, g3, g4⟩ := dl_at h5 (List.nodup_cons.mp hnd).2 hx
  obtain ⟨ws, w1, w2, w3⟩ := g3
  refine ⟨l, .ref A, rfl, .inl ⟨_, _, .inl (ex3.h _ _ h3), hkey, g2.symm⟩, ?_⟩
  refine h'' B σ G3 H3 (hh2.mono ex3) j hj _ fun v G4 H4 ex4 r4 => ?_
  have ex34 := ex3.trans ex4
  have hh4 := (hh2.mono ex3).mono ex4
  refine ⟨A, ws, j, n, rfl, r4, ex34.h _ _ w1, by rw [w3.len]; exact hn, ?_⟩
  have hnew : All2 (Py.rep X.K c G4) (ws.set n w) (xs.set n y) := All2.set (Py.mono ex34.g r) n (All2.mono (fun _ _ => Py.mono ex34.g) w3)
  have h5' := lstAt_mono h5 ex34.g (H' := H4) fun b _ o ho => ex34.h _ _ ho
  obtain ⟨A', g1', g2', g3', g4'⟩ := dl_at h5' (List.nodup_cons.mp hnd).2 hx
  rw [g2] at g2'
  cases g2'
  obtain ⟨e1, e2⟩ := g4' (ws.set n w) (xs.set n y) (by simpa using w2) hnew
  obtain ⟨l', F', q1, q2, q3, q4⟩ := hh4.write (o := .lst (ws.set n w)) hb
  rw [h1] at q1
  cases q1
  obtain ⟨as', rfl, hnd', q5, q6⟩ := q2
  have eas : as' = as := by
    have q7 := ex34.h _ _ h3
    rw [q5] at q7
    injection q7 with q7
    injection q7 with q7
    exact entsL_inj h5.len q6.len q7
  subst eas
  refine hr ⟨setFirst q (xs.set n y) dd.kvs⟩ B σ G4 _ (q4 A _ (by simp [g1]) ⟨as', rfl, hnd, ?_, e1⟩) o ho D hf
  have nl : l ≠ A := fun z => (List.nodup_cons.mp hnd).1 (z ▸ g1)
  rw [upd_ne nl]
  show H4 l = some (.dK (entsL as' (setFirst q (xs.set n y) dd.kvs)))
  rw [e2]
  exact ex34.h _ _ h3

/-! ### sorted(xs, key=sum, reverse=True), xs tuples of ints -/
def sortSum (xs : List (Tup Int)) : List (Tup Int) := xs.mergeSort fun a b => decide (b.items.sum ≤ a.items.sum)
def rSS (K : Frag) : List V → Hp → VK → Prop := fun us H1 Q => ∃ (a : Addr) (vs : List V) (xs : List (Tup Int)), us = [.ref a] ∧ SqL K H1 a vs ∧ All2 (fun v (t : Tup Int) => ∃ b, v = .ref b ∧ H1 b = some (.tup (t.items.map V.int))) vs xs ∧
  ∀ p, H1 p = none → Q (.ref p) (upd H1 p (.lst (((vs.zip xs).mergeSort fun x y => decide (y.2.items.sum ≤ x.2.items.sum)).map Prod.fst)))
theorem mergeK_trans {β : Type} (f : β → Int) : ∀ a b c : β, decide (f b ≤ f a) = true → decide (f c ≤ f b) = true → decide (f c ≤ f a) = true := fun a b c h1 h2 => by
  simp only [decide_eq_true_eq] at *
  omega
theorem sort_sum_run {pins : List (Addr × Obj)} {s : Shared} {σ : L2.St} {H : Hp} {us : List V} {ws : List Value} {Q : VK} (I : Inv X pins σ H s) (hcm : X.calm = true) (hu : X.A.units + 3 < cLine) (r : Vals us ws) (h : rSS X.K us H Q) :
    wpAny (model X.prog X.w) X.A (call (.builtin "sorted") ws [(Str.ofString "key", .builtin "sum"), (Str.ofString "reverse", .bool true)]) (EP X pins σ Q) X.xe s := by
  obtain ⟨a, vs, xs, rfl, hs, hv, q⟩ := h
  obtain ⟨its, rv, hl, hz⟩ := I.list hs
  rw [Vals.ref1 r]
  have hlen := hv.len
  have hz1 : ∀ b ∈ vs.zip xs, ∃ t, b.1 = .ref t ∧ H t = some (.tup (b.2.items.map V.int)) := zip_rel hv
  have h1 : PySem.Paired (fun (u : Value) (b : V × Tup Int) => RelV b.1 u ∧ b ∈ vs.zip xs) its (vs.zip xs) := by
    have q1 : ∀ (vs : List V) (xs : List (Tup Int)) (its : List Value) (all : List (V × Tup Int)), vs.length = xs.length → (∀ b ∈ vs.zip xs, b ∈ all) → Vals vs its → PySem.Paired (fun (u : Value) (b : V × Tup Int) => RelV b.1 u ∧ b ∈ all) its (vs.zip xs) := by
      intro vs
      induction vs with
      | nil => intro xs its all _ _ r; cases r; cases xs <;> exact .nil
      | cons v vs ih =>
        intro xs its all hl hm r
        cases xs with
        | nil => simp at hl
        | cons x xs =>
          cases r with
          | cons r t => exact .cons ⟨r, hm _ (by simp)⟩ (ih xs _ all (by simpa using hl) (fun b hb => hm b (by simp [hb])) t)
    exact q1 vs xs its _ hlen (fun b hb => hb) rv
  have ha : PySem.W.AllAlike ((vs.zip xs).map fun b => PyData.int b.2.items.sum) := by
    intro d hd d' hd'
    obtain ⟨b, _, rfl⟩ := List.mem_map.mp hd
    obtain ⟨b', _, rfl⟩ := List.mem_map.mp hd'
    exact PySem.W.DatumOrd.alike (α := Int) _ _
  have hsrt : PySem.W.Sortable ((vs.zip xs).map fun b => PyData.int b.2.items.sum) := .inr fun d hd => by
    obtain ⟨b, _, rfl⟩ := List.mem_map.mp hd
    exact ⟨(fun z => nomatch z), fun ys z => nomatch z⟩
  refine PySem.W.sorted_key_data (b := true) (R := fun (u : Value) (b : V × Tup Int) => RelV b.1 u ∧ b ∈ vs.zip xs) (bs := vs.zip xs) (fun b => PyData.int b.2.items.sum) hl.isList (each_of h1) ha hsrt ?_ (fun b _ => ?_) (PyProof.Rows.ksk_s2 _ _ _) (fun x => by unfold argsOk; kernel_rfl) (fun x => PyProof.Rows.ksk_t5 _ _ _) ?_ ?_
  · rw [List.length_zip]
    omega
  · show X.A.units + 2 + 0 < cLine
    omega
  · intro v b hb _ g tk hk
    obtain ⟨hb1, hb2⟩ := hb
    obtain ⟨t, et, hH⟩ := hz1 b hb2
    rw [et] at hb1
    obtain rfl : v = .ref t := hb1
    have I2 : Inv X pins σ H { s with heap := g, toks := tk } := I.kept hk
    obtain ⟨its2, rv2, ht, _⟩ := I2.tuple (SqT.of hH)
    have hd : X.A.in1.in1.handled = none := by simp [I.ok.hd hcm]
    exact sum_of_tuple hd ht rv2.ints fun g2 tk2 u hk2 => ⟨g2, tk2, rfl, hk2, .int _ _⟩
  · intro out cnt g tk hk hn ho hlo hE
    have hle : (PySem.W.dataLe true fun b : V × Tup Int => PyData.int b.2.items.sum) = fun x y => decide (y.2.items.sum ≤ x.2.items.sum) := PySem.W.dataGe_int (fun b : V × Tup Int => b.2.items.sum)
    rw [hle] at hE
    have hvo : Vals (((vs.zip xs).mergeSort fun x y => decide (y.2.items.sum ≤ x.2.items.sum)).map Prod.fst) out := by
      have q2 := of_each hE
      generalize (vs.zip xs).mergeSort (fun x y => decide (y.2.items.sum ≤ x.2.items.sum)) = bs at q2 ⊢
      clear hE ho hlo
      induction q2 with
      | nil => exact .nil
      | cons r _ ih => exact .cons r.1 ih
    have hlen' : (((vs.zip xs).mergeSort fun x y => decide (y.2.items.sum ≤ x.2.items.sum)).map Prod.fst).length ≤ sizeLine := by
      rw [hvo.length, hlo, List.length_zip]
      omega
    exact ⟨.ref _, upd H (s.heap.objs.size + 1) (.lst _), I.laid (t' := tk) hk (Nat.le_succ _) ⟨hlen', out, cnt, hvo, ho⟩, rfl, q _ (I.hok.fresh (Nat.le_succ _))⟩
def tSortSum (K : Frag) (te : TE) : TE := fun σ H Q => te σ H fun x H1 => rSS K [x] H1 Q
theorem pe_sortSum {te : TE} {kp kp2 q q2 : Pos} {j : Nat} (hcm : X.calm = true) (hu : X.A.units + 3 < cLine) (hg : Gl X "sorted") (hm : X.mg "sorted" = none) (hg2 : Gl X "sum") (hm2 : X.mg "sum" = none) (ha : PE X e te)
    (he : backTo pos (starEach [e] X.env) = (false, eval e X.env) :: backTo pos (starEach [] X.env) := by rfl) (he0 : starEach [e] X.env = (false, eval e X.env) :: starEach [] X.env := by rfl) (hpl : (backTo pos (starEach [e] X.env)).any (·.1) = false := by rfl) :
    PE X (.Call (.Name "sorted" p) [e] [⟨some "key", .Name "sum" q, kp⟩, ⟨some "reverse", .Constant (.bool true) j q2, kp2⟩] pos) (tSortSum X.K te) := by
  refine ⟨fun pins s σ H Q I h => ?_⟩
  refine wpAny_Call_Name_kw (ld_blt I hg hm (u := .builtin "sorted") (by decide +kernel) ?_ (by decide) (by decide))
  refine PyProof.Rows.callWith_kw (thn ((pa_cons ha pa_nil he0).run pos pins s σ H (fun vs H1 => rSS X.K vs H1 Q) I h) fun us s1 ⟨vs, H1, I1, rv, q1⟩ => ?_) he hpl rfl rfl
  show wpAny _ _ (evalAll [(do let v ← eval (.Name "sum" q) X.env; standAt _; pure v), (do let v ← eval (.Constant (.bool true) j q2) X.env; standAt _; pure v)]) _ _ s1
  refine wpAny_evalAll_cons (wpAny_bind (ld_blt I1 hg2 hm2 (u := .builtin "sum") (by decide +kernel) (wpAny_bind (wpAny_standAt (wpAny_pure ?_))) (by decide) (by decide)))
  refine wpAny_evalAll_cons (wpAny_bind (Constant_bool (wpAny_bind (wpAny_standAt (wpAny_pure ?_)))))
  refine wpAny_evalAll_nil ?_
  exact sort_sum_run I1 hcm hu rv q1
theorem eo_sortSum {m : Option (List (Tup Int))} {kp kp2 q q2 : Pos} {j : Nat} (hcm : X.calm = true) (hu : X.A.units + 3 < cLine) (hg : Gl X "sorted") (hm : X.mg "sorted" = none) (hg2 : Gl X "sum") (hm2 : X.mg "sum" = none) (h : EX X c Γ e m)
    (he : backTo pos (starEach [e] X.env) = (false, eval e X.env) :: backTo pos (starEach [] X.env) := by rfl) (he0 : starEach [e] X.env = (false, eval e X.env) :: starEach [] X.env := by rfl) (hpl : (backTo pos (starEach [e] X.env)).any (·.1) = false := by rfl) :
    EO X c Γ (.Call (.Name "sorted" p) [e] [⟨some "key", .Name "sum" q, kp⟩, ⟨some "reverse", .Constant (.bool true) j q2, kp2⟩] pos) (m.bind fun xs => some (sortSum xs)) := by
  intro B σ G H hh z hz Q k
  obtain ⟨xs, hx, hz⟩ := bind_some' hz
  cases hz
  refine ofE (pe_sortSum hcm hu hg hm hg2 hm2 toE he he0 hpl) ?_
  refine h B σ G H hh xs hx _ fun v G2 H2 ex r => ?_
  obtain ⟨a, ws, rfl, hz, hs, hv⟩ := r
  refine ⟨a, ws, xs, rfl, Same.seq ex.gh hs, All2.mono (fun v t r => ?_) hv, fun l hl => ?_⟩
  · obtain ⟨b, us, rfl, _, h1, h2⟩ := r
    exact ⟨b, rfl, by rw [ex.gh _ _ h1, all2_int h2]⟩
  · have hm' : ((ws.zip xs).mergeSort fun x y => decide (y.2.items.sum ≤ x.2.items.sum)).map Prod.snd = sortSum xs := by
      unfold sortSum
      rw [PySem.W.sort_maps (s := fun a b : Tup Int => decide (b.items.sum ≤ a.items.sum)) Prod.snd (fun _ _ _ _ => rfl), List.map_snd_zip (by rw [hv.len]; omega)]
    have h2 : All2 (Py.rep X.K c G2) (((ws.zip xs).mergeSort fun x y => decide (y.2.items.sum ≤ x.2.items.sum)).map Prod.fst) (sortSum xs) := by
      rw [← hm']
      exact all2_of_zip fun b hb => zip_rel hv b (List.mem_mergeSort.mp hb)
    have hlen : (((ws.zip xs).mergeSort fun x y => decide (y.2.items.sum ≤ x.2.items.sum)).map Prod.fst).length ≤ sizeLine := by
      rw [List.length_map, List.length_mergeSort, List.length_zip]
      have := hv.len
      omega
    obtain ⟨h1, h3, h4⟩ := own_new (X := X) (c := c) ex.gh hl hlen h2
    exact k l [l] G2 _ (ex.trans h1) h3 fun a ha => ⟨(h4 a ha).1, none_sub ex.h (h4 a ha).2⟩
end
end CT

end
/-! ## Cert11.lean -/
section
set_option Elab.async false
set_option linter.all false
set_option maxRecDepth 100000
set_option maxHeartbeats 4000000
/-! Certified translation: objects whose fields stay. -/
namespace CT
open PySem L2 PySem.Spec PyProof.Rows

/-- an object of the class with the number C: its attributes' names, the newest first, and their values -/
structure Ob (C : Nat) (ns : List Str) (δ : Type) where
  val : δ
instance {C : Nat} {ns : List Str} {δ : Type} [PyA δ] : Py (Ob C ns δ) where
  rep K c G v x := ∃ l dx vs, v = .ref l ∧ G l = some (.ins (c C) dx (ns.zip vs).reverse) ∧ vs.length = ns.length ∧ PyA.rep K c G vs x.val
  mono := by
    rintro K c G G' v x e ⟨l, dx, vs, rfl, h1, h2, h3⟩
    exact ⟨l, dx, vs, rfl, e _ _ h1, h2, PyA.mono e h3⟩
instance {C : Nat} {ns : List Str} {δ : Type} [PyA δ] : Mu (Ob C ns δ) where
  own K c G H l x F := F = [l] ∧ ∃ dx vs, H l = some (.ins (c C) dx (ns.zip vs).reverse) ∧ vs.length = ns.length ∧ PyA.rep K c G vs x.val
  own_mono := by
    rintro K c G G' H H' l x F e hF ⟨rfl, dx, vs, h1, h2, h3⟩
    exact ⟨rfl, dx, vs, (hF l (by simp)).trans h1, h2, PyA.mono e h3⟩
  own_dom := by
    rintro K c G H l x F ⟨rfl, dx, vs, h1, _⟩ a ha
    rw [List.mem_singleton] at ha
    rw [ha, h1]
    simp
  freeze := by
    rintro K c G G' H l x F ⟨rfl, dx, vs, h1, h2, h3⟩ e hF
    exact ⟨l, dx, vs, rfl, (hF l (by simp)).trans h1, h2, PyA.mono e h3⟩
instance {C : Nat} {ns : List Str} {δ : Type} [PyA δ] : NN (Ob C ns δ) := ⟨fun ⟨_, _, _, h, _⟩ => nomatch h⟩
theorem look_rev : ∀ {ns : List Str} {vs : List V} {i : Nat} {f : Str} {v : V}, ns.Nodup → ns[i]? = some f → vs.length = ns.length → vs[i]? = some v → (ns.zip vs).reverse.lookup f = some v
  | [], _, _, _, _, _, h, _, _ => by simp at h
  | _ :: _, [], _, _, _, _, _, h, _ => by simp at h
  | n :: ns, w :: vs, i, f, v, hn, h1, h2, h3 => by
    obtain ⟨n1, n2⟩ := List.nodup_cons.mp hn
    rw [List.zip_cons_cons, List.reverse_cons, List.lookup_append]
    cases i with
    | zero =>
      simp at h1 h3
      subst h1
      subst h3
      have : (ns.zip vs).reverse.lookup n = none := by
        rw [List.lookup_eq_none_iff]
        intro p hp
        have hp' := List.mem_reverse.mp hp
        have := (List.of_mem_zip hp').1
        simp only [bne_iff_ne, ne_eq, beq_eq_false_iff_ne]
        intro e
        exact n1 (e ▸ this)
      rw [this]
      simp [List.lookup]
    | succ i =>
      simp at h1 h3
      rw [look_rev n2 h1 (by simpa using h2) h3]
      rfl
theorem look_none {ns : List Str} {vs : List V} {f : Str} (h : f ∉ ns) : (ns.zip vs).reverse.lookup f = none := by
  rw [List.lookup_eq_none_iff]
  intro p hp
  have := (List.of_mem_zip (List.mem_reverse.mp hp)).1
  simp only [bne_iff_ne, ne_eq, beq_eq_false_iff_ne]
  intro e
  exact h (e ▸ this)
theorem putF_new {f : Str} {v : V} : ∀ {l : List (Str × V)}, (∀ p ∈ l, p.1 ≠ f) → putF f v l = l ++ [(f, v)]
  | [], _ => rfl
  | (g, x) :: r, h => by
    unfold putF
    rw [if_neg (h (g, x) (by simp)), putF_new fun p hp => h p (by simp [hp])]
    rfl
section
variable {X : Cx} {c : Cls} {Γ Γ1 : List Bd} {e a b d : Expr} {es : List Expr} {rest : List Stmt} {pos p : Pos} {α β γ κ δ : Type} [Py α] [Py β] [Py γ] [Py κ] [PyA δ]
  {S L ρ : Type} [Py ρ] {Γn : S → List Bd} {Γl : L → List Bd} {C : Nat} {ns : List Str}
/-- e.f -/
theorem ex_fld {i : Nat} {f : Str} {proj : δ → α} {m : Option (Ob C ns δ)} (hcl : L2.Cls X.K (c C)) (hna : NoAttr X.K (c C) f) (hnd : ns.Nodup) (hi : ns[i]? = some f) (hp : ∀ x : δ, (PyA.bds x)[i]? = some (.fr (proj x))) (h : EX X c Γ e m) (hb : attributeBase e f X.env (eval e X.env) = eval e X.env := by rfl) :
    EX X c Γ (.Attribute e f pos) (m.bind fun o => some (proj o.val)) := by
  intro B σ G H hh z hz Q k
  obtain ⟨o, ho, hz⟩ := bind_some' hz
  cases hz
  refine ofE (pe_fld toE hb) ?_
  refine h B σ G H hh o ho _ fun v G2 H2 ex r => ?_
  obtain ⟨l, dx, vs, rfl, h1, h2, h3⟩ := r
  obtain ⟨w, q1, q2⟩ := (PyA.at' h3).2 ⟨G2, H2, []⟩ H2 i _ (hp o.val)
  obtain ⟨_, w', q3, q4⟩ := q2
  cases q3
  exact ⟨l, c C, dx, _, w, rfl, ex.gh _ _ h1, hcl, hna, look_rev hnd hi h2 q1, k w G2 H2 ex q4⟩
/-- self.f = e: a new attribute of the object that is made -/
theorem sx_fldNew {i : Nat} {x f : Str} {l : Addr} {o : Ob C ns δ} {m : Option α} {k : Ob C (f :: ns) (α × δ) → Option (Oc S L ρ)} {p1 p2 : Pos} (hcl : L2.Cls X.K (c C)) (hna : NoAttr X.K (c C) f) (hf : f ∉ ns) (hsz : ns.length < 1000) (hN : X.N[i]? = some x) (hv : Vis X.env.scope x) (hb : Γ[i]? = some (.pa l o)) (h : EX X c Γ e m)
    (hr : ∀ o' : Ob C (f :: ns) (α × δ), SX X c (Γ.set i (.pa l o')) rest (k o') Γn Γl) (hs : swapsWith e (some (.Attribute (.Name x p1) f p2)) pos.line X.env = pure false := by rfl) (hd : (x == ("__debug__" : Str)) = false := by decide) (hcd : (x == ("__classdict__" : Str)) = false := by decide) :
    SX X c Γ (.Assign [.Attribute (.Name x p1) f p2] e pos :: rest) (m.bind fun y => k ⟨(y, o.val)⟩) Γn Γl := by
  intro B σ G H hh oo ho D hfin
  obtain ⟨y, hy, ho⟩ := bind_some' ho
  refine ofS (pss_cons (ps_fld (pe_var hN hv hd hcd) toE hs) toS) ?_
  refine h B σ G H hh y hy _ fun w G2 H2 ex r => ?_
  obtain ⟨F, h1, h2, h3, h4⟩ := (hh.mono ex).writeP (β := Ob C (f :: ns) (α × δ)) (o := .ins (c C) 0 []) hb
  obtain ⟨rfl, dx, vs, g1, g2, g3⟩ := h2
  refine ⟨.ref l, h1, l, c C, dx, _, rfl, g1, hcl, hna, by simp [g2]; exact hsz, ?_⟩
  have hput : putF f w (ns.zip vs).reverse = ((f :: ns).zip (w :: vs)).reverse := by
    have hne : ∀ p ∈ (ns.zip vs).reverse, p.1 ≠ f := fun p hp e => by
      have q := (List.of_mem_zip (List.mem_reverse.mp hp)).1
      rw [e] at q
      exact hf q
    rw [putF_new hne, List.zip_cons_cons, List.reverse_cons]
  rw [hput]
  obtain ⟨F, h1', h2', h3', h4'⟩ := (hh.mono ex).writeP (β := Ob C (f :: ns) (α × δ)) (o := .ins (c C) dx ((f :: ns).zip (w :: vs)).reverse) hb
  obtain ⟨rfl, _⟩ := h2'
  exact hr ⟨(y, o.val)⟩ B σ G2 _ (h4' l _ (by simp) ⟨rfl, dx, w :: vs, upd_same, by simp [g2], w, vs, rfl, r, g3⟩) oo ho D hfin
/-- the promise of an __init__ that makes m -/
def spI (K : Frag) (c : Cls) (C : Nat) {δ γ : Type} [PyA δ] [Py γ] (m : δ → Option γ) : Sp := fun vs H Q _ => ∃ G x dx vs' d r, vs = .ref x :: vs' ∧ Same G H ∧ G x = none ∧ H x = some (.ins (c C) dx []) ∧ PyA.rep K c G vs' d ∧ m d = some r ∧
  ∀ G2 H2, Same G G2 → (∀ a o, a ≠ x → H a = some o → H2 a = some o) → Same G2 H2 → (∀ a, a ≠ x → G a = none → H a ≠ none → G2 a = none) → Py.rep K c G2 (.ref x) r → Q .non H2
structure ClsM (P : Program) (w : World) (K : Frag) (mg : Str → Option Value) (base : Heap) (c : Cls) (x : Str) (C : Nat) (k : Nat) {δ γ : Type} [PyA δ] [Py γ] (m : δ → Option γ) (dvs : List V) : Prop where
  ex : ∃ f fd ps ds, FnOk P w K mg base CX0 k f fd ps (spI K c C m) ∧ Mk K (c C) f ∧ mg x = some (.ref (c C)) ∧ Binds K fd ps ds ∧ Vals dvs ds
theorem ex_make {δ δ' γ : Type} [PyA δ] [PyA δ'] [Py γ] {x : Str} {C k j : Nat} {dvs : List V} {mf : δ' → Option γ} {ms : Option δ} {ext : δ → δ'} (F : ClsM X.prog X.w X.K X.mg X.base c x C k mf dvs) (hext : ∀ (G : Hp) (vs : List V) (y : δ), PyA.rep X.K c G vs y → PyA.rep X.K c G (vs ++ dvs) (ext y)) (hr : Room j X.A) (hk : k + 1 ≤ j) (hg : Gl X x) (ha : EA X c Γ (e :: es) ms)
    (hdb : (x == ("__debug__" : Str)) = false := by decide) (he : starEach (e :: es) X.env = (false, eval e X.env) :: starEach es X.env := by rfl) (hpl : (backTo pos (starEach es X.env)).any (·.1) = false := by rfl) :
    EX X c Γ (.Call (.Name x p) (e :: es) [] pos) (ms.bind fun y => mf (ext y)) := by
  intro B σ G H hh z hz Q q
  obtain ⟨y, hy, hz⟩ := bind_some' hz
  obtain ⟨f, fd, ps, ds, F1, M, h1, h2, h3⟩ := F.ex
  refine ofE (pe_make M F1 (hr.mono hk) hg h1 h2 h3 pass0 toA hdb he hpl) ?_
  refine ha B σ G H hh y hy _ fun vs G1 H1 e1 r1 => ?_
  intro xa dx hx hdx hne
  have s1 : Same G1 (upd (upd H1 dx (.own xa)) xa (.ins (c C) dx [])) := fun a o q => by
    have q1 := e1.gh a o q
    rw [upd_ne (ne_of_none q1 hx), upd_ne (ne_of_none q1 hdx)]
    exact q1
  refine ⟨G1, xa, dx, _, ext y, z, rfl, s1, none_sub e1.gh hx, upd_same, hext G1 vs y r1, hz, fun G2 H2 a1 a2 a3 a4 a5 => ⟨rfl, ?_⟩⟩
  refine q (.ref xa) G2 H2 ⟨e1.g.trans a1, fun a o h => ?_, a3, fun a h1 h2 => ?_⟩ a5
  · have q1 := e1.h a o h
    refine a2 a o (ne_of_none q1 hx) ?_
    rw [upd_ne (ne_of_none q1 hx), upd_ne (ne_of_none q1 hdx)]
    exact q1
  · have q1 := dom_mono e1.h h2
    have q2 : a ≠ xa := fun z => q1 (z ▸ hx)
    have q3 : a ≠ dx := fun z => q1 (z ▸ hdx)
    refine a4 a q2 (e1.fr a h1 h2) ?_
    rw [upd_ne q2, upd_ne q3]
    exact q1
/-- a method that changes nothing -/
structure MetM (P : Program) (w : World) (K : Frag) (mg : Str → Option Value) (base : Heap) (c : Cls) (C : Nat) (name : Str) (k : Nat) {δ ρ : Type} [PyA δ] [Py ρ] (m : δ → Option ρ) : Prop where
  ex : ∃ f fd ps, FnOk P w K mg base CX0 k f fd ps (spM K c m) ∧ Meth K (c C) name f ∧ Binds K fd ps []
theorem ex_meth {ρ δ' : Type} [PyA δ'] [Py ρ] {name : Str} {k j : Nat} {mf : Ob C ns δ × δ' → Option ρ} {mo : Option (Ob C ns δ)} {ms : Option δ'} {apos : Pos} {pl : Sem Bool} (F : MetM X.prog X.w X.K X.mg X.base c C name k mf) (hcl : L2.Cls X.K (c C)) (hno : name ∉ ns) (hr : Room j X.A) (hk : k ≤ j) (ho : EX X c Γ d mo) (ha : EA X c Γ (e :: es) ms)
    (hst : starEach (e :: es) X.env = (false, eval e X.env) :: starEach es X.env := by rfl) (hpl : (backTo pos (starEach es X.env)).any (·.1) = false := by rfl)
    (ht : eval (.Call (.Attribute d name apos) (e :: es) [] pos) X.env = (do
      let ov ← eval d X.env
      standAt apos.atName
      let (f, first) ← holding [ov] (getMethod ov name pl)
      callWith pos f first (backTo pos (starEach (e :: es) X.env)) (backToKw pos (keywordEach [] X.env))) := by rfl) :
    EX X c Γ (.Call (.Attribute d name apos) (e :: es) [] pos) (mo.bind fun o => ms.bind fun y => mf (o, y)) := by
  intro B σ G H hh z hz Q q
  obtain ⟨o, hoo, hz⟩ := bind_some' hz
  obtain ⟨y, hy, hz⟩ := bind_some' hz
  obtain ⟨f, fd, ps, F1, h1, h3⟩ := F.ex
  refine ofE (pe_meth (pl := pl) toE hcl h1 F1 (hr.mono hk) h3 .nil pass0 toA hst hpl ht) ?_
  refine ho B σ G H hh o hoo _ fun v G1 H1 e1 r1 => ?_
  obtain ⟨l, dx, vs, rfl, g1, g2, g3⟩ := id r1
  refine ⟨l, dx, _, rfl, e1.gh _ _ g1, look_none hno, ?_⟩
  refine ha B σ G1 H1 (hh.mono e1) y hy _ fun us G2 H2 e2 r2 => ?_
  refine ⟨G2, (o, y), z, e2.gh, ⟨.ref l, us, by rw [List.append_nil], Py.mono e2.g r1, r2⟩, hz, fun w G3 H3 e3 r3 => q w G3 H3 ((e1.trans e2).trans e3) r3⟩
theorem ex_meth0 {ρ : Type} [Py ρ] {name : Str} {k j : Nat} {mf : Ob C ns δ × Unit → Option ρ} {mo : Option (Ob C ns δ)} {apos : Pos} {pl : Sem Bool} (F : MetM X.prog X.w X.K X.mg X.base c C name k mf) (hcl : L2.Cls X.K (c C)) (hno : name ∉ ns) (hr : Room j X.A) (hk : k ≤ j) (ho : EX X c Γ d mo)
    (ht : eval (.Call (.Attribute d name apos) [] [] pos) X.env = (do
      let ov ← eval d X.env
      standAt apos.atName
      let (f, first) ← holding [ov] (getMethod ov name pl)
      callWith pos f first (backTo pos (starEach [] X.env)) (backToKw pos (keywordEach [] X.env))) := by rfl) :
    EX X c Γ (.Call (.Attribute d name apos) [] [] pos) (mo.bind fun o => mf (o, ())) := by
  intro B σ G H hh z hz Q q
  obtain ⟨o, hoo, hz⟩ := bind_some' hz
  obtain ⟨f, fd, ps, F1, h1, h3⟩ := F.ex
  refine ofE (pe_meth0 (pl := pl) toE hcl h1 F1 (hr.mono hk) h3 .nil pass0 ht) ?_
  refine ho B σ G H hh o hoo _ fun v G1 H1 e1 r1 => ?_
  obtain ⟨l, dx, vs, rfl, g1, g2, g3⟩ := id r1
  refine ⟨l, dx, _, rfl, e1.gh _ _ g1, look_none hno, ?_⟩
  exact ⟨G1, (o, ()), z, e1.gh, ⟨.ref l, [], rfl, r1, rfl⟩, hz, fun w G3 H3 e3 r3 => q w G3 H3 (e1.trans e3) r3⟩
end
/-- an __init__ by its body -/
def Oc.outI {S L γ : Type} (fin : S → γ) : Oc S L Unit → Option γ
  | .nx s => some (fin s)
  | _ => none
section
variable {P : Program} {w : World} {K : Frag} {mg : Str → Option Value} {base : Heap} {c : Cls}
theorem init_start {C : Nat} {δ : Type} [PyA δ] {G H : Hp} {x dx : Addr} {vs : List V} {d : δ} (e : Same G H) (gx : G x = none) (hx : H x = some (.ins (c C) dx [])) (h : PyA.rep K c G vs d) (N : List Str) (hl : 1 + (PyA.bds d).length ≤ N.length) :
    CT.Holds K c ⟨G, fun a => if a = x then none else H a, []⟩ G H (.pa x (Ob.mk () : Ob C [] Unit) :: (PyA.bds d ++ List.replicate (N.length - (1 + (PyA.bds d).length)) Bd.no)) (L2.start N (.ref x :: vs)) := by
  obtain ⟨h1, h2⟩ := PyA.at' h
  refine ⟨Same.refl G, fun a o _ q => ?_, e, fun a q _ => q, fun a q => ?_, ?_, fun i => if i = 0 then [x] else [], (fun i j hij a ha => ?_), fun i b hb => ?_⟩
  · show H a = some o
    by_cases hax : a = x
    · simp [hax] at q
    · simpa [hax] using q
  · by_cases hax : a = x
    · simp [hax] at q
    · simpa [hax] using q
  · unfold L2.start
    simp [h1]
    omega
  · by_cases hi : i = 0
    · have hj : ¬ j = 0 := fun z => hij (hi.trans z.symm)
      simp [hj]
    · simp [hi] at ha
  · unfold L2.start
    cases i with
    | zero =>
      simp at hb
      subst hb
      refine ⟨some (.ref x), rfl, fun a ha => ?_, rfl, rfl, dx, [], ?_, rfl, rfl⟩
      · simp at ha
        subst ha
        exact ⟨gx, by simp⟩
      · exact hx
    | succ i =>
      simp only [List.getElem?_cons_succ] at hb
      simp only [Nat.add_eq_zero_iff, Nat.succ_ne_self, and_false, if_false, List.map_cons, List.cons_append, List.getElem?_cons_succ]
      by_cases hi : i < (PyA.bds d).length
      · rw [List.getElem?_append_left hi] at hb
        obtain ⟨v, q1, q2⟩ := h2 ⟨G, fun a => if a = x then none else H a, []⟩ H i b hb
        refine ⟨some v, ?_, q2⟩
        rw [List.getElem?_append_left (by simp; omega)]
        simp [q1]
      · rw [List.getElem?_append_right (by omega)] at hb
        rw [List.getElem?_replicate] at hb
        split at hb
        · rename_i hlt
          cases hb
          refine ⟨none, ?_, rfl⟩
          have hvl : vs.length ≤ i := by omega
          rw [List.getElem?_append_right (by simpa using hvl), List.getElem?_replicate, List.length_map, if_pos (by simp; omega)]
        · cases hb
theorem init_body {x qual : Str} {st : Stmt} {f : Addr} {fd : FuncData} {N ps : List Str} {C k : Nat} {δ S L γ : Type} [PyA δ] [Mu γ] {m : δ → Option (Oc S L Unit)} {Γn : Addr → S → List Bd} {Γl : Addr → L → List Bd} {fin : S → γ} (F : Fun K x qual st f fd) (SC : FnScope N ps (defScope st)) (hl : ∀ x : δ, 1 + (PyA.bds x).length = ps.length) (hle : ps.length ≤ N.length)
    (hfin : ∀ l s, (Γn l s)[0]? = some (.pa l (fin s)))
    (hb : ∀ (cdv : Value) (A : Around) (outer : List Env) (s : Shared) (H : Hp) (E : XK) (l : Addr) (x : δ), Room k (A.deeper (envOfC qual (defScope st) s.heap.objs.size f cdv)) → SX (BodyCx P w K mg base N qual (defScope st) f cdv A outer s H E) c (.pa l (Ob.mk () : Ob C [] Unit) :: (PyA.bds x ++ List.replicate (N.length - ps.length) Bd.no)) (defBody st) (m x) (Γn l) (Γl l)) :
    FnOk P w K mg base CX0 (k + 1) f fd ps (spI K c C fun x => (m x).bind (Oc.outI fin)) := by
  classical
  refine F.ok SC (fun vs H Q E h => ?_) (fun cdv A outer s H vs Q E hr h => ⟨_, toS, ?_⟩)
  · obtain ⟨G, x, dx, vs', d, r, rfl, _, _, _, h1, _⟩ := h
    have q1 := (PyA.at' h1).1
    have q2 := hl d
    simp only [List.length_cons]
    omega
  · obtain ⟨G, x, dx, vs', d, r, rfl, h0, gx, hx, h1, h2, h3⟩ := h
    obtain ⟨o, ho, hr'⟩ := bind_some' h2
    have hs := init_start (c := c) (K := K) (C := C) h0 gx hx h1 N (by rw [hl]; exact hle)
    rw [hl] at hs
    refine hb cdv A outer s H E x d hr _ _ G H hs o ho _ ?_
    cases o with
    | nx s' =>
      cases hr'
      intro σ2 G2 H2 hh
      obtain ⟨u, F2, q1, q2⟩ := hh.slot (hfin x s')
      obtain ⟨q3, q4, q5⟩ := q2
      have hd := Mu.own_dom q5
      have s1 : Same G2 (fun a => if a ∈ F2 then H2 a else G2 a) := fun a o q => by
        by_cases ha : a ∈ F2
        · rw [(q3 a ha).1] at q; cases q
        · simp only [ha, if_false]; exact q
      refine h3 (fun a => if a ∈ F2 then H2 a else G2 a) H2 (hh.g0.trans s1) (fun a o ne q => hh.h0 a o (by simp) (by simpa [ne] using q)) (fun a o q => ?_) (fun a ne g1 g2 => ?_) (Mu.freeze q5 s1 fun a ha => by simp only [ha, if_true])
      · by_cases ha : a ∈ F2
        · simp only [ha, if_true] at q; exact q
        · simp only [ha, if_false] at q; exact hh.gh a o q
      · have ha : a ∉ F2 := fun z => by
          have := (q3 a z).2
          simp only [ne, if_false] at this
          exact g2 this
        simp only [ha, if_false]
        exact hh.fr a g1 (by simpa [ne] using g2)
    | ct s' => cases hr'
    | bk s' => cases hr'
    | rt r' => cases hr'
end
end CT

end
/-! ## Cert12.lean -/
section
set_option Elab.async false
set_option linter.all false
set_option maxRecDepth 100000
set_option maxHeartbeats 4000000
/-! Certified translation: small facts for the printed proofs. -/
namespace CT
open PySem L2 PySem.Spec PyProof.Rows
theorem hu_le {k : Nat} {A : Around} (hr : Room k A) {n : Nat} (h : n ≤ 64) : A.units + n < cLine := Nat.lt_of_le_of_lt (Nat.add_le_add_left h _) hr.units
theorem hu_in {k : Nat} {A : Around} (hr : Room k A) {n : Nat} (h : n ≤ 62) : A.units + 1 + n < cLine := by
  have := hr.units
  omega
theorem hu_srt {k : Nat} {A : Around} (hr : Room k A) {n : Nat} (h : n ≤ 62) : A.units + 2 + n < cLine := by
  have := hr.units
  omega
theorem bt_len : bootBuiltins "len" = some (.builtin "len") := by decide +kernel
theorem bt_abs : bootBuiltins "abs" = some (.builtin "abs") := by decide +kernel
theorem bt_max : bootBuiltins "max" = some (.builtin "max") := by decide +kernel
theorem bt_min : bootBuiltins "min" = some (.builtin "min") := by decide +kernel
theorem bt_sum : bootBuiltins "sum" = some (.builtin "sum") := by decide +kernel
theorem bt_sorted : bootBuiltins "sorted" = some (.builtin "sorted") := by decide +kernel
theorem bt_int : bootBuiltins "int" = some (.type "int") := by decide +kernel
theorem bt_bool : bootBuiltins "bool" = some (.type "bool") := by decide +kernel
theorem bt_list : bootBuiltins "list" = some (.type "list") := by decide +kernel
theorem bt_tuple : bootBuiltins "tuple" = some (.type "tuple") := by decide +kernel
theorem bt_dict : bootBuiltins "dict" = some (.type "dict") := by decide +kernel
theorem bt_str : bootBuiltins "str" = some (.type "str") := by decide +kernel
section
variable {X : Cx} {c : Cls} {Γ : List Bd} {a b : Expr} {pos p q : Pos}
theorem all2_rg {K : Frag} {G : Hp} (lo hi : Int) : All2 (Py.rep K c G) (rgV lo hi) (rangeI lo hi) := by
  have e : rgV lo hi = (rangeI lo hi).map V.int := by
    unfold rgV rangeI
    rw [List.map_map]
    rfl
  rw [e]
  exact all2_int' _
theorem rg_ok {lo hi : Int} (h1 : -1000000000000 ≤ lo) (h2 : lo ≤ 1000000000000) (h3 : -1000000000000 ≤ hi) (h4 : hi ≤ 1000000000000) (h5 : hi - lo ≤ 16777216) : RgOk lo hi := ⟨by omega, by omega, by omega, by omega, by omega⟩
theorem rg_len {lo hi : Int} (h5 : hi - lo ≤ 16777216) : (rgV lo hi).length ≤ sizeLine := by
  rw [rgV_length]
  show (hi - lo).toNat ≤ 16777216
  omega
/-- list(range(n)) -/
theorem eo_listRg1 {m : Option Int} {p2 : Pos} (hcm : X.calm = true) (hg : Gl X "list") (hm : X.mg "list" = none) (hg2 : Gl X "range") (hm2 : X.mg "range" = none) (h : EX X c Γ a m) (na : starEach [a] X.env = (false, eval a X.env) :: starEach [] X.env := by rfl)
    (na2 : starEach [.Call (.Name "range" p2) [a] [] q] X.env = (false, eval (.Call (.Name "range" p2) [a] [] q) X.env) :: starEach [] X.env := by rfl) :
    EO X c Γ (.Call (.Name "list" p) [.Call (.Name "range" p2) [a] [] q] [] pos) (m.bind fun n => rngM 0 n) := by
  intro B σ G H hh z hz Q k
  obtain ⟨n, hn, hz⟩ := bind_some' hz
  obtain ⟨rfl, h1, h2, h3, h4, h5⟩ := rngM_some hz
  refine ofE (pe_listRg hcm hg hm (prg_1 hg2 hm2 toE na) na2) ?_
  refine h B σ G H hh n hn _ fun v G2 H2 ex r => ?_
  refine ⟨n, r, rg_ok h1 h2 h3 h4 h5, fun l hl => ?_⟩
  obtain ⟨q1, q2, q3⟩ := own_new (X := X) (c := c) ex.gh hl (rg_len h5) (all2_rg 0 n)
  exact k l [l] G2 _ (ex.trans q1) q2 fun a ha => ⟨(q3 a ha).1, none_sub ex.h (q3 a ha).2⟩
theorem eo_listRg2 {m m' : Option Int} {p2 : Pos} (hcm : X.calm = true) (hg : Gl X "list") (hm : X.mg "list" = none) (hg2 : Gl X "range") (hm2 : X.mg "range" = none) (h : EX X c Γ a m) (h' : EX X c Γ b m') (na : starEach [a, b] X.env = (false, eval a X.env) :: starEach [b] X.env := by rfl) (nb : starEach [b] X.env = (false, eval b X.env) :: starEach [] X.env := by rfl) (hp : (backTo q (starEach [b] X.env)).any (·.1) = false := by rfl)
    (na2 : starEach [.Call (.Name "range" p2) [a, b] [] q] X.env = (false, eval (.Call (.Name "range" p2) [a, b] [] q) X.env) :: starEach [] X.env := by rfl) :
    EO X c Γ (.Call (.Name "list" p) [.Call (.Name "range" p2) [a, b] [] q] [] pos) (m.bind fun lo => m'.bind fun hi => rngM lo hi) := by
  intro B σ G H hh z hz Q k
  obtain ⟨lo, hlo, hz⟩ := bind_some' hz
  obtain ⟨hi, hhi, hz⟩ := bind_some' hz
  obtain ⟨rfl, h1, h2, h3, h4, h5⟩ := rngM_some hz
  refine ofE (pe_listRg hcm hg hm (prg_2 hg2 hm2 toE toE na nb hp) na2) ?_
  refine h B σ G H hh lo hlo _ fun v G1 H1 ex1 r1 => h' B σ G1 H1 (hh.mono ex1) hi hhi _ fun u G2 H2 ex2 r => ?_
  have ex := ex1.trans ex2
  refine ⟨lo, hi, r1, r, rg_ok h1 h2 h3 h4 h5, fun l hl => ?_⟩
  obtain ⟨q1, q2, q3⟩ := own_new (X := X) (c := c) ex.gh hl (rg_len h5) (all2_rg lo hi)
  exact k l [l] G2 _ (ex.trans q1) q2 fun a ha => ⟨(q3 a ha).1, none_sub ex.h (q3 a ha).2⟩
/-- tuple(range(n)) -/
theorem ex_tupRg1 {m : Option Int} {p2 : Pos} (hcm : X.calm = true) (hg : Gl X "tuple") (hm : X.mg "tuple" = none) (hg2 : Gl X "range") (hm2 : X.mg "range" = none) (h : EX X c Γ a m) (na : starEach [a] X.env = (false, eval a X.env) :: starEach [] X.env := by rfl)
    (na2 : starEach [.Call (.Name "range" p2) [a] [] q] X.env = (false, eval (.Call (.Name "range" p2) [a] [] q) X.env) :: starEach [] X.env := by rfl) :
    EX X c Γ (.Call (.Name "tuple" p) [.Call (.Name "range" p2) [a] [] q] [] pos) (m.bind fun n => (rngM 0 n).bind fun xs => some (PySem.W.Tup.mk xs)) := by
  intro B σ G H hh z hz Q k
  obtain ⟨n, hn, hz⟩ := bind_some' hz
  obtain ⟨xs, hx, hz⟩ := bind_some' hz
  cases hz
  obtain ⟨rfl, h1, h2, h3, h4, h5⟩ := rngM_some hx
  refine ofE (pe_tupRg hcm hg hm (prg_1 hg2 hm2 toE na) na2) ?_
  refine h B σ G H hh n hn _ fun v G2 H2 ex r => ?_
  refine ⟨n, r, rg_ok h1 h2 h3 h4 h5, fun l hl => ?_⟩
  have e2 := Ext.new (o := .tup (rgV 0 n)) ex.gh hl
  exact k (.ref l) _ _ (ex.trans e2) ⟨l, _, rfl, rg_len h5, upd_same, all2_rg 0 n⟩
end
end CT

end
/-! ## Cert13.lean -/
section
set_option Elab.async false
set_option linter.all false
set_option maxRecDepth 100000
set_option maxHeartbeats 4000000
/-! Certified translation: tables of names, small helpers for the printed proofs. -/
namespace CT
open PySem L2 PySem.Spec PyProof.Rows

def locsB (sc : Scope) (l : List Str) : Bool := l.all fun x => sc.names.lookup x == some .local || sc.names.lookup x == some .cell
def loc1B (sc : Scope) (l : List Str) : Bool := l.all fun x => sc.names.lookup x == some .local
theorem loc_of {sc : Scope} {l : List Str} (h : locsB sc l = true) {i : Nat} {x : Str} (hx : l[i]? = some x) : Loc sc x := by
  unfold locsB at h
  rw [List.all_eq_true] at h
  have q := h x (List.mem_of_getElem? hx)
  simp only [Bool.or_eq_true, beq_iff_eq] at q
  exact q
theorem vis_of {sc : Scope} {l : List Str} (h : locsB sc l = true) {i : Nat} {x : Str} (hx : l[i]? = some x) : Vis sc x :=
  (loc_of h hx).elim .inl fun q => .inr (.inl q)
theorem loc_of1 {sc : Scope} {l : List Str} (h : loc1B sc l = true) {i : Nat} {x : Str} (hx : l[i]? = some x) : sc.names.lookup x = some .local := by
  unfold loc1B at h
  rw [List.all_eq_true] at h
  have q := h x (List.mem_of_getElem? hx)
  simpa using q

section
variable {X : Cx} {c : Cls} {Γ Γ1 : List Bd} {e a b d : Expr} {es : List Expr} {rest : List Stmt} {pos p : Pos} {α β γ : Type} [Py α] [Py β] [Py γ]
theorem ex_never : EX X c Γ e (none : Option α) := by
  intro B σ G H hh z hz
  cases hz
theorem et_never : ET X c Γ e none := by
  intro B σ G H hh z hz
  cases hz
theorem ew_never : EW X c Γ e none := by
  intro B σ G H hh z hz
  cases hz
/-- x is None, for a thing that is known to be None -/
theorem o2_isU : Op2 X c (fun x y H Q => y = .non ∧ Q (.bl (decide (x = .non))) H) (fun (_ : Unit) (_ : Unit) => some true) := fun x y z v u G H Q e r1 r2 h k => by
  cases h
  obtain rfl : v = .non := r1
  obtain rfl : u = .non := r2
  exact ⟨rfl, ext0 (X := X) (c := c) e k (show V.bl _ = V.bl _ by simp)⟩
theorem o2_notU : Op2 X c (fun x y H Q => y = .non ∧ Q (.bl (!decide (x = .non))) H) (fun (_ : Unit) (_ : Unit) => some false) := fun x y z v u G H Q e r1 r2 h k => by
  cases h
  obtain rfl : v = .non := r1
  obtain rfl : u = .non := r2
  exact ⟨rfl, ext0 (X := X) (c := c) e k (show V.bl _ = V.bl _ by simp)⟩
end
theorem el_n0 {β : Type} : ∀ ys : List β, (some ([] : List β)) = some ys → ys.length ≤ 0 := fun ys h => by cases h; exact Nat.le_refl _
theorem el_ns {β : Type} {m : Option β} {ms : Option (List β)} {n : Nat} (hl : ∀ ys, ms = some ys → ys.length ≤ n) : ∀ xs, (m.bind fun x => ms.bind fun r => some (x :: r)) = some xs → xs.length ≤ n + 1 := fun xs h => by
  obtain ⟨x, _, h⟩ := bind_some' h
  obtain ⟨r, hr, h⟩ := bind_some' h
  cases h
  exact Nat.succ_le_succ (hl r hr)
theorem el_le {β : Type} {ms : Option (List β)} {n : Nat} (h : ∀ ys, ms = some ys → ys.length ≤ n) (hn : n ≤ 1000) : ∀ ys, ms = some ys → ys.length ≤ 1000 := fun ys e => Nat.le_trans (h ys e) hn
section
variable {P : Program} {w : World} {K : Frag} {mg : Str → Option Value} {base : Heap} {c : Cls}
theorem FunD.ok0 {x qual : Str} {params : Arguments} {body : List Stmt} {scope : Scope} {dvs : List V} {kws : List (Str × V)} {f : Addr} {fd : FuncData} {N ps : List Str} {k : Nat} {sp : Sp} (F : FunD K x qual params body scope dvs kws f fd) (S : FnScope N ps scope) (len : ∀ vs H Q E, sp vs H Q E → vs.length = ps.length)
    (hbody : ∀ (cdv : Value) (A : Around) (outer : List Env) (s : Shared) (H : Hp) (vs : List V) (Q : VK) (E : XK), Room k (A.deeper (envOfC qual scope s.heap.objs.size f cdv)) → sp vs H Q E →
      ∃ t, PSs (cxOf CX0 P w K mg base N qual scope f cdv A outer s H E).nox body t ∧ t { nx := fun _ H' => Q .non H', rt := Q } (start N vs) H) : FnOk P w K mg base CX0 (k + 1) f fd ps sp := by
  obtain ⟨oc, od, dV, kV, doc, pm, an, cdv, ct, osl, rfl, lk, hcd, _, _⟩ := F.ex
  exact fn_of lk hcd S len fun A outer s H vs Q E hr hsp => by
    obtain ⟨t, h1, h2⟩ := hbody cdv A outer s H vs Q E hr hsp
    exact ⟨t, h1.nox, h2⟩
theorem init_bodyD {x qual : Str} {st : Stmt} {f : Addr} {fd : FuncData} {N ps : List Str} {C k : Nat} {dvs : List V} {kws : List (Str × V)} {δ S L γ : Type} [PyA δ] [Mu γ] {m : δ → Option (Oc S L Unit)} {Γn : Addr → S → List Bd} {Γl : Addr → L → List Bd} {fin : S → γ} (F : FunD K x qual (defArgs st) (defBody st) (defScope st) dvs kws f fd) (SC : FnScope N ps (defScope st)) (hl : ∀ x : δ, 1 + (PyA.bds x).length = ps.length) (hle : ps.length ≤ N.length)
    (hfin : ∀ l s, (Γn l s)[0]? = some (.pa l (fin s)))
    (hb : ∀ (cdv : Value) (A : Around) (outer : List Env) (s : Shared) (H : Hp) (E : XK) (l : Addr) (x : δ), Room k (A.deeper (envOfC qual (defScope st) s.heap.objs.size f cdv)) → SX (BodyCx P w K mg base N qual (defScope st) f cdv A outer s H E) c (.pa l (Ob.mk () : Ob C [] Unit) :: (PyA.bds x ++ List.replicate (N.length - ps.length) Bd.no)) (defBody st) (m x) (Γn l) (Γl l)) :
    FnOk P w K mg base CX0 (k + 1) f fd ps (spI K c C fun x => (m x).bind (Oc.outI fin)) := by
  classical
  refine FunD.ok0 F SC (fun vs H Q E h => ?_) (fun cdv A outer s H vs Q E hr h => ⟨_, toS, ?_⟩)
  · obtain ⟨G, x, dx, vs', d, r, rfl, _, _, _, h1, _⟩ := h
    have q1 := (PyA.at' h1).1
    have q2 := hl d
    simp only [List.length_cons]
    omega
  · obtain ⟨G, x, dx, vs', d, r, rfl, h0, gx, hx, h1, h2, h3⟩ := h
    obtain ⟨o, ho, hr'⟩ := bind_some' h2
    have hs := init_start (c := c) (K := K) (C := C) h0 gx hx h1 N (by rw [hl]; exact hle)
    rw [hl] at hs
    refine hb cdv A outer s H E x d hr _ _ G H hs o ho _ ?_
    cases o with
    | nx s' =>
      cases hr'
      intro σ2 G2 H2 hh
      obtain ⟨u, F2, q1, q2⟩ := hh.slot (hfin x s')
      obtain ⟨q3, q4, q5⟩ := q2
      have hd := Mu.own_dom q5
      have s1 : Same G2 (fun a => if a ∈ F2 then H2 a else G2 a) := fun a o q => by
        by_cases ha : a ∈ F2
        · rw [(q3 a ha).1] at q; cases q
        · simp only [ha, if_false]; exact q
      refine h3 (fun a => if a ∈ F2 then H2 a else G2 a) H2 (hh.g0.trans s1) (fun a o ne q => hh.h0 a o (by simp) (by simpa [ne] using q)) (fun a o q => ?_) (fun a ne g1 g2 => ?_) (Mu.freeze q5 s1 fun a ha => by simp only [ha, if_true])
      · by_cases ha : a ∈ F2
        · simp only [ha, if_true] at q; exact q
        · simp only [ha, if_false] at q; exact hh.gh a o q
      · have ha : a ∉ F2 := fun z => by
          have := (q3 a z).2
          simp only [ne, if_false] at this
          exact g2 this
        simp only [ha, if_false]
        exact hh.fr a g1 (by simpa [ne] using g2)
    | ct s' => cases hr'
    | bk s' => cases hr'
    | rt r' => cases hr'
end
section
variable {X : Cx} {c : Cls} {Γ Γ1 : List Bd} {e a b d : Expr} {es : List Expr} {rest : List Stmt} {pos p : Pos} {α β γ κ : Type} [Py α] [Py β] [Py γ] [Py κ]
variable {δ : Type} [Py δ] [Dic δ κ α] {md : Option δ} {mk : Option κ}
theorem et_din (α : Type) [Py α] [Dic δ κ α] (hu : X.A.units + 1 < cLine) (hk : EX X c Γ b mk) (hd : EX X c Γ d md) (hm : behindInMarks .In d = false := by rfl) : ET X c Γ (.Compare b [.In] [d] pos) (mk.bind fun k => md.bind fun d => some (Dic.get (α := α) d k).isSome) := by
  intro B σ G H hh z hz Q k
  obtain ⟨y, hy, hz⟩ := bind_some' hz
  obtain ⟨x, hx, hz⟩ := bind_some' hz
  cases hz
  refine ofT (pt_cmp (pc_din hu toE toE) hm) ?_
  refine hk B σ G H hh y hy _ fun u G1 H1 e1 r1 => hd B σ G1 H1 (hh.mono e1) x hx _ fun v G2 H2 e2 r2 => ?_
  obtain ⟨a, rfl, q⟩ := Dic.ok (α := α) e2.gh r2 (Py.mono e2.g r1)
  cases hq : Dic.get (α := α) x y with
  | none =>
    rw [hq] at q
    exact ⟨a, none, rfl, q, _, rfl, by have := k G2 H2 (e1.trans e2); rw [hq] at this; exact this⟩
  | some w =>
    rw [hq] at q
    obtain ⟨v, q1, q2⟩ := q
    exact ⟨a, some v, rfl, q1, _, rfl, by have := k G2 H2 (e1.trans e2); rw [hq] at this; exact this⟩
theorem et_dnin (α : Type) [Py α] [Dic δ κ α] (hu : X.A.units + 1 < cLine) (hk : EX X c Γ b mk) (hd : EX X c Γ d md) (hm : behindInMarks .NotIn d = false := by rfl) : ET X c Γ (.Compare b [.NotIn] [d] pos) (mk.bind fun k => md.bind fun d => some (Dic.get (α := α) d k).isNone) := by
  intro B σ G H hh z hz Q k
  obtain ⟨y, hy, hz⟩ := bind_some' hz
  obtain ⟨x, hx, hz⟩ := bind_some' hz
  cases hz
  refine ofT (pt_cmp (pc_dnotin hu toE toE) hm) ?_
  refine hk B σ G H hh y hy _ fun u G1 H1 e1 r1 => hd B σ G1 H1 (hh.mono e1) x hx _ fun v G2 H2 e2 r2 => ?_
  obtain ⟨a, rfl, q⟩ := Dic.ok (α := α) e2.gh r2 (Py.mono e2.g r1)
  cases hq : Dic.get (α := α) x y with
  | none =>
    rw [hq] at q
    exact ⟨a, none, rfl, q, _, rfl, by have := k G2 H2 (e1.trans e2); rw [hq] at this; exact this⟩
  | some w =>
    rw [hq] at q
    obtain ⟨v, q1, q2⟩ := q
    exact ⟨a, some v, rfl, q1, _, rfl, by have := k G2 H2 (e1.trans e2); rw [hq] at this; exact this⟩
end
theorem bmap {α β γ : Type} (o : Option α) (f : α → β) (k : β → Option γ) : (o.map f).bind k = o.bind fun x => k (f x) := by cases o <;> rfl
def dputTM {κ α : Type} [DecidableEq κ] (d : DT κ α) (j : κ) (y : α) : Option (DT κ α) := (dputM d.kvs j y).map DT.mk
def dputKM {κ α : Type} [DecidableEq κ] (d : DK κ α) (j : κ) (y : α) : Option (DK κ α) := (dputM d.kvs j y).map DK.mk
def dlputM {κ α : Type} [DecidableEq κ] (d : DL κ α) (j : κ) (y : List α) : Option (DL κ α) := (dlput d.kvs j y).map DL.mk
def dlsetM {κ α : Type} [DecidableEq κ] (d : DL κ α) (q : κ) (j : Int) (y : α) : Option (DL κ α) := (dlset d.kvs q j y).map DL.mk
section
variable {X : Cx} {c : Cls} {Γ Γ1 : List Bd} {e a b d : Expr} {es : List Expr} {rest : List Stmt} {pos p : Pos} {α β γ κ : Type} [Py α] [Py β] [Py γ] [Py κ] {S L ρ : Type} [Py ρ] {Γn : S → List Bd} {Γl : L → List Bd}
theorem sx_dputT' [TKey κ] [DecidableEq κ] {i : Nat} {x : Str} {dd : DT κ α} {m : Option α} {mk : Option κ} {k : DT κ α → Option (Oc S L ρ)} {p1 p2 : Pos} (hu : X.A.units + 1 < cLine) (hN : X.N[i]? = some x) (hv : Vis X.env.scope x) (hb : Γ[i]? = some (.ow dd)) (h : EX X c Γ e m) (h' : EX X c Γ b mk) (hr : ∀ ys : DT κ α, SX X c (Γ.set i (.ow ys)) rest (k ys) Γn Γl)
    (hs : swapsWith e (some (.Subscript (.Name x p1) b p2)) pos.line X.env = pure false := by rfl) (hd : (x == ("__debug__" : Str)) = false := by decide) (hcd : (x == ("__classdict__" : Str)) = false := by decide) :
    SX X c Γ (.Assign [.Subscript (.Name x p1) b p2] e pos :: rest) (m.bind fun y => mk.bind fun j => (dputTM dd j y).bind k) Γn Γl := by
  simp only [dputTM, bmap]
  exact sx_dputT hu hN hv hb h h' hr hs hd hcd
theorem sx_dputK' [KKey κ] [DecidableEq κ] {i : Nat} {x : Str} {dd : DK κ α} {m : Option α} {mk : Option κ} {k : DK κ α → Option (Oc S L ρ)} {p1 p2 : Pos} (hu : X.A.units + 1 < cLine) (hN : X.N[i]? = some x) (hv : Vis X.env.scope x) (hb : Γ[i]? = some (.ow dd)) (h : EX X c Γ e m) (h' : EX X c Γ b mk) (hr : ∀ ys : DK κ α, SX X c (Γ.set i (.ow ys)) rest (k ys) Γn Γl)
    (hs : swapsWith e (some (.Subscript (.Name x p1) b p2)) pos.line X.env = pure false := by rfl) (hd : (x == ("__debug__" : Str)) = false := by decide) (hcd : (x == ("__classdict__" : Str)) = false := by decide) :
    SX X c Γ (.Assign [.Subscript (.Name x p1) b p2] e pos :: rest) (m.bind fun y => mk.bind fun j => (dputKM dd j y).bind k) Γn Γl := by
  simp only [dputKM, bmap]
  exact sx_dputK hu hN hv hb h h' hr hs hd hcd
theorem sx_dlput' [KKey κ] [DecidableEq κ] {i : Nat} {x : Str} {dd : DL κ α} {m : Option (List α)} {mk : Option κ} {k : DL κ α → Option (Oc S L ρ)} {p1 p2 : Pos} (hu : X.A.units + 1 < cLine) (hN : X.N[i]? = some x) (hv : Vis X.env.scope x) (hb : Γ[i]? = some (.ow dd)) (h : EO X c Γ e m) (h' : EX X c Γ b mk) (hr : ∀ ys : DL κ α, SX X c (Γ.set i (.ow ys)) rest (k ys) Γn Γl)
    (hs : swapsWith e (some (.Subscript (.Name x p1) b p2)) pos.line X.env = pure false := by rfl) (hd : (x == ("__debug__" : Str)) = false := by decide) (hcd : (x == ("__classdict__" : Str)) = false := by decide) :
    SX X c Γ (.Assign [.Subscript (.Name x p1) b p2] e pos :: rest) (m.bind fun y => mk.bind fun j => (dlputM dd j y).bind k) Γn Γl := by
  simp only [dlputM, bmap]
  exact sx_dlput hu hN hv hb h h' hr hs hd hcd
theorem sx_dlset' [KKey κ] [DecidableEq κ] {i : Nat} {x : Str} {dd : DL κ α} {m : Option α} {mk : Option κ} {mj : Option Int} {k : DL κ α → Option (Oc S L ρ)} {p1 p2 p3 : Pos} (hb : Γ[i]? = some (.ow dd)) (h : EX X c Γ e m) (h' : EX X c Γ a mk) (h'' : EX X c Γ b mj) (hr : ∀ ys : DL κ α, SX X c (Γ.set i (.ow ys)) rest (k ys) Γn Γl)
    (ht : PS X (.Assign [.Subscript (.Subscript (.Name x p1) a p2) b p3] e pos) (tAsg (tEX X e) (gSub (tDGet (tVar i) (tEX X a)) (tEX X b) rSetL))) :
    SX X c Γ (.Assign [.Subscript (.Subscript (.Name x p1) a p2) b p3] e pos :: rest) (m.bind fun y => mk.bind fun q => mj.bind fun j => (dlsetM dd q j y).bind k) Γn Γl := by
  simp only [dlsetM, bmap]
  exact sx_dlset hb h h' h'' hr ht
theorem sx_aug' {i : Nat} {x : Str} {p : Pos} {op : Operator} {f : Int → Int → Int} {y : Int} {m : Option Int} {k : Int → Option (Oc S L ρ)} (ho : PIp X op (ipI f)) (hN : X.N.Nodup) (hi : X.N[i]? = some x) (hl : Loc X.env.scope x) (hb : Γ[i]? = some (.fr y)) (he : EX X c Γ e m) (hr : ∀ x : Int, SX X c (Γ.set i (.fr x)) rest (k x) Γn Γl)
    (hf : X.fn x = true ∨ X.env.scope.names.lookup x = some .local := by first | exact .inl rfl | exact .inr rfl) :
    SX X c Γ (.AugAssign (.Name x p) op e pos :: rest) (m.bind fun z => (some (f y z)).bind k) Γn Γl := sx_aug ho hN hi hl hb he hr hf
theorem sx_fldNew' {δ : Type} [PyA δ] {C : Nat} {ns : List Str} {i : Nat} {x f : Str} {l : Addr} {o : Ob C ns δ} {m : Option α} {k : Ob C (f :: ns) (α × δ) → Option (Oc S L ρ)} {p1 p2 : Pos} (hcl : L2.Cls X.K (c C)) (hna : NoAttr X.K (c C) f) (hf : f ∉ ns) (hsz : ns.length < 1000) (hN : X.N[i]? = some x) (hv : Vis X.env.scope x) (hb : Γ[i]? = some (.pa l o)) (h : EX X c Γ e m)
    (hr : ∀ o' : Ob C (f :: ns) (α × δ), SX X c (Γ.set i (.pa l o')) rest (k o') Γn Γl) (hs : swapsWith e (some (.Attribute (.Name x p1) f p2)) pos.line X.env = pure false := by rfl) (hd : (x == ("__debug__" : Str)) = false := by decide) (hcd : (x == ("__classdict__" : Str)) = false := by decide) :
    SX X c Γ (.Assign [.Attribute (.Name x p1) f p2] e pos :: rest) (m.bind fun y => (some (Ob.mk (y, o.val))).bind k) Γn Γl := sx_fldNew hcl hna hf hsz hN hv hb h hr hs hd hcd
end
end CT

end
/-! ## Cert14.lean -/
section
set_option Elab.async false
set_option linter.all false
set_option maxRecDepth 100000
set_option maxHeartbeats 4000000
/-! Certified translation: what the head hands over, the end. -/
namespace CT
open PySem L2 PySem.Spec PyProof.Rows
section
variable {K : Frag} {h : Heap} {mg : Str → Option Value}
/-- a def of the module behind the head -/
def DefAt (K : Frag) (x : Str) (st : Stmt) : Prop := ∃ f oc od an sl kV dc pm cd ct, PySem.W.nsIn K mainGlobals x = some (some (.ref f)) ∧ K.lookup f = some ⟨oc, od, .func (PySem.W.fnOf x x (defArgs st) (defBody st) (defScope st) .none kV dc pm an cd ct), sl⟩ ∧ PySem.W.codeIn K cd x = true ∧ PySem.W.keepIn K (.ref f) = true
theorem b_mk (_ : K.In h) (x : Str) (e : PySem.W.nsIn K mainGlobals x = some none) : PySem.W.nsIn K mainGlobals x = some none := e
theorem c_mk (_ : K.In h) (x : Str) (i : Int) {t : Tok} (e : PySem.W.nsIn K mainGlobals x = some (some (.int i t))) : ∃ t, PySem.W.nsIn K mainGlobals x = some (some (.int i t)) := ⟨t, e⟩
theorem def_mk (_ : K.In h) (x : Str) (st : Stmt) {f : Addr} {oc : Value} {od an : Option Addr} {sl : Array (Option Value)} {kV dc pm cd ct : Value} (a : PySem.W.nsIn K mainGlobals x = some (some (.ref f))) (l : K.lookup f = some ⟨oc, od, .func (PySem.W.fnOf x x (defArgs st) (defBody st) (defScope st) .none kV dc pm an cd ct), sl⟩) (c : PySem.W.codeIn K cd x = true) (k : PySem.W.keepIn K (.ref f) = true) : DefAt K x st :=
  ⟨f, oc, od, an, sl, kV, dc, pm, cd, ct, a, l, c, k⟩
theorem DefAt.txt {x : Str} {st : Stmt} (X : K.In h) (G : h.Ns mainGlobals mg) (D : DefAt K x st) {ps : List Str} (hb : ∀ (kV doc pm : Value) (an : Option Addr) (cdv ct : Value) (us : List Value), us.length = ps.length → bindArgs (PySem.W.fnOf x x (defArgs st) (defBody st) (defScope st) .none kV doc pm an cdv ct) ⟨us, []⟩ = pure (ps.zip us)) :
    ∃ f fd, Fun K x x st f fd ∧ mg x = some (.ref f) ∧ L2.Binds K fd ps [] := by
  obtain ⟨f, oc, od, an, sl, kV, dc, pm, cd, ct, a, l, c, k⟩ := D
  have F := fun_mk l c k
  exact ⟨f, _, F, PySem.W.mg_of X G a, F.binds hb⟩
/-- a method -/
def MetAt (K : Frag) (C : Addr) (x qual : Str) (st : Stmt) : Prop := ∃ f oc od an sl kV dc pm cd ct, PySem.W.findIn K (.ref C) x = some (some (.ref f)) ∧ PySem.W.isFn K (.ref f) = true ∧ K.lookup f = some ⟨oc, od, .func (PySem.W.fnOf x qual (defArgs st) (defBody st) (defScope st) .none kV dc pm an cd ct), sl⟩ ∧ PySem.W.codeIn K cd qual = true ∧ PySem.W.keepIn K (.ref f) = true
theorem met_mk {C : Addr} {x qual : Str} {st : Stmt} {f : Addr} {oc : Value} {od an : Option Addr} {sl : Array (Option Value)} {kV dc pm cd ct : Value} (a : PySem.W.findIn K (.ref C) x = some (some (.ref f))) (i : PySem.W.isFn K (.ref f) = true) (l : K.lookup f = some ⟨oc, od, .func (PySem.W.fnOf x qual (defArgs st) (defBody st) (defScope st) .none kV dc pm an cd ct), sl⟩) (c : PySem.W.codeIn K cd qual = true) (k : PySem.W.keepIn K (.ref f) = true) : MetAt K C x qual st :=
  ⟨f, oc, od, an, sl, kV, dc, pm, cd, ct, a, i, l, c, k⟩
theorem MetAt.txt {C : Addr} {x qual : Str} {st : Stmt} (D : MetAt K C x qual st) {ps : List Str} (hb : ∀ (kV doc pm : Value) (an : Option Addr) (cdv ct : Value) (us : List Value), us.length = ps.length → bindArgs (PySem.W.fnOf x qual (defArgs st) (defBody st) (defScope st) .none kV doc pm an cdv ct) ⟨us, []⟩ = pure (ps.zip us)) :
    ∃ f fd, Fun K x qual st f fd ∧ Meth K C x f ∧ L2.Binds K fd ps [] := by
  obtain ⟨f, oc, od, an, sl, kV, dc, pm, cd, ct, a, i, l, c, k⟩ := D
  have F := fun_mk l c k
  exact ⟨f, _, F, ⟨a, i, k⟩, F.binds hb⟩
/-- a class -/
structure ClsAt (K : Frag) (x : Str) (C : Addr) : Prop where
  at_ : PySem.W.nsIn K mainGlobals x = some (some (.ref C))
  pg : PySem.W.plainGet K C Str.empty = true
  hd : PySem.W.hasDictIn K C = true
  po : PySem.W.plainOver K C = true
  sa : PySem.W.findIn K (.ref C) "__setattr__" = some (some (.builtin "object.__setattr__"))
  mkc : PySem.W.makesIn K C = true
  kc : PySem.W.keepIn K (.ref C) = true
/-- __init__ without defaults -/
theorem init_txt {C : Addr} {x qual : Str} {st : Stmt} (X : K.In h) (G : h.Ns mainGlobals mg) (D : ClsAt K x C) (M : MetAt K C "__init__" qual st) {ps : List Str} (hb : ∀ (kV doc pm : Value) (an : Option Addr) (cdv ct : Value) (us : List Value), us.length = ps.length → bindArgs (PySem.W.fnOf "__init__" qual (defArgs st) (defBody st) (defScope st) .none kV doc pm an cdv ct) ⟨us, []⟩ = pure (ps.zip us)) :
    ∃ f fd ds, FunD K "__init__" qual (defArgs st) (defBody st) (defScope st) [] [] f fd ∧ Mk K C f ∧ mg x = some (.ref C) ∧ L2.Binds K fd ps ds ∧ Vals [] ds := by
  obtain ⟨f, oc, od, an, sl, kV, dc, pm, cd, ct, a, i, l, c, k⟩ := M
  exact ⟨f, _, [], ⟨⟨oc, od, .none, kV, dc, pm, an, cd, ct, sl, rfl, l, c, .inl ⟨rfl, rfl⟩, .inl rfl⟩, k⟩, ⟨D.mkc, a, i, D.kc⟩, PySem.W.mg_of X G D.at_, (fun_mk l c k).binds hb, .nil⟩
/-- __init__ with keyword-only defaults, at the dict Dk -/
theorem init_txtK {C Dk f : Addr} {x qual : Str} {st : Stmt} {oc : Value} {od an : Option Addr} {sl : Array (Option Value)} {dc pm cd ct : Value} {kws : List (Str × V)} (X : K.In h) (G : h.Ns mainGlobals mg) (D : ClsAt K x C) (a : PySem.W.findIn K (.ref C) "__init__" = some (some (.ref f))) (i : PySem.W.isFn K (.ref f) = true)
    (l : K.lookup f = some ⟨oc, od, .func (PySem.W.fnOf "__init__" qual (defArgs st) (defBody st) (defScope st) .none (.ref Dk) dc pm an cd ct), sl⟩) (c : PySem.W.codeIn K cd qual = true) (k : PySem.W.keepIn K (.ref f) = true) (hq : ∀ q ∈ kws, ∃ u, PySem.W.nsIn K Dk q.1 = some (some u) ∧ RelV q.2 u) {ps : List Str} (n : Nat) (hk : kws ≠ []) (hn : n + kws.length = ps.length)
    (hb : ∀ (D : Addr) (doc pm : Value) (an : Option Addr) (cdv ct : Value) (us ks : List Value), us.length = n → ks.length = kws.length →
      KwChain D ((kws.map (·.1)).zip ks) (bindArgs (PySem.W.fnOf "__init__" qual (defArgs st) (defBody st) (defScope st) .none (.ref D) doc pm an cdv ct) ⟨us, []⟩) (ps.zip (us ++ ks))) :
    ∃ f fd ds, FunD K "__init__" qual (defArgs st) (defBody st) (defScope st) [] kws f fd ∧ Mk K C f ∧ mg x = some (.ref C) ∧ L2.Binds K fd ps ds ∧ Vals (kws.map (·.2)) ds := by
  have F : FunD K "__init__" qual (defArgs st) (defBody st) (defScope st) [] kws f _ := ⟨⟨oc, od, .none, .ref Dk, dc, pm, an, cd, ct, sl, rfl, l, c, .inl ⟨rfl, rfl⟩, .inr ⟨Dk, rfl, hq⟩⟩, k⟩
  obtain ⟨ds, h1, h2⟩ := F.binds0 n hk hn hb
  exact ⟨f, _, ds, F, ⟨D.mkc, a, i, D.kc⟩, PySem.W.mg_of X G D.at_, h2, h1⟩
end
/-! ### the law's promise -/
def spEnd (n : Nat) (K : Frag) : Sp := fun vs H Q _ => ∃ (a : Addr) (ns : List Int), vs = [.ref a] ∧ SqL K H a (ns.map V.int) ∧ ns.length ≤ n ∧ ∀ H', Q (.bl true) H'
theorem all2_ints {K : Frag} {c : Cls} {G : Hp} : ∀ ns : List Int, All2 (Py.rep K c G) (ns.map V.int) ns
  | [] => .nil
  | _ :: r => .cons rfl (all2_ints r)
theorem law_sp {P : Program} {w : World} {K : Frag} {mg : Str → Option Value} {base : Heap} {c : Cls} {k n : Nat} {f : Addr} {fd : FuncData} {ps : List Str} {m : List Int × Unit → Option Bool} (F : FnOk P w K mg base CX0 k f fd ps (spM K c m)) (hn : n ≤ sizeLine) (hm : ∀ ns : List Int, ns.length ≤ n → m (ns, ()) = some true) : FnOk P w K mg base CX0 k f fd ps (spEnd n K) := by
  refine F.imp fun vs H Q E h => ?_
  obtain ⟨a, ns, rfl, hs, hl, q⟩ := h
  refine ⟨H, (ns, ()), true, Same.refl H, ⟨.ref a, [], rfl, ⟨a, _, rfl, by rw [List.length_map]; exact Nat.le_trans hl hn, hs, all2_ints ns⟩, rfl⟩, hm ns hl, fun v G2 H2 e r => ?_⟩
  obtain rfl : v = .bl true := r
  exact q H2
end CT

end
/-! ## Cert15.lean -/
section
set_option Elab.async false
set_option linter.all false
set_option maxRecDepth 100000
/-! Certified translation: laws of the mirror's words, with no program in sight. -/
namespace CT
open PySem L2
section
variable {α β S L ρ : Type}
theorem forM_rel {b : α → S → Option (Oc S S ρ)} (P : List α → S → Prop) : ∀ (xs pre : List α) (s0 : S), P pre s0 → (∀ p x q, pre ++ xs = p ++ x :: q → ∀ s, P p s → ∃ s', b x s = some (.nx s') ∧ P (p ++ [x]) s') → ∃ s', forM (L := L) b xs s0 = some (.nx s') ∧ P (pre ++ xs) s'
  | [], pre, s0, h0, _ => ⟨s0, rfl, by rw [List.append_nil]; exact h0⟩
  | x :: xs, pre, s0, h0, h => by
    obtain ⟨s1, e1, h1⟩ := h pre x xs rfl s0 h0
    obtain ⟨s', e2, h2⟩ := forM_rel P xs (pre ++ [x]) s1 h1 (fun p y q e s => h p y q (by rw [← e]; simp) s)
    refine ⟨s', ?_, by simpa using h2⟩
    unfold forM
    rw [e1]
    exact e2
theorem forM_run {b : α → S → Option (Oc S S ρ)} (P : List α → S → Prop) {xs : List α} {s0 : S} (h0 : P [] s0) (h : ∀ p x q, xs = p ++ x :: q → ∀ s, P p s → ∃ s', b x s = some (.nx s') ∧ P (p ++ [x]) s') : ∃ s', forM (L := L) b xs s0 = some (.nx s') ∧ P xs s' :=
  forM_rel P xs [] s0 h0 h
theorem forM_out {S' τ : Type} {b : α → S → Option (Oc S S ρ)} (P : List α → S → Prop) {xs : List α} {s0 : S} {k : S → Option (Oc S' L ρ)} {f : Oc S' L ρ → Option τ} {r : Option τ} (h0 : P [] s0) (h : ∀ p x q, xs = p ++ x :: q → ∀ s, P p s → ∃ s', b x s = some (.nx s') ∧ P (p ++ [x]) s') (hk : ∀ s, P xs s → (k s).bind f = r) :
    ((forM (L := L) b xs s0).bind (Oc.seq k)).bind f = r := by
  obtain ⟨s', e, hs⟩ := forM_run (L := L) P h0 h
  rw [e]
  exact hk s' hs
theorem forM_seq {S' : Type} {b : α → S → Option (Oc S S ρ)} (P : List α → S → Prop) {xs : List α} {s0 : S} {k : S → Option (Oc S' L ρ)} {r : Option (Oc S' L ρ)} (h0 : P [] s0) (h : ∀ p x q, xs = p ++ x :: q → ∀ s, P p s → ∃ s', b x s = some (.nx s') ∧ P (p ++ [x]) s') (hk : ∀ s, P xs s → k s = r) :
    (forM (L := L) b xs s0).bind (Oc.seq k) = r := by
  obtain ⟨s', e, hs⟩ := forM_run (L := L) P h0 h
  rw [e]
  exact hk s' hs
theorem forM_fold {b : α → S → Option (Oc S S ρ)} {g : S → α → S} : ∀ {xs : List α} {s0 : S}, (∀ x ∈ xs, ∀ s, b x s = some (.nx (g s x))) → forM (L := L) b xs s0 = some (.nx (xs.foldl g s0))
  | [], s0, _ => rfl
  | x :: xs, s0, h => by
    unfold forM
    rw [h x (by simp)]
    exact forM_fold fun y hy => h y (by simp [hy])
theorem whileM_run {t : S → Option Bool} {b : S → Option (Oc S S ρ)} (I : S → Prop) (μ : S → Nat) (h : ∀ s, I s → t s = some false ∨ (t s = some true ∧ ∃ s', b s = some (.nx s') ∧ I s' ∧ μ s' < μ s)) : ∀ (fuel : Nat) (s0 : S), I s0 → μ s0 < fuel → ∃ s', whileM (L := L) t b fuel s0 = some (.nx s') ∧ I s' ∧ t s' = some false
  | 0, _, _, hf => absurd hf (by omega)
  | n + 1, s0, h0, hf => by
    unfold whileM
    rcases h s0 h0 with e | ⟨e, s', e2, h2, h3⟩
    · exact ⟨s0, by rw [e]; rfl, h0, e⟩
    · obtain ⟨s'', q1, q2, q3⟩ := whileM_run I μ h n s' h2 (by omega)
      exact ⟨s'', by rw [e, e2]; exact q1, q2, q3⟩
theorem whileM_out {S' τ : Type} {t : S → Option Bool} {b : S → Option (Oc S S ρ)} (I : S → Prop) (μ : S → Nat) {fuel : Nat} {s0 : S} {k : S → Option (Oc S' L ρ)} {f : Oc S' L ρ → Option τ} {r : Option τ} (h0 : I s0) (hf : μ s0 < fuel) (h : ∀ s, I s → t s = some false ∨ (t s = some true ∧ ∃ s', b s = some (.nx s') ∧ I s' ∧ μ s' < μ s)) (hk : ∀ s, I s → t s = some false → (k s).bind f = r) :
    ((whileM (L := L) t b fuel s0).bind (Oc.seq k)).bind f = r := by
  obtain ⟨s', e, hs, ht⟩ := whileM_run (L := L) I μ h fuel s0 h0 hf
  rw [e]
  exact hk s' hs ht
theorem lcM_eq {t : α → Option Bool} {e : α → Option β} {p : α → Bool} {f : α → β} : ∀ {xs : List α}, (∀ x ∈ xs, t x = some (p x)) → (∀ x ∈ xs, p x = true → e x = some (f x)) → lcM t e xs = some ((xs.filter p).map f)
  | [], _, _ => rfl
  | x :: xs, h1, h2 => by
    unfold lcM
    rw [h1 x (by simp), lcM_eq (fun y hy => h1 y (by simp [hy])) (fun y hy => h2 y (by simp [hy]))]
    cases h : p x with
    | true =>
      rw [h2 x (by simp) h]
      simp [h]
    | false => simp [h]
theorem lcM_eqT {e : α → Option β} {f : α → β} {xs : List α} (h : ∀ x ∈ xs, e x = some (f x)) : lcM (fun _ => some true) e xs = some (xs.map f) := by
  rw [lcM_eq (p := fun _ => true) (f := f) (fun _ _ => rfl) (fun x hx _ => h x hx)]
  rw [List.filter_eq_self.mpr (by simp)]
theorem ixN_nat {n i : Nat} (h : i < n) : ixN n (i : Int) = some i := by
  unfold ixN
  rw [if_pos (by omega), if_pos (by omega)]
  simp
theorem ixN_last {n : Nat} (h : 0 < n) : ixN n (-1) = some (n - 1) := by
  unfold ixN
  rw [if_neg (by decide), if_pos (by omega)]
  exact congrArg some (by omega)
theorem atI_nat {xs : List α} {i : Nat} {x : α} (h : xs[i]? = some x) : atI xs (i : Int) = some x := by
  have hi := (List.getElem?_eq_some_iff.mp h).1
  unfold atI
  rw [ixN_nat hi]
  exact h
theorem atI_int {xs : List α} {i : Int} {x : α} (h0 : 0 ≤ i) (h : xs[i.toNat]? = some x) : atI xs i = some x := by
  obtain ⟨n, rfl⟩ := Int.eq_ofNat_of_zero_le h0
  exact atI_nat h
theorem atI_last (xs : List α) (x : α) : atI (xs ++ [x]) (-1) = some x := by
  unfold atI
  rw [ixN_last (by simp)]
  simp
theorem setM_nat {xs : List α} {i : Nat} (h : i < xs.length) (x : α) : setM xs (i : Int) x = some (xs.set i x) := by
  unfold setM
  rw [ixN_nat h]
  rfl
theorem setM_last (xs : List α) (y x : α) : setM (xs ++ [y]) (-1) x = some (xs ++ [x]) := by
  unfold setM
  rw [ixN_last (by simp)]
  simp
theorem appM_eq {xs : List α} (h : xs.length < 16777216) (x : α) : appM xs x = some (xs ++ [x]) := if_pos h
/-! ### dicts -/
variable {κ : Type} [DecidableEq κ]
theorem dget_cons {q : κ × α} {r : List (κ × α)} {j : κ} : dget (q :: r) j = if q.1 = j then some q.2 else dget r j := by
  unfold dget
  rw [List.find?_cons]
  by_cases h : q.1 = j
  · simp [h]
  · simp [h]
theorem dget_none {kvs : List (κ × α)} {k : κ} (h : dget kvs k = none) : (kvs.any fun kv => decide (kv.1 = k)) = false := by
  induction kvs with
  | nil => rfl
  | cons q r ih =>
    rw [dget_cons] at h
    by_cases e : q.1 = k
    · rw [if_pos e] at h; cases h
    · rw [if_neg e] at h
      simp [e, ih h]
theorem dget_some {kvs : List (κ × α)} {k : κ} {x : α} (h : dget kvs k = some x) : (kvs.any fun kv => decide (kv.1 = k)) = true := by
  induction kvs with
  | nil => cases h
  | cons q r ih =>
    rw [dget_cons] at h
    by_cases e : q.1 = k
    · simp [e]
    · rw [if_neg e] at h
      simp [ih h]
theorem dget_app {k j : κ} {x : α} : ∀ {kvs : List (κ × α)}, dget kvs k = none → dget (kvs ++ [(k, x)]) j = if j = k then some x else dget kvs j
  | [], _ => by
    rw [List.nil_append, dget_cons]
    by_cases h : j = k
    · simp [h]
    · rw [if_neg (fun e => h e.symm), if_neg h]
  | q :: r, h => by
    rw [dget_cons] at h
    by_cases e : q.1 = k
    · rw [if_pos e] at h; cases h
    · rw [if_neg e] at h
      rw [List.cons_append, dget_cons, dget_cons, dget_app h]
      by_cases e2 : q.1 = j
      · rw [if_pos e2, if_pos e2, if_neg (fun z => e (e2.trans z))]
      · rw [if_neg e2, if_neg e2]
theorem dget_upd {k j : κ} {x : α} : ∀ {kvs : List (κ × α)}, (dget kvs k).isSome = true → dget (kvs.map fun kv => if kv.1 = k then (kv.1, x) else kv) j = if j = k then some x else dget kvs j
  | [], h => by cases h
  | q :: r, h => by
    rw [dget_cons] at h
    rw [List.map_cons, dget_cons, dget_cons]
    by_cases e : q.1 = k
    · rw [if_pos e]
      by_cases e2 : j = k
      · simp [e, e2]
      · have e3 : ¬ q.1 = j := fun z => e2 (z.symm.trans e)
        rw [if_neg e3, if_neg e3, if_neg e2]
        cases hr : dget r k with
        | none =>
          clear h
          have : ∀ l : List (κ × α), dget l k = none → (l.map fun kv => if kv.1 = k then (kv.1, x) else kv) = l := by
            intro l
            induction l with
            | nil => intro _; rfl
            | cons p l ih =>
              intro hl
              rw [dget_cons] at hl
              by_cases e4 : p.1 = k
              · rw [if_pos e4] at hl; cases hl
              · rw [if_neg e4] at hl
                rw [List.map_cons, if_neg e4, ih hl]
          rw [this r hr]
        | some y =>
          rw [dget_upd (by rw [hr]; rfl), if_neg e2]
    · rw [if_neg e] at h
      rw [if_neg e]
      rw [dget_upd h]
      by_cases e2 : j = k
      · rw [e2, if_neg e, if_pos rfl]; simp
      · rw [if_neg e2]; simp [e2]
theorem dget_dput {kvs : List (κ × α)} {k j : κ} {x : α} : dget (dput kvs k x) j = if j = k then some x else dget kvs j := by
  unfold dput
  cases h : dget kvs k with
  | none =>
    rw [if_neg (by rw [dget_none h]; decide)]
    exact dget_app h
  | some y =>
    rw [if_pos (dget_some h)]
    exact dget_upd (by rw [h]; rfl)
theorem dput_len {kvs : List (κ × α)} {k : κ} {x : α} : (dput kvs k x).length ≤ kvs.length + 1 := by
  unfold dput
  split
  · simp
  · simp
theorem dputTM_eq {d : DT κ α} (h : d.kvs.length < 16777216) (k : κ) (x : α) : dputTM d k x = some ⟨dput d.kvs k x⟩ := by
  unfold dputTM dputM
  rw [if_pos h]
  rfl
theorem dlputM_eq {d : DL κ α} {k : κ} (hn : dget d.kvs k = none) (h : d.kvs.length < 16777216) (x : List α) : dlputM d k x = some ⟨d.kvs ++ [(k, x)]⟩ := by
  unfold dlputM dlput
  rw [if_neg (by rw [dget_none hn]; decide), if_pos h]
  rfl
theorem dget_setFirst {k j : κ} {y : List α} : ∀ {kvs : List (κ × List α)}, (dget kvs k).isSome = true → dget (setFirst k y kvs) j = if j = k then some y else dget kvs j
  | [], h => by cases h
  | q :: r, h => by
    rw [dget_cons] at h
    unfold setFirst
    by_cases e : q.1 = k
    · rw [if_pos e, dget_cons, dget_cons]
      by_cases e2 : j = k
      · simp [e, e2]
      · have e3 : ¬ q.1 = j := fun z => e2 (z.symm.trans e)
        rw [if_neg e2]
        simp [e3]
    · rw [if_neg e] at h
      rw [if_neg e, dget_cons, dget_cons, dget_setFirst h]
      by_cases e2 : j = k
      · rw [e2, if_neg e, if_pos rfl, if_pos rfl]
      · rw [if_neg e2, if_neg e2]
theorem setFirst_keys {k : κ} {y : List α} : ∀ {kvs : List (κ × List α)}, (setFirst k y kvs).map (·.1) = kvs.map (·.1)
  | [] => rfl
  | q :: r => by
    unfold setFirst
    split
    · rfl
    · simp [setFirst_keys (kvs := r)]
theorem dlsetM_eq {d : DL κ α} {k : κ} {xs : List α} {i : Nat} (hg : dget d.kvs k = some xs) (hi : i < xs.length) (x : α) : dlsetM d k (i : Int) x = some ⟨setFirst k (xs.set i x) d.kvs⟩ := by
  unfold dlsetM dlset
  rw [hg, Option.bind_some, setM_nat hi]
  rfl
end
end CT

end
/-! ## G57.lean -/
section
set_option Elab.async false
set_option linter.all false
set_option maxRecDepth 100000
set_option maxHeartbeats 4000000
/-! Printed by gen.py: the defs of the text, their mirrors, and that the text computes them. -/
namespace F57
open PySem L2 CT PySem.Spec PyProof.Rows
def topS (i : Nat) : Stmt := PySem.Challenge.pw_foreworth_k57_whole_least_two_ways.main.body.getD i (.Pass ⟨0, 0, 0, 0⟩)
abbrev O_Ring := (Ob 0 ["_sums", "nodes", "doors", "prices", "size"] ((Tup Int) × (Tup Int) × (Tup Int) × (Tup Int) × Int × Unit))
theorem nd_Ring : (["_sums", "nodes", "doors", "prices", "size"] : List Str).Nodup := by decide +kernel
def ext_Ring (y : List Int × List Int × Unit) : List Int × List Int × Unit × Unit := (y.1, y.2.1, (), ())
theorem ext_Ring_ok {K : Frag} {c : Cls} (G : Hp) (vs : List V) (y : List Int × List Int × Unit) (h : PyA.rep K c G vs y) : PyA.rep K c G (vs ++ [V.non]) (ext_Ring y) := by
  obtain ⟨v, vs1, rfl, h1, v2, vs2, rfl, h2, h3⟩ := h
  obtain rfl : vs2 = [] := h3
  exact ⟨v, _, rfl, h1, v2, _, rfl, h2, .non, [], rfl, rfl, rfl⟩
abbrev s_check_fronts : Stmt := topS 8
abbrev s_zeros : Stmt := topS 9
abbrev s_steps : Stmt := topS 10
abbrev s_reachable : Stmt := topS 11
abbrev s_height : Stmt := topS 12
abbrev s_front_heights : Stmt := topS 13
abbrev s_least_row : Stmt := topS 14
abbrev s_distinct : Stmt := topS 16
abbrev s_check_ring : Stmt := topS 19
abbrev s_sums_of : Stmt := topS 20
abbrev s_Ring_init : Stmt := inClass (topS 18) 0
abbrev s_Ring_whole : Stmt := inClass (topS 18) 1
abbrev s_check_stays : Stmt := topS 22
abbrev s_laid : Stmt := topS 23
abbrev s_pieces : Stmt := topS 24
abbrev s_piece_price : Stmt := topS 25
abbrev s_laid_price : Stmt := topS 26
abbrev s_least_laying : Stmt := topS 27
abbrev s_law_cell : Stmt := topS 29
abbrev s_law_digits : Stmt := topS 30
abbrev s_law_seed : Stmt := topS 31
abbrev s_law_union : Stmt := topS 32
abbrev s_law_least_ring : Stmt := topS 33
abbrev s_law_prefix : Stmt := topS 34
abbrev s_law_is_int : Stmt := topS 35
abbrev s_law_ints : Stmt := topS 36
abbrev s_law_whole : Stmt := topS 37
abbrev s_law_few_runs : Stmt := topS 38
abbrev s_law_prices : Stmt := topS 39
abbrev s_law_gates : Stmt := topS 40
abbrev s_law_drawn : Stmt := topS 41
abbrev s_law : Stmt := topS 42
structure Txt (K : Frag) (mg : Str → Option Value) (c : Cls) : Prop where
  b_abs : mg "abs" = none
  b_bool : mg "bool" = none
  b_dict : mg "dict" = none
  b_enumerate : mg "enumerate" = none
  b_int : mg "int" = none
  b_isinstance : mg "isinstance" = none
  b_len : mg "len" = none
  b_list : mg "list" = none
  b_max : mg "max" = none
  b_min : mg "min" = none
  b_range : mg "range" = none
  b_set : mg "set" = none
  b_sorted : mg "sorted" = none
  b_sum : mg "sum" = none
  b_tuple : mg "tuple" = none
  c_MOST_FRONTS : ∃ t, mg "MOST_FRONTS" = some (.int 5000 t)
  cl_Ring : L2.Cls K (c 0)
  na_Ring_size : NoAttr K (c 0) "size"
  na_Ring_prices : NoAttr K (c 0) "prices"
  na_Ring_doors : NoAttr K (c 0) "doors"
  na_Ring_nodes : NoAttr K (c 0) "nodes"
  na_Ring__sums : NoAttr K (c 0) "_sums"
  d_check_fronts : ∃ f fd, Fun K "check_fronts" "check_fronts" s_check_fronts f fd ∧ mg "check_fronts" = some (.ref f) ∧ Binds K fd ["rows"] []
  d_zeros : ∃ f fd, Fun K "zeros" "zeros" s_zeros f fd ∧ mg "zeros" = some (.ref f) ∧ Binds K fd ["rows"] []
  d_steps : ∃ f fd, Fun K "steps" "steps" s_steps f fd ∧ mg "steps" = some (.ref f) ∧ Binds K fd ["rows", "front"] []
  d_reachable : ∃ f fd, Fun K "reachable" "reachable" s_reachable f fd ∧ mg "reachable" = some (.ref f) ∧ Binds K fd ["rows"] []
  d_height : ∃ f fd, Fun K "height" "height" s_height f fd ∧ mg "height" = some (.ref f) ∧ Binds K fd ["prices", "rows", "front", "heights"] []
  d_front_heights : ∃ f fd, Fun K "front_heights" "front_heights" s_front_heights f fd ∧ mg "front_heights" = some (.ref f) ∧ Binds K fd ["prices", "rows"] []
  d_least_row : ∃ f fd, Fun K "least_row" "least_row" s_least_row f fd ∧ mg "least_row" = some (.ref f) ∧ Binds K fd ["prices", "rows"] []
  d_distinct : ∃ f fd, Fun K "distinct" "distinct" s_distinct f fd ∧ mg "distinct" = some (.ref f) ∧ Binds K fd ["row"] []
  d_check_ring : ∃ f fd, Fun K "check_ring" "check_ring" s_check_ring f fd ∧ mg "check_ring" = some (.ref f) ∧ Binds K fd ["prices", "doors", "nodes"] []
  d_sums_of : ∃ f fd, Fun K "sums_of" "sums_of" s_sums_of f fd ∧ mg "sums_of" = some (.ref f) ∧ Binds K fd ["prices"] []
  i_Ring : ∃ f fd ds, FunD K "__init__" "Ring.__init__" (defArgs s_Ring_init) (defBody s_Ring_init) (defScope s_Ring_init) [] [("nodes", V.non)] f fd ∧ Mk K (c 0) f ∧ mg "Ring" = some (.ref (c 0)) ∧ Binds K fd ["self", "prices", "doors", "nodes"] ds ∧ Vals [V.non] ds
  m_Ring_whole : ∃ f fd, Fun K "whole" "Ring.whole" s_Ring_whole f fd ∧ Meth K (c 0) "whole" f ∧ Binds K fd ["self"] []
  d_check_stays : ∃ f fd, Fun K "check_stays" "check_stays" s_check_stays f fd ∧ mg "check_stays" = some (.ref f) ∧ Binds K fd ["ring", "stays"] []
  d_laid : ∃ f fd, Fun K "laid" "laid" s_laid f fd ∧ mg "laid" = some (.ref f) ∧ Binds K fd ["ring", "stays", "start"] []
  d_pieces : ∃ f fd, Fun K "pieces" "pieces" s_pieces f fd ∧ mg "pieces" = some (.ref f) ∧ Binds K fd ["ring", "stays", "start"] []
  d_piece_price : ∃ f fd, Fun K "piece_price" "piece_price" s_piece_price f fd ∧ mg "piece_price" = some (.ref f) ∧ Binds K fd ["ring", "first", "behind"] []
  d_laid_price : ∃ f fd, Fun K "laid_price" "laid_price" s_laid_price f fd ∧ mg "laid_price" = some (.ref f) ∧ Binds K fd ["ring", "stays", "start"] []
  d_least_laying : ∃ f fd, Fun K "least_laying" "least_laying" s_least_laying f fd ∧ mg "least_laying" = some (.ref f) ∧ Binds K fd ["ring", "stays"] []
  d_law_cell : ∃ f fd, Fun K "_law_cell" "_law_cell" s_law_cell f fd ∧ mg "_law_cell" = some (.ref f) ∧ Binds K fd ["_law_script", "_law_k"] []
  d_law_digits : ∃ f fd, Fun K "_law_digits" "_law_digits" s_law_digits f fd ∧ mg "_law_digits" = some (.ref f) ∧ Binds K fd ["_law_cell_here", "_law_count", "_law_size"] []
  d_law_seed : ∃ f fd, Fun K "_law_seed" "_law_seed" s_law_seed f fd ∧ mg "_law_seed" = some (.ref f) ∧ Binds K fd ["_law_script", "_law_k"] []
  d_law_union : ∃ f fd, Fun K "_law_union" "_law_union" s_law_union f fd ∧ mg "_law_union" = some (.ref f) ∧ Binds K fd ["_law_prices_here", "_law_stays", "_law_start"] []
  d_law_least_ring : ∃ f fd, Fun K "_law_least_ring" "_law_least_ring" s_law_least_ring f fd ∧ mg "_law_least_ring" = some (.ref f) ∧ Binds K fd ["_law_prices_here", "_law_stays"] []
  d_law_prefix : ∃ f fd, Fun K "_law_prefix" "_law_prefix" s_law_prefix f fd ∧ mg "_law_prefix" = some (.ref f) ∧ Binds K fd ["_law_run", "_law_schedule"] []
  d_law_is_int : ∃ f fd, Fun K "_law_is_int" "_law_is_int" s_law_is_int f fd ∧ mg "_law_is_int" = some (.ref f) ∧ Binds K fd ["_law_value"] []
  d_law_ints : ∃ f fd, Fun K "_law_ints" "_law_ints" s_law_ints f fd ∧ mg "_law_ints" = some (.ref f) ∧ Binds K fd ["_law_row"] []
  d_law_whole : ∃ f fd, Fun K "_law_whole" "_law_whole" s_law_whole f fd ∧ mg "_law_whole" = some (.ref f) ∧ Binds K fd ["_law_runs", "_law_schedule"] []
  d_law_few_runs : ∃ f fd, Fun K "_law_few_runs" "_law_few_runs" s_law_few_runs f fd ∧ mg "_law_few_runs" = some (.ref f) ∧ Binds K fd ["_law_runs", "_law_most"] []
  d_law_prices : ∃ f fd, Fun K "_law_prices" "_law_prices" s_law_prices f fd ∧ mg "_law_prices" = some (.ref f) ∧ Binds K fd ["_law_cell_here", "_law_count", "_law_choice"] []
  d_law_gates : ∃ f fd, Fun K "_law_gates" "_law_gates" s_law_gates f fd ∧ mg "_law_gates" = some (.ref f) ∧ Binds K fd ["_law_cell_here", "_law_size"] []
  d_law_drawn : ∃ f fd, Fun K "_law_drawn" "_law_drawn" s_law_drawn f fd ∧ mg "_law_drawn" = some (.ref f) ∧ Binds K fd ["_law_cell_here", "_law_gates_here", "_law_count", "_law_most"] []
  d_law : ∃ f fd, Fun K "law" "law" s_law f fd ∧ mg "law" = some (.ref f) ∧ Binds K fd ["_law_script"] []
section
variable {P : Program} {w : World} {K : Frag} {mg : Str → Option Value} {base : Heap} {c : Cls}
/-! ### check_fronts -/
abbrev N_check_fronts : List Str := ["rows", "total", "row"]
theorem sc_check_fronts : FnScope N_check_fronts ["rows"] (defScope s_check_fronts) := ⟨rfl, rfl, rfl, by decide +kernel, rfl, by decide +kernel, by decide +kernel⟩
theorem V_check_fronts : locsB (defScope s_check_fronts) ["rows", "total", "row"] = true := by decide +kernel
def b_check_fronts (aa : ((List (List Int)) × Unit)) : Option (Oc Unit Empty Unit) := (Option.bind (some (1 : Int)) fun (total_1 : Int) => (Option.bind (Option.bind (some aa.1) fun (xs : List (List Int)) => forM (S := Int) (L := Empty) (ρ := Unit) (fun (x3 : (List Int)) (s2 : Int) => (Option.bind (Option.bind (some s2) fun (x : Int) => Option.bind (Option.bind (Option.bind (Option.bind (some x3) fun (x : (List Int)) => Option.bind (some ()) fun (r : Unit) => some (x, r)) (fun x : ((List Int) × Unit) => some (x.1.length : Int))) fun (x : Int) => Option.bind (some (1 : Int)) fun (y : Int) => some (x + y)) fun (y : Int) => mulM x y) fun (total_4 : Int) => (some (Oc.nx total_4)))) xs total_1) (Oc.seq fun (s5 : Int) => (Option.bind (Option.bind (some s5) fun (x : Int) => Option.bind (some (5000 : Int)) fun (y : Int) => some (decide (x > y))) fun (q : Bool) => if q = true then Option.bind none Oc.up else (some (Oc.nx ()))))))
def r_check_fronts (aa : ((List (List Int)) × Unit)) : Option Unit := (b_check_fronts aa).bind (Oc.outU)
theorem ok_check_fronts (T : Txt K mg c) {f : Addr} {fd : FuncData} (F : Fun K "check_fronts" "check_fronts" s_check_fronts f fd) : FnOk P w K mg base CX0 1 f fd ["rows"] (spM K c (δ := ((List (List Int)) × Unit)) (ρ := Unit) r_check_fronts) := by
  obtain ⟨_, c_MOST_FRONTS⟩ := T.c_MOST_FRONTS
  refine fn_bodyU (m := b_check_fronts) (Γn := fun _ => ([.no, .no, .no] : List Bd)) (Γl := noS) F sc_check_fronts (fun _ => rfl) (by decide) ?_
  intro cdv A outer s H E aa hr
  exact (sx_set (i := 1) sc_check_fronts.nd rfl (loc_of V_check_fronts (i := 1) rfl) ex_int (fun total_1 => (sx_seq (Γs := fun (s5 : Int) => ([.fr (aa.1 : (List (List Int))), .fr (s5 : Int), .no] : List Bd)) (s1_for (Γs := fun (s2 : Int) => ([.fr (aa.1 : (List (List Int))), .fr (s2 : Int), .no] : List Bd)) PassesOwn.never rfl (ei_list (ex_var (i := 0) rfl (vis_of V_check_fronts (i := 0) rfl) rfl)) (pg_name (i := 2) sc_check_fronts.nd rfl (loc_of V_check_fronts (i := 2) rfl)) (tgs_name (α := (List Int))) (Weak.s (Weak.s (Weak.s Weak.nil))) (fun x3 s2 => (sx_set (i := 1) sc_check_fronts.nd rfl (loc_of V_check_fronts (i := 1) rfl) (ex_op op_mul o2_mul (ex_var (i := 1) rfl (vis_of V_check_fronts (i := 1) rfl) rfl) (ex_op op_add o2_add (ex_B call_len_seq (cal_lenL (α := Int)) (by rfl) T.b_len bt_len (ea_cons (ex_var (i := 2) rfl (vis_of V_check_fronts (i := 2) rfl) rfl) ea_nil)) ex_int)) (fun total_4 => (sx_nil (Weak.s (Weak.s (Weak.d Weak.nil)))))))) (fun s5 => (sx_ifR (et_cmp op_gt o2_gt (ex_var (i := 1) rfl (vis_of V_check_fronts (i := 1) rfl) rfl) (ex_globI (by rfl) c_MOST_FRONTS) (nomark _)) sx_never (sx_nil (Weak.d (Weak.d (Weak.s Weak.nil)))))))))
theorem m_check_fronts (T : Txt K mg c) : FnM P w K mg base c "check_fronts" 1 (δ := ((List (List Int)) × Unit)) (ρ := Unit) r_check_fronts := by
  obtain ⟨f, fd, F, hg, hB⟩ := T.d_check_fronts
  exact ⟨f, fd, ["rows"], ok_check_fronts T F, hg, F.kp, hB⟩
/-! ### zeros -/
abbrev N_zeros : List Str := ["rows", "row"]
theorem sc_zeros : FnScope N_zeros ["rows"] (defScope s_zeros) := ⟨rfl, rfl, rfl, by decide +kernel, rfl, by decide +kernel, by decide +kernel⟩
theorem V_zeros : locsB (defScope s_zeros) ["rows"] = true := by decide +kernel
def b_zeros (aa : ((List (List Int)) × Unit)) : Option (Oc Empty Empty (Tup Int)) := (Option.bind (Option.bind (Option.bind (Option.bind (some aa.1) (lcM (fun (x1 : (List Int)) => (some true)) (fun (x1 : (List Int)) => (some (0 : Int))))) fun (x : (List Int)) => Option.bind (some ()) fun (r : Unit) => some (x, r)) (fun x : ((List Int) × Unit) => some (PySem.W.Tup.mk x.1))) fun (r : (Tup Int)) => some (Oc.rt r))
def r_zeros (aa : ((List (List Int)) × Unit)) : Option (Tup Int) := (b_zeros aa).bind (Oc.out)
theorem ok_zeros (T : Txt K mg c) {f : Addr} {fd : FuncData} (F : Fun K "zeros" "zeros" s_zeros f fd) : FnOk P w K mg base CX0 1 f fd ["rows"] (spM K c (δ := ((List (List Int)) × Unit)) (ρ := (Tup Int)) r_zeros) := by
  refine fn_body (m := b_zeros) (Γn := noS) (Γl := noS) F sc_zeros (fun _ => rfl) (by decide) ?_
  intro cdv A outer s H E aa hr
  exact (sx_ret (ex_Ty call_tuple_of (cal_tupL (α := Int)) (by rfl) T.b_tuple bt_tuple (ea_cons (EO.ex (eo_lc rfl sc_zeros.nd (ei_list (ex_var (i := 0) rfl (vis_of V_zeros (i := 0) rfl) rfl)) (blkOk_by (own := [("row", 1)]) (N := N_zeros) (sc := (defScope s_zeros)) (by decide +kernel)) (fun _ _ _ _ _ => pg_name (i := 1) sc_zeros.nd rfl (by first | exact Or.inl rfl | exact Or.inr rfl)) (tgs_name (α := (List Int))) (fun _ _ _ _ _ x1 => ets_nil) (fun _ _ _ _ _ x1 => ex_int))) ea_nil)))
theorem m_zeros (T : Txt K mg c) : FnM P w K mg base c "zeros" 1 (δ := ((List (List Int)) × Unit)) (ρ := (Tup Int)) r_zeros := by
  obtain ⟨f, fd, F, hg, hB⟩ := T.d_zeros
  exact ⟨f, fd, ["rows"], ok_zeros T F, hg, F.kp, hB⟩
/-! ### steps -/
abbrev N_steps : List Str := ["rows", "front", "moved", "k", "row", "symbol"]
theorem sc_steps : FnScope N_steps ["rows", "front"] (defScope s_steps) := ⟨rfl, rfl, rfl, by decide +kernel, rfl, by decide +kernel, by decide +kernel⟩
theorem V_steps : locsB (defScope s_steps) ["rows", "front", "moved", "k", "row", "symbol"] = true := by decide +kernel
def b_steps (aa : ((List (List Int)) × (Tup Int) × Unit)) : Option (Oc Empty Empty (List (Int × (Tup Int)))) := (Option.bind (some (DL.mk [] : (DL Int Int))) fun (moved_1 : (DL Int Int)) => (Option.bind (Option.bind (Option.bind (some aa.1) fun (xs : (List (List Int))) => some (enumI xs)) fun (xs : List (Int × (List Int))) => forM (S := (DL Int Int)) (L := Empty) (ρ := (List (Int × (Tup Int)))) (fun (x3 : (Int × (List Int))) (s2 : (DL Int Int)) => (Option.bind (Option.bind (Option.bind (some aa.2.1) fun (xs : (Tup Int)) => Option.bind (some x3.1) fun (i : Int) => atI xs.items i) fun (x : Int) => Option.bind (Option.bind (Option.bind (some x3.2) fun (x : (List Int)) => Option.bind (some ()) fun (r : Unit) => some (x, r)) (fun x : ((List Int) × Unit) => some (x.1.length : Int))) fun (y : Int) => some (decide (x < y))) fun (q : Bool) => if q = true then (Option.bind (Option.bind (some x3.2) fun (xs : (List Int)) => Option.bind (Option.bind (some aa.2.1) fun (xs : (Tup Int)) => Option.bind (some x3.1) fun (i : Int) => atI xs.items i) fun (i : Int) => atI xs i) fun (symbol_4 : Int) => (Option.bind (Option.bind (Option.bind (some symbol_4) fun (k : Int) => Option.bind (some s2) fun (d : (DL Int Int)) => some (Dic.get (α := (List Int)) d k).isNone) fun (q : Bool) => if q = true then (Option.bind (Option.bind (Option.bind (some aa.2.1) fun (x : (Tup Int)) => Option.bind (some ()) fun (r : Unit) => some (x, r)) (fun x : ((Tup Int) × Unit) => some x.1.items)) fun (y : (List Int)) => Option.bind (some symbol_4) fun (j : Int) => Option.bind (dlputM s2 j y) fun (moved_5 : (DL Int Int)) => (some (Oc.nx moved_5))) else (some (Oc.nx s2))) (Oc.seq fun (s6 : (DL Int Int)) => (Option.bind (Option.bind (Option.bind (some aa.2.1) fun (xs : (Tup Int)) => Option.bind (some x3.1) fun (i : Int) => atI xs.items i) fun (x : Int) => Option.bind (some (1 : Int)) fun (y : Int) => some (x + y)) fun (y : Int) => Option.bind (some symbol_4) fun (q : Int) => Option.bind (some x3.1) fun (j : Int) => Option.bind (dlsetM s6 q j y) fun (moved_7 : (DL Int Int)) => (some (Oc.nx moved_7)))))) else (some (Oc.nx s2)))) xs moved_1) (Oc.seq fun (s8 : (DL Int Int)) => (Option.bind (Option.bind (Option.bind (Option.bind (Option.bind (some s8) fun (d : (DL Int Int)) => some (DK.mk d.kvs : (DK Int (List Int)))) fun (x : (DK Int (List Int))) => Option.bind (some ()) fun (r : Unit) => some (x, r)) (fun x : ((DK Int (List Int)) × Unit) => sortK x.1.kvs)) (lcM (fun (x9 : Int) => (some true)) (fun (x9 : Int) => (Option.bind (some x9) fun (x : Int) => Option.bind (Option.bind (Option.bind (Option.bind (some s8) fun (d : (DL Int Int)) => Option.bind (some x9) fun (k : Int) => Dic.get (α := (List Int)) d k) fun (x : (List Int)) => Option.bind (some ()) fun (r : Unit) => some (x, r)) (fun x : ((List Int) × Unit) => some (PySem.W.Tup.mk x.1))) fun (y : (Tup Int)) => some (x, y))))) fun (r : (List (Int × (Tup Int)))) => some (Oc.rt r)))))
def r_steps (aa : ((List (List Int)) × (Tup Int) × Unit)) : Option (List (Int × (Tup Int))) := (b_steps aa).bind (Oc.out)
theorem ok_steps (T : Txt K mg c) {f : Addr} {fd : FuncData} (F : Fun K "steps" "steps" s_steps f fd) : FnOk P w K mg base CX0 1 f fd ["rows", "front"] (spM K c (δ := ((List (List Int)) × (Tup Int) × Unit)) (ρ := (List (Int × (Tup Int)))) r_steps) := by
  refine fn_body (m := b_steps) (Γn := noS) (Γl := noS) F sc_steps (fun _ => rfl) (by decide) ?_
  intro cdv A outer s H E aa hr
  exact (sx_setO (i := 2) sc_steps.nd rfl (loc_of V_steps (i := 2) rfl) eo_dnewL (fun moved_1 => (sx_seq (Γs := fun (s8 : (DL Int Int)) => ([.fr (aa.1 : (List (List Int))), .fr (aa.2.1 : (Tup Int)), .ow (s8 : (DL Int Int)), .no, .no, .no] : List Bd)) (s1_for (Γs := fun (s2 : (DL Int Int)) => ([.fr (aa.1 : (List (List Int))), .fr (aa.2.1 : (Tup Int)), .ow (s2 : (DL Int Int)), .no, .no, .no] : List Bd)) PassesOwn.never rfl (ei_enum (by rfl) T.b_enumerate (ex_var (i := 0) rfl (vis_of V_steps (i := 0) rfl) rfl)) (pg_two (i := 3) (j := 4) rfl sc_steps.nd rfl (loc_of V_steps (i := 3) rfl) rfl (loc_of V_steps (i := 4) rfl)) (tgs_pair (α := Int) (β := (List Int)) (by decide)) (Weak.s (Weak.s (Weak.s (Weak.s (Weak.s (Weak.s Weak.nil)))))) (fun x3 s2 => (sx_ifE (et_cmp op_lt o2_lt (ex_ix ix_tup o2_ixU (ex_var (i := 1) rfl (vis_of V_steps (i := 1) rfl) rfl) (ex_var (i := 3) rfl (vis_of V_steps (i := 3) rfl) rfl)) (ex_B call_len_seq (cal_lenL (α := Int)) (by rfl) T.b_len bt_len (ea_cons (ex_var (i := 4) rfl (vis_of V_steps (i := 4) rfl) rfl) ea_nil)) (nomark _)) (sx_set (i := 5) sc_steps.nd rfl (loc_of V_steps (i := 5) rfl) (ex_ix ix_list o2_ixL (ex_var (i := 4) rfl (vis_of V_steps (i := 4) rfl) rfl) (ex_ix ix_tup o2_ixU (ex_var (i := 1) rfl (vis_of V_steps (i := 1) rfl) rfl) (ex_var (i := 3) rfl (vis_of V_steps (i := 3) rfl) rfl))) (fun symbol_4 => (sx_seq (Γs := fun (s6 : (DL Int Int)) => ([.fr (aa.1 : (List (List Int))), .fr (aa.2.1 : (Tup Int)), .ow (s6 : (DL Int Int)), .fr (x3.1 : Int), .fr (x3.2 : (List Int)), .fr (symbol_4 : Int)] : List Bd)) (s1_if (et_thaw (i := 2) rfl (et_dnin (List Int) (hu_le hr (n := 1) (by decide)) (ex_var (i := 5) rfl (vis_of V_steps (i := 5) rfl) rfl) (ex_var (i := 2) rfl (vis_of V_steps (i := 2) rfl) rfl))) (sx_dlput' (i := 2) (hu_le hr (n := 1) (by decide)) rfl (vis_of V_steps (i := 2) rfl) rfl (eo_Ty call_list_of (calO_listU (α := Int)) (by rfl) T.b_list bt_list (ea_cons (ex_var (i := 1) rfl (vis_of V_steps (i := 1) rfl) rfl) ea_nil)) (ex_var (i := 5) rfl (vis_of V_steps (i := 5) rfl) rfl) (fun moved_5 => (sx_nil (Weak.s (Weak.s (Weak.s (Weak.s (Weak.s (Weak.s Weak.nil))))))))) (sx_nil (Weak.s (Weak.s (Weak.s (Weak.s (Weak.s (Weak.s Weak.nil)))))))) (fun s6 => (sx_dlset' (i := 2) rfl (ex_op op_add o2_add (ex_ix ix_tup o2_ixU (ex_var (i := 1) rfl (vis_of V_steps (i := 1) rfl) rfl) (ex_var (i := 3) rfl (vis_of V_steps (i := 3) rfl) rfl)) ex_int) (ex_var (i := 5) rfl (vis_of V_steps (i := 5) rfl) rfl) (ex_var (i := 3) rfl (vis_of V_steps (i := 3) rfl) rfl) (fun moved_7 => (sx_nil (Weak.s (Weak.s (Weak.s (Weak.d (Weak.d (Weak.d Weak.nil)))))))) (ps_asg toE (pg_sub (pe_dget (hu_le hr (n := 1) (by decide)) (pe_var rfl (vis_of V_steps (i := 2) rfl)) toE (fun _ _ => rfl)) toE set_list))))))) (sx_nil (Weak.s (Weak.s (Weak.s (Weak.d (Weak.d (Weak.s Weak.nil)))))))))) (fun s8 => (sx_freeze (i := 2) rfl (sx_ret (EO.ex (eo_lc rfl sc_steps.nd (ei_list (EO.ex (eo_B (call_sortedDI rfl) (calO_sortDI (α := (List Int))) (by rfl) T.b_sorted bt_sorted (ea_cons (ex_ofDL (ex_var (i := 2) rfl (vis_of V_steps (i := 2) rfl) rfl)) ea_nil)))) (blkOk_by (own := [("symbol", 5)]) (N := N_steps) (sc := (defScope s_steps)) (by decide +kernel)) (fun _ _ _ _ _ => pg_name (i := 5) sc_steps.nd rfl (by first | exact Or.inl rfl | exact Or.inr rfl)) (tgs_name (α := Int)) (fun _ _ _ _ _ x9 => ets_nil) (fun _ _ _ _ _ x9 => (ex_pair (ex_var (i := 5) rfl (by first | exact Or.inl rfl | exact Or.inr (Or.inl rfl) | exact Or.inr (Or.inr rfl)) rfl) (ex_Ty call_tuple_of (cal_tupL (α := Int)) (by rfl) T.b_tuple bt_tuple (ea_cons (ex_dget (α := (List Int)) (hu_le hr (n := 1) (by decide)) (ex_var (i := 2) rfl (by first | exact Or.inl rfl | exact Or.inr (Or.inl rfl) | exact Or.inr (Or.inr rfl)) rfl) (ex_var (i := 5) rfl (by first | exact Or.inl rfl | exact Or.inr (Or.inl rfl) | exact Or.inr (Or.inr rfl)) rfl)) ea_nil))))))))))))
theorem m_steps (T : Txt K mg c) : FnM P w K mg base c "steps" 1 (δ := ((List (List Int)) × (Tup Int) × Unit)) (ρ := (List (Int × (Tup Int)))) r_steps := by
  obtain ⟨f, fd, F, hg, hB⟩ := T.d_steps
  exact ⟨f, fd, ["rows", "front"], ok_steps T F, hg, F.kp, hB⟩
/-! ### reachable -/
abbrev N_reachable : List Str := ["rows", "found", "known", "place", "symbol", "behind"]
theorem sc_reachable : FnScope N_reachable ["rows"] (defScope s_reachable) := ⟨rfl, rfl, rfl, by decide +kernel, rfl, by decide +kernel, by decide +kernel⟩
theorem V_reachable : locsB (defScope s_reachable) ["rows", "found", "known", "place", "symbol", "behind"] = true := by decide +kernel
def b_reachable (aa : ((List (List Int)) × Unit)) : Option (Oc Empty Empty (List (Tup Int))) := (Option.bind (Option.bind (Option.bind (Option.bind (some aa.1) fun (x : (List (List Int))) => Option.bind (some ()) fun (r : Unit) => some (x, r)) r_zeros) fun (x : (Tup Int)) => Option.bind (some ([] : List (Tup Int))) fun (r : List (Tup Int)) => some (x :: r)) fun (found_1 : (List (Tup Int))) => (Option.bind (Option.bind (Option.bind (some (0 : Int)) fun (j : Int) => atI found_1 j) fun (k : (Tup Int)) => Option.bind (some true) fun (v : Bool) => some (DT.mk [(k, v)] : (DT (Tup Int) Bool))) fun (known_2 : (DT (Tup Int) Bool)) => (Option.bind (some (0 : Int)) fun (place_3 : Int) => (Option.bind (whileM (S := ((DT (Tup Int) Bool) × (List (Tup Int)) × Int)) (L := Empty) (ρ := (List (Tup Int))) (fun (s4 : ((DT (Tup Int) Bool) × (List (Tup Int)) × Int)) => (Option.bind (some s4.2.2) fun (x : Int) => Option.bind (Option.bind (Option.bind (some s4.2.1) fun (x : (List (Tup Int))) => Option.bind (some ()) fun (r : Unit) => some (x, r)) (fun x : ((List (Tup Int)) × Unit) => some (x.1.length : Int))) fun (y : Int) => some (decide (x < y)))) (fun (s4 : ((DT (Tup Int) Bool) × (List (Tup Int)) × Int)) => (Option.bind (Option.bind (Option.bind (Option.bind (some aa.1) fun (x : (List (List Int))) => Option.bind (Option.bind (Option.bind (some s4.2.2) fun (j : Int) => atI s4.2.1 j) fun (x : (Tup Int)) => Option.bind (some ()) fun (r : Unit) => some (x, r)) fun (r : ((Tup Int) × Unit)) => some (x, r)) r_steps) fun (xs : List (Int × (Tup Int))) => forM (S := ((DT (Tup Int) Bool) × (List (Tup Int)))) (L := ((DT (Tup Int) Bool) × (List (Tup Int)) × Int)) (ρ := (List (Tup Int))) (fun (x6 : (Int × (Tup Int))) (s5 : ((DT (Tup Int) Bool) × (List (Tup Int)))) => (Option.bind (Option.bind (some x6.2) fun (k : (Tup Int)) => Option.bind (some s5.1) fun (d : (DT (Tup Int) Bool)) => some (Dic.get (α := Bool) d k).isNone) fun (q : Bool) => if q = true then (Option.bind (some true) fun (y : Bool) => Option.bind (some x6.2) fun (j : (Tup Int)) => Option.bind (dputTM s5.1 j y) fun (known_7 : (DT (Tup Int) Bool)) => (Option.bind (some x6.2) fun (y : (Tup Int)) => Option.bind (appM s5.2 y) fun (found_8 : (List (Tup Int))) => (some (Oc.nx (known_7, found_8))))) else (some (Oc.nx (s5.1, s5.2))))) xs (s4.1, s4.2.1)) (Oc.seq fun (s9 : ((DT (Tup Int) Bool) × (List (Tup Int)))) => (Option.bind (some (1 : Int)) fun (z : Int) => Option.bind (some (s4.2.2 + z)) fun (place_10 : Int) => (some (Oc.nx (s9.1, s9.2, place_10))))))) 1000000 (known_2, found_1, place_3)) (Oc.seq fun (s11 : ((DT (Tup Int) Bool) × (List (Tup Int)) × Int)) => (Option.bind (some s11.2.1) fun (r : (List (Tup Int))) => some (Oc.rt r)))))))
def r_reachable (aa : ((List (List Int)) × Unit)) : Option (List (Tup Int)) := (b_reachable aa).bind (Oc.out)
theorem ok_reachable (T : Txt K mg c) {f : Addr} {fd : FuncData} (F : Fun K "reachable" "reachable" s_reachable f fd) : FnOk P w K mg base CX0 2 f fd ["rows"] (spM K c (δ := ((List (List Int)) × Unit)) (ρ := (List (Tup Int))) r_reachable) := by
  refine fn_body (m := b_reachable) (Γn := noS) (Γl := noS) F sc_reachable (fun _ => rfl) (by decide) ?_
  intro cdv A outer s H E aa hr
  exact (sx_setO (i := 1) sc_reachable.nd rfl (loc_of V_reachable (i := 1) rfl) (eo_lst (el_cons (ex_call (m_zeros T) hr (by decide) (by rfl) (ea_cons (ex_var (i := 0) rfl (vis_of V_reachable (i := 0) rfl) rfl) ea_nil)) el_nil) (el_le (el_ns el_n0) (by decide))) (fun found_1 => (sx_setO (i := 2) sc_reachable.nd rfl (loc_of V_reachable (i := 2) rfl) (eo_dispT (hu_le hr (n := 0) (by decide)) (ex_ixO (i := 1) rfl (vis_of V_reachable (i := 1) rfl) rfl ex_int) ex_bl) (fun known_2 => (sx_set (i := 3) sc_reachable.nd rfl (loc_of V_reachable (i := 3) rfl) ex_int (fun place_3 => (sx_seq (Γs := fun (s11 : ((DT (Tup Int) Bool) × (List (Tup Int)) × Int)) => ([.fr (aa.1 : (List (List Int))), .ow (s11.2.1 : (List (Tup Int))), .ow (s11.1 : (DT (Tup Int) Bool)), .fr (s11.2.2 : Int), .no, .no] : List Bd)) (s1_while (Γs := fun (s4 : ((DT (Tup Int) Bool) × (List (Tup Int)) × Int)) => ([.fr (aa.1 : (List (List Int))), .ow (s4.2.1 : (List (Tup Int))), .ow (s4.1 : (DT (Tup Int) Bool)), .fr (s4.2.2 : Int), .no, .no] : List Bd)) 1000000 PassesOwn.never (Weak.s (Weak.s (Weak.s (Weak.s (Weak.s (Weak.s Weak.nil)))))) (fun s4 => (et_thaw (i := 1) rfl (et_cmp op_lt o2_lt (ex_var (i := 3) rfl (vis_of V_reachable (i := 3) rfl) rfl) (ex_B call_len_seq (cal_lenL (α := (Tup Int))) (by rfl) T.b_len bt_len (ea_cons (ex_var (i := 1) rfl (vis_of V_reachable (i := 1) rfl) rfl) ea_nil)) (nomark _)))) (fun s4 => (sx_seq (Γs := fun (s9 : ((DT (Tup Int) Bool) × (List (Tup Int)))) => ([.fr (aa.1 : (List (List Int))), .ow (s9.2 : (List (Tup Int))), .ow (s9.1 : (DT (Tup Int) Bool)), .fr (s4.2.2 : Int), .no, .no] : List Bd)) (s1_for (Γs := fun (s5 : ((DT (Tup Int) Bool) × (List (Tup Int)))) => ([.fr (aa.1 : (List (List Int))), .ow (s5.2 : (List (Tup Int))), .ow (s5.1 : (DT (Tup Int) Bool)), .fr (s4.2.2 : Int), .no, .no] : List Bd)) PassesOwn.never rfl (ei_list (ex_call (m_steps T) hr (by decide) (by rfl) (ea_cons (ex_var (i := 0) rfl (vis_of V_reachable (i := 0) rfl) rfl) (ea_cons (ex_ixO (i := 1) rfl (vis_of V_reachable (i := 1) rfl) rfl (ex_var (i := 3) rfl (vis_of V_reachable (i := 3) rfl) rfl)) ea_nil)))) (pg_two (i := 4) (j := 5) rfl sc_reachable.nd rfl (loc_of V_reachable (i := 4) rfl) rfl (loc_of V_reachable (i := 5) rfl)) (tgs_pair (α := Int) (β := (Tup Int)) (by decide)) (Weak.s (Weak.s (Weak.s (Weak.s (Weak.s (Weak.s Weak.nil)))))) (fun x6 s5 => (sx_ifE (et_thaw (i := 2) rfl (et_dnin Bool (hu_le hr (n := 1) (by decide)) (ex_var (i := 5) rfl (vis_of V_reachable (i := 5) rfl) rfl) (ex_var (i := 2) rfl (vis_of V_reachable (i := 2) rfl) rfl))) (sx_dputT' (i := 2) (hu_le hr (n := 1) (by decide)) rfl (vis_of V_reachable (i := 2) rfl) rfl ex_bl (ex_var (i := 5) rfl (vis_of V_reachable (i := 5) rfl) rfl) (fun known_7 => (sx_append (i := 1) rfl (vis_of V_reachable (i := 1) rfl) rfl (ex_var (i := 5) rfl (vis_of V_reachable (i := 5) rfl) rfl) (fun found_8 => (sx_nil (Weak.s (Weak.s (Weak.s (Weak.s (Weak.d (Weak.d Weak.nil)))))))) (pe_bm PySem.F.plainAttrs_list PySem.F.slot_list_append PySem.F.type_list_append mt_append (pe_var rfl (vis_of V_reachable (i := 1) rfl)) toA)))) (sx_nil (Weak.s (Weak.s (Weak.s (Weak.s (Weak.d (Weak.d Weak.nil)))))))))) (fun s9 => (sx_aug' (f := fun a b => a + b) (i := 3) ip_add sc_reachable.nd rfl (loc_of V_reachable (i := 3) rfl) rfl ex_int (fun place_10 => (sx_nil (Weak.s (Weak.s (Weak.s (Weak.s (Weak.s (Weak.s Weak.nil))))))))))))) (fun s11 => (sx_freeze (i := 1) rfl (sx_freeze (i := 2) rfl (sx_ret (ex_var (i := 1) rfl (vis_of V_reachable (i := 1) rfl) rfl))))))))))))
theorem m_reachable (T : Txt K mg c) : FnM P w K mg base c "reachable" 2 (δ := ((List (List Int)) × Unit)) (ρ := (List (Tup Int))) r_reachable := by
  obtain ⟨f, fd, F, hg, hB⟩ := T.d_reachable
  exact ⟨f, fd, ["rows"], ok_reachable T F, hg, F.kp, hB⟩
/-! ### height -/
abbrev N_height : List Str := ["prices", "rows", "front", "heights", "costs", "symbol", "behind"]
theorem sc_height : FnScope N_height ["prices", "rows", "front", "heights"] (defScope s_height) := ⟨rfl, rfl, rfl, by decide +kernel, rfl, by decide +kernel, by decide +kernel⟩
theorem V_height : locsB (defScope s_height) ["prices", "rows", "front", "heights", "costs"] = true := by decide +kernel
theorem W_height : loc1B (defScope s_height) ["costs"] = true := by decide +kernel
def b_height (aa : ((List Int) × (List (List Int)) × (Tup Int) × (DT (Tup Int) Int) × Unit)) : Option (Oc Empty Empty Int) := (Option.bind (Option.bind (Option.bind (Option.bind (some aa.2.1) fun (x : (List (List Int))) => Option.bind (Option.bind (some aa.2.2.1) fun (x : (Tup Int)) => Option.bind (some ()) fun (r : Unit) => some (x, r)) fun (r : ((Tup Int) × Unit)) => some (x, r)) r_steps) (lcM (fun (x2 : (Int × (Tup Int))) => (some true)) (fun (x2 : (Int × (Tup Int))) => (Option.bind (Option.bind (some aa.1) fun (xs : (List Int)) => Option.bind (some x2.1) fun (i : Int) => atI xs i) fun (x : Int) => Option.bind (Option.bind (some aa.2.2.2.1) fun (d : (DT (Tup Int) Int)) => Option.bind (some x2.2) fun (k : (Tup Int)) => Dic.get (α := Int) d k) fun (y : Int) => some (x + y))))) fun (costs_1 : (List Int)) => (Option.bind (Option.bind (some costs_1) fun (xs : List Int) => some (xs.min?.getD 0)) fun (r : Int) => some (Oc.rt r)))
def r_height (aa : ((List Int) × (List (List Int)) × (Tup Int) × (DT (Tup Int) Int) × Unit)) : Option Int := (b_height aa).bind (Oc.out)
theorem ok_height (T : Txt K mg c) {f : Addr} {fd : FuncData} (F : Fun K "height" "height" s_height f fd) : FnOk P w K mg base CX0 2 f fd ["prices", "rows", "front", "heights"] (spM K c (δ := ((List Int) × (List (List Int)) × (Tup Int) × (DT (Tup Int) Int) × Unit)) (ρ := Int) r_height) := by
  refine fn_body (m := b_height) (Γn := noS) (Γl := noS) F sc_height (fun _ => rfl) (by decide) ?_
  intro cdv A outer s H E aa hr
  exact (sx_setLc rfl sc_height.nd (ei_list (ex_call (m_steps T) hr (by decide) (by rfl) (ea_cons (ex_var (i := 1) rfl (vis_of V_height (i := 1) rfl) rfl) (ea_cons (ex_var (i := 2) rfl (vis_of V_height (i := 2) rfl) rfl) ea_nil)))) (blkOk_by (own := [("symbol", 5), ("behind", 6)]) (N := N_height) (sc := (defScope s_height)) (by decide +kernel)) (fun _ _ _ _ _ => pg_two (i := 5) (j := 6) rfl sc_height.nd rfl (by first | exact Or.inl rfl | exact Or.inr rfl) rfl (by first | exact Or.inl rfl | exact Or.inr rfl)) (tgs_pair (α := Int) (β := (Tup Int)) (by decide)) (i := 4) rfl (by rfl) (sw_true rfl rfl rfl (by decide +kernel)) (fun _ _ _ _ _ x2 => ets_nil) (fun _ _ _ _ _ x2 => (ex_op op_add o2_add (ex_ix ix_list o2_ixL (ex_var (i := 0) rfl (by first | exact Or.inl rfl | exact Or.inr (Or.inl rfl) | exact Or.inr (Or.inr rfl)) rfl) (ex_var (i := 5) rfl (by first | exact Or.inl rfl | exact Or.inr (Or.inl rfl) | exact Or.inr (Or.inr rfl)) rfl)) (ex_dget (α := Int) (hu_le hr (n := 1) (by decide)) (ex_var (i := 3) rfl (by first | exact Or.inl rfl | exact Or.inr (Or.inl rfl) | exact Or.inr (Or.inr rfl)) rfl) (ex_var (i := 6) rfl (by first | exact Or.inl rfl | exact Or.inr (Or.inl rfl) | exact Or.inr (Or.inr rfl)) rfl)))) (show 4 < 7 from by decide) (fun costs_1 => (sx_ret (ex_minD rfl (hu_le hr (n := 1) (by decide)) (by rfl) T.b_min (ex_var (i := 4) rfl (vis_of V_height (i := 4) rfl) rfl)))))
theorem m_height (T : Txt K mg c) : FnM P w K mg base c "height" 2 (δ := ((List Int) × (List (List Int)) × (Tup Int) × (DT (Tup Int) Int) × Unit)) (ρ := Int) r_height := by
  obtain ⟨f, fd, F, hg, hB⟩ := T.d_height
  exact ⟨f, fd, ["prices", "rows", "front", "heights"], ok_height T F, hg, F.kp, hB⟩
/-! ### front_heights -/
abbrev N_front_heights : List Str := ["prices", "rows", "heights", "front"]
theorem sc_front_heights : FnScope N_front_heights ["prices", "rows"] (defScope s_front_heights) := ⟨rfl, rfl, rfl, by decide +kernel, rfl, by decide +kernel, by decide +kernel⟩
theorem V_front_heights : locsB (defScope s_front_heights) ["prices", "rows", "heights", "front"] = true := by decide +kernel
def b_front_heights (aa : ((List Int) × (List (List Int)) × Unit)) : Option (Oc Empty Empty (DT (Tup Int) Int)) := (Option.bind (Option.bind (Option.bind (some aa.2.1) fun (x : (List (List Int))) => Option.bind (some ()) fun (r : Unit) => some (x, r)) r_check_fronts) fun (_ : Unit) => (Option.bind (some (DT.mk [] : (DT (Tup Int) Int))) fun (heights_1 : (DT (Tup Int) Int)) => (Option.bind (Option.bind (Option.bind (Option.bind (Option.bind (some aa.2.1) fun (x : (List (List Int))) => Option.bind (some ()) fun (r : Unit) => some (x, r)) r_reachable) fun (xs : List (Tup Int)) => some (sortSum xs)) fun (xs : List (Tup Int)) => forM (S := (DT (Tup Int) Int)) (L := Empty) (ρ := (DT (Tup Int) Int)) (fun (x3 : (Tup Int)) (s2 : (DT (Tup Int) Int)) => (Option.bind (Option.bind (Option.bind (some aa.1) fun (x : (List Int)) => Option.bind (Option.bind (some aa.2.1) fun (x : (List (List Int))) => Option.bind (Option.bind (some x3) fun (x : (Tup Int)) => Option.bind (Option.bind (some s2) fun (x : (DT (Tup Int) Int)) => Option.bind (some ()) fun (r : Unit) => some (x, r)) fun (r : ((DT (Tup Int) Int) × Unit)) => some (x, r)) fun (r : ((Tup Int) × ((DT (Tup Int) Int) × Unit))) => some (x, r)) fun (r : ((List (List Int)) × ((Tup Int) × ((DT (Tup Int) Int) × Unit)))) => some (x, r)) r_height) fun (y : Int) => Option.bind (some x3) fun (j : (Tup Int)) => Option.bind (dputTM s2 j y) fun (heights_4 : (DT (Tup Int) Int)) => (some (Oc.nx heights_4)))) xs heights_1) (Oc.seq fun (s5 : (DT (Tup Int) Int)) => (Option.bind (some s5) fun (r : (DT (Tup Int) Int)) => some (Oc.rt r))))))
def r_front_heights (aa : ((List Int) × (List (List Int)) × Unit)) : Option (DT (Tup Int) Int) := (b_front_heights aa).bind (Oc.out)
theorem ok_front_heights (T : Txt K mg c) {f : Addr} {fd : FuncData} (F : Fun K "front_heights" "front_heights" s_front_heights f fd) : FnOk P w K mg base CX0 3 f fd ["prices", "rows"] (spM K c (δ := ((List Int) × (List (List Int)) × Unit)) (ρ := (DT (Tup Int) Int)) r_front_heights) := by
  refine fn_body (m := b_front_heights) (Γn := noS) (Γl := noS) F sc_front_heights (fun _ => rfl) (by decide) ?_
  intro cdv A outer s H E aa hr
  exact (sx_expr (ex_call (m_check_fronts T) hr (by decide) (by rfl) (ea_cons (ex_var (i := 1) rfl (vis_of V_front_heights (i := 1) rfl) rfl) ea_nil)) (fun _ => (sx_setO (i := 2) sc_front_heights.nd rfl (loc_of V_front_heights (i := 2) rfl) eo_dnewT (fun heights_1 => (sx_seq (Γs := fun (s5 : (DT (Tup Int) Int)) => ([.fr (aa.1 : (List Int)), .fr (aa.2.1 : (List (List Int))), .ow (s5 : (DT (Tup Int) Int)), .no] : List Bd)) (s1_for (Γs := fun (s2 : (DT (Tup Int) Int)) => ([.fr (aa.1 : (List Int)), .fr (aa.2.1 : (List (List Int))), .ow (s2 : (DT (Tup Int) Int)), .no] : List Bd)) PassesOwn.never rfl (ei_list (EO.ex (eo_sortSum rfl (hu_le hr (n := 3) (by decide)) (by rfl) T.b_sorted (by rfl) T.b_sum (ex_call (m_reachable T) hr (by decide) (by rfl) (ea_cons (ex_var (i := 1) rfl (vis_of V_front_heights (i := 1) rfl) rfl) ea_nil))))) (pg_name (i := 3) sc_front_heights.nd rfl (loc_of V_front_heights (i := 3) rfl)) (tgs_name (α := (Tup Int))) (Weak.s (Weak.s (Weak.s (Weak.s Weak.nil)))) (fun x3 s2 => (sx_dputT' (i := 2) (hu_le hr (n := 1) (by decide)) rfl (vis_of V_front_heights (i := 2) rfl) rfl (ex_thaw (i := 2) rfl (ex_call (m_height T) hr (by decide) (by rfl) (ea_cons (ex_var (i := 0) rfl (vis_of V_front_heights (i := 0) rfl) rfl) (ea_cons (ex_var (i := 1) rfl (vis_of V_front_heights (i := 1) rfl) rfl) (ea_cons (ex_var (i := 3) rfl (vis_of V_front_heights (i := 3) rfl) rfl) (ea_cons (ex_var (i := 2) rfl (vis_of V_front_heights (i := 2) rfl) rfl) ea_nil)))))) (ex_var (i := 3) rfl (vis_of V_front_heights (i := 3) rfl) rfl) (fun heights_4 => (sx_nil (Weak.s (Weak.s (Weak.s (Weak.d Weak.nil))))))))) (fun s5 => (sx_freeze (i := 2) rfl (sx_ret (ex_var (i := 2) rfl (vis_of V_front_heights (i := 2) rfl) rfl)))))))))
theorem m_front_heights (T : Txt K mg c) : FnM P w K mg base c "front_heights" 3 (δ := ((List Int) × (List (List Int)) × Unit)) (ρ := (DT (Tup Int) Int)) r_front_heights := by
  obtain ⟨f, fd, F, hg, hB⟩ := T.d_front_heights
  exact ⟨f, fd, ["prices", "rows"], ok_front_heights T F, hg, F.kp, hB⟩
/-! ### least_row -/
abbrev N_least_row : List Str := ["prices", "rows", "heights", "front", "taken", "pairs", "good", "pair"]
theorem sc_least_row : FnScope N_least_row ["prices", "rows"] (defScope s_least_row) := ⟨rfl, rfl, rfl, by decide +kernel, rfl, by decide +kernel, by decide +kernel⟩
theorem V_least_row : locsB (defScope s_least_row) ["prices", "rows", "heights", "front", "taken", "pairs", "good"] = true := by decide +kernel
theorem W_least_row : loc1B (defScope s_least_row) ["good"] = true := by decide +kernel
def b_least_row (aa : ((List Int) × (List (List Int)) × Unit)) : Option (Oc Empty Empty (Int × (List Int))) := (Option.bind (Option.bind (Option.bind (some aa.1) fun (x : (List Int)) => Option.bind (Option.bind (some aa.2.1) fun (x : (List (List Int))) => Option.bind (some ()) fun (r : Unit) => some (x, r)) fun (r : ((List (List Int)) × Unit)) => some (x, r)) r_front_heights) fun (heights_1 : (DT (Tup Int) Int)) => (Option.bind (Option.bind (Option.bind (some aa.2.1) fun (x : (List (List Int))) => Option.bind (some ()) fun (r : Unit) => some (x, r)) r_zeros) fun (front_2 : (Tup Int)) => (Option.bind (some ([] : List Int)) fun (taken_3 : (List Int)) => (Option.bind (whileM (S := ((List Int) × (Tup Int))) (L := Empty) (ρ := (Int × (List Int))) (fun (s4 : ((List Int) × (Tup Int))) => (Option.bind (Option.bind (some heights_1) fun (d : (DT (Tup Int) Int)) => Option.bind (some s4.2) fun (k : (Tup Int)) => Dic.get (α := Int) d k) fun (x : Int) => Option.bind (some (0 : Int)) fun (y : Int) => some (decide (x > y)))) (fun (s4 : ((List Int) × (Tup Int))) => (Option.bind (Option.bind (Option.bind (some aa.2.1) fun (x : (List (List Int))) => Option.bind (Option.bind (some s4.2) fun (x : (Tup Int)) => Option.bind (some ()) fun (r : Unit) => some (x, r)) fun (r : ((Tup Int) × Unit)) => some (x, r)) r_steps) fun (pairs_5 : (List (Int × (Tup Int)))) => (Option.bind (Option.bind (some pairs_5) (lcM (fun (x7 : (Int × (Tup Int))) => (Option.bind (Option.bind (Option.bind (some aa.1) fun (xs : (List Int)) => Option.bind (Option.bind (some x7) fun (x : (Int × (Tup Int))) => some x.1) fun (i : Int) => atI xs i) fun (x : Int) => Option.bind (Option.bind (some heights_1) fun (d : (DT (Tup Int) Int)) => Option.bind (Option.bind (some x7) fun (x : (Int × (Tup Int))) => some x.2) fun (k : (Tup Int)) => Dic.get (α := Int) d k) fun (y : Int) => some (x + y)) fun (x : Int) => Option.bind (Option.bind (some heights_1) fun (d : (DT (Tup Int) Int)) => Option.bind (some s4.2) fun (k : (Tup Int)) => Dic.get (α := Int) d k) fun (y : Int) => some (decide (x = y)))) (fun (x7 : (Int × (Tup Int))) => (some x7)))) fun (good_6 : (List (Int × (Tup Int)))) => (Option.bind (Option.bind (Option.bind (some good_6) fun (xs : (List (Int × (Tup Int)))) => Option.bind (some (0 : Int)) fun (i : Int) => atI xs i) fun (x : (Int × (Tup Int))) => some x.1) fun (y : Int) => Option.bind (appM s4.1 y) fun (taken_8 : (List Int)) => (Option.bind (Option.bind (Option.bind (some good_6) fun (xs : (List (Int × (Tup Int)))) => Option.bind (some (0 : Int)) fun (i : Int) => atI xs i) fun (x : (Int × (Tup Int))) => some x.2) fun (front_9 : (Tup Int)) => (some (Oc.nx (taken_8, front_9)))))))) 1000000 (taken_3, front_2)) (Oc.seq fun (s10 : ((List Int) × (Tup Int))) => (Option.bind (Option.bind (Option.bind (some heights_1) fun (d : (DT (Tup Int) Int)) => Option.bind (Option.bind (Option.bind (some aa.2.1) fun (x : (List (List Int))) => Option.bind (some ()) fun (r : Unit) => some (x, r)) r_zeros) fun (k : (Tup Int)) => Dic.get (α := Int) d k) fun (x : Int) => Option.bind (some s10.1) fun (y : (List Int)) => some (x, y)) fun (r : (Int × (List Int))) => some (Oc.rt r)))))))
def r_least_row (aa : ((List Int) × (List (List Int)) × Unit)) : Option (Int × (List Int)) := (b_least_row aa).bind (Oc.out)
theorem ok_least_row (T : Txt K mg c) {f : Addr} {fd : FuncData} (F : Fun K "least_row" "least_row" s_least_row f fd) : FnOk P w K mg base CX0 4 f fd ["prices", "rows"] (spM K c (δ := ((List Int) × (List (List Int)) × Unit)) (ρ := (Int × (List Int))) r_least_row) := by
  refine fn_body (m := b_least_row) (Γn := noS) (Γl := noS) F sc_least_row (fun _ => rfl) (by decide) ?_
  intro cdv A outer s H E aa hr
  exact (sx_set (i := 2) sc_least_row.nd rfl (loc_of V_least_row (i := 2) rfl) (ex_call (m_front_heights T) hr (by decide) (by rfl) (ea_cons (ex_var (i := 0) rfl (vis_of V_least_row (i := 0) rfl) rfl) (ea_cons (ex_var (i := 1) rfl (vis_of V_least_row (i := 1) rfl) rfl) ea_nil))) (fun heights_1 => (sx_set (i := 3) sc_least_row.nd rfl (loc_of V_least_row (i := 3) rfl) (ex_call (m_zeros T) hr (by decide) (by rfl) (ea_cons (ex_var (i := 1) rfl (vis_of V_least_row (i := 1) rfl) rfl) ea_nil)) (fun front_2 => (sx_setO (i := 4) sc_least_row.nd rfl (loc_of V_least_row (i := 4) rfl) (eo_lst el_nil (el_le el_n0 (by decide))) (fun taken_3 => (sx_seq (Γs := fun (s10 : ((List Int) × (Tup Int))) => ([.fr (aa.1 : (List Int)), .fr (aa.2.1 : (List (List Int))), .fr (heights_1 : (DT (Tup Int) Int)), .fr (s10.2 : (Tup Int)), .ow (s10.1 : (List Int)), .no, .no, .no] : List Bd)) (s1_while (Γs := fun (s4 : ((List Int) × (Tup Int))) => ([.fr (aa.1 : (List Int)), .fr (aa.2.1 : (List (List Int))), .fr (heights_1 : (DT (Tup Int) Int)), .fr (s4.2 : (Tup Int)), .ow (s4.1 : (List Int)), .no, .no, .no] : List Bd)) 1000000 PassesOwn.never (Weak.s (Weak.s (Weak.s (Weak.s (Weak.s (Weak.s (Weak.s (Weak.s Weak.nil)))))))) (fun s4 => (et_cmp op_gt o2_gt (ex_dget (α := Int) (hu_le hr (n := 1) (by decide)) (ex_var (i := 2) rfl (vis_of V_least_row (i := 2) rfl) rfl) (ex_var (i := 3) rfl (vis_of V_least_row (i := 3) rfl) rfl)) ex_int (nomark _))) (fun s4 => (sx_set (i := 5) sc_least_row.nd rfl (loc_of V_least_row (i := 5) rfl) (ex_call (m_steps T) hr (by decide) (by rfl) (ea_cons (ex_var (i := 1) rfl (vis_of V_least_row (i := 1) rfl) rfl) (ea_cons (ex_var (i := 3) rfl (vis_of V_least_row (i := 3) rfl) rfl) ea_nil))) (fun pairs_5 => (sx_setLc rfl sc_least_row.nd (ei_list (ex_var (i := 5) rfl (vis_of V_least_row (i := 5) rfl) rfl)) (blkOk_by (own := [("pair", 7)]) (N := N_least_row) (sc := (defScope s_least_row)) (by decide +kernel)) (fun _ _ _ _ _ => pg_name (i := 7) sc_least_row.nd rfl (by first | exact Or.inl rfl | exact Or.inr rfl)) (tgs_name (α := (Int × (Tup Int)))) (i := 6) rfl (by rfl) (sw_true rfl rfl rfl (by decide +kernel)) (fun _ _ _ _ _ x7 => (ets_one (et_cmp op_eq o2_eq (ex_op op_add o2_add (ex_ix ix_list o2_ixL (ex_var (i := 0) rfl (by first | exact Or.inl rfl | exact Or.inr (Or.inl rfl) | exact Or.inr (Or.inr rfl)) rfl) (ex_fst (ex_var (i := 7) rfl (by first | exact Or.inl rfl | exact Or.inr (Or.inl rfl) | exact Or.inr (Or.inr rfl)) rfl))) (ex_dget (α := Int) (hu_le hr (n := 1) (by decide)) (ex_var (i := 2) rfl (by first | exact Or.inl rfl | exact Or.inr (Or.inl rfl) | exact Or.inr (Or.inr rfl)) rfl) (ex_snd (ex_var (i := 7) rfl (by first | exact Or.inl rfl | exact Or.inr (Or.inl rfl) | exact Or.inr (Or.inr rfl)) rfl)))) (ex_dget (α := Int) (hu_le hr (n := 1) (by decide)) (ex_var (i := 2) rfl (by first | exact Or.inl rfl | exact Or.inr (Or.inl rfl) | exact Or.inr (Or.inr rfl)) rfl) (ex_var (i := 3) rfl (by first | exact Or.inl rfl | exact Or.inr (Or.inl rfl) | exact Or.inr (Or.inr rfl)) rfl)) (nomark _)))) (fun _ _ _ _ _ x7 => (ex_var (i := 7) rfl (by first | exact Or.inl rfl | exact Or.inr (Or.inl rfl) | exact Or.inr (Or.inr rfl)) rfl)) (show 6 < 8 from by decide) (fun good_6 => (sx_append (i := 4) rfl (vis_of V_least_row (i := 4) rfl) rfl (ex_fst (ex_ix ix_list o2_ixL (ex_var (i := 6) rfl (vis_of V_least_row (i := 6) rfl) rfl) ex_int)) (fun taken_8 => (sx_set (i := 3) sc_least_row.nd rfl (loc_of V_least_row (i := 3) rfl) (ex_snd (ex_ix ix_list o2_ixL (ex_var (i := 6) rfl (vis_of V_least_row (i := 6) rfl) rfl) ex_int)) (fun front_9 => (sx_nil (Weak.s (Weak.s (Weak.s (Weak.s (Weak.s (Weak.d (Weak.d (Weak.s Weak.nil)))))))))))) (pe_bm PySem.F.plainAttrs_list PySem.F.slot_list_append PySem.F.type_list_append mt_append (pe_var rfl (vis_of V_least_row (i := 4) rfl)) toA)))))))) (fun s10 => (sx_freeze (i := 4) rfl (sx_ret (ex_pair (ex_dget (α := Int) (hu_le hr (n := 1) (by decide)) (ex_var (i := 2) rfl (vis_of V_least_row (i := 2) rfl) rfl) (ex_call (m_zeros T) hr (by decide) (by rfl) (ea_cons (ex_var (i := 1) rfl (vis_of V_least_row (i := 1) rfl) rfl) ea_nil))) (ex_var (i := 4) rfl (vis_of V_least_row (i := 4) rfl) rfl))))))))))))
theorem m_least_row (T : Txt K mg c) : FnM P w K mg base c "least_row" 4 (δ := ((List Int) × (List (List Int)) × Unit)) (ρ := (Int × (List Int))) r_least_row := by
  obtain ⟨f, fd, F, hg, hB⟩ := T.d_least_row
  exact ⟨f, fd, ["prices", "rows"], ok_least_row T F, hg, F.kp, hB⟩
/-! ### distinct -/
abbrev N_distinct : List Str := ["row"]
theorem sc_distinct : FnScope N_distinct ["row"] (defScope s_distinct) := ⟨rfl, rfl, rfl, by decide +kernel, rfl, by decide +kernel, by decide +kernel⟩
theorem V_distinct : locsB (defScope s_distinct) ["row"] = true := by decide +kernel
def b_distinct (aa : ((List Int) × Unit)) : Option (Oc Empty Empty (List Int)) := (Option.bind (Option.bind (some aa.1) distinctM) fun (r : (List Int)) => some (Oc.rt r))
def r_distinct (aa : ((List Int) × Unit)) : Option (List Int) := (b_distinct aa).bind (Oc.out)
theorem ok_distinct (T : Txt K mg c) {f : Addr} {fd : FuncData} (F : Fun K "distinct" "distinct" s_distinct f fd) : FnOk P w K mg base CX0 1 f fd ["row"] (spM K c (δ := ((List Int) × Unit)) (ρ := (List Int)) r_distinct) := by
  refine fn_body (m := b_distinct) (Γn := noS) (Γl := noS) F sc_distinct (fun _ => rfl) (by decide) ?_
  intro cdv A outer s H E aa hr
  exact (sx_ret (EO.ex (eo_distinct rfl (by rfl) T.b_sorted (by rfl) T.b_set (ex_var (i := 0) rfl (vis_of V_distinct (i := 0) rfl) rfl))))
theorem m_distinct (T : Txt K mg c) : FnM P w K mg base c "distinct" 1 (δ := ((List Int) × Unit)) (ρ := (List Int)) r_distinct := by
  obtain ⟨f, fd, F, hg, hB⟩ := T.d_distinct
  exact ⟨f, fd, ["row"], ok_distinct T F, hg, F.kp, hB⟩
/-! ### check_ring -/
abbrev N_check_ring : List Str := ["prices", "doors", "nodes", "before", "door"]
theorem sc_check_ring : FnScope N_check_ring ["prices", "doors", "nodes"] (defScope s_check_ring) := ⟨rfl, rfl, rfl, by decide +kernel, rfl, by decide +kernel, by decide +kernel⟩
theorem V_check_ring : locsB (defScope s_check_ring) ["prices", "doors", "nodes", "before", "door"] = true := by decide +kernel
def b_check_ring (aa : ((List Int) × (List Int) × Unit × Unit)) : Option (Oc Unit Empty Unit) := (Option.bind (Option.bind (Option.bind (Option.bind (Option.bind (some aa.1) fun (x : (List Int)) => Option.bind (some ()) fun (r : Unit) => some (x, r)) (fun x : ((List Int) × Unit) => some (x.1.length : Int))) fun (x : Int) => Option.bind (some (0 : Int)) fun (y : Int) => some (decide (x = y))) fun (q : Bool) => if q = true then some true else (Option.bind (Option.bind (Option.bind (Option.bind (some aa.1) fun (x : (List Int)) => Option.bind (some ()) fun (r : Unit) => some (x, r)) (fun x : ((List Int) × Unit) => x.1.min?)) fun (x : Int) => Option.bind (some (1 : Int)) fun (y : Int) => some (decide (x < y))) fun (q : Bool) => if q = true then some true else (Option.bind (Option.bind (Option.bind (some aa.2.1) fun (x : (List Int)) => Option.bind (some ()) fun (r : Unit) => some (x, r)) (fun x : ((List Int) × Unit) => some (x.1.length : Int))) fun (x : Int) => Option.bind (some (0 : Int)) fun (y : Int) => some (decide (x = y))))) fun (q : Bool) => if q = true then Option.bind none Oc.up else (Option.bind (Option.bind (some (1 : Int)) fun (x : Int) => some (-x)) fun (before_1 : Int) => (Option.bind (Option.bind (some aa.2.1) fun (xs : List Int) => forM (S := Int) (L := Empty) (ρ := Unit) (fun (x3 : Int) (s2 : Int) => (Option.bind (Option.bind (Option.bind (some s2) fun (x : Int) => Option.bind (some x3) fun (y : Int) => Option.bind (some (decide (x < y))) fun (q : Bool) => if q = true then (Option.bind (Option.bind (Option.bind (some aa.1) fun (x : (List Int)) => Option.bind (some ()) fun (r : Unit) => some (x, r)) (fun x : ((List Int) × Unit) => some (x.1.length : Int))) fun (z : Int) => some (decide (y < z))) else some false) fun (q : Bool) => some (!q)) fun (q : Bool) => if q = true then Option.bind none Oc.up else (Option.bind (some x3) fun (before_4 : Int) => (some (Oc.nx before_4))))) xs before_1) (Oc.seq fun (s5 : Int) => (Option.bind (Option.bind (Option.bind (some aa.2.2.1) fun (_ : Unit) => Option.bind (some ()) fun (_ : Unit) => some false) fun (q : Bool) => if q = true then (none : Option Bool) else some false) fun (q : Bool) => if q = true then Option.bind none Oc.up else (some (Oc.nx ())))))))
def r_check_ring (aa : ((List Int) × (List Int) × Unit × Unit)) : Option Unit := (b_check_ring aa).bind (Oc.outU)
theorem ok_check_ring (T : Txt K mg c) {f : Addr} {fd : FuncData} (F : Fun K "check_ring" "check_ring" s_check_ring f fd) : FnOk P w K mg base CX0 1 f fd ["prices", "doors", "nodes"] (spM K c (δ := ((List Int) × (List Int) × Unit × Unit)) (ρ := Unit) r_check_ring) := by
  refine fn_bodyU (m := b_check_ring) (Γn := fun _ => ([.no, .no, .no, .no, .no] : List Bd)) (Γl := noS) F sc_check_ring (fun _ => rfl) (by decide) ?_
  intro cdv A outer s H E aa hr
  exact (sx_ifR (et_w (ew_or (et_cmp op_eq o2_eq (ex_B call_len_seq (cal_lenL (α := Int)) (by rfl) T.b_len bt_len (ea_cons (ex_var (i := 0) rfl (vis_of V_check_ring (i := 0) rfl) rfl) ea_nil)) ex_int (nomark _)) (ew_or (et_cmp op_lt o2_lt (ex_B (cr_min rfl) cal_min (by rfl) T.b_min bt_min (ea_cons (ex_var (i := 0) rfl (vis_of V_check_ring (i := 0) rfl) rfl) ea_nil)) ex_int (nomark _)) (ew_or1 (et_cmp op_eq o2_eq (ex_B call_len_seq (cal_lenL (α := Int)) (by rfl) T.b_len bt_len (ea_cons (ex_var (i := 1) rfl (vis_of V_check_ring (i := 1) rfl) rfl) ea_nil)) ex_int (nomark _)))))) sx_never (sx_set (i := 3) sc_check_ring.nd rfl (loc_of V_check_ring (i := 3) rfl) (ex_neg ex_int) (fun before_1 => (sx_seq (Γs := fun (s5 : Int) => ([.fr (aa.1 : (List Int)), .fr (aa.2.1 : (List Int)), .fr (aa.2.2.1 : Unit), .fr (s5 : Int), .no] : List Bd)) (s1_for (Γs := fun (s2 : Int) => ([.fr (aa.1 : (List Int)), .fr (aa.2.1 : (List Int)), .fr (aa.2.2.1 : Unit), .fr (s2 : Int), .no] : List Bd)) PassesOwn.never rfl (ei_list (ex_var (i := 1) rfl (vis_of V_check_ring (i := 1) rfl) rfl)) (pg_name (i := 4) sc_check_ring.nd rfl (loc_of V_check_ring (i := 4) rfl)) (tgs_name (α := Int)) (Weak.s (Weak.s (Weak.s (Weak.s (Weak.s Weak.nil))))) (fun x3 s2 => (sx_ifR (et_not (et_chain op_lt op_lt o2_lt o2_lt (ex_var (i := 3) rfl (vis_of V_check_ring (i := 3) rfl) rfl) (ex_var (i := 4) rfl (vis_of V_check_ring (i := 4) rfl) rfl) (ex_B call_len_seq (cal_lenL (α := Int)) (by rfl) T.b_len bt_len (ea_cons (ex_var (i := 0) rfl (vis_of V_check_ring (i := 0) rfl) rfl) ea_nil)))) sx_never (sx_set (i := 3) sc_check_ring.nd rfl (loc_of V_check_ring (i := 3) rfl) (ex_var (i := 4) rfl (vis_of V_check_ring (i := 4) rfl) rfl) (fun before_4 => (sx_nil (Weak.s (Weak.s (Weak.s (Weak.s (Weak.d Weak.nil))))))))))) (fun s5 => (sx_ifR (et_w (ew_and (et_cmp op_notN o2_notU (ex_var (i := 2) rfl (vis_of V_check_ring (i := 2) rfl) rfl) ex_non (nomark _)) (ew_and1 et_never))) sx_never (sx_nil (Weak.d (Weak.d (Weak.d (Weak.d (Weak.s Weak.nil))))))))))))
theorem m_check_ring (T : Txt K mg c) : FnM P w K mg base c "check_ring" 1 (δ := ((List Int) × (List Int) × Unit × Unit)) (ρ := Unit) r_check_ring := by
  obtain ⟨f, fd, F, hg, hB⟩ := T.d_check_ring
  exact ⟨f, fd, ["prices", "doors", "nodes"], ok_check_ring T F, hg, F.kp, hB⟩
/-! ### sums_of -/
abbrev N_sums_of : List Str := ["prices", "sums", "price"]
theorem sc_sums_of : FnScope N_sums_of ["prices"] (defScope s_sums_of) := ⟨rfl, rfl, rfl, by decide +kernel, rfl, by decide +kernel, by decide +kernel⟩
theorem V_sums_of : locsB (defScope s_sums_of) ["prices", "sums", "price"] = true := by decide +kernel
def b_sums_of (aa : ((List Int) × Unit)) : Option (Oc Empty Empty (Tup Int)) := (Option.bind (Option.bind (some (0 : Int)) fun (x : Int) => Option.bind (some ([] : List Int)) fun (r : List Int) => some (x :: r)) fun (sums_1 : (List Int)) => (Option.bind (Option.bind (some aa.1) fun (xs : List Int) => forM (S := (List Int)) (L := Empty) (ρ := (Tup Int)) (fun (x3 : Int) (s2 : (List Int)) => (Option.bind (Option.bind (Option.bind (some s2) fun (xs : (List Int)) => Option.bind (Option.bind (some (1 : Int)) fun (x : Int) => some (-x)) fun (i : Int) => atI xs i) fun (x : Int) => Option.bind (some x3) fun (y : Int) => some (x + y)) fun (y : Int) => Option.bind (appM s2 y) fun (sums_4 : (List Int)) => (some (Oc.nx sums_4)))) xs sums_1) (Oc.seq fun (s5 : (List Int)) => (Option.bind (Option.bind (Option.bind (some s5) fun (x : (List Int)) => Option.bind (some ()) fun (r : Unit) => some (x, r)) (fun x : ((List Int) × Unit) => some (PySem.W.Tup.mk x.1))) fun (r : (Tup Int)) => some (Oc.rt r)))))
def r_sums_of (aa : ((List Int) × Unit)) : Option (Tup Int) := (b_sums_of aa).bind (Oc.out)
theorem ok_sums_of (T : Txt K mg c) {f : Addr} {fd : FuncData} (F : Fun K "sums_of" "sums_of" s_sums_of f fd) : FnOk P w K mg base CX0 1 f fd ["prices"] (spM K c (δ := ((List Int) × Unit)) (ρ := (Tup Int)) r_sums_of) := by
  refine fn_body (m := b_sums_of) (Γn := noS) (Γl := noS) F sc_sums_of (fun _ => rfl) (by decide) ?_
  intro cdv A outer s H E aa hr
  exact (sx_setO (i := 1) sc_sums_of.nd rfl (loc_of V_sums_of (i := 1) rfl) (eo_lst (el_cons ex_int el_nil) (el_le (el_ns el_n0) (by decide))) (fun sums_1 => (sx_seq (Γs := fun (s5 : (List Int)) => ([.fr (aa.1 : (List Int)), .ow (s5 : (List Int)), .no] : List Bd)) (s1_for (Γs := fun (s2 : (List Int)) => ([.fr (aa.1 : (List Int)), .ow (s2 : (List Int)), .no] : List Bd)) PassesOwn.never rfl (ei_list (ex_var (i := 0) rfl (vis_of V_sums_of (i := 0) rfl) rfl)) (pg_name (i := 2) sc_sums_of.nd rfl (loc_of V_sums_of (i := 2) rfl)) (tgs_name (α := Int)) (Weak.s (Weak.s (Weak.s Weak.nil))) (fun x3 s2 => (sx_append (i := 1) rfl (vis_of V_sums_of (i := 1) rfl) rfl (ex_thaw (i := 1) rfl (ex_op op_add o2_add (ex_ix ix_list o2_ixL (ex_var (i := 1) rfl (vis_of V_sums_of (i := 1) rfl) rfl) (ex_neg ex_int)) (ex_var (i := 2) rfl (vis_of V_sums_of (i := 2) rfl) rfl))) (fun sums_4 => (sx_nil (Weak.s (Weak.s (Weak.d Weak.nil))))) (pe_bm PySem.F.plainAttrs_list PySem.F.slot_list_append PySem.F.type_list_append mt_append (pe_var rfl (vis_of V_sums_of (i := 1) rfl)) toA)))) (fun s5 => (sx_freeze (i := 1) rfl (sx_ret (ex_Ty call_tuple_of (cal_tupL (α := Int)) (by rfl) T.b_tuple bt_tuple (ea_cons (ex_var (i := 1) rfl (vis_of V_sums_of (i := 1) rfl) rfl) ea_nil))))))))
theorem m_sums_of (T : Txt K mg c) : FnM P w K mg base c "sums_of" 1 (δ := ((List Int) × Unit)) (ρ := (Tup Int)) r_sums_of := by
  obtain ⟨f, fd, F, hg, hB⟩ := T.d_sums_of
  exact ⟨f, fd, ["prices"], ok_sums_of T F, hg, F.kp, hB⟩
/-! ### Ring.__init__ -/
abbrev N_Ring_init : List Str := ["self", "prices", "doors", "nodes"]
theorem sc_Ring_init : FnScope N_Ring_init ["self", "prices", "doors", "nodes"] (defScope s_Ring_init) := ⟨rfl, rfl, rfl, by decide +kernel, rfl, by decide +kernel, by decide +kernel⟩
theorem V_Ring_init : locsB (defScope s_Ring_init) ["self", "prices", "doors", "nodes"] = true := by decide +kernel
def b_Ring_init (aa : ((List Int) × (List Int) × Unit × Unit)) : Option (Oc O_Ring Empty Unit) := (Option.bind (Option.bind (Option.bind (some aa.1) fun (x : (List Int)) => Option.bind (Option.bind (some aa.2.1) fun (x : (List Int)) => Option.bind (Option.bind (some aa.2.2.1) fun (x : Unit) => Option.bind (some ()) fun (r : Unit) => some (x, r)) fun (r : (Unit × Unit)) => some (x, r)) fun (r : ((List Int) × (Unit × Unit))) => some (x, r)) r_check_ring) fun (_ : Unit) => (Option.bind (Option.bind (Option.bind (some aa.1) fun (x : (List Int)) => Option.bind (some ()) fun (r : Unit) => some (x, r)) (fun x : ((List Int) × Unit) => some (x.1.length : Int))) fun (y : Int) => Option.bind (some (Ob.mk (y, (Ob.mk () : Ob 0 [] Unit).val) : (Ob 0 ["size"] (Int × Unit)))) fun (self_1 : (Ob 0 ["size"] (Int × Unit))) => (Option.bind (Option.bind (Option.bind (some aa.1) fun (x : (List Int)) => Option.bind (some ()) fun (r : Unit) => some (x, r)) (fun x : ((List Int) × Unit) => some (PySem.W.Tup.mk x.1))) fun (y : (Tup Int)) => Option.bind (some (Ob.mk (y, self_1.val) : (Ob 0 ["prices", "size"] ((Tup Int) × Int × Unit)))) fun (self_2 : (Ob 0 ["prices", "size"] ((Tup Int) × Int × Unit))) => (Option.bind (Option.bind (Option.bind (some aa.2.1) fun (x : (List Int)) => Option.bind (some ()) fun (r : Unit) => some (x, r)) (fun x : ((List Int) × Unit) => some (PySem.W.Tup.mk x.1))) fun (y : (Tup Int)) => Option.bind (some (Ob.mk (y, self_2.val) : (Ob 0 ["doors", "prices", "size"] ((Tup Int) × (Tup Int) × Int × Unit)))) fun (self_3 : (Ob 0 ["doors", "prices", "size"] ((Tup Int) × (Tup Int) × Int × Unit))) => (Option.bind (Option.bind (Option.bind (some aa.2.2.1) fun (_ : Unit) => Option.bind (some ()) fun (_ : Unit) => some true) fun (q : Bool) => if q = true then (Option.bind (Option.bind (Option.bind (Option.bind (some aa.1) fun (x : (List Int)) => Option.bind (some ()) fun (r : Unit) => some (x, r)) (fun x : ((List Int) × Unit) => some (x.1.length : Int))) fun (n : Int) => Option.bind (rngM 0 n) fun (xs : List Int) => some (PySem.W.Tup.mk xs)) fun (y : (Tup Int)) => Option.bind (some (Ob.mk (y, self_3.val) : (Ob 0 ["nodes", "doors", "prices", "size"] ((Tup Int) × (Tup Int) × (Tup Int) × Int × Unit)))) fun (self_4 : (Ob 0 ["nodes", "doors", "prices", "size"] ((Tup Int) × (Tup Int) × (Tup Int) × Int × Unit))) => (some (Oc.nx self_4))) else none) (Oc.seq fun (s5 : (Ob 0 ["nodes", "doors", "prices", "size"] ((Tup Int) × (Tup Int) × (Tup Int) × Int × Unit))) => (Option.bind (Option.bind (Option.bind (some aa.1) fun (x : (List Int)) => Option.bind (some ()) fun (r : Unit) => some (x, r)) r_sums_of) fun (y : (Tup Int)) => Option.bind (some (Ob.mk (y, s5.val) : (Ob 0 ["_sums", "nodes", "doors", "prices", "size"] ((Tup Int) × (Tup Int) × (Tup Int) × (Tup Int) × Int × Unit)))) fun (self_6 : (Ob 0 ["_sums", "nodes", "doors", "prices", "size"] ((Tup Int) × (Tup Int) × (Tup Int) × (Tup Int) × Int × Unit))) => (some (Oc.nx self_6)))))))))
def r_Ring_init (aa : ((List Int) × (List Int) × Unit × Unit)) : Option O_Ring := (b_Ring_init aa).bind (Oc.outI (fun s => s))
theorem m_Ring_init (T : Txt K mg c) : ClsM P w K mg base c "Ring" 0 2 (δ := ((List Int) × (List Int) × Unit × Unit)) (γ := O_Ring) r_Ring_init [V.non] := by
  obtain ⟨f, fd, ds, F, hM, hg, hB, hds⟩ := T.i_Ring
  refine ⟨f, fd, ["self", "prices", "doors", "nodes"], ds, ?_, hM, hg, hB, hds⟩
  refine init_bodyD (C := 0) (m := b_Ring_init) (fin := fun s => s) (Γn := fun l s => (.pa l (s : O_Ring) :: [.no, .no, .no] : List Bd)) (Γl := fun _ _ => []) F sc_Ring_init (fun _ => rfl) (by decide) (fun _ _ => rfl) ?_
  intro cdv A outer s H E l aa hr
  exact (sx_expr (ex_call (m_check_ring T) hr (by decide) (by rfl) (ea_cons (ex_var (i := 1) rfl (vis_of V_Ring_init (i := 1) rfl) rfl) (ea_cons (ex_var (i := 2) rfl (vis_of V_Ring_init (i := 2) rfl) rfl) (ea_cons (ex_var (i := 3) rfl (vis_of V_Ring_init (i := 3) rfl) rfl) ea_nil)))) (fun _ => (sx_fldNew' (i := 0) T.cl_Ring T.na_Ring_size (by decide) (by decide) rfl (vis_of V_Ring_init (i := 0) rfl) rfl (ex_B call_len_seq (cal_lenL (α := Int)) (by rfl) T.b_len bt_len (ea_cons (ex_var (i := 1) rfl (vis_of V_Ring_init (i := 1) rfl) rfl) ea_nil)) (fun self_1 => (sx_fldNew' (i := 0) T.cl_Ring T.na_Ring_prices (by decide) (by decide) rfl (vis_of V_Ring_init (i := 0) rfl) rfl (ex_Ty call_tuple_of (cal_tupL (α := Int)) (by rfl) T.b_tuple bt_tuple (ea_cons (ex_var (i := 1) rfl (vis_of V_Ring_init (i := 1) rfl) rfl) ea_nil)) (fun self_2 => (sx_fldNew' (i := 0) T.cl_Ring T.na_Ring_doors (by decide) (by decide) rfl (vis_of V_Ring_init (i := 0) rfl) rfl (ex_Ty call_tuple_of (cal_tupL (α := Int)) (by rfl) T.b_tuple bt_tuple (ea_cons (ex_var (i := 2) rfl (vis_of V_Ring_init (i := 2) rfl) rfl) ea_nil)) (fun self_3 => (sx_seq (Γs := fun (s5 : (Ob 0 ["nodes", "doors", "prices", "size"] ((Tup Int) × (Tup Int) × (Tup Int) × Int × Unit))) => ([.pa l (s5 : (Ob 0 ["nodes", "doors", "prices", "size"] ((Tup Int) × (Tup Int) × (Tup Int) × Int × Unit))), .fr (aa.1 : (List Int)), .fr (aa.2.1 : (List Int)), .fr (aa.2.2.1 : Unit)] : List Bd)) (s1_if (et_cmp op_isN o2_isU (ex_var (i := 3) rfl (vis_of V_Ring_init (i := 3) rfl) rfl) ex_non (nomark _)) (sx_fldNew' (i := 0) T.cl_Ring T.na_Ring_nodes (by decide) (by decide) rfl (vis_of V_Ring_init (i := 0) rfl) rfl (ex_tupRg1 rfl (by rfl) T.b_tuple (by rfl) T.b_range (ex_B call_len_seq (cal_lenL (α := Int)) (by rfl) T.b_len bt_len (ea_cons (ex_var (i := 1) rfl (vis_of V_Ring_init (i := 1) rfl) rfl) ea_nil))) (fun self_4 => (sx_nil (Weak.s (Weak.s (Weak.s (Weak.s Weak.nil))))))) sx_never) (fun s5 => (sx_fldNew' (i := 0) T.cl_Ring T.na_Ring__sums (by decide) (by decide) rfl (vis_of V_Ring_init (i := 0) rfl) rfl (ex_call (m_sums_of T) hr (by decide) (by rfl) (ea_cons (ex_var (i := 1) rfl (vis_of V_Ring_init (i := 1) rfl) rfl) ea_nil)) (fun self_6 => (sx_nil (Weak.s (Weak.d (Weak.d (Weak.d Weak.nil)))))))))))))))))
/-! ### Ring.whole -/
abbrev N_Ring_whole : List Str := ["self"]
theorem sc_Ring_whole : FnScope N_Ring_whole ["self"] (defScope s_Ring_whole) := ⟨rfl, rfl, rfl, by decide +kernel, rfl, by decide +kernel, by decide +kernel⟩
theorem V_Ring_whole : locsB (defScope s_Ring_whole) ["self"] = true := by decide +kernel
def b_Ring_whole (aa : (O_Ring × Unit)) : Option (Oc Empty Empty Int) := (Option.bind (Option.bind (Option.bind (some aa.1) fun (o : O_Ring) => some (o.val.1)) fun (xs : (Tup Int)) => Option.bind (Option.bind (some aa.1) fun (o : O_Ring) => some (o.val.2.2.2.2.1)) fun (i : Int) => atI xs.items i) fun (r : Int) => some (Oc.rt r))
def r_Ring_whole (aa : (O_Ring × Unit)) : Option Int := (b_Ring_whole aa).bind (Oc.out)
theorem m_Ring_whole (T : Txt K mg c) : MetM P w K mg base c 0 "whole" 1 (δ := (O_Ring × Unit)) (ρ := Int) r_Ring_whole := by
  obtain ⟨f, fd, F, hM, hB⟩ := T.m_Ring_whole
  refine ⟨f, fd, ["self"], ?_, hM, hB⟩
  refine fn_body (m := b_Ring_whole) (Γn := noS) (Γl := noS) F sc_Ring_whole (fun _ => rfl) (by decide) ?_
  intro cdv A outer s H E aa hr
  exact (sx_ret (ex_ix ix_tup o2_ixU (ex_fld (i := 0) (proj := fun (o : ((Tup Int) × (Tup Int) × (Tup Int) × (Tup Int) × Int × Unit)) => o.1) T.cl_Ring T.na_Ring__sums nd_Ring rfl (fun _ => rfl) (ex_var (i := 0) rfl (vis_of V_Ring_whole (i := 0) rfl) rfl)) (ex_fld (i := 4) (proj := fun (o : ((Tup Int) × (Tup Int) × (Tup Int) × (Tup Int) × Int × Unit)) => o.2.2.2.2.1) T.cl_Ring T.na_Ring_size nd_Ring rfl (fun _ => rfl) (ex_var (i := 0) rfl (vis_of V_Ring_whole (i := 0) rfl) rfl))))
/-! ### check_stays -/
abbrev N_check_stays : List Str := ["ring", "stays", "place", "stay"]
theorem sc_check_stays : FnScope N_check_stays ["ring", "stays"] (defScope s_check_stays) := ⟨rfl, rfl, rfl, by decide +kernel, rfl, by decide +kernel, by decide +kernel⟩
theorem V_check_stays : locsB (defScope s_check_stays) ["ring", "stays", "place", "stay"] = true := by decide +kernel
def b_check_stays (aa : (O_Ring × (List (Int × Int)) × Unit)) : Option (Oc Unit Empty Unit) := (Option.bind (Option.bind (Option.bind (some aa.2.1) fun (xs : (List (Int × Int))) => some (enumI xs)) fun (xs : List (Int × (Int × Int))) => forM (S := Unit) (L := Empty) (ρ := Unit) (fun (x2 : (Int × (Int × Int))) (s1 : Unit) => (Option.bind (Option.bind (Option.bind (Option.bind (some x2.2) fun (x : (Int × Int)) => some x.1) fun (x : Int) => Option.bind (Option.bind (some aa.1) fun (o : O_Ring) => some (o.val.2.2.1)) fun (xs : (Tup Int)) => some (decide (x ∉ xs.items))) fun (q : Bool) => if q = true then some true else (Option.bind (Option.bind (some x2.2) fun (x : (Int × Int)) => some x.2) fun (x : Int) => Option.bind (some (1 : Int)) fun (y : Int) => some (decide (x < y)))) fun (q : Bool) => if q = true then Option.bind none Oc.up else (some (Oc.nx ())))) xs ()) (Oc.seq fun (s3 : Unit) => (some (Oc.nx ()))))
def r_check_stays (aa : (O_Ring × (List (Int × Int)) × Unit)) : Option Unit := (b_check_stays aa).bind (Oc.outU)
theorem ok_check_stays (T : Txt K mg c) {f : Addr} {fd : FuncData} (F : Fun K "check_stays" "check_stays" s_check_stays f fd) : FnOk P w K mg base CX0 1 f fd ["ring", "stays"] (spM K c (δ := (O_Ring × (List (Int × Int)) × Unit)) (ρ := Unit) r_check_stays) := by
  refine fn_bodyU (m := b_check_stays) (Γn := fun _ => ([.no, .no, .no, .no] : List Bd)) (Γl := noS) F sc_check_stays (fun _ => rfl) (by decide) ?_
  intro cdv A outer s H E aa hr
  exact (sx_seq (Γs := fun (s3 : Unit) => ([.fr (aa.1 : O_Ring), .fr (aa.2.1 : (List (Int × Int))), .no, .no] : List Bd)) (s1_for (Γs := fun (s1 : Unit) => ([.fr (aa.1 : O_Ring), .fr (aa.2.1 : (List (Int × Int))), .no, .no] : List Bd)) PassesOwn.never rfl (ei_enum (by rfl) T.b_enumerate (ex_var (i := 1) rfl (vis_of V_check_stays (i := 1) rfl) rfl)) (pg_two (i := 2) (j := 3) rfl sc_check_stays.nd rfl (loc_of V_check_stays (i := 2) rfl) rfl (loc_of V_check_stays (i := 3) rfl)) (tgs_pair (α := Int) (β := (Int × Int)) (by decide)) (Weak.s (Weak.s (Weak.s (Weak.s Weak.nil)))) (fun x2 s1 => (sx_ifR (et_w (ew_or (et_cmp (op_ninT (α := Int) (hu_in hr (by decide))) o2_ninU (ex_fst (ex_var (i := 3) rfl (vis_of V_check_stays (i := 3) rfl) rfl)) (ex_fld (i := 2) (proj := fun (o : ((Tup Int) × (Tup Int) × (Tup Int) × (Tup Int) × Int × Unit)) => o.2.2.1) T.cl_Ring T.na_Ring_doors nd_Ring rfl (fun _ => rfl) (ex_var (i := 0) rfl (vis_of V_check_stays (i := 0) rfl) rfl)) rfl) (ew_or1 (et_cmp op_lt o2_lt (ex_snd (ex_var (i := 3) rfl (vis_of V_check_stays (i := 3) rfl) rfl)) ex_int (nomark _))))) sx_never (sx_nil (Weak.s (Weak.s (Weak.d (Weak.d Weak.nil)))))))) (fun s3 => (sx_nil (Weak.d (Weak.d (Weak.s (Weak.s Weak.nil)))))))
theorem m_check_stays (T : Txt K mg c) : FnM P w K mg base c "check_stays" 1 (δ := (O_Ring × (List (Int × Int)) × Unit)) (ρ := Unit) r_check_stays := by
  obtain ⟨f, fd, F, hg, hB⟩ := T.d_check_stays
  exact ⟨f, fd, ["ring", "stays"], ok_check_stays T F, hg, F.kp, hB⟩
/-! ### laid -/
abbrev N_laid : List Str := ["ring", "stays", "start", "spans", "door", "length", "first"]
theorem sc_laid : FnScope N_laid ["ring", "stays", "start"] (defScope s_laid) := ⟨rfl, rfl, rfl, by decide +kernel, rfl, by decide +kernel, by decide +kernel⟩
theorem V_laid : locsB (defScope s_laid) ["ring", "stays", "start", "spans", "door", "length", "first"] = true := by decide +kernel
def b_laid (aa : (O_Ring × (List (Int × Int)) × Int × Unit)) : Option (Oc Empty Empty (List (Int × Int))) := (Option.bind (some ([] : List (Int × Int))) fun (spans_1 : (List (Int × Int))) => (Option.bind (Option.bind (some aa.2.1) fun (xs : List (Int × Int)) => forM (S := (List (Int × Int))) (L := Empty) (ρ := (List (Int × Int))) (fun (x3 : (Int × Int)) (s2 : (List (Int × Int))) => (Option.bind (Option.bind (some aa.2.2.1) fun (x : Int) => Option.bind (Option.bind (Option.bind (some x3.1) fun (x : Int) => Option.bind (some aa.2.2.1) fun (y : Int) => some (x - y)) fun (x : Int) => Option.bind (Option.bind (some aa.1) fun (o : O_Ring) => some (o.val.2.2.2.2.1)) fun (y : Int) => modM x y) fun (y : Int) => some (x + y)) fun (first_4 : Int) => (Option.bind (Option.bind (some first_4) fun (x : Int) => Option.bind (Option.bind (some first_4) fun (x : Int) => Option.bind (some x3.2) fun (y : Int) => some (x + y)) fun (y : Int) => some (x, y)) fun (y : (Int × Int)) => Option.bind (appM s2 y) fun (spans_5 : (List (Int × Int))) => (some (Oc.nx spans_5))))) xs spans_1) (Oc.seq fun (s6 : (List (Int × Int))) => (Option.bind (Option.bind (Option.bind (some s6) fun (x : (List (Int × Int))) => Option.bind (some ()) fun (r : Unit) => some (x, r)) (fun x : ((List (Int × Int)) × Unit) => some (sortT x.1))) fun (r : (List (Int × Int))) => some (Oc.rt r)))))
def r_laid (aa : (O_Ring × (List (Int × Int)) × Int × Unit)) : Option (List (Int × Int)) := (b_laid aa).bind (Oc.out)
theorem ok_laid (T : Txt K mg c) {f : Addr} {fd : FuncData} (F : Fun K "laid" "laid" s_laid f fd) : FnOk P w K mg base CX0 1 f fd ["ring", "stays", "start"] (spM K c (δ := (O_Ring × (List (Int × Int)) × Int × Unit)) (ρ := (List (Int × Int))) r_laid) := by
  refine fn_body (m := b_laid) (Γn := noS) (Γl := noS) F sc_laid (fun _ => rfl) (by decide) ?_
  intro cdv A outer s H E aa hr
  exact (sx_setO (i := 3) sc_laid.nd rfl (loc_of V_laid (i := 3) rfl) (eo_lst el_nil (el_le el_n0 (by decide))) (fun spans_1 => (sx_seq (Γs := fun (s6 : (List (Int × Int))) => ([.fr (aa.1 : O_Ring), .fr (aa.2.1 : (List (Int × Int))), .fr (aa.2.2.1 : Int), .ow (s6 : (List (Int × Int))), .no, .no, .no] : List Bd)) (s1_for (Γs := fun (s2 : (List (Int × Int))) => ([.fr (aa.1 : O_Ring), .fr (aa.2.1 : (List (Int × Int))), .fr (aa.2.2.1 : Int), .ow (s2 : (List (Int × Int))), .no, .no, .no] : List Bd)) PassesOwn.never rfl (ei_list (ex_var (i := 1) rfl (vis_of V_laid (i := 1) rfl) rfl)) (pg_two (i := 4) (j := 5) rfl sc_laid.nd rfl (loc_of V_laid (i := 4) rfl) rfl (loc_of V_laid (i := 5) rfl)) (tgs_pair (α := Int) (β := Int) (by decide)) (Weak.s (Weak.s (Weak.s (Weak.s (Weak.s (Weak.s (Weak.s Weak.nil))))))) (fun x3 s2 => (sx_set (i := 6) sc_laid.nd rfl (loc_of V_laid (i := 6) rfl) (ex_op op_add o2_add (ex_var (i := 2) rfl (vis_of V_laid (i := 2) rfl) rfl) (ex_op op_mod o2_mod (ex_op op_sub o2_sub (ex_var (i := 4) rfl (vis_of V_laid (i := 4) rfl) rfl) (ex_var (i := 2) rfl (vis_of V_laid (i := 2) rfl) rfl)) (ex_fld (i := 4) (proj := fun (o : ((Tup Int) × (Tup Int) × (Tup Int) × (Tup Int) × Int × Unit)) => o.2.2.2.2.1) T.cl_Ring T.na_Ring_size nd_Ring rfl (fun _ => rfl) (ex_var (i := 0) rfl (vis_of V_laid (i := 0) rfl) rfl)))) (fun first_4 => (sx_append (i := 3) rfl (vis_of V_laid (i := 3) rfl) rfl (ex_pair (ex_var (i := 6) rfl (vis_of V_laid (i := 6) rfl) rfl) (ex_op op_add o2_add (ex_var (i := 6) rfl (vis_of V_laid (i := 6) rfl) rfl) (ex_var (i := 5) rfl (vis_of V_laid (i := 5) rfl) rfl))) (fun spans_5 => (sx_nil (Weak.s (Weak.s (Weak.s (Weak.s (Weak.d (Weak.d (Weak.d Weak.nil))))))))) (pe_bm PySem.F.plainAttrs_list PySem.F.slot_list_append PySem.F.type_list_append mt_append (pe_var rfl (vis_of V_laid (i := 3) rfl)) toA)))))) (fun s6 => (sx_freeze (i := 3) rfl (sx_ret (EO.ex (eo_B (cr_sortT (α := (Int × Int)) (hu_srt hr (by decide))) (calO_sort (α := (Int × Int))) (by rfl) T.b_sorted bt_sorted (ea_cons (ex_var (i := 3) rfl (vis_of V_laid (i := 3) rfl) rfl) ea_nil)))))))))
theorem m_laid (T : Txt K mg c) : FnM P w K mg base c "laid" 1 (δ := (O_Ring × (List (Int × Int)) × Int × Unit)) (ρ := (List (Int × Int))) r_laid := by
  obtain ⟨f, fd, F, hg, hB⟩ := T.d_laid
  exact ⟨f, fd, ["ring", "stays", "start"], ok_laid T F, hg, F.kp, hB⟩
/-! ### pieces -/
abbrev N_pieces : List Str := ["ring", "stays", "start", "found", "first", "behind"]
theorem sc_pieces : FnScope N_pieces ["ring", "stays", "start"] (defScope s_pieces) := ⟨rfl, rfl, rfl, by decide +kernel, rfl, by decide +kernel, by decide +kernel⟩
theorem V_pieces : locsB (defScope s_pieces) ["ring", "stays", "start", "found", "first", "behind"] = true := by decide +kernel
def b_pieces (aa : (O_Ring × (List (Int × Int)) × Int × Unit)) : Option (Oc Empty Empty (List (Int × Int))) := (Option.bind (some ([] : List (Int × Int))) fun (found_1 : (List (Int × Int))) => (Option.bind (Option.bind (Option.bind (Option.bind (some aa.1) fun (x : O_Ring) => Option.bind (Option.bind (some aa.2.1) fun (x : (List (Int × Int))) => Option.bind (Option.bind (some aa.2.2.1) fun (x : Int) => Option.bind (some ()) fun (r : Unit) => some (x, r)) fun (r : (Int × Unit)) => some (x, r)) fun (r : ((List (Int × Int)) × (Int × Unit))) => some (x, r)) r_laid) fun (xs : List (Int × Int)) => forM (S := (List (Int × Int))) (L := Empty) (ρ := (List (Int × Int))) (fun (x3 : (Int × Int)) (s2 : (List (Int × Int))) => (Option.bind (Option.bind (Option.bind (some s2) fun (x : (List (Int × Int))) => some (Tru.tru x)) fun (q : Bool) => if q = true then (Option.bind (some x3.1) fun (x : Int) => Option.bind (Option.bind (Option.bind (some s2) fun (xs : (List (Int × Int))) => Option.bind (Option.bind (some (1 : Int)) fun (x : Int) => some (-x)) fun (i : Int) => atI xs i) fun (x : (Int × Int)) => some x.2) fun (y : Int) => some (decide (x ≤ y))) else some false) fun (q : Bool) => if q = true then (Option.bind (Option.bind (Option.bind (Option.bind (some s2) fun (xs : (List (Int × Int))) => Option.bind (Option.bind (some (1 : Int)) fun (x : Int) => some (-x)) fun (i : Int) => atI xs i) fun (x : (Int × Int)) => some x.1) fun (x : Int) => Option.bind (Option.bind (Option.bind (some x3.2) fun (x : Int) => Option.bind (Option.bind (Option.bind (Option.bind (some s2) fun (xs : (List (Int × Int))) => Option.bind (Option.bind (some (1 : Int)) fun (x : Int) => some (-x)) fun (i : Int) => atI xs i) fun (x : (Int × Int)) => some x.2) fun (x : Int) => Option.bind (some ()) fun (r : Unit) => some (x, r)) fun (r : (Int × Unit)) => some (x, r)) (fun x : (Int × (Int × Unit)) => some (max x.1 x.2.1))) fun (y : Int) => some (x, y)) fun (y : (Int × Int)) => Option.bind (Option.bind (some (1 : Int)) fun (x : Int) => some (-x)) fun (j : Int) => Option.bind (setM s2 j y) fun (found_4 : (List (Int × Int))) => (some (Oc.nx found_4))) else (Option.bind (Option.bind (some x3.1) fun (x : Int) => Option.bind (some x3.2) fun (y : Int) => some (x, y)) fun (y : (Int × Int)) => Option.bind (appM s2 y) fun (found_5 : (List (Int × Int))) => (some (Oc.nx found_5))))) xs found_1) (Oc.seq fun (s6 : (List (Int × Int))) => (Option.bind (some s6) fun (r : (List (Int × Int))) => some (Oc.rt r)))))
def r_pieces (aa : (O_Ring × (List (Int × Int)) × Int × Unit)) : Option (List (Int × Int)) := (b_pieces aa).bind (Oc.out)
theorem ok_pieces (T : Txt K mg c) {f : Addr} {fd : FuncData} (F : Fun K "pieces" "pieces" s_pieces f fd) : FnOk P w K mg base CX0 2 f fd ["ring", "stays", "start"] (spM K c (δ := (O_Ring × (List (Int × Int)) × Int × Unit)) (ρ := (List (Int × Int))) r_pieces) := by
  refine fn_body (m := b_pieces) (Γn := noS) (Γl := noS) F sc_pieces (fun _ => rfl) (by decide) ?_
  intro cdv A outer s H E aa hr
  exact (sx_setO (i := 3) sc_pieces.nd rfl (loc_of V_pieces (i := 3) rfl) (eo_lst el_nil (el_le el_n0 (by decide))) (fun found_1 => (sx_seq (Γs := fun (s6 : (List (Int × Int))) => ([.fr (aa.1 : O_Ring), .fr (aa.2.1 : (List (Int × Int))), .fr (aa.2.2.1 : Int), .ow (s6 : (List (Int × Int))), .no, .no] : List Bd)) (s1_for (Γs := fun (s2 : (List (Int × Int))) => ([.fr (aa.1 : O_Ring), .fr (aa.2.1 : (List (Int × Int))), .fr (aa.2.2.1 : Int), .ow (s2 : (List (Int × Int))), .no, .no] : List Bd)) PassesOwn.never rfl (ei_list (ex_call (m_laid T) hr (by decide) (by rfl) (ea_cons (ex_var (i := 0) rfl (vis_of V_pieces (i := 0) rfl) rfl) (ea_cons (ex_var (i := 1) rfl (vis_of V_pieces (i := 1) rfl) rfl) (ea_cons (ex_var (i := 2) rfl (vis_of V_pieces (i := 2) rfl) rfl) ea_nil))))) (pg_two (i := 4) (j := 5) rfl sc_pieces.nd rfl (loc_of V_pieces (i := 4) rfl) rfl (loc_of V_pieces (i := 5) rfl)) (tgs_pair (α := Int) (β := Int) (by decide)) (Weak.s (Weak.s (Weak.s (Weak.s (Weak.s (Weak.s Weak.nil)))))) (fun x3 s2 => (sx_ifE (et_thaw (i := 3) rfl (et_w (ew_and (et_tru (ex_var (i := 3) rfl (vis_of V_pieces (i := 3) rfl) rfl)) (ew_and1 (et_cmp op_le o2_le (ex_var (i := 4) rfl (vis_of V_pieces (i := 4) rfl) rfl) (ex_snd (ex_ix ix_list o2_ixL (ex_var (i := 3) rfl (vis_of V_pieces (i := 3) rfl) rfl) (ex_neg ex_int))) (nomark _)))))) (sx_setItem (i := 3) rfl (vis_of V_pieces (i := 3) rfl) rfl (ex_pair (ex_thaw (i := 3) rfl (ex_fst (ex_ix ix_list o2_ixL (ex_var (i := 3) rfl (vis_of V_pieces (i := 3) rfl) rfl) (ex_neg ex_int)))) (ex_thaw (i := 3) rfl (ex_B (call_max2 rfl) cal_max2 (by rfl) T.b_max bt_max (ea_cons (ex_var (i := 5) rfl (vis_of V_pieces (i := 5) rfl) rfl) (ea_cons (ex_snd (ex_ix ix_list o2_ixL (ex_var (i := 3) rfl (vis_of V_pieces (i := 3) rfl) rfl) (ex_neg ex_int))) ea_nil))))) (ex_neg ex_int) (fun found_4 => (sx_nil (Weak.s (Weak.s (Weak.s (Weak.s (Weak.d (Weak.d Weak.nil)))))))) (ps_asg toE (pg_sub (pe_var rfl (vis_of V_pieces (i := 3) rfl)) toE set_list))) (sx_append (i := 3) rfl (vis_of V_pieces (i := 3) rfl) rfl (ex_pair (ex_var (i := 4) rfl (vis_of V_pieces (i := 4) rfl) rfl) (ex_var (i := 5) rfl (vis_of V_pieces (i := 5) rfl) rfl)) (fun found_5 => (sx_nil (Weak.s (Weak.s (Weak.s (Weak.s (Weak.d (Weak.d Weak.nil)))))))) (pe_bm PySem.F.plainAttrs_list PySem.F.slot_list_append PySem.F.type_list_append mt_append (pe_var rfl (vis_of V_pieces (i := 3) rfl)) toA))))) (fun s6 => (sx_freeze (i := 3) rfl (sx_ret (ex_var (i := 3) rfl (vis_of V_pieces (i := 3) rfl) rfl)))))))
theorem m_pieces (T : Txt K mg c) : FnM P w K mg base c "pieces" 2 (δ := (O_Ring × (List (Int × Int)) × Int × Unit)) (ρ := (List (Int × Int))) r_pieces := by
  obtain ⟨f, fd, F, hg, hB⟩ := T.d_pieces
  exact ⟨f, fd, ["ring", "stays", "start"], ok_pieces T F, hg, F.kp, hB⟩
/-! ### piece_price -/
abbrev N_piece_price : List Str := ["ring", "first", "behind", "rounds", "total", "number"]
theorem sc_piece_price : FnScope N_piece_price ["ring", "first", "behind"] (defScope s_piece_price) := ⟨rfl, rfl, rfl, by decide +kernel, rfl, by decide +kernel, by decide +kernel⟩
theorem V_piece_price : locsB (defScope s_piece_price) ["ring", "first", "behind", "rounds", "total", "number"] = true := by decide +kernel
def b_piece_price (aa : (O_Ring × Int × Int × Unit)) : Option (Oc Empty Empty Int) := (Option.bind (Option.bind (Option.bind (some aa.2.2.1) fun (x : Int) => Option.bind (some aa.2.1) fun (y : Int) => some (x - y)) fun (x : Int) => Option.bind (Option.bind (some aa.1) fun (o : O_Ring) => some (o.val.2.2.2.2.1)) fun (y : Int) => fdivM x y) fun (rounds_1 : Int) => (Option.bind (Option.bind (some rounds_1) fun (x : Int) => Option.bind (Option.bind (some aa.1) fun (o : O_Ring) => r_Ring_whole (o, ())) fun (y : Int) => mulM x y) fun (total_2 : Int) => (Option.bind (Option.bind (Option.bind (Option.bind (some aa.2.1) fun (x : Int) => Option.bind (Option.bind (some rounds_1) fun (x : Int) => Option.bind (Option.bind (some aa.1) fun (o : O_Ring) => some (o.val.2.2.2.2.1)) fun (y : Int) => mulM x y) fun (y : Int) => some (x + y)) fun (lo : Int) => Option.bind (some aa.2.2.1) fun (hi : Int) => rngM lo hi) fun (xs : List Int) => forM (S := Int) (L := Empty) (ρ := Int) (fun (x4 : Int) (s3 : Int) => (Option.bind (Option.bind (Option.bind (some aa.1) fun (o : O_Ring) => some (o.val.2.2.2.1)) fun (xs : (Tup Int)) => Option.bind (Option.bind (some x4) fun (x : Int) => Option.bind (Option.bind (some aa.1) fun (o : O_Ring) => some (o.val.2.2.2.2.1)) fun (y : Int) => modM x y) fun (i : Int) => atI xs.items i) fun (z : Int) => Option.bind (some (s3 + z)) fun (total_5 : Int) => (some (Oc.nx total_5)))) xs total_2) (Oc.seq fun (s6 : Int) => (Option.bind (some s6) fun (r : Int) => some (Oc.rt r))))))
def r_piece_price (aa : (O_Ring × Int × Int × Unit)) : Option Int := (b_piece_price aa).bind (Oc.out)
theorem ok_piece_price (T : Txt K mg c) {f : Addr} {fd : FuncData} (F : Fun K "piece_price" "piece_price" s_piece_price f fd) : FnOk P w K mg base CX0 2 f fd ["ring", "first", "behind"] (spM K c (δ := (O_Ring × Int × Int × Unit)) (ρ := Int) r_piece_price) := by
  refine fn_body (m := b_piece_price) (Γn := noS) (Γl := noS) F sc_piece_price (fun _ => rfl) (by decide) ?_
  intro cdv A outer s H E aa hr
  exact (sx_set (i := 3) sc_piece_price.nd rfl (loc_of V_piece_price (i := 3) rfl) (ex_op op_fdiv o2_fdiv (ex_op op_sub o2_sub (ex_var (i := 2) rfl (vis_of V_piece_price (i := 2) rfl) rfl) (ex_var (i := 1) rfl (vis_of V_piece_price (i := 1) rfl) rfl)) (ex_fld (i := 4) (proj := fun (o : ((Tup Int) × (Tup Int) × (Tup Int) × (Tup Int) × Int × Unit)) => o.2.2.2.2.1) T.cl_Ring T.na_Ring_size nd_Ring rfl (fun _ => rfl) (ex_var (i := 0) rfl (vis_of V_piece_price (i := 0) rfl) rfl))) (fun rounds_1 => (sx_set (i := 4) sc_piece_price.nd rfl (loc_of V_piece_price (i := 4) rfl) (ex_op op_mul o2_mul (ex_var (i := 3) rfl (vis_of V_piece_price (i := 3) rfl) rfl) (ex_meth0 (m_Ring_whole T) T.cl_Ring (by decide) hr (by decide) (ex_var (i := 0) rfl (vis_of V_piece_price (i := 0) rfl) rfl))) (fun total_2 => (sx_seq (Γs := fun (s6 : Int) => ([.fr (aa.1 : O_Ring), .fr (aa.2.1 : Int), .fr (aa.2.2.1 : Int), .fr (rounds_1 : Int), .fr (s6 : Int), .no] : List Bd)) (s1_for (Γs := fun (s3 : Int) => ([.fr (aa.1 : O_Ring), .fr (aa.2.1 : Int), .fr (aa.2.2.1 : Int), .fr (rounds_1 : Int), .fr (s3 : Int), .no] : List Bd)) PassesOwn.never rfl (ei_range2 (by rfl) T.b_range (ex_op op_add o2_add (ex_var (i := 1) rfl (vis_of V_piece_price (i := 1) rfl) rfl) (ex_op op_mul o2_mul (ex_var (i := 3) rfl (vis_of V_piece_price (i := 3) rfl) rfl) (ex_fld (i := 4) (proj := fun (o : ((Tup Int) × (Tup Int) × (Tup Int) × (Tup Int) × Int × Unit)) => o.2.2.2.2.1) T.cl_Ring T.na_Ring_size nd_Ring rfl (fun _ => rfl) (ex_var (i := 0) rfl (vis_of V_piece_price (i := 0) rfl) rfl)))) (ex_var (i := 2) rfl (vis_of V_piece_price (i := 2) rfl) rfl)) (pg_name (i := 5) sc_piece_price.nd rfl (loc_of V_piece_price (i := 5) rfl)) (tgs_name (α := Int)) (Weak.s (Weak.s (Weak.s (Weak.s (Weak.s (Weak.s Weak.nil)))))) (fun x4 s3 => (sx_aug' (f := fun a b => a + b) (i := 4) ip_add sc_piece_price.nd rfl (loc_of V_piece_price (i := 4) rfl) rfl (ex_ix ix_tup o2_ixU (ex_fld (i := 3) (proj := fun (o : ((Tup Int) × (Tup Int) × (Tup Int) × (Tup Int) × Int × Unit)) => o.2.2.2.1) T.cl_Ring T.na_Ring_prices nd_Ring rfl (fun _ => rfl) (ex_var (i := 0) rfl (vis_of V_piece_price (i := 0) rfl) rfl)) (ex_op op_mod o2_mod (ex_var (i := 5) rfl (vis_of V_piece_price (i := 5) rfl) rfl) (ex_fld (i := 4) (proj := fun (o : ((Tup Int) × (Tup Int) × (Tup Int) × (Tup Int) × Int × Unit)) => o.2.2.2.2.1) T.cl_Ring T.na_Ring_size nd_Ring rfl (fun _ => rfl) (ex_var (i := 0) rfl (vis_of V_piece_price (i := 0) rfl) rfl)))) (fun total_5 => (sx_nil (Weak.s (Weak.s (Weak.s (Weak.s (Weak.s (Weak.d Weak.nil))))))))))) (fun s6 => (sx_ret (ex_var (i := 4) rfl (vis_of V_piece_price (i := 4) rfl) rfl))))))))
theorem m_piece_price (T : Txt K mg c) : FnM P w K mg base c "piece_price" 2 (δ := (O_Ring × Int × Int × Unit)) (ρ := Int) r_piece_price := by
  obtain ⟨f, fd, F, hg, hB⟩ := T.d_piece_price
  exact ⟨f, fd, ["ring", "first", "behind"], ok_piece_price T F, hg, F.kp, hB⟩
/-! ### laid_price -/
abbrev N_laid_price : List Str := ["ring", "stays", "start", "first", "behind"]
theorem sc_laid_price : FnScope N_laid_price ["ring", "stays", "start"] (defScope s_laid_price) := ⟨rfl, rfl, rfl, by decide +kernel, rfl, by decide +kernel, by decide +kernel⟩
theorem V_laid_price : locsB (defScope s_laid_price) ["ring", "stays", "start"] = true := by decide +kernel
def b_laid_price (aa : (O_Ring × (List (Int × Int)) × Int × Unit)) : Option (Oc Empty Empty Int) := (Option.bind (Option.bind (Option.bind (Option.bind (Option.bind (Option.bind (some aa.1) fun (x : O_Ring) => Option.bind (Option.bind (some aa.2.1) fun (x : (List (Int × Int))) => Option.bind (Option.bind (some aa.2.2.1) fun (x : Int) => Option.bind (some ()) fun (r : Unit) => some (x, r)) fun (r : (Int × Unit)) => some (x, r)) fun (r : ((List (Int × Int)) × (Int × Unit))) => some (x, r)) r_pieces) (lcM (fun (x1 : (Int × Int)) => (some true)) (fun (x1 : (Int × Int)) => (Option.bind (Option.bind (some aa.1) fun (x : O_Ring) => Option.bind (Option.bind (some x1.1) fun (x : Int) => Option.bind (Option.bind (some x1.2) fun (x : Int) => Option.bind (some ()) fun (r : Unit) => some (x, r)) fun (r : (Int × Unit)) => some (x, r)) fun (r : (Int × (Int × Unit))) => some (x, r)) r_piece_price)))) fun (x : (List Int)) => Option.bind (some ()) fun (r : Unit) => some (x, r)) (fun x : ((List Int) × Unit) => some x.1.sum)) fun (r : Int) => some (Oc.rt r))
def r_laid_price (aa : (O_Ring × (List (Int × Int)) × Int × Unit)) : Option Int := (b_laid_price aa).bind (Oc.out)
theorem ok_laid_price (T : Txt K mg c) {f : Addr} {fd : FuncData} (F : Fun K "laid_price" "laid_price" s_laid_price f fd) : FnOk P w K mg base CX0 3 f fd ["ring", "stays", "start"] (spM K c (δ := (O_Ring × (List (Int × Int)) × Int × Unit)) (ρ := Int) r_laid_price) := by
  refine fn_body (m := b_laid_price) (Γn := noS) (Γl := noS) F sc_laid_price (fun _ => rfl) (by decide) ?_
  intro cdv A outer s H E aa hr
  exact (sx_ret (ex_B (cr_sum rfl) cal_sum (by rfl) T.b_sum bt_sum (ea_cons (EO.ex (eo_lc rfl sc_laid_price.nd (ei_list (ex_call (m_pieces T) hr (by decide) (by rfl) (ea_cons (ex_var (i := 0) rfl (vis_of V_laid_price (i := 0) rfl) rfl) (ea_cons (ex_var (i := 1) rfl (vis_of V_laid_price (i := 1) rfl) rfl) (ea_cons (ex_var (i := 2) rfl (vis_of V_laid_price (i := 2) rfl) rfl) ea_nil))))) (blkOk_by (own := [("first", 3), ("behind", 4)]) (N := N_laid_price) (sc := (defScope s_laid_price)) (by decide +kernel)) (fun _ _ _ _ _ => pg_two (i := 3) (j := 4) rfl sc_laid_price.nd rfl (by first | exact Or.inl rfl | exact Or.inr rfl) rfl (by first | exact Or.inl rfl | exact Or.inr rfl)) (tgs_pair (α := Int) (β := Int) (by decide)) (fun _ _ _ _ _ x1 => ets_nil) (fun _ _ _ _ _ x1 => (ex_call (m_piece_price T) hr (by decide) (by rfl) (ea_cons (ex_var (i := 0) rfl (by first | exact Or.inl rfl | exact Or.inr (Or.inl rfl) | exact Or.inr (Or.inr rfl)) rfl) (ea_cons (ex_var (i := 3) rfl (by first | exact Or.inl rfl | exact Or.inr (Or.inl rfl) | exact Or.inr (Or.inr rfl)) rfl) (ea_cons (ex_var (i := 4) rfl (by first | exact Or.inl rfl | exact Or.inr (Or.inl rfl) | exact Or.inr (Or.inr rfl)) rfl) ea_nil))))))) ea_nil)))
theorem m_laid_price (T : Txt K mg c) : FnM P w K mg base c "laid_price" 3 (δ := (O_Ring × (List (Int × Int)) × Int × Unit)) (ρ := Int) r_laid_price := by
  obtain ⟨f, fd, F, hg, hB⟩ := T.d_laid_price
  exact ⟨f, fd, ["ring", "stays", "start"], ok_laid_price T F, hg, F.kp, hB⟩
/-! ### least_laying -/
abbrev N_least_laying : List Str := ["ring", "stays", "best", "door", "price", "stay"]
theorem sc_least_laying : FnScope N_least_laying ["ring", "stays"] (defScope s_least_laying) := ⟨rfl, rfl, rfl, by decide +kernel, rfl, by decide +kernel, by decide +kernel⟩
theorem V_least_laying : locsB (defScope s_least_laying) ["ring", "stays", "best", "door", "price"] = true := by decide +kernel
def b_least_laying (aa : (O_Ring × (List (Int × Int)) × Unit)) : Option (Oc Empty Empty (Int × (Option Int))) := (Option.bind (Option.bind (Option.bind (some aa.1) fun (x : O_Ring) => Option.bind (Option.bind (some aa.2.1) fun (x : (List (Int × Int))) => Option.bind (some ()) fun (r : Unit) => some (x, r)) fun (r : ((List (Int × Int)) × Unit)) => some (x, r)) r_check_stays) fun (_ : Unit) => (Option.bind (Option.bind (some (0 : Int)) fun (x : Int) => Option.bind (some (none : (Option Int))) fun (y : (Option Int)) => some (x, y)) fun (best_1 : (Int × (Option Int))) => (Option.bind (Option.bind (Option.bind (Option.bind (Option.bind (some aa.2.1) (lcM (fun (x3 : (Int × Int)) => (some true)) (fun (x3 : (Int × Int)) => (Option.bind (some x3) fun (x : (Int × Int)) => some x.1)))) fun (x : (List Int)) => Option.bind (some ()) fun (r : Unit) => some (x, r)) r_distinct) fun (xs : List Int) => forM (S := (Int × (Option Int))) (L := Empty) (ρ := (Int × (Option Int))) (fun (x4 : Int) (s2 : (Int × (Option Int))) => (Option.bind (Option.bind (Option.bind (some aa.1) fun (x : O_Ring) => Option.bind (Option.bind (some aa.2.1) fun (x : (List (Int × Int))) => Option.bind (Option.bind (some x4) fun (x : Int) => Option.bind (some ()) fun (r : Unit) => some (x, r)) fun (r : (Int × Unit)) => some (x, r)) fun (r : ((List (Int × Int)) × (Int × Unit))) => some (x, r)) r_laid_price) fun (price_5 : Int) => (Option.bind (Option.bind (Option.bind (Option.bind (some s2) fun (x : (Int × (Option Int))) => some x.2) fun (x : (Option Int)) => Option.bind (some ()) fun (_ : Unit) => some x.isNone) fun (q : Bool) => if q = true then some true else (Option.bind (some price_5) fun (x : Int) => Option.bind (Option.bind (some s2) fun (x : (Int × (Option Int))) => some x.1) fun (y : Int) => some (decide (x < y)))) fun (q : Bool) => if q = true then (Option.bind (Option.bind (some price_5) fun (x : Int) => Option.bind (Option.map some (some x4)) fun (y : (Option Int)) => some (x, y)) fun (best_6 : (Int × (Option Int))) => (some (Oc.nx best_6))) else (some (Oc.nx s2))))) xs best_1) (Oc.seq fun (s7 : (Int × (Option Int))) => (Option.bind (some s7) fun (r : (Int × (Option Int))) => some (Oc.rt r))))))
def r_least_laying (aa : (O_Ring × (List (Int × Int)) × Unit)) : Option (Int × (Option Int)) := (b_least_laying aa).bind (Oc.out)
theorem ok_least_laying (T : Txt K mg c) {f : Addr} {fd : FuncData} (F : Fun K "least_laying" "least_laying" s_least_laying f fd) : FnOk P w K mg base CX0 4 f fd ["ring", "stays"] (spM K c (δ := (O_Ring × (List (Int × Int)) × Unit)) (ρ := (Int × (Option Int))) r_least_laying) := by
  refine fn_body (m := b_least_laying) (Γn := noS) (Γl := noS) F sc_least_laying (fun _ => rfl) (by decide) ?_
  intro cdv A outer s H E aa hr
  exact (sx_expr (ex_call (m_check_stays T) hr (by decide) (by rfl) (ea_cons (ex_var (i := 0) rfl (vis_of V_least_laying (i := 0) rfl) rfl) (ea_cons (ex_var (i := 1) rfl (vis_of V_least_laying (i := 1) rfl) rfl) ea_nil))) (fun _ => (sx_set (i := 2) sc_least_laying.nd rfl (loc_of V_least_laying (i := 2) rfl) (ex_pair ex_int ex_nonO) (fun best_1 => (sx_seq (Γs := fun (s7 : (Int × (Option Int))) => ([.fr (aa.1 : O_Ring), .fr (aa.2.1 : (List (Int × Int))), .fr (s7 : (Int × (Option Int))), .no, .no, .no] : List Bd)) (s1_for (Γs := fun (s2 : (Int × (Option Int))) => ([.fr (aa.1 : O_Ring), .fr (aa.2.1 : (List (Int × Int))), .fr (s2 : (Int × (Option Int))), .no, .no, .no] : List Bd)) PassesOwn.never rfl (ei_list (ex_call (m_distinct T) hr (by decide) (by rfl) (ea_cons (EO.ex (eo_lc rfl sc_least_laying.nd (ei_list (ex_var (i := 1) rfl (vis_of V_least_laying (i := 1) rfl) rfl)) (blkOk_by (own := [("stay", 5)]) (N := N_least_laying) (sc := (defScope s_least_laying)) (by decide +kernel)) (fun _ _ _ _ _ => pg_name (i := 5) sc_least_laying.nd rfl (by first | exact Or.inl rfl | exact Or.inr rfl)) (tgs_name (α := (Int × Int))) (fun _ _ _ _ _ x3 => ets_nil) (fun _ _ _ _ _ x3 => (ex_fst (ex_var (i := 5) rfl (by first | exact Or.inl rfl | exact Or.inr (Or.inl rfl) | exact Or.inr (Or.inr rfl)) rfl))))) ea_nil))) (pg_name (i := 3) sc_least_laying.nd rfl (loc_of V_least_laying (i := 3) rfl)) (tgs_name (α := Int)) (Weak.s (Weak.s (Weak.s (Weak.s (Weak.s (Weak.s Weak.nil)))))) (fun x4 s2 => (sx_set (i := 4) sc_least_laying.nd rfl (loc_of V_least_laying (i := 4) rfl) (ex_call (m_laid_price T) hr (by decide) (by rfl) (ea_cons (ex_var (i := 0) rfl (vis_of V_least_laying (i := 0) rfl) rfl) (ea_cons (ex_var (i := 1) rfl (vis_of V_least_laying (i := 1) rfl) rfl) (ea_cons (ex_var (i := 3) rfl (vis_of V_least_laying (i := 3) rfl) rfl) ea_nil)))) (fun price_5 => (sx_ifE (et_w (ew_or (et_cmp op_isN o2_isN (ex_snd (ex_var (i := 2) rfl (vis_of V_least_laying (i := 2) rfl) rfl)) ex_non (nomark _)) (ew_or1 (et_cmp op_lt o2_lt (ex_var (i := 4) rfl (vis_of V_least_laying (i := 4) rfl) rfl) (ex_fst (ex_var (i := 2) rfl (vis_of V_least_laying (i := 2) rfl) rfl)) (nomark _))))) (sx_set (i := 2) sc_least_laying.nd rfl (loc_of V_least_laying (i := 2) rfl) (ex_pair (ex_var (i := 4) rfl (vis_of V_least_laying (i := 4) rfl) rfl) (ex_some (ex_var (i := 3) rfl (vis_of V_least_laying (i := 3) rfl) rfl))) (fun best_6 => (sx_nil (Weak.s (Weak.s (Weak.s (Weak.d (Weak.d (Weak.s Weak.nil))))))))) (sx_nil (Weak.s (Weak.s (Weak.s (Weak.d (Weak.d (Weak.s Weak.nil)))))))))))) (fun s7 => (sx_ret (ex_var (i := 2) rfl (vis_of V_least_laying (i := 2) rfl) rfl))))))))
theorem m_least_laying (T : Txt K mg c) : FnM P w K mg base c "least_laying" 4 (δ := (O_Ring × (List (Int × Int)) × Unit)) (ρ := (Int × (Option Int))) r_least_laying := by
  obtain ⟨f, fd, F, hg, hB⟩ := T.d_least_laying
  exact ⟨f, fd, ["ring", "stays"], ok_least_laying T F, hg, F.kp, hB⟩
/-! ### _law_cell -/
abbrev N_law_cell : List Str := ["_law_script", "_law_k"]
theorem sc_law_cell : FnScope N_law_cell ["_law_script", "_law_k"] (defScope s_law_cell) := ⟨rfl, rfl, rfl, by decide +kernel, rfl, by decide +kernel, by decide +kernel⟩
theorem V_law_cell : locsB (defScope s_law_cell) ["_law_script", "_law_k"] = true := by decide +kernel
def b_law_cell (aa : ((List Int) × Int × Unit)) : Option (Oc Empty Empty Int) := (Option.bind (Option.bind (some aa.2.1) fun (x : Int) => Option.bind (Option.bind (Option.bind (some aa.1) fun (x : (List Int)) => Option.bind (some ()) fun (r : Unit) => some (x, r)) (fun x : ((List Int) × Unit) => some (x.1.length : Int))) fun (y : Int) => some (decide (x < y))) fun (q : Bool) => if q = true then Option.bind (Option.bind (Option.bind (Option.bind (Option.bind (some aa.1) fun (xs : (List Int)) => Option.bind (some aa.2.1) fun (i : Int) => atI xs i) fun (x : Int) => Option.bind (some ()) fun (r : Unit) => some (x, r)) (fun x : (Int × Unit) => some (x.1.natAbs : Int))) fun (r : Int) => some (Oc.rt r)) Oc.up else (Option.bind (some (0 : Int)) fun (r : Int) => some (Oc.rt r)))
def r_law_cell (aa : ((List Int) × Int × Unit)) : Option Int := (b_law_cell aa).bind (Oc.out)
theorem ok_law_cell (T : Txt K mg c) {f : Addr} {fd : FuncData} (F : Fun K "_law_cell" "_law_cell" s_law_cell f fd) : FnOk P w K mg base CX0 1 f fd ["_law_script", "_law_k"] (spM K c (δ := ((List Int) × Int × Unit)) (ρ := Int) r_law_cell) := by
  refine fn_body (m := b_law_cell) (Γn := noS) (Γl := noS) F sc_law_cell (fun _ => rfl) (by decide) ?_
  intro cdv A outer s H E aa hr
  exact (sx_ifR (et_cmp op_lt o2_lt (ex_var (i := 1) rfl (vis_of V_law_cell (i := 1) rfl) rfl) (ex_B call_len_seq (cal_lenL (α := Int)) (by rfl) T.b_len bt_len (ea_cons (ex_var (i := 0) rfl (vis_of V_law_cell (i := 0) rfl) rfl) ea_nil)) (nomark _)) (sx_ret (ex_B call_abs cal_abs (by rfl) T.b_abs bt_abs (ea_cons (ex_ix ix_list o2_ixL (ex_var (i := 0) rfl (vis_of V_law_cell (i := 0) rfl) rfl) (ex_var (i := 1) rfl (vis_of V_law_cell (i := 1) rfl) rfl)) ea_nil))) (sx_ret ex_int))
theorem m_law_cell (T : Txt K mg c) : FnM P w K mg base c "_law_cell" 1 (δ := ((List Int) × Int × Unit)) (ρ := Int) r_law_cell := by
  obtain ⟨f, fd, F, hg, hB⟩ := T.d_law_cell
  exact ⟨f, fd, ["_law_script", "_law_k"], ok_law_cell T F, hg, F.kp, hB⟩
/-! ### _law_digits -/
abbrev N_law_digits : List Str := ["_law_cell_here", "_law_count", "_law_size", "_law_row", "_law_rest", "_law_k", "_law_mixed"]
theorem sc_law_digits : FnScope N_law_digits ["_law_cell_here", "_law_count", "_law_size"] (defScope s_law_digits) := ⟨rfl, rfl, rfl, by decide +kernel, rfl, by decide +kernel, by decide +kernel⟩
theorem V_law_digits : locsB (defScope s_law_digits) ["_law_cell_here", "_law_count", "_law_size", "_law_row", "_law_rest", "_law_k", "_law_mixed"] = true := by decide +kernel
def b_law_digits (aa : (Int × Int × Int × Unit)) : Option (Oc Empty Empty (List Int)) := (Option.bind (some ([] : List Int)) fun (law_row_1 : (List Int)) => (Option.bind (some aa.1) fun (law_rest_2 : Int) => (Option.bind (Option.bind (Option.bind (some aa.2.1) fun (n : Int) => rngM 0 n) fun (xs : List Int) => forM (S := (Int × (List Int))) (L := Empty) (ρ := (List Int)) (fun (x4 : Int) (s3 : (Int × (List Int))) => (Option.bind (Option.bind (Option.bind (some aa.1) fun (x : Int) => Option.bind (some (1000000000000000000 : Int)) fun (y : Int) => some (decide (x ≥ y))) fun (q : Bool) => if q = true then (Option.bind (some s3.1) fun (x : Int) => Option.bind (some (0 : Int)) fun (y : Int) => some (decide (x > y))) else some false) fun (q : Bool) => if q = true then (Option.bind (Option.bind (Option.bind (Option.bind (some s3.1) fun (x : Int) => Option.bind (some ()) fun (r : Unit) => some (x, r)) (fun x : (Int × Unit) => some x.1)) fun (x : Int) => Option.bind (some aa.2.2.1) fun (y : Int) => modM x y) fun (y : Int) => Option.bind (appM s3.2 y) fun (law_row_5 : (List Int)) => (Option.bind (Option.bind (some s3.1) fun (x : Int) => Option.bind (some aa.2.2.1) fun (y : Int) => fdivM x y) fun (law_rest_6 : Int) => (some (Oc.nx (law_rest_6, law_row_5))))) else (Option.bind (Option.bind (Option.bind (Option.bind (Option.bind (Option.bind (some aa.1) fun (x : Int) => Option.bind (Option.bind (some x4) fun (x : Int) => some (7919 * x)) fun (y : Int) => some (x + y)) fun (x : Int) => Option.bind (some (13 : Int)) fun (y : Int) => some (x + y)) fun (x : Int) => Option.bind (some ()) fun (r : Unit) => some (x, r)) (fun x : (Int × Unit) => some x.1)) fun (x : Int) => some (x % 2147483647)) fun (law_mixed_7 : Int) => (Option.bind (Option.bind (Option.bind (Option.bind (Option.bind (some law_mixed_7) fun (x : Int) => Option.bind (Option.bind (some law_mixed_7) fun (x : Int) => Option.bind (some (48271 : Int)) fun (y : Int) => some (x + y)) fun (y : Int) => mulM x y) fun (x : Int) => Option.bind (some ()) fun (r : Unit) => some (x, r)) (fun x : (Int × Unit) => some x.1)) fun (x : Int) => some (x % 2147483629)) fun (law_mixed_8 : Int) => (Option.bind (Option.bind (Option.bind (Option.bind (Option.bind (Option.bind (some law_mixed_8) fun (x : Int) => Option.bind (Option.bind (some law_mixed_8) fun (x : Int) => Option.bind (some (69621 : Int)) fun (y : Int) => some (x + y)) fun (y : Int) => mulM x y) fun (x : Int) => Option.bind (Option.bind (some x4) fun (x : Int) => some (31 * x)) fun (y : Int) => some (x + y)) fun (x : Int) => Option.bind (some ()) fun (r : Unit) => some (x, r)) (fun x : (Int × Unit) => some x.1)) fun (x : Int) => some (x % 2147483647)) fun (law_mixed_9 : Int) => (Option.bind (Option.bind (Option.bind (Option.bind (Option.bind (some law_mixed_9) fun (x : Int) => some (x / 9)) fun (x : Int) => Option.bind (some ()) fun (r : Unit) => some (x, r)) (fun x : (Int × Unit) => some x.1)) fun (x : Int) => Option.bind (some aa.2.2.1) fun (y : Int) => modM x y) fun (y : Int) => Option.bind (appM s3.2 y) fun (law_row_10 : (List Int)) => (some (Oc.nx (s3.1, law_row_10))))))))) xs (law_rest_2, law_row_1)) (Oc.seq fun (s11 : (Int × (List Int))) => (Option.bind (some s11.2) fun (r : (List Int)) => some (Oc.rt r))))))
def r_law_digits (aa : (Int × Int × Int × Unit)) : Option (List Int) := (b_law_digits aa).bind (Oc.out)
theorem ok_law_digits (T : Txt K mg c) {f : Addr} {fd : FuncData} (F : Fun K "_law_digits" "_law_digits" s_law_digits f fd) : FnOk P w K mg base CX0 1 f fd ["_law_cell_here", "_law_count", "_law_size"] (spM K c (δ := (Int × Int × Int × Unit)) (ρ := (List Int)) r_law_digits) := by
  refine fn_body (m := b_law_digits) (Γn := noS) (Γl := noS) F sc_law_digits (fun _ => rfl) (by decide) ?_
  intro cdv A outer s H E aa hr
  exact (sx_setO (i := 3) sc_law_digits.nd rfl (loc_of V_law_digits (i := 3) rfl) (eo_lst el_nil (el_le el_n0 (by decide))) (fun law_row_1 => (sx_set (i := 4) sc_law_digits.nd rfl (loc_of V_law_digits (i := 4) rfl) (ex_var (i := 0) rfl (vis_of V_law_digits (i := 0) rfl) rfl) (fun law_rest_2 => (sx_seq (Γs := fun (s11 : (Int × (List Int))) => ([.fr (aa.1 : Int), .fr (aa.2.1 : Int), .fr (aa.2.2.1 : Int), .ow (s11.2 : (List Int)), .fr (s11.1 : Int), .no, .no] : List Bd)) (s1_for (Γs := fun (s3 : (Int × (List Int))) => ([.fr (aa.1 : Int), .fr (aa.2.1 : Int), .fr (aa.2.2.1 : Int), .ow (s3.2 : (List Int)), .fr (s3.1 : Int), .no, .no] : List Bd)) PassesOwn.never rfl (ei_range1 (by rfl) T.b_range (ex_var (i := 1) rfl (vis_of V_law_digits (i := 1) rfl) rfl)) (pg_name (i := 5) sc_law_digits.nd rfl (loc_of V_law_digits (i := 5) rfl)) (tgs_name (α := Int)) (Weak.s (Weak.s (Weak.s (Weak.s (Weak.s (Weak.s (Weak.s Weak.nil))))))) (fun x4 s3 => (sx_ifE (et_w (ew_and (et_cmp op_ge o2_ge (ex_var (i := 0) rfl (vis_of V_law_digits (i := 0) rfl) rfl) (ex_powL (by decide +kernel)) (nomark _)) (ew_and1 (et_cmp op_gt o2_gt (ex_var (i := 4) rfl (vis_of V_law_digits (i := 4) rfl) rfl) ex_int (nomark _))))) (sx_append (i := 3) rfl (vis_of V_law_digits (i := 3) rfl) rfl (ex_op op_mod o2_mod (ex_Ty call_int1 cal_int (by rfl) T.b_int bt_int (ea_cons (ex_var (i := 4) rfl (vis_of V_law_digits (i := 4) rfl) rfl) ea_nil)) (ex_var (i := 2) rfl (vis_of V_law_digits (i := 2) rfl) rfl)) (fun law_row_5 => (sx_set (i := 4) sc_law_digits.nd rfl (loc_of V_law_digits (i := 4) rfl) (ex_op op_fdiv o2_fdiv (ex_var (i := 4) rfl (vis_of V_law_digits (i := 4) rfl) rfl) (ex_var (i := 2) rfl (vis_of V_law_digits (i := 2) rfl) rfl)) (fun law_rest_6 => (sx_nil (Weak.s (Weak.s (Weak.s (Weak.s (Weak.s (Weak.d (Weak.s Weak.nil))))))))))) (pe_bm PySem.F.plainAttrs_list PySem.F.slot_list_append PySem.F.type_list_append mt_append (pe_var rfl (vis_of V_law_digits (i := 3) rfl)) toA)) (sx_set (i := 6) sc_law_digits.nd rfl (loc_of V_law_digits (i := 6) rfl) (ex_modL (ex_Ty call_int1 cal_int (by rfl) T.b_int bt_int (ea_cons (ex_op op_add o2_add (ex_op op_add o2_add (ex_var (i := 0) rfl (vis_of V_law_digits (i := 0) rfl) rfl) (ex_mulL (ex_var (i := 5) rfl (vis_of V_law_digits (i := 5) rfl) rfl))) ex_int) ea_nil))) (fun law_mixed_7 => (sx_set (i := 6) sc_law_digits.nd rfl (loc_of V_law_digits (i := 6) rfl) (ex_modL (ex_Ty call_int1 cal_int (by rfl) T.b_int bt_int (ea_cons (ex_op op_mul o2_mul (ex_var (i := 6) rfl (vis_of V_law_digits (i := 6) rfl) rfl) (ex_op op_add o2_add (ex_var (i := 6) rfl (vis_of V_law_digits (i := 6) rfl) rfl) ex_int)) ea_nil))) (fun law_mixed_8 => (sx_set (i := 6) sc_law_digits.nd rfl (loc_of V_law_digits (i := 6) rfl) (ex_modL (ex_Ty call_int1 cal_int (by rfl) T.b_int bt_int (ea_cons (ex_op op_add o2_add (ex_op op_mul o2_mul (ex_var (i := 6) rfl (vis_of V_law_digits (i := 6) rfl) rfl) (ex_op op_add o2_add (ex_var (i := 6) rfl (vis_of V_law_digits (i := 6) rfl) rfl) ex_int)) (ex_mulL (ex_var (i := 5) rfl (vis_of V_law_digits (i := 5) rfl) rfl))) ea_nil))) (fun law_mixed_9 => (sx_append (i := 3) rfl (vis_of V_law_digits (i := 3) rfl) rfl (ex_op op_mod o2_mod (ex_Ty call_int1 cal_int (by rfl) T.b_int bt_int (ea_cons (ex_fdivL (ex_var (i := 6) rfl (vis_of V_law_digits (i := 6) rfl) rfl)) ea_nil)) (ex_var (i := 2) rfl (vis_of V_law_digits (i := 2) rfl) rfl)) (fun law_row_10 => (sx_nil (Weak.s (Weak.s (Weak.s (Weak.s (Weak.s (Weak.d (Weak.d Weak.nil))))))))) (pe_bm PySem.F.plainAttrs_list PySem.F.slot_list_append PySem.F.type_list_append mt_append (pe_var rfl (vis_of V_law_digits (i := 3) rfl)) toA))))))))))) (fun s11 => (sx_freeze (i := 3) rfl (sx_ret (ex_var (i := 3) rfl (vis_of V_law_digits (i := 3) rfl) rfl)))))))))
theorem m_law_digits (T : Txt K mg c) : FnM P w K mg base c "_law_digits" 1 (δ := (Int × Int × Int × Unit)) (ρ := (List Int)) r_law_digits := by
  obtain ⟨f, fd, F, hg, hB⟩ := T.d_law_digits
  exact ⟨f, fd, ["_law_cell_here", "_law_count", "_law_size"], ok_law_digits T F, hg, F.kp, hB⟩
/-! ### _law_seed -/
abbrev N_law_seed : List Str := ["_law_script", "_law_k"]
theorem sc_law_seed : FnScope N_law_seed ["_law_script", "_law_k"] (defScope s_law_seed) := ⟨rfl, rfl, rfl, by decide +kernel, rfl, by decide +kernel, by decide +kernel⟩
theorem V_law_seed : locsB (defScope s_law_seed) ["_law_script", "_law_k"] = true := by decide +kernel
def b_law_seed (aa : ((List Int) × Int × Unit)) : Option (Oc Empty Empty Int) := (Option.bind (Option.bind (some aa.2.1) fun (x : Int) => Option.bind (Option.bind (Option.bind (some aa.1) fun (x : (List Int)) => Option.bind (some ()) fun (r : Unit) => some (x, r)) (fun x : ((List Int) × Unit) => some (x.1.length : Int))) fun (y : Int) => some (decide (x < y))) fun (q : Bool) => if q = true then Option.bind (Option.bind (Option.bind (Option.bind (Option.bind (some aa.1) fun (xs : (List Int)) => Option.bind (some aa.2.1) fun (i : Int) => atI xs i) fun (x : Int) => Option.bind (some ()) fun (r : Unit) => some (x, r)) (fun x : (Int × Unit) => some (x.1.natAbs : Int))) fun (r : Int) => some (Oc.rt r)) Oc.up else (Option.bind (Option.bind (Option.bind (Option.bind (Option.bind (Option.bind (Option.bind (Option.bind (some aa.1) fun (x : (List Int)) => Option.bind (Option.bind (some (0 : Int)) fun (x : Int) => Option.bind (some ()) fun (r : Unit) => some (x, r)) fun (r : (Int × Unit)) => some (x, r)) r_law_cell) fun (x : Int) => Option.bind (Option.bind (some aa.2.1) fun (x : Int) => some (101 * x)) fun (y : Int) => some (x + y)) fun (x : Int) => Option.bind (some (7 : Int)) fun (y : Int) => some (x + y)) fun (x : Int) => Option.bind (Option.bind (some (1 : Int)) fun (x : Int) => Option.bind (Option.bind (some (1000000000 : Int)) fun (x : Int) => Option.bind (some ()) fun (r : Unit) => some (x, r)) fun (r : (Int × Unit)) => some (x, r)) fun (r : (Int × (Int × Unit))) => some (x, r)) r_law_digits) fun (xs : (List Int)) => Option.bind (some (0 : Int)) fun (i : Int) => atI xs i) fun (r : Int) => some (Oc.rt r)))
def r_law_seed (aa : ((List Int) × Int × Unit)) : Option Int := (b_law_seed aa).bind (Oc.out)
theorem ok_law_seed (T : Txt K mg c) {f : Addr} {fd : FuncData} (F : Fun K "_law_seed" "_law_seed" s_law_seed f fd) : FnOk P w K mg base CX0 2 f fd ["_law_script", "_law_k"] (spM K c (δ := ((List Int) × Int × Unit)) (ρ := Int) r_law_seed) := by
  refine fn_body (m := b_law_seed) (Γn := noS) (Γl := noS) F sc_law_seed (fun _ => rfl) (by decide) ?_
  intro cdv A outer s H E aa hr
  exact (sx_ifR (et_cmp op_lt o2_lt (ex_var (i := 1) rfl (vis_of V_law_seed (i := 1) rfl) rfl) (ex_B call_len_seq (cal_lenL (α := Int)) (by rfl) T.b_len bt_len (ea_cons (ex_var (i := 0) rfl (vis_of V_law_seed (i := 0) rfl) rfl) ea_nil)) (nomark _)) (sx_ret (ex_B call_abs cal_abs (by rfl) T.b_abs bt_abs (ea_cons (ex_ix ix_list o2_ixL (ex_var (i := 0) rfl (vis_of V_law_seed (i := 0) rfl) rfl) (ex_var (i := 1) rfl (vis_of V_law_seed (i := 1) rfl) rfl)) ea_nil))) (sx_ret (ex_ix ix_list o2_ixL (ex_call (m_law_digits T) hr (by decide) (by rfl) (ea_cons (ex_op op_add o2_add (ex_op op_add o2_add (ex_call (m_law_cell T) hr (by decide) (by rfl) (ea_cons (ex_var (i := 0) rfl (vis_of V_law_seed (i := 0) rfl) rfl) (ea_cons ex_int ea_nil))) (ex_mulL (ex_var (i := 1) rfl (vis_of V_law_seed (i := 1) rfl) rfl))) ex_int) (ea_cons ex_int (ea_cons (ex_powL (by decide +kernel)) ea_nil)))) ex_int)))
theorem m_law_seed (T : Txt K mg c) : FnM P w K mg base c "_law_seed" 2 (δ := ((List Int) × Int × Unit)) (ρ := Int) r_law_seed := by
  obtain ⟨f, fd, F, hg, hB⟩ := T.d_law_seed
  exact ⟨f, fd, ["_law_script", "_law_k"], ok_law_seed T F, hg, F.kp, hB⟩
/-! ### _law_union -/
abbrev N_law_union : List Str := ["_law_prices_here", "_law_stays", "_law_start", "_law_size", "_law_spans", "_law_total", "_law_reached", "_law_span", "_law_y", "_law_stay"]
theorem sc_law_union : FnScope N_law_union ["_law_prices_here", "_law_stays", "_law_start"] (defScope s_law_union) := ⟨rfl, rfl, rfl, by decide +kernel, rfl, by decide +kernel, by decide +kernel⟩
theorem V_law_union : locsB (defScope s_law_union) ["_law_prices_here", "_law_stays", "_law_start", "_law_size", "_law_spans", "_law_total", "_law_reached", "_law_span", "_law_y"] = true := by decide +kernel
def b_law_union (aa : ((List Int) × (List (Int × Int)) × Int × Unit)) : Option (Oc Empty Empty Int) := (Option.bind (Option.bind (Option.bind (some aa.1) fun (x : (List Int)) => Option.bind (some ()) fun (r : Unit) => some (x, r)) (fun x : ((List Int) × Unit) => some (x.1.length : Int))) fun (law_size_1 : Int) => (Option.bind (Option.bind (Option.bind (Option.bind (some aa.2.1) (lcM (fun (x3 : (Int × Int)) => (some true)) (fun (x3 : (Int × Int)) => (Option.bind (Option.bind (Option.bind (Option.bind (Option.bind (Option.bind (some x3) fun (x : (Int × Int)) => some x.1) fun (x : Int) => Option.bind (some aa.2.2.1) fun (y : Int) => some (x - y)) fun (x : Int) => Option.bind (some ()) fun (r : Unit) => some (x, r)) (fun x : (Int × Unit) => some x.1)) fun (x : Int) => Option.bind (some law_size_1) fun (y : Int) => modM x y) fun (x : Int) => Option.bind (Option.bind (some x3) fun (x : (Int × Int)) => some x.2) fun (y : Int) => some (x, y))))) fun (x : (List (Int × Int))) => Option.bind (some ()) fun (r : Unit) => some (x, r)) (fun x : ((List (Int × Int)) × Unit) => some (sortT x.1))) fun (law_spans_2 : (List (Int × Int))) => (Option.bind (some (0 : Int)) fun (law_total_4 : Int) => (Option.bind (some (0 : Int)) fun (law_reached_5 : Int) => (Option.bind (Option.bind (some law_spans_2) fun (xs : List (Int × Int)) => forM (S := (Int × Int)) (L := Empty) (ρ := Int) (fun (x7 : (Int × Int)) (s6 : (Int × Int)) => (Option.bind (Option.bind (Option.bind (Option.bind (Option.bind (Option.bind (some x7) fun (x : (Int × Int)) => some x.1) fun (x : Int) => Option.bind (Option.bind (some s6.2) fun (x : Int) => Option.bind (some ()) fun (r : Unit) => some (x, r)) fun (r : (Int × Unit)) => some (x, r)) (fun x : (Int × (Int × Unit)) => some (max x.1 x.2.1))) fun (lo : Int) => Option.bind (Option.bind (Option.bind (some x7) fun (x : (Int × Int)) => some x.1) fun (x : Int) => Option.bind (Option.bind (some x7) fun (x : (Int × Int)) => some x.2) fun (y : Int) => some (x + y)) fun (hi : Int) => rngM lo hi) fun (xs : List Int) => forM (S := Int) (L := (Int × Int)) (ρ := Int) (fun (x9 : Int) (s8 : Int) => (Option.bind (Option.bind (some s8) fun (x : Int) => Option.bind (Option.bind (some aa.1) fun (xs : (List Int)) => Option.bind (Option.bind (Option.bind (Option.bind (Option.bind (some aa.2.2.1) fun (x : Int) => Option.bind (some x9) fun (y : Int) => some (x + y)) fun (x : Int) => Option.bind (some ()) fun (r : Unit) => some (x, r)) (fun x : (Int × Unit) => some x.1)) fun (x : Int) => Option.bind (some law_size_1) fun (y : Int) => modM x y) fun (i : Int) => atI xs i) fun (y : Int) => some (x + y)) fun (law_total_10 : Int) => (some (Oc.nx law_total_10)))) xs s6.1) (Oc.seq fun (s11 : Int) => (Option.bind (Option.bind (Option.bind (some s6.2) fun (x : Int) => Option.bind (Option.bind (Option.bind (Option.bind (some x7) fun (x : (Int × Int)) => some x.1) fun (x : Int) => Option.bind (Option.bind (some x7) fun (x : (Int × Int)) => some x.2) fun (y : Int) => some (x + y)) fun (x : Int) => Option.bind (some ()) fun (r : Unit) => some (x, r)) fun (r : (Int × Unit)) => some (x, r)) (fun x : (Int × (Int × Unit)) => some (max x.1 x.2.1))) fun (law_reached_12 : Int) => (some (Oc.nx (s11, law_reached_12))))))) xs (law_total_4, law_reached_5)) (Oc.seq fun (s13 : (Int × Int)) => (Option.bind (some s13.1) fun (r : Int) => some (Oc.rt r))))))))
def r_law_union (aa : ((List Int) × (List (Int × Int)) × Int × Unit)) : Option Int := (b_law_union aa).bind (Oc.out)
theorem ok_law_union (T : Txt K mg c) {f : Addr} {fd : FuncData} (F : Fun K "_law_union" "_law_union" s_law_union f fd) : FnOk P w K mg base CX0 1 f fd ["_law_prices_here", "_law_stays", "_law_start"] (spM K c (δ := ((List Int) × (List (Int × Int)) × Int × Unit)) (ρ := Int) r_law_union) := by
  refine fn_body (m := b_law_union) (Γn := noS) (Γl := noS) F sc_law_union (fun _ => rfl) (by decide) ?_
  intro cdv A outer s H E aa hr
  exact (sx_set (i := 3) sc_law_union.nd rfl (loc_of V_law_union (i := 3) rfl) (ex_B call_len_seq (cal_lenL (α := Int)) (by rfl) T.b_len bt_len (ea_cons (ex_var (i := 0) rfl (vis_of V_law_union (i := 0) rfl) rfl) ea_nil)) (fun law_size_1 => (sx_set (i := 4) sc_law_union.nd rfl (loc_of V_law_union (i := 4) rfl) (EO.ex (eo_B (cr_sortT (α := (Int × Int)) (hu_srt hr (by decide))) (calO_sort (α := (Int × Int))) (by rfl) T.b_sorted bt_sorted (ea_cons (EO.ex (eo_lc rfl sc_law_union.nd (ei_list (ex_var (i := 1) rfl (vis_of V_law_union (i := 1) rfl) rfl)) (blkOk_by (own := [("_law_stay", 9)]) (N := N_law_union) (sc := (defScope s_law_union)) (by decide +kernel)) (fun _ _ _ _ _ => pg_name (i := 9) sc_law_union.nd rfl (by first | exact Or.inl rfl | exact Or.inr rfl)) (tgs_name (α := (Int × Int))) (fun _ _ _ _ _ x3 => ets_nil) (fun _ _ _ _ _ x3 => (ex_pair (ex_op op_mod o2_mod (ex_Ty call_int1 cal_int (by rfl) T.b_int bt_int (ea_cons (ex_op op_sub o2_sub (ex_fst (ex_var (i := 9) rfl (by first | exact Or.inl rfl | exact Or.inr (Or.inl rfl) | exact Or.inr (Or.inr rfl)) rfl)) (ex_var (i := 2) rfl (by first | exact Or.inl rfl | exact Or.inr (Or.inl rfl) | exact Or.inr (Or.inr rfl)) rfl)) ea_nil)) (ex_var (i := 3) rfl (by first | exact Or.inl rfl | exact Or.inr (Or.inl rfl) | exact Or.inr (Or.inr rfl)) rfl)) (ex_snd (ex_var (i := 9) rfl (by first | exact Or.inl rfl | exact Or.inr (Or.inl rfl) | exact Or.inr (Or.inr rfl)) rfl)))))) ea_nil))) (fun law_spans_2 => (sx_set (i := 5) sc_law_union.nd rfl (loc_of V_law_union (i := 5) rfl) ex_int (fun law_total_4 => (sx_set (i := 6) sc_law_union.nd rfl (loc_of V_law_union (i := 6) rfl) ex_int (fun law_reached_5 => (sx_seq (Γs := fun (s13 : (Int × Int)) => ([.fr (aa.1 : (List Int)), .fr (aa.2.1 : (List (Int × Int))), .fr (aa.2.2.1 : Int), .fr (law_size_1 : Int), .fr (law_spans_2 : (List (Int × Int))), .fr (s13.1 : Int), .fr (s13.2 : Int), .no, .no, .no] : List Bd)) (s1_for (Γs := fun (s6 : (Int × Int)) => ([.fr (aa.1 : (List Int)), .fr (aa.2.1 : (List (Int × Int))), .fr (aa.2.2.1 : Int), .fr (law_size_1 : Int), .fr (law_spans_2 : (List (Int × Int))), .fr (s6.1 : Int), .fr (s6.2 : Int), .no, .no, .no] : List Bd)) PassesOwn.never rfl (ei_list (ex_var (i := 4) rfl (vis_of V_law_union (i := 4) rfl) rfl)) (pg_name (i := 7) sc_law_union.nd rfl (loc_of V_law_union (i := 7) rfl)) (tgs_name (α := (Int × Int))) (Weak.s (Weak.s (Weak.s (Weak.s (Weak.s (Weak.s (Weak.s (Weak.s (Weak.s (Weak.s Weak.nil)))))))))) (fun x7 s6 => (sx_seq (Γs := fun (s11 : Int) => ([.fr (aa.1 : (List Int)), .fr (aa.2.1 : (List (Int × Int))), .fr (aa.2.2.1 : Int), .fr (law_size_1 : Int), .fr (law_spans_2 : (List (Int × Int))), .fr (s11 : Int), .fr (s6.2 : Int), .fr (x7 : (Int × Int)), .no, .no] : List Bd)) (s1_for (Γs := fun (s8 : Int) => ([.fr (aa.1 : (List Int)), .fr (aa.2.1 : (List (Int × Int))), .fr (aa.2.2.1 : Int), .fr (law_size_1 : Int), .fr (law_spans_2 : (List (Int × Int))), .fr (s8 : Int), .fr (s6.2 : Int), .fr (x7 : (Int × Int)), .no, .no] : List Bd)) PassesOwn.never rfl (ei_range2 (by rfl) T.b_range (ex_B (call_max2 rfl) cal_max2 (by rfl) T.b_max bt_max (ea_cons (ex_fst (ex_var (i := 7) rfl (vis_of V_law_union (i := 7) rfl) rfl)) (ea_cons (ex_var (i := 6) rfl (vis_of V_law_union (i := 6) rfl) rfl) ea_nil))) (ex_op op_add o2_add (ex_fst (ex_var (i := 7) rfl (vis_of V_law_union (i := 7) rfl) rfl)) (ex_snd (ex_var (i := 7) rfl (vis_of V_law_union (i := 7) rfl) rfl)))) (pg_name (i := 8) sc_law_union.nd rfl (loc_of V_law_union (i := 8) rfl)) (tgs_name (α := Int)) (Weak.s (Weak.s (Weak.s (Weak.s (Weak.s (Weak.s (Weak.s (Weak.s (Weak.s (Weak.s Weak.nil)))))))))) (fun x9 s8 => (sx_set (i := 5) sc_law_union.nd rfl (loc_of V_law_union (i := 5) rfl) (ex_op op_add o2_add (ex_var (i := 5) rfl (vis_of V_law_union (i := 5) rfl) rfl) (ex_ix ix_list o2_ixL (ex_var (i := 0) rfl (vis_of V_law_union (i := 0) rfl) rfl) (ex_op op_mod o2_mod (ex_Ty call_int1 cal_int (by rfl) T.b_int bt_int (ea_cons (ex_op op_add o2_add (ex_var (i := 2) rfl (vis_of V_law_union (i := 2) rfl) rfl) (ex_var (i := 8) rfl (vis_of V_law_union (i := 8) rfl) rfl)) ea_nil)) (ex_var (i := 3) rfl (vis_of V_law_union (i := 3) rfl) rfl)))) (fun law_total_10 => (sx_nil (Weak.s (Weak.s (Weak.s (Weak.s (Weak.s (Weak.s (Weak.s (Weak.s (Weak.d (Weak.s Weak.nil))))))))))))))) (fun s11 => (sx_set (i := 6) sc_law_union.nd rfl (loc_of V_law_union (i := 6) rfl) (ex_B (call_max2 rfl) cal_max2 (by rfl) T.b_max bt_max (ea_cons (ex_var (i := 6) rfl (vis_of V_law_union (i := 6) rfl) rfl) (ea_cons (ex_op op_add o2_add (ex_fst (ex_var (i := 7) rfl (vis_of V_law_union (i := 7) rfl) rfl)) (ex_snd (ex_var (i := 7) rfl (vis_of V_law_union (i := 7) rfl) rfl))) ea_nil))) (fun law_reached_12 => (sx_nil (Weak.s (Weak.s (Weak.s (Weak.s (Weak.s (Weak.s (Weak.s (Weak.d (Weak.s (Weak.s Weak.nil))))))))))))))))) (fun s13 => (sx_ret (ex_var (i := 5) rfl (vis_of V_law_union (i := 5) rfl) rfl))))))))))))
theorem m_law_union (T : Txt K mg c) : FnM P w K mg base c "_law_union" 1 (δ := ((List Int) × (List (Int × Int)) × Int × Unit)) (ρ := Int) r_law_union := by
  obtain ⟨f, fd, F, hg, hB⟩ := T.d_law_union
  exact ⟨f, fd, ["_law_prices_here", "_law_stays", "_law_start"], ok_law_union T F, hg, F.kp, hB⟩
/-! ### _law_least_ring -/
abbrev N_law_least_ring : List Str := ["_law_prices_here", "_law_stays", "_law_stay"]
theorem sc_law_least_ring : FnScope N_law_least_ring ["_law_prices_here", "_law_stays"] (defScope s_law_least_ring) := ⟨rfl, rfl, rfl, by decide +kernel, rfl, by decide +kernel, by decide +kernel⟩
theorem V_law_least_ring : locsB (defScope s_law_least_ring) ["_law_prices_here", "_law_stays"] = true := by decide +kernel
def b_law_least_ring (aa : ((List Int) × (List (Int × Int)) × Unit)) : Option (Oc Empty Empty Int) := (Option.bind (Option.bind (Option.bind (Option.bind (some aa.2.1) fun (x : (List (Int × Int))) => Option.bind (some ()) fun (r : Unit) => some (x, r)) (fun x : ((List (Int × Int)) × Unit) => some (x.1.length : Int))) fun (x : Int) => Option.bind (some (0 : Int)) fun (y : Int) => some (decide (x = y))) fun (q : Bool) => if q = true then Option.bind (Option.bind (some (0 : Int)) fun (r : Int) => some (Oc.rt r)) Oc.up else (Option.bind (Option.bind (Option.bind (Option.bind (some aa.2.1) (lcM (fun (x1 : (Int × Int)) => (some true)) (fun (x1 : (Int × Int)) => (Option.bind (Option.bind (some aa.1) fun (x : (List Int)) => Option.bind (Option.bind (some aa.2.1) fun (x : (List (Int × Int))) => Option.bind (Option.bind (Option.bind (some x1) fun (x : (Int × Int)) => some x.1) fun (x : Int) => Option.bind (some ()) fun (r : Unit) => some (x, r)) fun (r : (Int × Unit)) => some (x, r)) fun (r : ((List (Int × Int)) × (Int × Unit))) => some (x, r)) r_law_union)))) fun (x : (List Int)) => Option.bind (some ()) fun (r : Unit) => some (x, r)) (fun x : ((List Int) × Unit) => x.1.min?)) fun (r : Int) => some (Oc.rt r)))
def r_law_least_ring (aa : ((List Int) × (List (Int × Int)) × Unit)) : Option Int := (b_law_least_ring aa).bind (Oc.out)
theorem ok_law_least_ring (T : Txt K mg c) {f : Addr} {fd : FuncData} (F : Fun K "_law_least_ring" "_law_least_ring" s_law_least_ring f fd) : FnOk P w K mg base CX0 2 f fd ["_law_prices_here", "_law_stays"] (spM K c (δ := ((List Int) × (List (Int × Int)) × Unit)) (ρ := Int) r_law_least_ring) := by
  refine fn_body (m := b_law_least_ring) (Γn := noS) (Γl := noS) F sc_law_least_ring (fun _ => rfl) (by decide) ?_
  intro cdv A outer s H E aa hr
  exact (sx_ifR (et_cmp op_eq o2_eq (ex_B call_len_seq (cal_lenL (α := (Int × Int))) (by rfl) T.b_len bt_len (ea_cons (ex_var (i := 1) rfl (vis_of V_law_least_ring (i := 1) rfl) rfl) ea_nil)) ex_int (nomark _)) (sx_ret ex_int) (sx_ret (ex_B (cr_min rfl) cal_min (by rfl) T.b_min bt_min (ea_cons (EO.ex (eo_lc rfl sc_law_least_ring.nd (ei_list (ex_var (i := 1) rfl (vis_of V_law_least_ring (i := 1) rfl) rfl)) (blkOk_by (own := [("_law_stay", 2)]) (N := N_law_least_ring) (sc := (defScope s_law_least_ring)) (by decide +kernel)) (fun _ _ _ _ _ => pg_name (i := 2) sc_law_least_ring.nd rfl (by first | exact Or.inl rfl | exact Or.inr rfl)) (tgs_name (α := (Int × Int))) (fun _ _ _ _ _ x1 => ets_nil) (fun _ _ _ _ _ x1 => (ex_call (m_law_union T) hr (by decide) (by rfl) (ea_cons (ex_var (i := 0) rfl (by first | exact Or.inl rfl | exact Or.inr (Or.inl rfl) | exact Or.inr (Or.inr rfl)) rfl) (ea_cons (ex_var (i := 1) rfl (by first | exact Or.inl rfl | exact Or.inr (Or.inl rfl) | exact Or.inr (Or.inr rfl)) rfl) (ea_cons (ex_fst (ex_var (i := 2) rfl (by first | exact Or.inl rfl | exact Or.inr (Or.inl rfl) | exact Or.inr (Or.inr rfl)) rfl)) ea_nil))))))) ea_nil))))
theorem m_law_least_ring (T : Txt K mg c) : FnM P w K mg base c "_law_least_ring" 2 (δ := ((List Int) × (List (Int × Int)) × Unit)) (ρ := Int) r_law_least_ring := by
  obtain ⟨f, fd, F, hg, hB⟩ := T.d_law_least_ring
  exact ⟨f, fd, ["_law_prices_here", "_law_stays"], ok_law_least_ring T F, hg, F.kp, hB⟩
/-! ### _law_prefix -/
abbrev N_law_prefix : List Str := ["_law_run", "_law_schedule", "_law_done", "_law_node"]
theorem sc_law_prefix : FnScope N_law_prefix ["_law_run", "_law_schedule"] (defScope s_law_prefix) := ⟨rfl, rfl, rfl, by decide +kernel, rfl, by decide +kernel, by decide +kernel⟩
theorem V_law_prefix : locsB (defScope s_law_prefix) ["_law_run", "_law_schedule", "_law_done", "_law_node"] = true := by decide +kernel
def b_law_prefix (aa : ((List Int) × (List Int) × Unit)) : Option (Oc Empty Empty Int) := (Option.bind (some (0 : Int)) fun (law_done_1 : Int) => (Option.bind (Option.bind (some aa.2.1) fun (xs : List Int) => forM (S := Int) (L := Empty) (ρ := Int) (fun (x3 : Int) (s2 : Int) => (Option.bind (Option.bind (Option.bind (some s2) fun (x : Int) => Option.bind (Option.bind (Option.bind (some aa.1) fun (x : (List Int)) => Option.bind (some ()) fun (r : Unit) => some (x, r)) (fun x : ((List Int) × Unit) => some (x.1.length : Int))) fun (y : Int) => some (decide (x < y))) fun (q : Bool) => if q = true then (Option.bind (Option.bind (some aa.1) fun (xs : (List Int)) => Option.bind (some s2) fun (i : Int) => atI xs i) fun (x : Int) => Option.bind (some x3) fun (y : Int) => some (decide (x = y))) else some false) fun (q : Bool) => if q = true then (Option.bind (Option.bind (some s2) fun (x : Int) => Option.bind (some (1 : Int)) fun (y : Int) => some (x + y)) fun (law_done_4 : Int) => (some (Oc.nx law_done_4))) else (some (Oc.nx s2)))) xs law_done_1) (Oc.seq fun (s5 : Int) => (Option.bind (some s5) fun (r : Int) => some (Oc.rt r)))))
def r_law_prefix (aa : ((List Int) × (List Int) × Unit)) : Option Int := (b_law_prefix aa).bind (Oc.out)
theorem ok_law_prefix (T : Txt K mg c) {f : Addr} {fd : FuncData} (F : Fun K "_law_prefix" "_law_prefix" s_law_prefix f fd) : FnOk P w K mg base CX0 1 f fd ["_law_run", "_law_schedule"] (spM K c (δ := ((List Int) × (List Int) × Unit)) (ρ := Int) r_law_prefix) := by
  refine fn_body (m := b_law_prefix) (Γn := noS) (Γl := noS) F sc_law_prefix (fun _ => rfl) (by decide) ?_
  intro cdv A outer s H E aa hr
  exact (sx_set (i := 2) sc_law_prefix.nd rfl (loc_of V_law_prefix (i := 2) rfl) ex_int (fun law_done_1 => (sx_seq (Γs := fun (s5 : Int) => ([.fr (aa.1 : (List Int)), .fr (aa.2.1 : (List Int)), .fr (s5 : Int), .no] : List Bd)) (s1_for (Γs := fun (s2 : Int) => ([.fr (aa.1 : (List Int)), .fr (aa.2.1 : (List Int)), .fr (s2 : Int), .no] : List Bd)) PassesOwn.never rfl (ei_list (ex_var (i := 1) rfl (vis_of V_law_prefix (i := 1) rfl) rfl)) (pg_name (i := 3) sc_law_prefix.nd rfl (loc_of V_law_prefix (i := 3) rfl)) (tgs_name (α := Int)) (Weak.s (Weak.s (Weak.s (Weak.s Weak.nil)))) (fun x3 s2 => (sx_ifE (et_w (ew_and (et_cmp op_lt o2_lt (ex_var (i := 2) rfl (vis_of V_law_prefix (i := 2) rfl) rfl) (ex_B call_len_seq (cal_lenL (α := Int)) (by rfl) T.b_len bt_len (ea_cons (ex_var (i := 0) rfl (vis_of V_law_prefix (i := 0) rfl) rfl) ea_nil)) (nomark _)) (ew_and1 (et_cmp op_eq o2_eq (ex_ix ix_list o2_ixL (ex_var (i := 0) rfl (vis_of V_law_prefix (i := 0) rfl) rfl) (ex_var (i := 2) rfl (vis_of V_law_prefix (i := 2) rfl) rfl)) (ex_var (i := 3) rfl (vis_of V_law_prefix (i := 3) rfl) rfl) (nomark _))))) (sx_set (i := 2) sc_law_prefix.nd rfl (loc_of V_law_prefix (i := 2) rfl) (ex_op op_add o2_add (ex_var (i := 2) rfl (vis_of V_law_prefix (i := 2) rfl) rfl) ex_int) (fun law_done_4 => (sx_nil (Weak.s (Weak.s (Weak.s (Weak.d Weak.nil))))))) (sx_nil (Weak.s (Weak.s (Weak.s (Weak.d Weak.nil)))))))) (fun s5 => (sx_ret (ex_var (i := 2) rfl (vis_of V_law_prefix (i := 2) rfl) rfl))))))
theorem m_law_prefix (T : Txt K mg c) : FnM P w K mg base c "_law_prefix" 1 (δ := ((List Int) × (List Int) × Unit)) (ρ := Int) r_law_prefix := by
  obtain ⟨f, fd, F, hg, hB⟩ := T.d_law_prefix
  exact ⟨f, fd, ["_law_run", "_law_schedule"], ok_law_prefix T F, hg, F.kp, hB⟩
/-! ### _law_is_int -/
abbrev N_law_is_int : List Str := ["_law_value"]
theorem sc_law_is_int : FnScope N_law_is_int ["_law_value"] (defScope s_law_is_int) := ⟨rfl, rfl, rfl, by decide +kernel, rfl, by decide +kernel, by decide +kernel⟩
theorem V_law_is_int : locsB (defScope s_law_is_int) ["_law_value"] = true := by decide +kernel
def b_law_is_int (aa : (Int × Unit)) : Option (Oc Empty Empty Bool) := (Option.bind (Option.bind (Option.bind (some aa.1) fun (_ : Int) => some true) fun (q : Bool) => if q = true then (Option.bind (Option.bind (some aa.1) fun (_ : Int) => some false) fun (q : Bool) => some (!q)) else some false) fun (r : Bool) => some (Oc.rt r))
def r_law_is_int (aa : (Int × Unit)) : Option Bool := (b_law_is_int aa).bind (Oc.out)
theorem ok_law_is_int (T : Txt K mg c) {f : Addr} {fd : FuncData} (F : Fun K "_law_is_int" "_law_is_int" s_law_is_int f fd) : FnOk P w K mg base CX0 1 f fd ["_law_value"] (spM K c (δ := (Int × Unit)) (ρ := Bool) r_law_is_int) := by
  refine fn_body (m := b_law_is_int) (Γn := noS) (Γl := noS) F sc_law_is_int (fun _ => rfl) (by decide) ?_
  intro cdv A outer s H E aa hr
  exact (sx_ret (ex_and (ex_isinst (by rfl) T.b_isinstance (by rfl) T.b_int bt_int (by decide +kernel) (ex_var (i := 0) rfl (vis_of V_law_is_int (i := 0) rfl) rfl)) (ex_bo1 (ex_not (ex_isinst (by rfl) T.b_isinstance (by rfl) T.b_bool bt_bool (by decide +kernel) (ex_var (i := 0) rfl (vis_of V_law_is_int (i := 0) rfl) rfl))))))
theorem m_law_is_int (T : Txt K mg c) : FnM P w K mg base c "_law_is_int" 1 (δ := (Int × Unit)) (ρ := Bool) r_law_is_int := by
  obtain ⟨f, fd, F, hg, hB⟩ := T.d_law_is_int
  exact ⟨f, fd, ["_law_value"], ok_law_is_int T F, hg, F.kp, hB⟩
/-! ### _law_ints -/
abbrev N_law_ints : List Str := ["_law_row", "_law_value"]
theorem sc_law_ints : FnScope N_law_ints ["_law_row"] (defScope s_law_ints) := ⟨rfl, rfl, rfl, by decide +kernel, rfl, by decide +kernel, by decide +kernel⟩
theorem V_law_ints : locsB (defScope s_law_ints) ["_law_row", "_law_value"] = true := by decide +kernel
def b_law_ints (aa : ((List Int) × Unit)) : Option (Oc Empty Empty Bool) := (Option.bind (Option.bind (Option.bind (some aa.1) fun (_ : (List Int)) => some true) fun (q : Bool) => some (!q)) fun (q : Bool) => if q = true then Option.bind (Option.bind (some false) fun (r : Bool) => some (Oc.rt r)) Oc.up else (Option.bind (Option.bind (some aa.1) fun (xs : List Int) => forM (S := Unit) (L := Empty) (ρ := Bool) (fun (x2 : Int) (s1 : Unit) => (Option.bind (Option.bind (Option.bind (Option.bind (some x2) fun (x : Int) => Option.bind (some ()) fun (r : Unit) => some (x, r)) r_law_is_int) fun (q : Bool) => some (!q)) fun (q : Bool) => if q = true then Option.bind (Option.bind (some false) fun (r : Bool) => some (Oc.rt r)) Oc.up else (some (Oc.nx ())))) xs ()) (Oc.seq fun (s3 : Unit) => (Option.bind (some true) fun (r : Bool) => some (Oc.rt r)))))
def r_law_ints (aa : ((List Int) × Unit)) : Option Bool := (b_law_ints aa).bind (Oc.out)
theorem ok_law_ints (T : Txt K mg c) {f : Addr} {fd : FuncData} (F : Fun K "_law_ints" "_law_ints" s_law_ints f fd) : FnOk P w K mg base CX0 2 f fd ["_law_row"] (spM K c (δ := ((List Int) × Unit)) (ρ := Bool) r_law_ints) := by
  refine fn_body (m := b_law_ints) (Γn := noS) (Γl := noS) F sc_law_ints (fun _ => rfl) (by decide) ?_
  intro cdv A outer s H E aa hr
  exact (sx_ifR (et_not (et_bool (ex_isinst (by rfl) T.b_isinstance (by rfl) T.b_list bt_list (by decide +kernel) (ex_var (i := 0) rfl (vis_of V_law_ints (i := 0) rfl) rfl)))) (sx_ret ex_bl) (sx_seq (Γs := fun (s3 : Unit) => ([.fr (aa.1 : (List Int)), .no] : List Bd)) (s1_for (Γs := fun (s1 : Unit) => ([.fr (aa.1 : (List Int)), .no] : List Bd)) PassesOwn.never rfl (ei_list (ex_var (i := 0) rfl (vis_of V_law_ints (i := 0) rfl) rfl)) (pg_name (i := 1) sc_law_ints.nd rfl (loc_of V_law_ints (i := 1) rfl)) (tgs_name (α := Int)) (Weak.s (Weak.s Weak.nil)) (fun x2 s1 => (sx_ifR (et_not (et_bool (ex_call (m_law_is_int T) hr (by decide) (by rfl) (ea_cons (ex_var (i := 1) rfl (vis_of V_law_ints (i := 1) rfl) rfl) ea_nil)))) (sx_ret ex_bl) (sx_nil (Weak.s (Weak.d Weak.nil)))))) (fun s3 => (sx_ret ex_bl))))
theorem m_law_ints (T : Txt K mg c) : FnM P w K mg base c "_law_ints" 2 (δ := ((List Int) × Unit)) (ρ := Bool) r_law_ints := by
  obtain ⟨f, fd, F, hg, hB⟩ := T.d_law_ints
  exact ⟨f, fd, ["_law_row"], ok_law_ints T F, hg, F.kp, hB⟩
/-! ### _law_whole -/
abbrev N_law_whole : List Str := ["_law_runs", "_law_schedule", "_law_run"]
theorem sc_law_whole : FnScope N_law_whole ["_law_runs", "_law_schedule"] (defScope s_law_whole) := ⟨rfl, rfl, rfl, by decide +kernel, rfl, by decide +kernel, by decide +kernel⟩
theorem V_law_whole : locsB (defScope s_law_whole) ["_law_runs", "_law_schedule", "_law_run"] = true := by decide +kernel
def b_law_whole (aa : ((List (List Int)) × (List Int) × Unit)) : Option (Oc Empty Empty Bool) := (Option.bind (Option.bind (some aa.1) fun (xs : List (List Int)) => forM (S := Unit) (L := Empty) (ρ := Bool) (fun (x2 : (List Int)) (s1 : Unit) => (Option.bind (Option.bind (Option.bind (Option.bind (some x2) fun (x : (List Int)) => Option.bind (Option.bind (some aa.2.1) fun (x : (List Int)) => Option.bind (some ()) fun (r : Unit) => some (x, r)) fun (r : ((List Int) × Unit)) => some (x, r)) r_law_prefix) fun (x : Int) => Option.bind (Option.bind (Option.bind (some x2) fun (x : (List Int)) => Option.bind (some ()) fun (r : Unit) => some (x, r)) (fun x : ((List Int) × Unit) => some (x.1.length : Int))) fun (y : Int) => some (decide (x < y))) fun (q : Bool) => if q = true then Option.bind (Option.bind (some false) fun (r : Bool) => some (Oc.rt r)) Oc.up else (some (Oc.nx ())))) xs ()) (Oc.seq fun (s3 : Unit) => (Option.bind (some true) fun (r : Bool) => some (Oc.rt r))))
def r_law_whole (aa : ((List (List Int)) × (List Int) × Unit)) : Option Bool := (b_law_whole aa).bind (Oc.out)
theorem ok_law_whole (T : Txt K mg c) {f : Addr} {fd : FuncData} (F : Fun K "_law_whole" "_law_whole" s_law_whole f fd) : FnOk P w K mg base CX0 2 f fd ["_law_runs", "_law_schedule"] (spM K c (δ := ((List (List Int)) × (List Int) × Unit)) (ρ := Bool) r_law_whole) := by
  refine fn_body (m := b_law_whole) (Γn := noS) (Γl := noS) F sc_law_whole (fun _ => rfl) (by decide) ?_
  intro cdv A outer s H E aa hr
  exact (sx_seq (Γs := fun (s3 : Unit) => ([.fr (aa.1 : (List (List Int))), .fr (aa.2.1 : (List Int)), .no] : List Bd)) (s1_for (Γs := fun (s1 : Unit) => ([.fr (aa.1 : (List (List Int))), .fr (aa.2.1 : (List Int)), .no] : List Bd)) PassesOwn.never rfl (ei_list (ex_var (i := 0) rfl (vis_of V_law_whole (i := 0) rfl) rfl)) (pg_name (i := 2) sc_law_whole.nd rfl (loc_of V_law_whole (i := 2) rfl)) (tgs_name (α := (List Int))) (Weak.s (Weak.s (Weak.s Weak.nil))) (fun x2 s1 => (sx_ifR (et_cmp op_lt o2_lt (ex_call (m_law_prefix T) hr (by decide) (by rfl) (ea_cons (ex_var (i := 2) rfl (vis_of V_law_whole (i := 2) rfl) rfl) (ea_cons (ex_var (i := 1) rfl (vis_of V_law_whole (i := 1) rfl) rfl) ea_nil))) (ex_B call_len_seq (cal_lenL (α := Int)) (by rfl) T.b_len bt_len (ea_cons (ex_var (i := 2) rfl (vis_of V_law_whole (i := 2) rfl) rfl) ea_nil)) (nomark _)) (sx_ret ex_bl) (sx_nil (Weak.s (Weak.s (Weak.d Weak.nil))))))) (fun s3 => (sx_ret ex_bl)))
theorem m_law_whole (T : Txt K mg c) : FnM P w K mg base c "_law_whole" 2 (δ := ((List (List Int)) × (List Int) × Unit)) (ρ := Bool) r_law_whole := by
  obtain ⟨f, fd, F, hg, hB⟩ := T.d_law_whole
  exact ⟨f, fd, ["_law_runs", "_law_schedule"], ok_law_whole T F, hg, F.kp, hB⟩
/-! ### _law_few_runs -/
abbrev N_law_few_runs : List Str := ["_law_runs", "_law_most", "_law_kept", "_law_total", "_law_run"]
theorem sc_law_few_runs : FnScope N_law_few_runs ["_law_runs", "_law_most"] (defScope s_law_few_runs) := ⟨rfl, rfl, rfl, by decide +kernel, rfl, by decide +kernel, by decide +kernel⟩
theorem V_law_few_runs : locsB (defScope s_law_few_runs) ["_law_runs", "_law_most", "_law_kept", "_law_total", "_law_run"] = true := by decide +kernel
def b_law_few_runs (aa : ((List (List Int)) × Int × Unit)) : Option (Oc Empty Empty (List (List Int))) := (Option.bind (some ([] : List (List Int))) fun (law_kept_1 : (List (List Int))) => (Option.bind (some (1 : Int)) fun (law_total_2 : Int) => (Option.bind (Option.bind (some aa.1) fun (xs : List (List Int)) => forM (S := (Int × (List (List Int)))) (L := Empty) (ρ := (List (List Int))) (fun (x4 : (List Int)) (s3 : (Int × (List (List Int)))) => (Option.bind (Option.bind (Option.bind (some s3.1) fun (x : Int) => Option.bind (Option.bind (Option.bind (Option.bind (some x4) fun (x : (List Int)) => Option.bind (some ()) fun (r : Unit) => some (x, r)) (fun x : ((List Int) × Unit) => some (x.1.length : Int))) fun (x : Int) => Option.bind (some (1 : Int)) fun (y : Int) => some (x + y)) fun (y : Int) => mulM x y) fun (x : Int) => Option.bind (some aa.2.1) fun (y : Int) => some (decide (x ≤ y))) fun (q : Bool) => if q = true then (Option.bind (some x4) fun (y : (List Int)) => Option.bind (appM s3.2 y) fun (law_kept_5 : (List (List Int))) => (Option.bind (Option.bind (some s3.1) fun (x : Int) => Option.bind (Option.bind (Option.bind (Option.bind (some x4) fun (x : (List Int)) => Option.bind (some ()) fun (r : Unit) => some (x, r)) (fun x : ((List Int) × Unit) => some (x.1.length : Int))) fun (x : Int) => Option.bind (some (1 : Int)) fun (y : Int) => some (x + y)) fun (y : Int) => mulM x y) fun (law_total_6 : Int) => (some (Oc.nx (law_total_6, law_kept_5))))) else (some (Oc.nx (s3.1, s3.2))))) xs (law_total_2, law_kept_1)) (Oc.seq fun (s7 : (Int × (List (List Int)))) => (Option.bind (some s7.2) fun (r : (List (List Int))) => some (Oc.rt r))))))
def r_law_few_runs (aa : ((List (List Int)) × Int × Unit)) : Option (List (List Int)) := (b_law_few_runs aa).bind (Oc.out)
theorem ok_law_few_runs (T : Txt K mg c) {f : Addr} {fd : FuncData} (F : Fun K "_law_few_runs" "_law_few_runs" s_law_few_runs f fd) : FnOk P w K mg base CX0 1 f fd ["_law_runs", "_law_most"] (spM K c (δ := ((List (List Int)) × Int × Unit)) (ρ := (List (List Int))) r_law_few_runs) := by
  refine fn_body (m := b_law_few_runs) (Γn := noS) (Γl := noS) F sc_law_few_runs (fun _ => rfl) (by decide) ?_
  intro cdv A outer s H E aa hr
  exact (sx_setO (i := 2) sc_law_few_runs.nd rfl (loc_of V_law_few_runs (i := 2) rfl) (eo_lst el_nil (el_le el_n0 (by decide))) (fun law_kept_1 => (sx_set (i := 3) sc_law_few_runs.nd rfl (loc_of V_law_few_runs (i := 3) rfl) ex_int (fun law_total_2 => (sx_seq (Γs := fun (s7 : (Int × (List (List Int)))) => ([.fr (aa.1 : (List (List Int))), .fr (aa.2.1 : Int), .ow (s7.2 : (List (List Int))), .fr (s7.1 : Int), .no] : List Bd)) (s1_for (Γs := fun (s3 : (Int × (List (List Int)))) => ([.fr (aa.1 : (List (List Int))), .fr (aa.2.1 : Int), .ow (s3.2 : (List (List Int))), .fr (s3.1 : Int), .no] : List Bd)) PassesOwn.never rfl (ei_list (ex_var (i := 0) rfl (vis_of V_law_few_runs (i := 0) rfl) rfl)) (pg_name (i := 4) sc_law_few_runs.nd rfl (loc_of V_law_few_runs (i := 4) rfl)) (tgs_name (α := (List Int))) (Weak.s (Weak.s (Weak.s (Weak.s (Weak.s Weak.nil))))) (fun x4 s3 => (sx_ifE (et_cmp op_le o2_le (ex_op op_mul o2_mul (ex_var (i := 3) rfl (vis_of V_law_few_runs (i := 3) rfl) rfl) (ex_op op_add o2_add (ex_B call_len_seq (cal_lenL (α := Int)) (by rfl) T.b_len bt_len (ea_cons (ex_var (i := 4) rfl (vis_of V_law_few_runs (i := 4) rfl) rfl) ea_nil)) ex_int)) (ex_var (i := 1) rfl (vis_of V_law_few_runs (i := 1) rfl) rfl) (nomark _)) (sx_append (i := 2) rfl (vis_of V_law_few_runs (i := 2) rfl) rfl (ex_var (i := 4) rfl (vis_of V_law_few_runs (i := 4) rfl) rfl) (fun law_kept_5 => (sx_set (i := 3) sc_law_few_runs.nd rfl (loc_of V_law_few_runs (i := 3) rfl) (ex_op op_mul o2_mul (ex_var (i := 3) rfl (vis_of V_law_few_runs (i := 3) rfl) rfl) (ex_op op_add o2_add (ex_B call_len_seq (cal_lenL (α := Int)) (by rfl) T.b_len bt_len (ea_cons (ex_var (i := 4) rfl (vis_of V_law_few_runs (i := 4) rfl) rfl) ea_nil)) ex_int)) (fun law_total_6 => (sx_nil (Weak.s (Weak.s (Weak.s (Weak.s (Weak.d Weak.nil))))))))) (pe_bm PySem.F.plainAttrs_list PySem.F.slot_list_append PySem.F.type_list_append mt_append (pe_var rfl (vis_of V_law_few_runs (i := 2) rfl)) toA)) (sx_nil (Weak.s (Weak.s (Weak.s (Weak.s (Weak.d Weak.nil))))))))) (fun s7 => (sx_freeze (i := 2) rfl (sx_ret (ex_var (i := 2) rfl (vis_of V_law_few_runs (i := 2) rfl) rfl)))))))))
theorem m_law_few_runs (T : Txt K mg c) : FnM P w K mg base c "_law_few_runs" 1 (δ := ((List (List Int)) × Int × Unit)) (ρ := (List (List Int))) r_law_few_runs := by
  obtain ⟨f, fd, F, hg, hB⟩ := T.d_law_few_runs
  exact ⟨f, fd, ["_law_runs", "_law_most"], ok_law_few_runs T F, hg, F.kp, hB⟩
/-! ### _law_prices -/
abbrev N_law_prices : List Str := ["_law_cell_here", "_law_count", "_law_choice", "_law_row", "_law_digit"]
theorem sc_law_prices : FnScope N_law_prices ["_law_cell_here", "_law_count", "_law_choice"] (defScope s_law_prices) := ⟨rfl, rfl, rfl, by decide +kernel, rfl, by decide +kernel, by decide +kernel⟩
theorem V_law_prices : locsB (defScope s_law_prices) ["_law_cell_here", "_law_count", "_law_choice", "_law_row"] = true := by decide +kernel
def b_law_prices (aa : (Int × Int × Int × Unit)) : Option (Oc Empty Empty (List Int)) := (Option.bind (Option.bind (Option.bind (some aa.1) fun (x : Int) => Option.bind (Option.bind (some aa.2.1) fun (x : Int) => Option.bind (Option.bind (some (1000000000 : Int)) fun (x : Int) => Option.bind (some ()) fun (r : Unit) => some (x, r)) fun (r : (Int × Unit)) => some (x, r)) fun (r : (Int × (Int × Unit))) => some (x, r)) r_law_digits) fun (law_row_1 : (List Int)) => (Option.bind (Option.bind (some aa.2.2.1) fun (x : Int) => Option.bind (some (0 : Int)) fun (y : Int) => some (decide (x = y))) fun (q : Bool) => if q = true then Option.bind (Option.bind (Option.bind (Option.bind (some (1 : Int)) fun (x : Int) => Option.bind (some ([] : List Int)) fun (r : List Int) => some (x :: r)) fun (xs : (List Int)) => Option.bind (some aa.2.1) fun (n : Int) => repM xs n) fun (r : (List Int)) => some (Oc.rt r)) Oc.up else (Option.bind (Option.bind (some aa.2.2.1) fun (x : Int) => Option.bind (some (1 : Int)) fun (y : Int) => some (decide (x = y))) fun (q : Bool) => if q = true then Option.bind (Option.bind (Option.bind (some law_row_1) (lcM (fun (x2 : Int) => (some true)) (fun (x2 : Int) => (Option.bind (some (1 : Int)) fun (x : Int) => Option.bind (Option.bind (Option.bind (Option.bind (some x2) fun (x : Int) => Option.bind (some ()) fun (r : Unit) => some (x, r)) (fun x : (Int × Unit) => some x.1)) fun (x : Int) => some (x % 3)) fun (y : Int) => some (x + y))))) fun (r : (List Int)) => some (Oc.rt r)) Oc.up else (Option.bind (Option.bind (some aa.2.2.1) fun (x : Int) => Option.bind (some (2 : Int)) fun (y : Int) => some (decide (x = y))) fun (q : Bool) => if q = true then Option.bind (Option.bind (Option.bind (some law_row_1) (lcM (fun (x3 : Int) => (some true)) (fun (x3 : Int) => (Option.bind (some (1 : Int)) fun (x : Int) => Option.bind (Option.bind (Option.bind (Option.bind (some x3) fun (x : Int) => Option.bind (some ()) fun (r : Unit) => some (x, r)) (fun x : (Int × Unit) => some x.1)) fun (x : Int) => some (x % 9)) fun (y : Int) => some (x + y))))) fun (r : (List Int)) => some (Oc.rt r)) Oc.up else (Option.bind (Option.bind (some law_row_1) (lcM (fun (x4 : Int) => (some true)) (fun (x4 : Int) => (Option.bind (some (1 : Int)) fun (x : Int) => Option.bind (some x4) fun (y : Int) => some (x + y))))) fun (r : (List Int)) => some (Oc.rt r))))))
def r_law_prices (aa : (Int × Int × Int × Unit)) : Option (List Int) := (b_law_prices aa).bind (Oc.out)
theorem ok_law_prices (T : Txt K mg c) {f : Addr} {fd : FuncData} (F : Fun K "_law_prices" "_law_prices" s_law_prices f fd) : FnOk P w K mg base CX0 2 f fd ["_law_cell_here", "_law_count", "_law_choice"] (spM K c (δ := (Int × Int × Int × Unit)) (ρ := (List Int)) r_law_prices) := by
  refine fn_body (m := b_law_prices) (Γn := noS) (Γl := noS) F sc_law_prices (fun _ => rfl) (by decide) ?_
  intro cdv A outer s H E aa hr
  exact (sx_set (i := 3) sc_law_prices.nd rfl (loc_of V_law_prices (i := 3) rfl) (ex_call (m_law_digits T) hr (by decide) (by rfl) (ea_cons (ex_var (i := 0) rfl (vis_of V_law_prices (i := 0) rfl) rfl) (ea_cons (ex_var (i := 1) rfl (vis_of V_law_prices (i := 1) rfl) rfl) (ea_cons (ex_powL (by decide +kernel)) ea_nil)))) (fun law_row_1 => (sx_ifR (et_cmp op_eq o2_eq (ex_var (i := 2) rfl (vis_of V_law_prices (i := 2) rfl) rfl) ex_int (nomark _)) (sx_ret (EO.ex (eo_rep (eo_lst (el_cons ex_int el_nil) (el_le (el_ns el_n0) (by decide))) (ex_var (i := 1) rfl (vis_of V_law_prices (i := 1) rfl) rfl)))) (sx_ifR (et_cmp op_eq o2_eq (ex_var (i := 2) rfl (vis_of V_law_prices (i := 2) rfl) rfl) ex_int (nomark _)) (sx_ret (EO.ex (eo_lc rfl sc_law_prices.nd (ei_list (ex_var (i := 3) rfl (vis_of V_law_prices (i := 3) rfl) rfl)) (blkOk_by (own := [("_law_digit", 4)]) (N := N_law_prices) (sc := (defScope s_law_prices)) (by decide +kernel)) (fun _ _ _ _ _ => pg_name (i := 4) sc_law_prices.nd rfl (by first | exact Or.inl rfl | exact Or.inr rfl)) (tgs_name (α := Int)) (fun _ _ _ _ _ x2 => ets_nil) (fun _ _ _ _ _ x2 => (ex_op op_add o2_add ex_int (ex_modL (ex_Ty call_int1 cal_int (by rfl) T.b_int bt_int (ea_cons (ex_var (i := 4) rfl (by first | exact Or.inl rfl | exact Or.inr (Or.inl rfl) | exact Or.inr (Or.inr rfl)) rfl) ea_nil)))))))) (sx_ifR (et_cmp op_eq o2_eq (ex_var (i := 2) rfl (vis_of V_law_prices (i := 2) rfl) rfl) ex_int (nomark _)) (sx_ret (EO.ex (eo_lc rfl sc_law_prices.nd (ei_list (ex_var (i := 3) rfl (vis_of V_law_prices (i := 3) rfl) rfl)) (blkOk_by (own := [("_law_digit", 4)]) (N := N_law_prices) (sc := (defScope s_law_prices)) (by decide +kernel)) (fun _ _ _ _ _ => pg_name (i := 4) sc_law_prices.nd rfl (by first | exact Or.inl rfl | exact Or.inr rfl)) (tgs_name (α := Int)) (fun _ _ _ _ _ x3 => ets_nil) (fun _ _ _ _ _ x3 => (ex_op op_add o2_add ex_int (ex_modL (ex_Ty call_int1 cal_int (by rfl) T.b_int bt_int (ea_cons (ex_var (i := 4) rfl (by first | exact Or.inl rfl | exact Or.inr (Or.inl rfl) | exact Or.inr (Or.inr rfl)) rfl) ea_nil)))))))) (sx_ret (EO.ex (eo_lc rfl sc_law_prices.nd (ei_list (ex_var (i := 3) rfl (vis_of V_law_prices (i := 3) rfl) rfl)) (blkOk_by (own := [("_law_digit", 4)]) (N := N_law_prices) (sc := (defScope s_law_prices)) (by decide +kernel)) (fun _ _ _ _ _ => pg_name (i := 4) sc_law_prices.nd rfl (by first | exact Or.inl rfl | exact Or.inr rfl)) (tgs_name (α := Int)) (fun _ _ _ _ _ x4 => ets_nil) (fun _ _ _ _ _ x4 => (ex_op op_add o2_add ex_int (ex_var (i := 4) rfl (by first | exact Or.inl rfl | exact Or.inr (Or.inl rfl) | exact Or.inr (Or.inr rfl)) rfl)))))))))))
theorem m_law_prices (T : Txt K mg c) : FnM P w K mg base c "_law_prices" 2 (δ := (Int × Int × Int × Unit)) (ρ := (List Int)) r_law_prices := by
  obtain ⟨f, fd, F, hg, hB⟩ := T.d_law_prices
  exact ⟨f, fd, ["_law_cell_here", "_law_count", "_law_choice"], ok_law_prices T F, hg, F.kp, hB⟩
/-! ### _law_gates -/
abbrev N_law_gates : List Str := ["_law_cell_here", "_law_size", "_law_row", "_law_gates_here", "_law_place"]
theorem sc_law_gates : FnScope N_law_gates ["_law_cell_here", "_law_size"] (defScope s_law_gates) := ⟨rfl, rfl, rfl, by decide +kernel, rfl, by decide +kernel, by decide +kernel⟩
theorem V_law_gates : locsB (defScope s_law_gates) ["_law_cell_here", "_law_size", "_law_row", "_law_gates_here"] = true := by decide +kernel
theorem W_law_gates : loc1B (defScope s_law_gates) ["_law_gates_here"] = true := by decide +kernel
def b_law_gates (aa : (Int × Int × Unit)) : Option (Oc Empty Empty (List Int)) := (Option.bind (Option.bind (Option.bind (some aa.1) fun (x : Int) => Option.bind (Option.bind (Option.bind (some aa.2.1) fun (x : Int) => Option.bind (some (1 : Int)) fun (y : Int) => some (x + y)) fun (x : Int) => Option.bind (Option.bind (some (55440 : Int)) fun (x : Int) => Option.bind (some ()) fun (r : Unit) => some (x, r)) fun (r : (Int × Unit)) => some (x, r)) fun (r : (Int × (Int × Unit))) => some (x, r)) r_law_digits) fun (law_row_1 : (List Int)) => (Option.bind (Option.bind (Option.bind (Option.bind (Option.bind (Option.bind (Option.bind (some law_row_1) fun (xs : (List Int)) => Option.bind (some (0 : Int)) fun (i : Int) => atI xs i) fun (x : Int) => some (x / 40)) fun (x : Int) => Option.bind (some ()) fun (r : Unit) => some (x, r)) (fun x : (Int × Unit) => some x.1)) fun (x : Int) => some (x % 2)) fun (x : Int) => Option.bind (some (1 : Int)) fun (y : Int) => some (decide (x = y))) fun (q : Bool) => if q = true then Option.bind (Option.bind (Option.bind (some aa.2.1) fun (n : Int) => rngM 0 n) fun (r : (List Int)) => some (Oc.rt r)) Oc.up else (Option.bind (Option.bind (Option.bind (some aa.2.1) fun (n : Int) => rngM 0 n) (lcM (fun (x3 : Int) => (Option.bind (Option.bind (Option.bind (Option.bind (Option.bind (some law_row_1) fun (xs : (List Int)) => Option.bind (Option.bind (some (1 : Int)) fun (x : Int) => Option.bind (some x3) fun (y : Int) => some (x + y)) fun (i : Int) => atI xs i) fun (x : Int) => Option.bind (some ()) fun (r : Unit) => some (x, r)) (fun x : (Int × Unit) => some x.1)) fun (x : Int) => some (x % 2)) fun (x : Int) => Option.bind (some (0 : Int)) fun (y : Int) => some (decide (x = y)))) (fun (x3 : Int) => (some x3)))) fun (law_gates_here_2 : (List Int)) => (Option.bind (Option.bind (Option.bind (Option.bind (some law_gates_here_2) fun (x : (List Int)) => Option.bind (some ()) fun (r : Unit) => some (x, r)) (fun x : ((List Int) × Unit) => some (x.1.length : Int))) fun (x : Int) => Option.bind (some (0 : Int)) fun (y : Int) => some (decide (x = y))) fun (q : Bool) => if q = true then Option.bind (Option.bind (Option.bind (Option.bind (Option.bind (Option.bind (Option.bind (some law_row_1) fun (xs : (List Int)) => Option.bind (some (0 : Int)) fun (i : Int) => atI xs i) fun (x : Int) => Option.bind (some ()) fun (r : Unit) => some (x, r)) (fun x : (Int × Unit) => some x.1)) fun (x : Int) => Option.bind (some aa.2.1) fun (y : Int) => modM x y) fun (x : Int) => Option.bind (some ([] : List Int)) fun (r : List Int) => some (x :: r)) fun (r : (List Int)) => some (Oc.rt r)) Oc.up else (Option.bind (some law_gates_here_2) fun (r : (List Int)) => some (Oc.rt r))))))
def r_law_gates (aa : (Int × Int × Unit)) : Option (List Int) := (b_law_gates aa).bind (Oc.out)
theorem ok_law_gates (T : Txt K mg c) {f : Addr} {fd : FuncData} (F : Fun K "_law_gates" "_law_gates" s_law_gates f fd) : FnOk P w K mg base CX0 2 f fd ["_law_cell_here", "_law_size"] (spM K c (δ := (Int × Int × Unit)) (ρ := (List Int)) r_law_gates) := by
  refine fn_body (m := b_law_gates) (Γn := noS) (Γl := noS) F sc_law_gates (fun _ => rfl) (by decide) ?_
  intro cdv A outer s H E aa hr
  exact (sx_set (i := 2) sc_law_gates.nd rfl (loc_of V_law_gates (i := 2) rfl) (ex_call (m_law_digits T) hr (by decide) (by rfl) (ea_cons (ex_var (i := 0) rfl (vis_of V_law_gates (i := 0) rfl) rfl) (ea_cons (ex_op op_add o2_add (ex_var (i := 1) rfl (vis_of V_law_gates (i := 1) rfl) rfl) ex_int) (ea_cons ex_int ea_nil)))) (fun law_row_1 => (sx_ifR (et_cmp op_eq o2_eq (ex_modL (ex_Ty call_int1 cal_int (by rfl) T.b_int bt_int (ea_cons (ex_fdivL (ex_ix ix_list o2_ixL (ex_var (i := 2) rfl (vis_of V_law_gates (i := 2) rfl) rfl) ex_int)) ea_nil))) ex_int (nomark _)) (sx_ret (EO.ex (eo_listRg1 rfl (by rfl) T.b_list (by rfl) T.b_range (ex_var (i := 1) rfl (vis_of V_law_gates (i := 1) rfl) rfl)))) (sx_setLc rfl sc_law_gates.nd (ei_range1 (by rfl) T.b_range (ex_var (i := 1) rfl (vis_of V_law_gates (i := 1) rfl) rfl)) (blkOk_by (own := [("_law_place", 4)]) (N := N_law_gates) (sc := (defScope s_law_gates)) (by decide +kernel)) (fun _ _ _ _ _ => pg_name (i := 4) sc_law_gates.nd rfl (by first | exact Or.inl rfl | exact Or.inr rfl)) (tgs_name (α := Int)) (i := 3) rfl (by rfl) (sw_true rfl rfl rfl (by decide +kernel)) (fun _ _ _ _ _ x3 => (ets_one (et_cmp op_eq o2_eq (ex_modL (ex_Ty call_int1 cal_int (by rfl) T.b_int bt_int (ea_cons (ex_ix ix_list o2_ixL (ex_var (i := 2) rfl (by first | exact Or.inl rfl | exact Or.inr (Or.inl rfl) | exact Or.inr (Or.inr rfl)) rfl) (ex_op op_add o2_add ex_int (ex_var (i := 4) rfl (by first | exact Or.inl rfl | exact Or.inr (Or.inl rfl) | exact Or.inr (Or.inr rfl)) rfl))) ea_nil))) ex_int (nomark _)))) (fun _ _ _ _ _ x3 => (ex_var (i := 4) rfl (by first | exact Or.inl rfl | exact Or.inr (Or.inl rfl) | exact Or.inr (Or.inr rfl)) rfl)) (show 3 < 5 from by decide) (fun law_gates_here_2 => (sx_ifR (et_cmp op_eq o2_eq (ex_B call_len_seq (cal_lenL (α := Int)) (by rfl) T.b_len bt_len (ea_cons (ex_var (i := 3) rfl (vis_of V_law_gates (i := 3) rfl) rfl) ea_nil)) ex_int (nomark _)) (sx_ret (EO.ex (eo_lst (el_cons (ex_op op_mod o2_mod (ex_Ty call_int1 cal_int (by rfl) T.b_int bt_int (ea_cons (ex_ix ix_list o2_ixL (ex_var (i := 2) rfl (vis_of V_law_gates (i := 2) rfl) rfl) ex_int) ea_nil)) (ex_var (i := 1) rfl (vis_of V_law_gates (i := 1) rfl) rfl)) el_nil) (el_le (el_ns el_n0) (by decide))))) (sx_ret (ex_var (i := 3) rfl (vis_of V_law_gates (i := 3) rfl) rfl))))))))
theorem m_law_gates (T : Txt K mg c) : FnM P w K mg base c "_law_gates" 2 (δ := (Int × Int × Unit)) (ρ := (List Int)) r_law_gates := by
  obtain ⟨f, fd, F, hg, hB⟩ := T.d_law_gates
  exact ⟨f, fd, ["_law_cell_here", "_law_size"], ok_law_gates T F, hg, F.kp, hB⟩
/-! ### _law_drawn -/
abbrev N_law_drawn : List Str := ["_law_cell_here", "_law_gates_here", "_law_count", "_law_most", "_law_row", "_law_stays", "_law_k"]
theorem sc_law_drawn : FnScope N_law_drawn ["_law_cell_here", "_law_gates_here", "_law_count", "_law_most"] (defScope s_law_drawn) := ⟨rfl, rfl, rfl, by decide +kernel, rfl, by decide +kernel, by decide +kernel⟩
theorem V_law_drawn : locsB (defScope s_law_drawn) ["_law_cell_here", "_law_gates_here", "_law_count", "_law_most", "_law_row", "_law_stays", "_law_k"] = true := by decide +kernel
def b_law_drawn (aa : (Int × (List Int) × Int × Int × Unit)) : Option (Oc Empty Empty (List (Int × Int))) := (Option.bind (Option.bind (Option.bind (some aa.1) fun (x : Int) => Option.bind (Option.bind (Option.bind (some aa.2.2.1) fun (x : Int) => some (3 * x)) fun (x : Int) => Option.bind (Option.bind (some (55440 : Int)) fun (x : Int) => Option.bind (some ()) fun (r : Unit) => some (x, r)) fun (r : (Int × Unit)) => some (x, r)) fun (r : (Int × (Int × Unit))) => some (x, r)) r_law_digits) fun (law_row_1 : (List Int)) => (Option.bind (some ([] : List (Int × Int))) fun (law_stays_2 : (List (Int × Int))) => (Option.bind (Option.bind (Option.bind (some aa.2.2.1) fun (n : Int) => rngM 0 n) fun (xs : List Int) => forM (S := (List (Int × Int))) (L := Empty) (ρ := (List (Int × Int))) (fun (x4 : Int) (s3 : (List (Int × Int))) => (Option.bind (Option.bind (Option.bind (some x4) fun (x : Int) => Option.bind (some (0 : Int)) fun (y : Int) => some (decide (x > y))) fun (q : Bool) => if q = true then (Option.bind (Option.bind (Option.bind (Option.bind (Option.bind (some law_row_1) fun (xs : (List Int)) => Option.bind (Option.bind (some x4) fun (x : Int) => some (3 * x)) fun (i : Int) => atI xs i) fun (x : Int) => Option.bind (some ()) fun (r : Unit) => some (x, r)) (fun x : (Int × Unit) => some x.1)) fun (x : Int) => some (x % 4)) fun (x : Int) => Option.bind (some (1 : Int)) fun (y : Int) => some (decide (x = y))) else some false) fun (q : Bool) => if q = true then (Option.bind (Option.bind (Option.bind (Option.bind (Option.bind (Option.bind (some law_row_1) fun (xs : (List Int)) => Option.bind (Option.bind (Option.bind (some x4) fun (x : Int) => some (3 * x)) fun (x : Int) => Option.bind (some (1 : Int)) fun (y : Int) => some (x + y)) fun (i : Int) => atI xs i) fun (x : Int) => Option.bind (some ()) fun (r : Unit) => some (x, r)) (fun x : (Int × Unit) => some x.1)) fun (x : Int) => Option.bind (some x4) fun (y : Int) => modM x y) fun (j : Int) => atI s3 j) fun (y : (Int × Int)) => Option.bind (appM s3 y) fun (law_stays_5 : (List (Int × Int))) => (some (Oc.nx law_stays_5))) else (Option.bind (Option.bind (Option.bind (some aa.2.1) fun (xs : (List Int)) => Option.bind (Option.bind (Option.bind (Option.bind (Option.bind (some law_row_1) fun (xs : (List Int)) => Option.bind (Option.bind (Option.bind (some x4) fun (x : Int) => some (3 * x)) fun (x : Int) => Option.bind (some (1 : Int)) fun (y : Int) => some (x + y)) fun (i : Int) => atI xs i) fun (x : Int) => Option.bind (some ()) fun (r : Unit) => some (x, r)) (fun x : (Int × Unit) => some x.1)) fun (x : Int) => Option.bind (Option.bind (Option.bind (some aa.2.1) fun (x : (List Int)) => Option.bind (some ()) fun (r : Unit) => some (x, r)) (fun x : ((List Int) × Unit) => some (x.1.length : Int))) fun (y : Int) => modM x y) fun (i : Int) => atI xs i) fun (x : Int) => Option.bind (Option.bind (some (1 : Int)) fun (x : Int) => Option.bind (Option.bind (Option.bind (Option.bind (Option.bind (some law_row_1) fun (xs : (List Int)) => Option.bind (Option.bind (Option.bind (some x4) fun (x : Int) => some (3 * x)) fun (x : Int) => Option.bind (some (2 : Int)) fun (y : Int) => some (x + y)) fun (i : Int) => atI xs i) fun (x : Int) => Option.bind (some ()) fun (r : Unit) => some (x, r)) (fun x : (Int × Unit) => some x.1)) fun (x : Int) => Option.bind (some aa.2.2.2.1) fun (y : Int) => modM x y) fun (y : Int) => some (x + y)) fun (y : Int) => some (x, y)) fun (y : (Int × Int)) => Option.bind (appM s3 y) fun (law_stays_6 : (List (Int × Int))) => (some (Oc.nx law_stays_6))))) xs law_stays_2) (Oc.seq fun (s7 : (List (Int × Int))) => (Option.bind (some s7) fun (r : (List (Int × Int))) => some (Oc.rt r))))))
def r_law_drawn (aa : (Int × (List Int) × Int × Int × Unit)) : Option (List (Int × Int)) := (b_law_drawn aa).bind (Oc.out)
theorem ok_law_drawn (T : Txt K mg c) {f : Addr} {fd : FuncData} (F : Fun K "_law_drawn" "_law_drawn" s_law_drawn f fd) : FnOk P w K mg base CX0 2 f fd ["_law_cell_here", "_law_gates_here", "_law_count", "_law_most"] (spM K c (δ := (Int × (List Int) × Int × Int × Unit)) (ρ := (List (Int × Int))) r_law_drawn) := by
  refine fn_body (m := b_law_drawn) (Γn := noS) (Γl := noS) F sc_law_drawn (fun _ => rfl) (by decide) ?_
  intro cdv A outer s H E aa hr
  exact (sx_set (i := 4) sc_law_drawn.nd rfl (loc_of V_law_drawn (i := 4) rfl) (ex_call (m_law_digits T) hr (by decide) (by rfl) (ea_cons (ex_var (i := 0) rfl (vis_of V_law_drawn (i := 0) rfl) rfl) (ea_cons (ex_mulL (ex_var (i := 2) rfl (vis_of V_law_drawn (i := 2) rfl) rfl)) (ea_cons ex_int ea_nil)))) (fun law_row_1 => (sx_setO (i := 5) sc_law_drawn.nd rfl (loc_of V_law_drawn (i := 5) rfl) (eo_lst el_nil (el_le el_n0 (by decide))) (fun law_stays_2 => (sx_seq (Γs := fun (s7 : (List (Int × Int))) => ([.fr (aa.1 : Int), .fr (aa.2.1 : (List Int)), .fr (aa.2.2.1 : Int), .fr (aa.2.2.2.1 : Int), .fr (law_row_1 : (List Int)), .ow (s7 : (List (Int × Int))), .no] : List Bd)) (s1_for (Γs := fun (s3 : (List (Int × Int))) => ([.fr (aa.1 : Int), .fr (aa.2.1 : (List Int)), .fr (aa.2.2.1 : Int), .fr (aa.2.2.2.1 : Int), .fr (law_row_1 : (List Int)), .ow (s3 : (List (Int × Int))), .no] : List Bd)) PassesOwn.never rfl (ei_range1 (by rfl) T.b_range (ex_var (i := 2) rfl (vis_of V_law_drawn (i := 2) rfl) rfl)) (pg_name (i := 6) sc_law_drawn.nd rfl (loc_of V_law_drawn (i := 6) rfl)) (tgs_name (α := Int)) (Weak.s (Weak.s (Weak.s (Weak.s (Weak.s (Weak.s (Weak.s Weak.nil))))))) (fun x4 s3 => (sx_ifE (et_w (ew_and (et_cmp op_gt o2_gt (ex_var (i := 6) rfl (vis_of V_law_drawn (i := 6) rfl) rfl) ex_int (nomark _)) (ew_and1 (et_cmp op_eq o2_eq (ex_modL (ex_Ty call_int1 cal_int (by rfl) T.b_int bt_int (ea_cons (ex_ix ix_list o2_ixL (ex_var (i := 4) rfl (vis_of V_law_drawn (i := 4) rfl) rfl) (ex_mulL (ex_var (i := 6) rfl (vis_of V_law_drawn (i := 6) rfl) rfl))) ea_nil))) ex_int (nomark _))))) (sx_append (i := 5) rfl (vis_of V_law_drawn (i := 5) rfl) rfl (ex_ixO (i := 5) rfl (vis_of V_law_drawn (i := 5) rfl) rfl (ex_op op_mod o2_mod (ex_Ty call_int1 cal_int (by rfl) T.b_int bt_int (ea_cons (ex_ix ix_list o2_ixL (ex_var (i := 4) rfl (vis_of V_law_drawn (i := 4) rfl) rfl) (ex_op op_add o2_add (ex_mulL (ex_var (i := 6) rfl (vis_of V_law_drawn (i := 6) rfl) rfl)) ex_int)) ea_nil)) (ex_var (i := 6) rfl (vis_of V_law_drawn (i := 6) rfl) rfl))) (fun law_stays_5 => (sx_nil (Weak.s (Weak.s (Weak.s (Weak.s (Weak.s (Weak.s (Weak.d Weak.nil))))))))) (pe_bm PySem.F.plainAttrs_list PySem.F.slot_list_append PySem.F.type_list_append mt_append (pe_var rfl (vis_of V_law_drawn (i := 5) rfl)) toA)) (sx_append (i := 5) rfl (vis_of V_law_drawn (i := 5) rfl) rfl (ex_pair (ex_ix ix_list o2_ixL (ex_var (i := 1) rfl (vis_of V_law_drawn (i := 1) rfl) rfl) (ex_op op_mod o2_mod (ex_Ty call_int1 cal_int (by rfl) T.b_int bt_int (ea_cons (ex_ix ix_list o2_ixL (ex_var (i := 4) rfl (vis_of V_law_drawn (i := 4) rfl) rfl) (ex_op op_add o2_add (ex_mulL (ex_var (i := 6) rfl (vis_of V_law_drawn (i := 6) rfl) rfl)) ex_int)) ea_nil)) (ex_B call_len_seq (cal_lenL (α := Int)) (by rfl) T.b_len bt_len (ea_cons (ex_var (i := 1) rfl (vis_of V_law_drawn (i := 1) rfl) rfl) ea_nil)))) (ex_op op_add o2_add ex_int (ex_op op_mod o2_mod (ex_Ty call_int1 cal_int (by rfl) T.b_int bt_int (ea_cons (ex_ix ix_list o2_ixL (ex_var (i := 4) rfl (vis_of V_law_drawn (i := 4) rfl) rfl) (ex_op op_add o2_add (ex_mulL (ex_var (i := 6) rfl (vis_of V_law_drawn (i := 6) rfl) rfl)) ex_int)) ea_nil)) (ex_var (i := 3) rfl (vis_of V_law_drawn (i := 3) rfl) rfl)))) (fun law_stays_6 => (sx_nil (Weak.s (Weak.s (Weak.s (Weak.s (Weak.s (Weak.s (Weak.d Weak.nil))))))))) (pe_bm PySem.F.plainAttrs_list PySem.F.slot_list_append PySem.F.type_list_append mt_append (pe_var rfl (vis_of V_law_drawn (i := 5) rfl)) toA))))) (fun s7 => (sx_freeze (i := 5) rfl (sx_ret (ex_var (i := 5) rfl (vis_of V_law_drawn (i := 5) rfl) rfl)))))))))
theorem m_law_drawn (T : Txt K mg c) : FnM P w K mg base c "_law_drawn" 2 (δ := (Int × (List Int) × Int × Int × Unit)) (ρ := (List (Int × Int))) r_law_drawn := by
  obtain ⟨f, fd, F, hg, hB⟩ := T.d_law_drawn
  exact ⟨f, fd, ["_law_cell_here", "_law_gates_here", "_law_count", "_law_most"], ok_law_drawn T F, hg, F.kp, hB⟩
/-! ### law -/
abbrev N_law : List Str := ["_law_script", "_law_row", "_law_size", "_law_prices_here", "_law_gates_here", "_law_count", "_law_room", "_law_longest", "_law_drawn_here", "_law_lines", "_law_stays", "_law_due", "_law_laying", "_law_handed", "_law_costs", "_law_heights", "_law_zero", "_law_told", "_law_stay", "_law_k", "_law_line", "_law_place"]
theorem sc_law : FnScope N_law ["_law_script"] (defScope s_law) := ⟨rfl, rfl, rfl, by decide +kernel, rfl, by decide +kernel, by decide +kernel⟩
theorem V_law : locsB (defScope s_law) ["_law_script", "_law_row", "_law_size", "_law_prices_here", "_law_gates_here", "_law_count", "_law_room", "_law_longest", "_law_drawn_here", "_law_lines", "_law_stays", "_law_due", "_law_laying", "_law_handed", "_law_costs", "_law_heights", "_law_zero", "_law_told"] = true := by decide +kernel
theorem W_law : loc1B (defScope s_law) ["_law_lines", "_law_stays", "_law_handed"] = true := by decide +kernel
def b_law (aa : ((List Int) × Unit)) : Option (Oc Empty Empty Bool) := (Option.bind (Option.bind (Option.bind (Option.bind (Option.bind (some aa.1) fun (x : (List Int)) => Option.bind (Option.bind (some (0 : Int)) fun (x : Int) => Option.bind (some ()) fun (r : Unit) => some (x, r)) fun (r : (Int × Unit)) => some (x, r)) r_law_seed) fun (x : Int) => Option.bind (Option.bind (some (6 : Int)) fun (x : Int) => Option.bind (Option.bind (some (55440 : Int)) fun (x : Int) => Option.bind (some ()) fun (r : Unit) => some (x, r)) fun (r : (Int × Unit)) => some (x, r)) fun (r : (Int × (Int × Unit))) => some (x, r)) r_law_digits) fun (law_row_1 : (List Int)) => (Option.bind (Option.bind (Option.bind (some (1 : Int)) fun (x : Int) => Option.bind (Option.bind (some (2 : Int)) fun (x : Int) => Option.bind (Option.bind (some (3 : Int)) fun (x : Int) => Option.bind (Option.bind (some (4 : Int)) fun (x : Int) => Option.bind (Option.bind (some (5 : Int)) fun (x : Int) => Option.bind (Option.bind (some (2 : Int)) fun (x : Int) => Option.bind (Option.bind (some (3 : Int)) fun (x : Int) => Option.bind (Option.bind (some (4 : Int)) fun (x : Int) => Option.bind (some ([] : List Int)) fun (r : List Int) => some (x :: r)) fun (r : List Int) => some (x :: r)) fun (r : List Int) => some (x :: r)) fun (r : List Int) => some (x :: r)) fun (r : List Int) => some (x :: r)) fun (r : List Int) => some (x :: r)) fun (r : List Int) => some (x :: r)) fun (r : List Int) => some (x :: r)) fun (xs : (List Int)) => Option.bind (Option.bind (Option.bind (Option.bind (Option.bind (some law_row_1) fun (xs : (List Int)) => Option.bind (some (0 : Int)) fun (i : Int) => atI xs i) fun (x : Int) => Option.bind (some ()) fun (r : Unit) => some (x, r)) (fun x : (Int × Unit) => some x.1)) fun (x : Int) => some (x % 8)) fun (i : Int) => atI xs i) fun (law_size_2 : Int) => (Option.bind (Option.bind (Option.bind (Option.bind (Option.bind (some aa.1) fun (x : (List Int)) => Option.bind (Option.bind (some (1 : Int)) fun (x : Int) => Option.bind (some ()) fun (r : Unit) => some (x, r)) fun (r : (Int × Unit)) => some (x, r)) r_law_seed) fun (x : Int) => Option.bind (Option.bind (some law_size_2) fun (x : Int) => Option.bind (Option.bind (Option.bind (Option.bind (Option.bind (Option.bind (some law_row_1) fun (xs : (List Int)) => Option.bind (some (1 : Int)) fun (i : Int) => atI xs i) fun (x : Int) => Option.bind (some ()) fun (r : Unit) => some (x, r)) (fun x : (Int × Unit) => some x.1)) fun (x : Int) => some (x % 4)) fun (x : Int) => Option.bind (some ()) fun (r : Unit) => some (x, r)) fun (r : (Int × Unit)) => some (x, r)) fun (r : (Int × (Int × Unit))) => some (x, r)) r_law_prices) fun (law_prices_here_3 : (List Int)) => (Option.bind (Option.bind (Option.bind (Option.bind (Option.bind (some aa.1) fun (x : (List Int)) => Option.bind (Option.bind (some (2 : Int)) fun (x : Int) => Option.bind (some ()) fun (r : Unit) => some (x, r)) fun (r : (Int × Unit)) => some (x, r)) r_law_seed) fun (x : Int) => Option.bind (Option.bind (some law_size_2) fun (x : Int) => Option.bind (some ()) fun (r : Unit) => some (x, r)) fun (r : (Int × Unit)) => some (x, r)) r_law_gates) fun (law_gates_here_4 : (List Int)) => (Option.bind (Option.bind (Option.bind (some (0 : Int)) fun (x : Int) => Option.bind (Option.bind (some (1 : Int)) fun (x : Int) => Option.bind (Option.bind (some (2 : Int)) fun (x : Int) => Option.bind (Option.bind (some (3 : Int)) fun (x : Int) => Option.bind (Option.bind (some (2 : Int)) fun (x : Int) => Option.bind (Option.bind (some (3 : Int)) fun (x : Int) => Option.bind (some ([] : List Int)) fun (r : List Int) => some (x :: r)) fun (r : List Int) => some (x :: r)) fun (r : List Int) => some (x :: r)) fun (r : List Int) => some (x :: r)) fun (r : List Int) => some (x :: r)) fun (r : List Int) => some (x :: r)) fun (xs : (List Int)) => Option.bind (Option.bind (Option.bind (Option.bind (Option.bind (some law_row_1) fun (xs : (List Int)) => Option.bind (some (2 : Int)) fun (i : Int) => atI xs i) fun (x : Int) => Option.bind (some ()) fun (r : Unit) => some (x, r)) (fun x : (Int × Unit) => some x.1)) fun (x : Int) => some (x % 6)) fun (i : Int) => atI xs i) fun (law_count_5 : Int) => (Option.bind (some (360 : Int)) fun (law_room_6 : Int) => (Option.bind (Option.bind (Option.bind (Option.bind (Option.bind (Option.bind (Option.bind (some law_row_1) fun (xs : (List Int)) => Option.bind (some (3 : Int)) fun (i : Int) => atI xs i) fun (x : Int) => Option.bind (some ()) fun (r : Unit) => some (x, r)) (fun x : (Int × Unit) => some x.1)) fun (x : Int) => some (x % 8)) fun (x : Int) => Option.bind (some (1 : Int)) fun (y : Int) => some (decide (x = y))) fun (q : Bool) => if q = true then (Option.bind (Option.bind (some (4 : Int)) fun (x : Int) => Option.bind (Option.bind (Option.bind (Option.bind (Option.bind (Option.bind (some law_row_1) fun (xs : (List Int)) => Option.bind (some (2 : Int)) fun (i : Int) => atI xs i) fun (x : Int) => some (x / 6)) fun (x : Int) => Option.bind (some ()) fun (r : Unit) => some (x, r)) (fun x : (Int × Unit) => some x.1)) fun (x : Int) => some (x % 2)) fun (y : Int) => some (x + y)) fun (law_count_7 : Int) => (Option.bind (some (100 : Int)) fun (law_room_8 : Int) => (some (Oc.nx (law_count_7, law_room_8))))) else (some (Oc.nx (law_count_5, law_room_6)))) (Oc.seq fun (s9 : (Int × Int)) => (Option.bind (some (6 : Int)) fun (law_longest_10 : Int) => (Option.bind (Option.bind (Option.bind (Option.bind (Option.bind (Option.bind (Option.bind (some law_row_1) fun (xs : (List Int)) => Option.bind (some (4 : Int)) fun (i : Int) => atI xs i) fun (x : Int) => Option.bind (some ()) fun (r : Unit) => some (x, r)) (fun x : (Int × Unit) => some x.1)) fun (x : Int) => some (x % 8)) fun (x : Int) => Option.bind (some (6 : Int)) fun (y : Int) => some (decide (x = y))) fun (q : Bool) => if q = true then (Option.bind (some (18 : Int)) fun (law_longest_11 : Int) => (some (Oc.nx law_longest_11))) else (some (Oc.nx law_longest_10))) (Oc.seq fun (s12 : Int) => (Option.bind (Option.bind (Option.bind (Option.bind (Option.bind (some aa.1) fun (x : (List Int)) => Option.bind (Option.bind (some (3 : Int)) fun (x : Int) => Option.bind (some ()) fun (r : Unit) => some (x, r)) fun (r : (Int × Unit)) => some (x, r)) r_law_seed) fun (x : Int) => Option.bind (Option.bind (some law_gates_here_4) fun (x : (List Int)) => Option.bind (Option.bind (some s9.1) fun (x : Int) => Option.bind (Option.bind (some s12) fun (x : Int) => Option.bind (some ()) fun (r : Unit) => some (x, r)) fun (r : (Int × Unit)) => some (x, r)) fun (r : (Int × (Int × Unit))) => some (x, r)) fun (r : ((List Int) × (Int × (Int × Unit)))) => some (x, r)) r_law_drawn) fun (law_drawn_here_13 : (List (Int × Int))) => (Option.bind (Option.bind (some law_drawn_here_13) (lcM (fun (x15 : (Int × Int)) => (some true)) (fun (x15 : (Int × Int)) => (Option.bind (Option.bind (Option.bind (some x15) fun (x : (Int × Int)) => some x.2) fun (n : Int) => rngM 0 n) (lcM (fun (x16 : Int) => (some true)) (fun (x16 : Int) => (Option.bind (Option.bind (Option.bind (Option.bind (Option.bind (some x15) fun (x : (Int × Int)) => some x.1) fun (x : Int) => Option.bind (some x16) fun (y : Int) => some (x + y)) fun (x : Int) => Option.bind (some ()) fun (r : Unit) => some (x, r)) (fun x : (Int × Unit) => some x.1)) fun (x : Int) => Option.bind (some law_size_2) fun (y : Int) => modM x y))))))) fun (law_lines_14 : (List (List Int))) => (Option.bind (Option.bind (Option.bind (some law_lines_14) fun (x : (List (List Int))) => Option.bind (Option.bind (some s9.2) fun (x : Int) => Option.bind (some ()) fun (r : Unit) => some (x, r)) fun (r : (Int × Unit)) => some (x, r)) r_law_few_runs) fun (law_lines_17 : (List (List Int))) => (Option.bind (Option.bind (some law_lines_17) (lcM (fun (x19 : (List Int)) => (some true)) (fun (x19 : (List Int)) => (Option.bind (Option.bind (some x19) fun (xs : (List Int)) => Option.bind (some (0 : Int)) fun (i : Int) => atI xs i) fun (x : Int) => Option.bind (Option.bind (Option.bind (some x19) fun (x : (List Int)) => Option.bind (some ()) fun (r : Unit) => some (x, r)) (fun x : ((List Int) × Unit) => some (x.1.length : Int))) fun (y : Int) => some (x, y))))) fun (law_stays_18 : (List (Int × Int))) => (Option.bind (Option.bind (Option.bind (some law_prices_here_3) fun (x : (List Int)) => Option.bind (Option.bind (some law_stays_18) fun (x : (List (Int × Int))) => Option.bind (some ()) fun (r : Unit) => some (x, r)) fun (r : ((List (Int × Int)) × Unit)) => some (x, r)) r_law_least_ring) fun (law_due_20 : Int) => (Option.bind (Option.bind (Option.bind (Option.bind (Option.bind (Option.bind (Option.bind (some law_prices_here_3) fun (x : (List Int)) => Option.bind (some ()) fun (r : Unit) => some (x, r)) (fun x : ((List Int) × Unit) => some x.1)) fun (x : (List Int)) => Option.bind (Option.bind (Option.bind (Option.bind (some law_gates_here_4) fun (x : (List Int)) => Option.bind (some ()) fun (r : Unit) => some (x, r)) (fun x : ((List Int) × Unit) => some x.1)) fun (x : (List Int)) => Option.bind (some ()) fun (r : Unit) => some (x, r)) fun (r : ((List Int) × Unit)) => some (x, r)) fun (y : ((List Int) × ((List Int) × Unit))) => r_Ring_init (ext_Ring y)) fun (x : O_Ring) => Option.bind (Option.bind (Option.bind (Option.bind (some law_stays_18) fun (x : (List (Int × Int))) => Option.bind (some ()) fun (r : Unit) => some (x, r)) (fun x : ((List (Int × Int)) × Unit) => some x.1)) fun (x : (List (Int × Int))) => Option.bind (some ()) fun (r : Unit) => some (x, r)) fun (r : ((List (Int × Int)) × Unit)) => some (x, r)) r_least_laying) fun (law_laying_21 : (Int × (Option Int))) => (Option.bind (Option.bind (Option.bind (Option.bind (some law_laying_21) fun (_ : (Int × (Option Int))) => some true) fun (q : Bool) => some (!q)) fun (q : Bool) => if q = true then some true else (Option.bind (Option.bind (Option.bind (Option.bind (some law_laying_21) fun (x : (Int × (Option Int))) => Option.bind (some ()) fun (r : Unit) => some (x, r)) (fun x : ((Int × (Option Int)) × Unit) => some (2 : Int))) fun (x : Int) => Option.bind (some (2 : Int)) fun (y : Int) => some (decide (x ≠ y))) fun (q : Bool) => if q = true then some true else (Option.bind (Option.bind (Option.bind (Option.bind (Option.bind (some law_laying_21) fun (x : (Int × (Option Int))) => some x.1) fun (x : Int) => Option.bind (some ()) fun (r : Unit) => some (x, r)) r_law_is_int) fun (q : Bool) => some (!q)) fun (q : Bool) => if q = true then some true else (Option.bind (Option.bind (some law_laying_21) fun (x : (Int × (Option Int))) => some x.1) fun (x : Int) => Option.bind (some law_due_20) fun (y : Int) => some (decide (x ≠ y)))))) fun (q : Bool) => if q = true then Option.bind (Option.bind (some false) fun (r : Bool) => some (Oc.rt r)) Oc.up else (Option.bind (Option.bind (some law_lines_17) (lcM (fun (x23 : (List Int)) => (some true)) (fun (x23 : (List Int)) => (Option.bind (Option.bind (some x23) fun (x : (List Int)) => Option.bind (some ()) fun (r : Unit) => some (x, r)) (fun x : ((List Int) × Unit) => some x.1))))) fun (law_handed_22 : (List (List Int))) => (Option.bind (Option.bind (Option.bind (some law_prices_here_3) fun (x : (List Int)) => Option.bind (some ()) fun (r : Unit) => some (x, r)) (fun x : ((List Int) × Unit) => some x.1)) fun (law_costs_24 : (List Int)) => (Option.bind (Option.bind (Option.bind (some law_costs_24) fun (x : (List Int)) => Option.bind (Option.bind (some law_handed_22) fun (x : (List (List Int))) => Option.bind (some ()) fun (r : Unit) => some (x, r)) fun (r : ((List (List Int)) × Unit)) => some (x, r)) r_front_heights) fun (law_heights_25 : (DT (Tup Int) Int)) => (Option.bind (Option.bind (Option.bind (Option.bind (Option.bind (some (0 : Int)) fun (x : Int) => Option.bind (some ([] : List Int)) fun (r : List Int) => some (x :: r)) fun (xs : (List Int)) => Option.bind (Option.bind (Option.bind (some law_lines_17) fun (x : (List (List Int))) => Option.bind (some ()) fun (r : Unit) => some (x, r)) (fun x : ((List (List Int)) × Unit) => some (x.1.length : Int))) fun (n : Int) => repM xs n) fun (x : (List Int)) => Option.bind (some ()) fun (r : Unit) => some (x, r)) (fun x : ((List Int) × Unit) => some (PySem.W.Tup.mk x.1))) fun (law_zero_26 : (Tup Int)) => (Option.bind (Option.bind (Option.bind (Option.bind (some law_heights_25) fun (_ : (DT (Tup Int) Int)) => some true) fun (q : Bool) => some (!q)) fun (q : Bool) => if q = true then some true else (Option.bind (some law_zero_26) fun (k : (Tup Int)) => Option.bind (some law_heights_25) fun (d : (DT (Tup Int) Int)) => some (Dic.get (α := Int) d k).isNone)) fun (q : Bool) => if q = true then Option.bind (Option.bind (some false) fun (r : Bool) => some (Oc.rt r)) Oc.up else (Option.bind (Option.bind (Option.bind (Option.bind (Option.bind (Option.bind (some law_heights_25) fun (d : (DT (Tup Int) Int)) => Option.bind (some law_zero_26) fun (k : (Tup Int)) => Dic.get (α := Int) d k) fun (x : Int) => Option.bind (some ()) fun (r : Unit) => some (x, r)) r_law_is_int) fun (q : Bool) => some (!q)) fun (q : Bool) => if q = true then some true else (Option.bind (Option.bind (some law_heights_25) fun (d : (DT (Tup Int) Int)) => Option.bind (some law_zero_26) fun (k : (Tup Int)) => Dic.get (α := Int) d k) fun (x : Int) => Option.bind (some law_due_20) fun (y : Int) => some (decide (x ≠ y)))) fun (q : Bool) => if q = true then Option.bind (Option.bind (some false) fun (r : Bool) => some (Oc.rt r)) Oc.up else (Option.bind (Option.bind (Option.bind (some law_costs_24) fun (x : (List Int)) => Option.bind (Option.bind (some law_handed_22) fun (x : (List (List Int))) => Option.bind (some ()) fun (r : Unit) => some (x, r)) fun (r : ((List (List Int)) × Unit)) => some (x, r)) r_least_row) fun (law_told_27 : (Int × (List Int))) => (Option.bind (Option.bind (Option.bind (some law_handed_22) fun (x : (List (List Int))) => Option.bind (some law_lines_17) fun (y : (List (List Int))) => some (decide (x ≠ y))) fun (q : Bool) => if q = true then some true else (Option.bind (Option.bind (some law_costs_24) fun (x : (List Int)) => Option.bind (some law_prices_here_3) fun (y : (List Int)) => some (decide (x ≠ y))) fun (q : Bool) => if q = true then some true else (Option.bind (Option.bind (Option.bind (some law_told_27) fun (_ : (Int × (List Int))) => some true) fun (q : Bool) => some (!q)) fun (q : Bool) => if q = true then some true else (Option.bind (Option.bind (Option.bind (some law_told_27) fun (x : (Int × (List Int))) => Option.bind (some ()) fun (r : Unit) => some (x, r)) (fun x : ((Int × (List Int)) × Unit) => some (2 : Int))) fun (x : Int) => Option.bind (some (2 : Int)) fun (y : Int) => some (decide (x ≠ y)))))) fun (q : Bool) => if q = true then Option.bind (Option.bind (some false) fun (r : Bool) => some (Oc.rt r)) Oc.up else (Option.bind (Option.bind (Option.bind (Option.bind (Option.bind (Option.bind (some law_told_27) fun (x : (Int × (List Int))) => some x.1) fun (x : Int) => Option.bind (some ()) fun (r : Unit) => some (x, r)) r_law_is_int) fun (q : Bool) => some (!q)) fun (q : Bool) => if q = true then some true else (Option.bind (Option.bind (Option.bind (some law_told_27) fun (x : (Int × (List Int))) => some x.1) fun (x : Int) => Option.bind (some law_due_20) fun (y : Int) => some (decide (x ≠ y))) fun (q : Bool) => if q = true then some true else (Option.bind (Option.bind (Option.bind (Option.bind (some law_told_27) fun (x : (Int × (List Int))) => some x.2) fun (x : (List Int)) => Option.bind (some ()) fun (r : Unit) => some (x, r)) r_law_ints) fun (q : Bool) => some (!q)))) fun (q : Bool) => if q = true then Option.bind (Option.bind (some false) fun (r : Bool) => some (Oc.rt r)) Oc.up else (Option.bind (Option.bind (Option.bind (Option.bind (Option.bind (Option.bind (some law_told_27) fun (x : (Int × (List Int))) => some x.2) (lcM (fun (x28 : Int) => (Option.bind (Option.bind (some x28) fun (x : Int) => Option.bind (some (0 : Int)) fun (y : Int) => some (decide (x < y))) fun (q : Bool) => if q = true then some true else (Option.bind (some x28) fun (x : Int) => Option.bind (some law_size_2) fun (y : Int) => some (decide (x ≥ y))))) (fun (x28 : Int) => (some x28)))) fun (x : (List Int)) => Option.bind (some ()) fun (r : Unit) => some (x, r)) (fun x : ((List Int) × Unit) => some (x.1.length : Int))) fun (x : Int) => Option.bind (some (0 : Int)) fun (y : Int) => some (decide (x > y))) fun (q : Bool) => if q = true then Option.bind (Option.bind (some false) fun (r : Bool) => some (Oc.rt r)) Oc.up else (Option.bind (Option.bind (Option.bind (Option.bind (Option.bind (Option.bind (Option.bind (some law_told_27) fun (x : (Int × (List Int))) => some x.2) (lcM (fun (x29 : Int) => (some true)) (fun (x29 : Int) => (Option.bind (some law_prices_here_3) fun (xs : (List Int)) => Option.bind (some x29) fun (i : Int) => atI xs i)))) fun (x : (List Int)) => Option.bind (some ()) fun (r : Unit) => some (x, r)) (fun x : ((List Int) × Unit) => some x.1.sum)) fun (x : Int) => Option.bind (some law_due_20) fun (y : Int) => some (decide (x = y))) fun (q : Bool) => if q = true then (Option.bind (Option.bind (some law_lines_17) fun (x : (List (List Int))) => Option.bind (Option.bind (Option.bind (some law_told_27) fun (x : (Int × (List Int))) => some x.2) fun (x : (List Int)) => Option.bind (some ()) fun (r : Unit) => some (x, r)) fun (r : ((List Int) × Unit)) => some (x, r)) r_law_whole) else some false) fun (r : Bool) => some (Oc.rt r))))))))))))))))))))))))))))))
def r_law (aa : ((List Int) × Unit)) : Option Bool := (b_law aa).bind (Oc.out)
theorem ok_law (T : Txt K mg c) {f : Addr} {fd : FuncData} (F : Fun K "law" "law" s_law f fd) : FnOk P w K mg base CX0 5 f fd ["_law_script"] (spM K c (δ := ((List Int) × Unit)) (ρ := Bool) r_law) := by
  refine fn_body (m := b_law) (Γn := noS) (Γl := noS) F sc_law (fun _ => rfl) (by decide) ?_
  intro cdv A outer s H E aa hr
  exact (sx_set (i := 1) sc_law.nd rfl (loc_of V_law (i := 1) rfl) (ex_call (m_law_digits T) hr (by decide) (by rfl) (ea_cons (ex_call (m_law_seed T) hr (by decide) (by rfl) (ea_cons (ex_var (i := 0) rfl (vis_of V_law (i := 0) rfl) rfl) (ea_cons ex_int ea_nil))) (ea_cons ex_int (ea_cons ex_int ea_nil)))) (fun law_row_1 => (sx_set (i := 2) sc_law.nd rfl (loc_of V_law (i := 2) rfl) (ex_ix ix_list o2_ixL (EO.ex (eo_lst (el_cons ex_int (el_cons ex_int (el_cons ex_int (el_cons ex_int (el_cons ex_int (el_cons ex_int (el_cons ex_int (el_cons ex_int el_nil)))))))) (el_le (el_ns (el_ns (el_ns (el_ns (el_ns (el_ns (el_ns (el_ns el_n0)))))))) (by decide)))) (ex_modL (ex_Ty call_int1 cal_int (by rfl) T.b_int bt_int (ea_cons (ex_ix ix_list o2_ixL (ex_var (i := 1) rfl (vis_of V_law (i := 1) rfl) rfl) ex_int) ea_nil)))) (fun law_size_2 => (sx_set (i := 3) sc_law.nd rfl (loc_of V_law (i := 3) rfl) (ex_call (m_law_prices T) hr (by decide) (by rfl) (ea_cons (ex_call (m_law_seed T) hr (by decide) (by rfl) (ea_cons (ex_var (i := 0) rfl (vis_of V_law (i := 0) rfl) rfl) (ea_cons ex_int ea_nil))) (ea_cons (ex_var (i := 2) rfl (vis_of V_law (i := 2) rfl) rfl) (ea_cons (ex_modL (ex_Ty call_int1 cal_int (by rfl) T.b_int bt_int (ea_cons (ex_ix ix_list o2_ixL (ex_var (i := 1) rfl (vis_of V_law (i := 1) rfl) rfl) ex_int) ea_nil))) ea_nil)))) (fun law_prices_here_3 => (sx_set (i := 4) sc_law.nd rfl (loc_of V_law (i := 4) rfl) (ex_call (m_law_gates T) hr (by decide) (by rfl) (ea_cons (ex_call (m_law_seed T) hr (by decide) (by rfl) (ea_cons (ex_var (i := 0) rfl (vis_of V_law (i := 0) rfl) rfl) (ea_cons ex_int ea_nil))) (ea_cons (ex_var (i := 2) rfl (vis_of V_law (i := 2) rfl) rfl) ea_nil))) (fun law_gates_here_4 => (sx_set (i := 5) sc_law.nd rfl (loc_of V_law (i := 5) rfl) (ex_ix ix_list o2_ixL (EO.ex (eo_lst (el_cons ex_int (el_cons ex_int (el_cons ex_int (el_cons ex_int (el_cons ex_int (el_cons ex_int el_nil)))))) (el_le (el_ns (el_ns (el_ns (el_ns (el_ns (el_ns el_n0)))))) (by decide)))) (ex_modL (ex_Ty call_int1 cal_int (by rfl) T.b_int bt_int (ea_cons (ex_ix ix_list o2_ixL (ex_var (i := 1) rfl (vis_of V_law (i := 1) rfl) rfl) ex_int) ea_nil)))) (fun law_count_5 => (sx_set (i := 6) sc_law.nd rfl (loc_of V_law (i := 6) rfl) ex_int (fun law_room_6 => (sx_seq (Γs := fun (s9 : (Int × Int)) => ([.fr (aa.1 : (List Int)), .fr (law_row_1 : (List Int)), .fr (law_size_2 : Int), .fr (law_prices_here_3 : (List Int)), .fr (law_gates_here_4 : (List Int)), .fr (s9.1 : Int), .fr (s9.2 : Int), .no, .no, .no, .no, .no, .no, .no, .no, .no, .no, .no, .no, .no, .no, .no] : List Bd)) (s1_if (et_cmp op_eq o2_eq (ex_modL (ex_Ty call_int1 cal_int (by rfl) T.b_int bt_int (ea_cons (ex_ix ix_list o2_ixL (ex_var (i := 1) rfl (vis_of V_law (i := 1) rfl) rfl) ex_int) ea_nil))) ex_int (nomark _)) (sx_set (i := 5) sc_law.nd rfl (loc_of V_law (i := 5) rfl) (ex_op op_add o2_add ex_int (ex_modL (ex_Ty call_int1 cal_int (by rfl) T.b_int bt_int (ea_cons (ex_fdivL (ex_ix ix_list o2_ixL (ex_var (i := 1) rfl (vis_of V_law (i := 1) rfl) rfl) ex_int)) ea_nil)))) (fun law_count_7 => (sx_set (i := 6) sc_law.nd rfl (loc_of V_law (i := 6) rfl) ex_int (fun law_room_8 => (sx_nil (Weak.s (Weak.s (Weak.s (Weak.s (Weak.s (Weak.s (Weak.s (Weak.s (Weak.s (Weak.s (Weak.s (Weak.s (Weak.s (Weak.s (Weak.s (Weak.s (Weak.s (Weak.s (Weak.s (Weak.s (Weak.s (Weak.s Weak.nil))))))))))))))))))))))))))) (sx_nil (Weak.s (Weak.s (Weak.s (Weak.s (Weak.s (Weak.s (Weak.s (Weak.s (Weak.s (Weak.s (Weak.s (Weak.s (Weak.s (Weak.s (Weak.s (Weak.s (Weak.s (Weak.s (Weak.s (Weak.s (Weak.s (Weak.s Weak.nil)))))))))))))))))))))))) (fun s9 => (sx_set (i := 7) sc_law.nd rfl (loc_of V_law (i := 7) rfl) ex_int (fun law_longest_10 => (sx_seq (Γs := fun (s12 : Int) => ([.fr (aa.1 : (List Int)), .fr (law_row_1 : (List Int)), .fr (law_size_2 : Int), .fr (law_prices_here_3 : (List Int)), .fr (law_gates_here_4 : (List Int)), .fr (s9.1 : Int), .fr (s9.2 : Int), .fr (s12 : Int), .no, .no, .no, .no, .no, .no, .no, .no, .no, .no, .no, .no, .no, .no] : List Bd)) (s1_if (et_cmp op_eq o2_eq (ex_modL (ex_Ty call_int1 cal_int (by rfl) T.b_int bt_int (ea_cons (ex_ix ix_list o2_ixL (ex_var (i := 1) rfl (vis_of V_law (i := 1) rfl) rfl) ex_int) ea_nil))) ex_int (nomark _)) (sx_set (i := 7) sc_law.nd rfl (loc_of V_law (i := 7) rfl) ex_int (fun law_longest_11 => (sx_nil (Weak.s (Weak.s (Weak.s (Weak.s (Weak.s (Weak.s (Weak.s (Weak.s (Weak.s (Weak.s (Weak.s (Weak.s (Weak.s (Weak.s (Weak.s (Weak.s (Weak.s (Weak.s (Weak.s (Weak.s (Weak.s (Weak.s Weak.nil))))))))))))))))))))))))) (sx_nil (Weak.s (Weak.s (Weak.s (Weak.s (Weak.s (Weak.s (Weak.s (Weak.s (Weak.s (Weak.s (Weak.s (Weak.s (Weak.s (Weak.s (Weak.s (Weak.s (Weak.s (Weak.s (Weak.s (Weak.s (Weak.s (Weak.s Weak.nil)))))))))))))))))))))))) (fun s12 => (sx_set (i := 8) sc_law.nd rfl (loc_of V_law (i := 8) rfl) (ex_call (m_law_drawn T) hr (by decide) (by rfl) (ea_cons (ex_call (m_law_seed T) hr (by decide) (by rfl) (ea_cons (ex_var (i := 0) rfl (vis_of V_law (i := 0) rfl) rfl) (ea_cons ex_int ea_nil))) (ea_cons (ex_var (i := 4) rfl (vis_of V_law (i := 4) rfl) rfl) (ea_cons (ex_var (i := 5) rfl (vis_of V_law (i := 5) rfl) rfl) (ea_cons (ex_var (i := 7) rfl (vis_of V_law (i := 7) rfl) rfl) ea_nil))))) (fun law_drawn_here_13 => (sx_setLc rfl sc_law.nd (ei_list (ex_var (i := 8) rfl (vis_of V_law (i := 8) rfl) rfl)) (blkOk_by (own := [("_law_stay", 18)]) (N := N_law) (sc := (defScope s_law)) (by decide +kernel)) (fun _ _ _ _ _ => pg_name (i := 18) sc_law.nd rfl (by first | exact Or.inl rfl | exact Or.inr rfl)) (tgs_name (α := (Int × Int))) (i := 9) rfl (by rfl) (sw_true rfl rfl rfl (by decide +kernel)) (fun _ _ _ _ _ x15 => ets_nil) (fun _ _ _ _ _ x15 => (EO.ex (eo_lc rfl sc_law.nd (ei_range1 (by rfl) T.b_range (ex_snd (ex_var (i := 18) rfl (by first | exact Or.inl rfl | exact Or.inr (Or.inl rfl) | exact Or.inr (Or.inr rfl)) rfl))) (blkOk_by (own := [("_law_k", 19)]) (N := N_law) (sc := (relS _ (defScope s_law))) (by decide +kernel)) (fun _ _ _ _ _ => pg_name (i := 19) sc_law.nd rfl (by first | exact Or.inl rfl | exact Or.inr rfl)) (tgs_name (α := Int)) (fun _ _ _ _ _ x16 => ets_nil) (fun _ _ _ _ _ x16 => (ex_op op_mod o2_mod (ex_Ty call_int1 cal_int (by rfl) T.b_int bt_int (ea_cons (ex_op op_add o2_add (ex_fst (ex_var (i := 18) rfl (by first | exact Or.inl rfl | exact Or.inr (Or.inl rfl) | exact Or.inr (Or.inr rfl)) rfl)) (ex_var (i := 19) rfl (by first | exact Or.inl rfl | exact Or.inr (Or.inl rfl) | exact Or.inr (Or.inr rfl)) rfl)) ea_nil)) (ex_var (i := 2) rfl (by first | exact Or.inl rfl | exact Or.inr (Or.inl rfl) | exact Or.inr (Or.inr rfl)) rfl)))))) (show 9 < 22 from by decide) (fun law_lines_14 => (sx_set (i := 9) sc_law.nd rfl (loc_of V_law (i := 9) rfl) (ex_call (m_law_few_runs T) hr (by decide) (by rfl) (ea_cons (ex_var (i := 9) rfl (vis_of V_law (i := 9) rfl) rfl) (ea_cons (ex_var (i := 6) rfl (vis_of V_law (i := 6) rfl) rfl) ea_nil))) (fun law_lines_17 => (sx_setLc rfl sc_law.nd (ei_list (ex_var (i := 9) rfl (vis_of V_law (i := 9) rfl) rfl)) (blkOk_by (own := [("_law_line", 20)]) (N := N_law) (sc := (defScope s_law)) (by decide +kernel)) (fun _ _ _ _ _ => pg_name (i := 20) sc_law.nd rfl (by first | exact Or.inl rfl | exact Or.inr rfl)) (tgs_name (α := (List Int))) (i := 10) rfl (by rfl) (sw_true rfl rfl rfl (by decide +kernel)) (fun _ _ _ _ _ x19 => ets_nil) (fun _ _ _ _ _ x19 => (ex_pair (ex_ix ix_list o2_ixL (ex_var (i := 20) rfl (by first | exact Or.inl rfl | exact Or.inr (Or.inl rfl) | exact Or.inr (Or.inr rfl)) rfl) ex_int) (ex_B call_len_seq (cal_lenL (α := Int)) (by rfl) T.b_len bt_len (ea_cons (ex_var (i := 20) rfl (by first | exact Or.inl rfl | exact Or.inr (Or.inl rfl) | exact Or.inr (Or.inr rfl)) rfl) ea_nil)))) (show 10 < 22 from by decide) (fun law_stays_18 => (sx_set (i := 11) sc_law.nd rfl (loc_of V_law (i := 11) rfl) (ex_call (m_law_least_ring T) hr (by decide) (by rfl) (ea_cons (ex_var (i := 3) rfl (vis_of V_law (i := 3) rfl) rfl) (ea_cons (ex_var (i := 10) rfl (vis_of V_law (i := 10) rfl) rfl) ea_nil))) (fun law_due_20 => (sx_set (i := 12) sc_law.nd rfl (loc_of V_law (i := 12) rfl) (ex_call (m_least_laying T) hr (by decide) (by rfl) (ea_cons (ex_make (m_Ring_init T) ext_Ring_ok hr (by decide) (by rfl) (ea_cons (EO.ex (eo_Ty call_list_of (calO_listL (α := Int)) (by rfl) T.b_list bt_list (ea_cons (ex_var (i := 3) rfl (vis_of V_law (i := 3) rfl) rfl) ea_nil))) (ea_cons (EO.ex (eo_Ty call_list_of (calO_listL (α := Int)) (by rfl) T.b_list bt_list (ea_cons (ex_var (i := 4) rfl (vis_of V_law (i := 4) rfl) rfl) ea_nil))) ea_nil))) (ea_cons (EO.ex (eo_Ty call_list_of (calO_listL (α := (Int × Int))) (by rfl) T.b_list bt_list (ea_cons (ex_var (i := 10) rfl (vis_of V_law (i := 10) rfl) rfl) ea_nil))) ea_nil))) (fun law_laying_21 => (sx_ifR (et_w (ew_or (et_not (et_bool (ex_isinst (by rfl) T.b_isinstance (by rfl) T.b_tuple bt_tuple (by decide +kernel) (ex_var (i := 12) rfl (vis_of V_law (i := 12) rfl) rfl)))) (ew_or (et_cmp op_ne o2_ne (ex_B call_len_seq (cal_lenP (α := Int) (β := (Option Int))) (by rfl) T.b_len bt_len (ea_cons (ex_var (i := 12) rfl (vis_of V_law (i := 12) rfl) rfl) ea_nil)) ex_int (nomark _)) (ew_or (et_not (et_bool (ex_call (m_law_is_int T) hr (by decide) (by rfl) (ea_cons (ex_fst (ex_var (i := 12) rfl (vis_of V_law (i := 12) rfl) rfl)) ea_nil)))) (ew_or1 (et_cmp op_ne o2_ne (ex_fst (ex_var (i := 12) rfl (vis_of V_law (i := 12) rfl) rfl)) (ex_var (i := 11) rfl (vis_of V_law (i := 11) rfl) rfl) (nomark _))))))) (sx_ret ex_bl) (sx_setLc rfl sc_law.nd (ei_list (ex_var (i := 9) rfl (vis_of V_law (i := 9) rfl) rfl)) (blkOk_by (own := [("_law_line", 20)]) (N := N_law) (sc := (defScope s_law)) (by decide +kernel)) (fun _ _ _ _ _ => pg_name (i := 20) sc_law.nd rfl (by first | exact Or.inl rfl | exact Or.inr rfl)) (tgs_name (α := (List Int))) (i := 13) rfl (by rfl) (sw_true rfl rfl rfl (by decide +kernel)) (fun _ _ _ _ _ x23 => ets_nil) (fun _ _ _ _ _ x23 => (EO.ex (eo_Ty call_list_of (calO_listL (α := Int)) (by rfl) T.b_list bt_list (ea_cons (ex_var (i := 20) rfl (by first | exact Or.inl rfl | exact Or.inr (Or.inl rfl) | exact Or.inr (Or.inr rfl)) rfl) ea_nil)))) (show 13 < 22 from by decide) (fun law_handed_22 => (sx_set (i := 14) sc_law.nd rfl (loc_of V_law (i := 14) rfl) (EO.ex (eo_Ty call_list_of (calO_listL (α := Int)) (by rfl) T.b_list bt_list (ea_cons (ex_var (i := 3) rfl (vis_of V_law (i := 3) rfl) rfl) ea_nil))) (fun law_costs_24 => (sx_set (i := 15) sc_law.nd rfl (loc_of V_law (i := 15) rfl) (ex_call (m_front_heights T) hr (by decide) (by rfl) (ea_cons (ex_var (i := 14) rfl (vis_of V_law (i := 14) rfl) rfl) (ea_cons (ex_var (i := 13) rfl (vis_of V_law (i := 13) rfl) rfl) ea_nil))) (fun law_heights_25 => (sx_set (i := 16) sc_law.nd rfl (loc_of V_law (i := 16) rfl) (ex_Ty call_tuple_of (cal_tupL (α := Int)) (by rfl) T.b_tuple bt_tuple (ea_cons (EO.ex (eo_rep (eo_lst (el_cons ex_int el_nil) (el_le (el_ns el_n0) (by decide))) (ex_B call_len_seq (cal_lenL (α := (List Int))) (by rfl) T.b_len bt_len (ea_cons (ex_var (i := 9) rfl (vis_of V_law (i := 9) rfl) rfl) ea_nil)))) ea_nil)) (fun law_zero_26 => (sx_ifR (et_w (ew_or (et_not (et_bool (ex_isinst (by rfl) T.b_isinstance (by rfl) T.b_dict bt_dict (by decide +kernel) (ex_var (i := 15) rfl (vis_of V_law (i := 15) rfl) rfl)))) (ew_or1 (et_dnin Int (hu_le hr (n := 1) (by decide)) (ex_var (i := 16) rfl (vis_of V_law (i := 16) rfl) rfl) (ex_var (i := 15) rfl (vis_of V_law (i := 15) rfl) rfl))))) (sx_ret ex_bl) (sx_ifR (et_w (ew_or (et_not (et_bool (ex_call (m_law_is_int T) hr (by decide) (by rfl) (ea_cons (ex_dget (α := Int) (hu_le hr (n := 1) (by decide)) (ex_var (i := 15) rfl (vis_of V_law (i := 15) rfl) rfl) (ex_var (i := 16) rfl (vis_of V_law (i := 16) rfl) rfl)) ea_nil)))) (ew_or1 (et_cmp op_ne o2_ne (ex_dget (α := Int) (hu_le hr (n := 1) (by decide)) (ex_var (i := 15) rfl (vis_of V_law (i := 15) rfl) rfl) (ex_var (i := 16) rfl (vis_of V_law (i := 16) rfl) rfl)) (ex_var (i := 11) rfl (vis_of V_law (i := 11) rfl) rfl) (nomark _))))) (sx_ret ex_bl) (sx_set (i := 17) sc_law.nd rfl (loc_of V_law (i := 17) rfl) (ex_call (m_least_row T) hr (by decide) (by rfl) (ea_cons (ex_var (i := 14) rfl (vis_of V_law (i := 14) rfl) rfl) (ea_cons (ex_var (i := 13) rfl (vis_of V_law (i := 13) rfl) rfl) ea_nil))) (fun law_told_27 => (sx_ifR (et_w (ew_or (et_cmp (op_neT (α := (List (List Int))) (hu_le hr (by decide))) o2_neT (ex_var (i := 13) rfl (vis_of V_law (i := 13) rfl) rfl) (ex_var (i := 9) rfl (vis_of V_law (i := 9) rfl) rfl) (nomark _)) (ew_or (et_cmp (op_neT (α := (List Int)) (hu_le hr (by decide))) o2_neT (ex_var (i := 14) rfl (vis_of V_law (i := 14) rfl) rfl) (ex_var (i := 3) rfl (vis_of V_law (i := 3) rfl) rfl) (nomark _)) (ew_or (et_not (et_bool (ex_isinst (by rfl) T.b_isinstance (by rfl) T.b_tuple bt_tuple (by decide +kernel) (ex_var (i := 17) rfl (vis_of V_law (i := 17) rfl) rfl)))) (ew_or1 (et_cmp op_ne o2_ne (ex_B call_len_seq (cal_lenP (α := Int) (β := (List Int))) (by rfl) T.b_len bt_len (ea_cons (ex_var (i := 17) rfl (vis_of V_law (i := 17) rfl) rfl) ea_nil)) ex_int (nomark _))))))) (sx_ret ex_bl) (sx_ifR (et_w (ew_or (et_not (et_bool (ex_call (m_law_is_int T) hr (by decide) (by rfl) (ea_cons (ex_fst (ex_var (i := 17) rfl (vis_of V_law (i := 17) rfl) rfl)) ea_nil)))) (ew_or (et_cmp op_ne o2_ne (ex_fst (ex_var (i := 17) rfl (vis_of V_law (i := 17) rfl) rfl)) (ex_var (i := 11) rfl (vis_of V_law (i := 11) rfl) rfl) (nomark _)) (ew_or1 (et_not (et_bool (ex_call (m_law_ints T) hr (by decide) (by rfl) (ea_cons (ex_snd (ex_var (i := 17) rfl (vis_of V_law (i := 17) rfl) rfl)) ea_nil)))))))) (sx_ret ex_bl) (sx_ifR (et_cmp op_gt o2_gt (ex_B call_len_seq (cal_lenL (α := Int)) (by rfl) T.b_len bt_len (ea_cons (EO.ex (eo_lc rfl sc_law.nd (ei_list (ex_snd (ex_var (i := 17) rfl (vis_of V_law (i := 17) rfl) rfl))) (blkOk_by (own := [("_law_place", 21)]) (N := N_law) (sc := (defScope s_law)) (by decide +kernel)) (fun _ _ _ _ _ => pg_name (i := 21) sc_law.nd rfl (by first | exact Or.inl rfl | exact Or.inr rfl)) (tgs_name (α := Int)) (fun _ _ _ _ _ x28 => (ets_one (et_w (ew_or (et_cmp op_lt o2_lt (ex_var (i := 21) rfl (by first | exact Or.inl rfl | exact Or.inr (Or.inl rfl) | exact Or.inr (Or.inr rfl)) rfl) ex_int (nomark _)) (ew_or1 (et_cmp op_ge o2_ge (ex_var (i := 21) rfl (by first | exact Or.inl rfl | exact Or.inr (Or.inl rfl) | exact Or.inr (Or.inr rfl)) rfl) (ex_var (i := 2) rfl (by first | exact Or.inl rfl | exact Or.inr (Or.inl rfl) | exact Or.inr (Or.inr rfl)) rfl) (nomark _))))))) (fun _ _ _ _ _ x28 => (ex_var (i := 21) rfl (by first | exact Or.inl rfl | exact Or.inr (Or.inl rfl) | exact Or.inr (Or.inr rfl)) rfl)))) ea_nil)) ex_int (nomark _)) (sx_ret ex_bl) (sx_ret (ex_and (ex_cmp op_eq o2_eq (ex_B (cr_sum rfl) cal_sum (by rfl) T.b_sum bt_sum (ea_cons (EO.ex (eo_lc rfl sc_law.nd (ei_list (ex_snd (ex_var (i := 17) rfl (vis_of V_law (i := 17) rfl) rfl))) (blkOk_by (own := [("_law_place", 21)]) (N := N_law) (sc := (defScope s_law)) (by decide +kernel)) (fun _ _ _ _ _ => pg_name (i := 21) sc_law.nd rfl (by first | exact Or.inl rfl | exact Or.inr rfl)) (tgs_name (α := Int)) (fun _ _ _ _ _ x29 => ets_nil) (fun _ _ _ _ _ x29 => (ex_ix ix_list o2_ixL (ex_var (i := 3) rfl (by first | exact Or.inl rfl | exact Or.inr (Or.inl rfl) | exact Or.inr (Or.inr rfl)) rfl) (ex_var (i := 21) rfl (by first | exact Or.inl rfl | exact Or.inr (Or.inl rfl) | exact Or.inr (Or.inr rfl)) rfl))))) ea_nil)) (ex_var (i := 11) rfl (vis_of V_law (i := 11) rfl) rfl) (nomark _)) (ex_bo1 (ex_call (m_law_whole T) hr (by decide) (by rfl) (ea_cons (ex_var (i := 9) rfl (vis_of V_law (i := 9) rfl) rfl) (ea_cons (ex_snd (ex_var (i := 17) rfl (vis_of V_law (i := 17) rfl) rfl)) ea_nil))))))))))))))))))))))))))))))))))))))))))))))))))))
theorem m_law (T : Txt K mg c) : FnM P w K mg base c "law" 5 (δ := ((List Int) × Unit)) (ρ := Bool) r_law := by
  obtain ⟨f, fd, F, hg, hB⟩ := T.d_law
  exact ⟨f, fd, ["_law_script"], ok_law T F, hg, F.kp, hB⟩
end
end F57

end
/-! ## M57a.lean -/
section
set_option Elab.async false
set_option linter.all false
/-! k57, the plain law, part A: windows, layings, the least word. -/
namespace R57
def S (f : Nat → Int) : Nat → Int
  | 0 => 0
  | k + 1 => S f k + f k
theorem S_le {f g : Nat → Int} : ∀ {k : Nat}, (∀ y, y < k → f y ≤ g y) → S f k ≤ S g k
  | 0, _ => Int.le_refl _
  | k + 1, h => Int.add_le_add (S_le fun y hy => h y (by omega)) (h k (by omega))
theorem S_eq {f g : Nat → Int} : ∀ {k : Nat}, (∀ y, y < k → f y = g y) → S f k = S g k
  | 0, _ => rfl
  | k + 1, h => by
    show S f k + f k = S g k + g k
    rw [S_eq fun y hy => h y (by omega), h k (by omega)]
theorem S_add {f g : Nat → Int} : ∀ {k : Nat}, S (fun y => f y + g y) k = S f k + S g k
  | 0 => rfl
  | k + 1 => by
    show S (fun y => f y + g y) k + (f k + g k) = (S f k + f k) + (S g k + g k)
    rw [S_add]
    omega
theorem S_shift {f : Nat → Int} : ∀ {k : Nat}, S f (k + 1) = f 0 + S (fun y => f (y + 1)) k
  | 0 => by show S f 0 + f 0 = f 0 + 0; show 0 + f 0 = f 0 + 0; omega
  | k + 1 => by
    show S f (k + 1) + f (k + 1) = f 0 + (S (fun y => f (y + 1)) k + f (k + 1))
    rw [S_shift]
    omega
theorem S_zero {f : Nat → Int} : ∀ {k : Nat}, (∀ y, y < k → f y = 0) → S f k = 0
  | 0, _ => rfl
  | k + 1, h => by
    show S f k + f k = 0
    rw [S_zero fun y hy => h y (by omega), h k (by omega)]
    rfl
theorem S_one {v : Int} {z : Nat} : ∀ {k : Nat}, S (fun y => if y = z then v else 0) k = if z < k then v else 0
  | 0 => rfl
  | k + 1 => by
    show S _ k + (if k = z then v else 0) = _
    rw [S_one]
    by_cases h : k = z
    · subst h
      rw [if_pos rfl, if_neg (by omega), if_pos (by omega)]
      omega
    · rw [if_neg h]
      by_cases h2 : z < k
      · rw [if_pos h2, if_pos (by omega)]; omega
      · rw [if_neg h2, if_neg (by omega)]; omega
theorem S_nonneg {f : Nat → Int} : ∀ {k : Nat}, (∀ y, y < k → 0 ≤ f y) → 0 ≤ S f k
  | 0, _ => Int.le_refl _
  | k + 1, h => Int.add_nonneg (S_nonneg fun y hy => h y (by omega)) (h k (by omega))
theorem S_tail {f : Nat → Int} {k : Nat} : ∀ {j : Nat}, (∀ y, k ≤ y → y < k + j → f y = 0) → S f (k + j) = S f k
  | 0, _ => rfl
  | j + 1, h => by
    show S f (k + j) + f (k + j) = S f k
    rw [S_tail fun y h1 h2 => h y h1 (by omega), h (k + j) (by omega) (by omega)]
    omega

/-! ### the ring -/
abbrev Cfg := List (Nat × Nat)
/-- how far c lies behind a, round the ring -/
def off (n a c : Nat) : Nat := if a ≤ c then c - a else c + n - a
def nxt (n s : Nat) : Nat := if s + 1 = n then 0 else s + 1
def en (s : Nat) (g : Cfg) : Bool := g.any fun q => decide (q.2 ≠ 0) && decide (q.1 = s)
def beat1 (n s : Nat) (q : Nat × Nat) : Nat × Nat := if q.2 ≠ 0 ∧ q.1 = s then (nxt n s, q.2 - 1) else q
def beat (n s : Nat) (g : Cfg) : Cfg := g.map (beat1 n s)
def cov (n a : Nat) (g : Cfg) (y : Nat) : Bool := g.any fun q => decide (off n a q.1 ≤ y) && decide (y < off n a q.1 + q.2)
section
variable {P : Nat → Int} {n B : Nat}
/-- the price of laying all runs from a -/
def U (P : Nat → Int) (n B a : Nat) (g : Cfg) : Int := S (fun y => if cov n a g y = true then P (a + y) else 0) B
structure Ok (n B : Nat) (g : Cfg) : Prop where
  lt : ∀ q ∈ g, q.1 < n
  le : ∀ q ∈ g, q.2 + n ≤ B
theorem nxt_lt (hs : s < n) : nxt n s < n := by unfold nxt; split <;> omega
theorem off_lt {a c : Nat} (ha : a < n) (hc : c < n) : off n a c < n := by unfold off; split <;> omega
theorem off_nxt {s c : Nat} (hs : s < n) (hc : c < n) (h : c ≠ s) : off n s c = off n (nxt n s) c + 1 := by
  unfold off nxt
  split <;> split <;> (try split) <;> omega
theorem off_nxt2 {s a : Nat} (hs : s < n) (ha : a < n) (h : nxt n s ≠ a) : off n a (nxt n s) = off n a s + 1 := by
  unfold nxt at h ⊢
  by_cases e : s + 1 = n
  · rw [if_pos e] at h ⊢
    unfold off
    by_cases e2 : a ≤ s
    · rw [if_pos e2, if_neg (by omega)]; omega
    · omega
  · rw [if_neg e] at h ⊢
    unfold off
    by_cases e2 : a ≤ s
    · rw [if_pos e2, if_pos (by omega)]; omega
    · rw [if_neg e2, if_neg (by omega)]; omega
theorem off_self {s : Nat} : off n s s = 0 := by unfold off; simp
theorem cov_iff {a y : Nat} {g : Cfg} : cov n a g y = true ↔ ∃ q ∈ g, off n a q.1 ≤ y ∧ y < off n a q.1 + q.2 := by
  unfold cov
  simp
theorem en_iff {s : Nat} {g : Cfg} : en s g = true ↔ ∃ q ∈ g, q.2 ≠ 0 ∧ q.1 = s := by
  unfold en
  simp
theorem Ok.beat {g : Cfg} (h : Ok n B g) {s : Nat} (hs : s < n) : Ok n B (beat n s g) := by
  constructor
  · intro q hq
    obtain ⟨p, hp, rfl⟩ := List.mem_map.mp hq
    unfold beat1
    split
    · exact nxt_lt hs
    · exact h.lt p hp
  · intro q hq
    obtain ⟨p, hp, rfl⟩ := List.mem_map.mp hq
    have := h.le p hp
    unfold beat1
    split
    · show p.2 - 1 + n ≤ B; omega
    · exact this
/-- one place on: the coverage behind the first place -/
theorem cov_succ {g : Cfg} (h : Ok n B g) {s : Nat} (hs : s < n) (y : Nat) : cov n s g (y + 1) = cov n (nxt n s) (beat n s g) y := by
  rw [Bool.eq_iff_iff, cov_iff, cov_iff]
  constructor
  · rintro ⟨q, hq, h1, h2⟩
    refine ⟨beat1 n s q, List.mem_map.mpr ⟨q, hq, rfl⟩, ?_⟩
    unfold beat1
    by_cases e : q.2 ≠ 0 ∧ q.1 = s
    · rw [if_pos e]
      rw [e.2, off_self] at h1 h2
      show off n (nxt n s) (nxt n s) ≤ y ∧ y < off n (nxt n s) (nxt n s) + (q.2 - 1)
      rw [off_self]
      omega
    · rw [if_neg e]
      have hc : q.1 ≠ s := fun z => e ⟨by omega, z⟩
      rw [off_nxt hs (h.lt q hq) hc] at h1 h2
      omega
  · rintro ⟨q', hq', h1, h2⟩
    obtain ⟨q, hq, rfl⟩ := List.mem_map.mp hq'
    refine ⟨q, hq, ?_⟩
    unfold beat1 at h1 h2
    by_cases e : q.2 ≠ 0 ∧ q.1 = s
    · rw [if_pos e] at h1 h2
      change off n (nxt n s) (nxt n s) ≤ y at h1
      change y < off n (nxt n s) (nxt n s) + (q.2 - 1) at h2
      rw [off_self] at h1 h2
      rw [e.2, off_self]
      omega
    · rw [if_neg e] at h1 h2
      have hc : q.1 ≠ s := fun z => e ⟨by omega, z⟩
      rw [off_nxt hs (h.lt q hq) hc]
      omega
theorem cov_zero {g : Cfg} (h : Ok n B g) {s : Nat} (hs : s < n) : cov n s g 0 = en s g := by
  rw [Bool.eq_iff_iff, cov_iff, en_iff]
  constructor
  · rintro ⟨q, hq, h1, h2⟩
    refine ⟨q, hq, by omega, ?_⟩
    have := h.lt q hq
    unfold off at h1
    split at h1 <;> omega
  · rintro ⟨q, hq, h1, h2⟩
    refine ⟨q, hq, ?_⟩
    rw [h2, off_self]
    omega
variable (per : ∀ y, P (y + n) = P y)
include per
theorem P_nxt {s : Nat} (y : Nat) : P (s + (y + 1)) = P (nxt n s + y) := by
  unfold nxt
  split
  · rename_i e
    rw [show s + (y + 1) = y + n by omega, per, Nat.zero_add]
  · rw [show s + (y + 1) = s + 1 + y by omega]
/-- THE KEY: laying from s is the beat at s, if it is due, and laying from the next place -/
theorem key {g : Cfg} (h : Ok n B g) {s : Nat} (hs : s < n) : U P n B s g = (if en s g = true then P s else 0) + U P n B (nxt n s) (beat n s g) := by
  have hn : 0 < n := by omega
  by_cases hB : B = 0
  · subst hB
    have hg : g = [] := by
      cases g with
      | nil => rfl
      | cons q r => have := h.le q (by simp); omega
    subst hg
    rfl
  obtain ⟨b, rfl⟩ := Nat.exists_eq_succ_of_ne_zero hB
  unfold U
  rw [S_shift, cov_zero h hs]
  have e : S (fun y => if cov n s g (y + 1) = true then P (s + (y + 1)) else 0) b = S (fun y => if cov n (nxt n s) (beat n s g) y = true then P (nxt n s + y) else 0) b :=
    S_eq fun y _ => by rw [cov_succ h hs, P_nxt per]
  rw [e]
  have e2 : S (fun y => if cov n (nxt n s) (beat n s g) y = true then P (nxt n s + y) else 0) (b + 1) = S (fun y => if cov n (nxt n s) (beat n s g) y = true then P (nxt n s + y) else 0) b := by
    refine S_tail (j := 1) fun y h1 h2 => ?_
    rw [if_neg]
    rw [cov_iff]
    rintro ⟨q', hq', h3, h4⟩
    have h5 := (h.beat hs).le q' hq'
    have h6 := off_lt (nxt_lt hs) ((h.beat hs).lt q' hq')
    omega
  rw [e2]
  rfl
omit per
theorem beat_not {g : Cfg} {s : Nat} (h : ¬ en s g = true) : beat n s g = g := by
  unfold beat
  conv => rhs; rw [← List.map_id g]
  refine List.map_congr_left fun q hq => ?_
  unfold beat1
  rw [if_neg fun e => h (en_iff.mpr ⟨q, hq, e⟩)]
  rfl
include per
/-- laying from a costs as much as laying from the next run that is due -/
theorem norm {g : Cfg} (h : Ok n B g) {q : Nat × Nat} (hq : q ∈ g) (hr : q.2 ≠ 0) : ∀ (k a : Nat), off n a q.1 = k → a < n → ∃ s, s < n ∧ en s g = true ∧ U P n B s g = U P n B a g := by
  intro k
  induction k with
  | zero =>
    intro a e ha
    have hc := h.lt q hq
    refine ⟨a, ha, en_iff.mpr ⟨q, hq, hr, ?_⟩, rfl⟩
    unfold off at e
    split at e <;> omega
  | succ k ih =>
    intro a e ha
    by_cases hen : en a g = true
    · exact ⟨a, ha, hen, rfl⟩
    · have hc : q.1 ≠ a := fun z => hen (en_iff.mpr ⟨q, hq, hr, z⟩)
      have e2 := off_nxt ha (h.lt q hq) hc
      obtain ⟨s, h1, h2, h3⟩ := ih (nxt n a) (by omega) (nxt_lt ha)
      refine ⟨s, h1, h2, ?_⟩
      rw [h3, key per h ha, if_neg hen, beat_not hen]
      omega
variable (pos : ∀ y, 0 ≤ P y)
include pos
/-- no beat gains more than its price -/
theorem lower {g : Cfg} (h : Ok n B g) {s a : Nat} (hs : s < n) (ha : a < n) (hB : n ≤ B) : ∃ a', a' < n ∧ U P n B a' g ≤ P s + U P n B a (beat n s g) := by
  by_cases e : nxt n s = a
  · refine ⟨s, hs, ?_⟩
    rw [key per h hs, e]
    have := pos s
    split <;> omega
  · refine ⟨a, ha, ?_⟩
    have hP : P (a + off n a s) = P s := by
      unfold off
      split
      · rw [show a + (s - a) = s by omega]
      · rw [show a + (s + n - a) = s + n by omega, per]
    have h1 : P s = S (fun y => if y = off n a s then P s else 0) B := by
      rw [S_one, if_pos (Nat.lt_of_lt_of_le (off_lt ha hs) hB)]
    unfold U
    rw [h1, ← S_add]
    refine S_le fun y hy => ?_
    have hPy := pos (a + y)
    have hPs := pos s
    by_cases hc : cov n a g y = true
    · rw [if_pos hc]
      obtain ⟨q, hq, h2, h3⟩ := cov_iff.mp hc
      by_cases e2 : q.2 ≠ 0 ∧ q.1 = s
      · by_cases e3 : y = off n a s
        · rw [if_pos e3, e3, hP]
          split
          · omega
          · omega
        · have hcv : cov n a (beat n s g) y = true := by
            refine cov_iff.mpr ⟨beat1 n s q, List.mem_map.mpr ⟨q, hq, rfl⟩, ?_⟩
            unfold beat1
            rw [if_pos e2]
            rw [e2.2] at h2 h3
            have e4 := off_nxt2 hs ha e
            show off n a (nxt n s) ≤ y ∧ y < off n a (nxt n s) + (q.2 - 1)
            omega
          rw [if_pos hcv]
          split <;> omega
      · have hcv : cov n a (beat n s g) y = true := by
          refine cov_iff.mpr ⟨beat1 n s q, List.mem_map.mpr ⟨q, hq, rfl⟩, ?_⟩
          unfold beat1
          rw [if_neg e2]
          exact ⟨h2, h3⟩
        rw [if_pos hcv]
        split <;> omega
    · rw [if_neg hc]
      split <;> split <;> omega
omit per pos
/-- v is the least price of a laying of g -/
def Least (P : Nat → Int) (n B : Nat) (g : Cfg) (v : Int) : Prop := (∃ a, a < n ∧ U P n B a g = v) ∧ ∀ a, a < n → v ≤ U P n B a g
theorem Least.uniq {g : Cfg} {v w : Int} (h : Least P n B g v) (h' : Least P n B g w) : v = w := by
  obtain ⟨⟨a, h1, h2⟩, h3⟩ := h
  obtain ⟨⟨b, g1, g2⟩, g3⟩ := h'
  have := h3 b g1
  have := g3 a h1
  omega
theorem least_done {g : Cfg} (hn : 0 < n) (h : ∀ q ∈ g, q.2 = 0) : Least P n B g 0 := by
  have e : ∀ a, U P n B a g = 0 := fun a => S_zero fun y _ => by
    rw [if_neg]
    rw [cov_iff]
    rintro ⟨q, hq, h1, h2⟩
    have := h q hq
    omega
  exact ⟨⟨0, hn, e 0⟩, fun a _ => by rw [e a]; exact Int.le_refl _⟩
include per pos
theorem least_step {g : Cfg} (h : Ok n B g) (hB : n ≤ B) {q : Nat × Nat} (hq : q ∈ g) (hr : q.2 ≠ 0) {v : Int} {f : Nat → Int} (hf : ∀ s, en s g = true → Least P n B (beat n s g) (f s)) (h1 : ∃ s, en s g = true ∧ v = P s + f s) (h2 : ∀ s, en s g = true → v ≤ P s + f s) : Least P n B g v := by
  have hen : ∀ s, en s g = true → s < n := fun s hs => by
    obtain ⟨p, hp, _, e⟩ := en_iff.mp hs
    rw [← e]
    exact h.lt p hp
  have up : ∀ a, a < n → v ≤ U P n B a g := fun a ha => by
    obtain ⟨s, g1, g2, g3⟩ := norm per h hq hr _ a rfl ha
    rw [← g3, key per h g1, if_pos g2]
    have := (hf s g2).2 _ (nxt_lt g1)
    have := h2 s g2
    omega
  obtain ⟨s, g1, rfl⟩ := h1
  obtain ⟨⟨a, g2, g3⟩, _⟩ := hf s g1
  obtain ⟨a', g4, g5⟩ := lower per pos h (hen s g1) g2 hB
  rw [g3] at g5
  exact ⟨⟨a', g4, Int.le_antisymm g5 (up a' g4)⟩, up⟩
/-- the least over all starts is the least over the runs' own first places -/
theorem least_door {g : Cfg} (h : Ok n B g) (hg : g ≠ []) (hr : ∀ q ∈ g, q.2 ≠ 0) {v : Int} (h1 : ∃ q ∈ g, v = U P n B q.1 g) (h2 : ∀ q ∈ g, v ≤ U P n B q.1 g) : Least P n B g v := by
  obtain ⟨q, hq, e⟩ := h1
  refine ⟨⟨q.1, h.lt q hq, e.symm⟩, fun a ha => ?_⟩
  obtain ⟨s, g1, g2, g3⟩ := norm per h hq (hr q hq) _ a rfl ha
  obtain ⟨p, hp, _, e2⟩ := en_iff.mp g2
  rw [← g3, ← e2]
  exact h2 p hp
end
end R57

end
/-! ## M57b.lean -/
section
set_option Elab.async false
set_option linter.all false
/-! k57, the plain law, part B: sums over ranges, the sweep. -/
namespace R57
open CT
def W (f : Int → Int) (lo hi : Int) : Int := S (fun i => f (lo + (i : Int))) (hi - lo).toNat
theorem S_split {f : Nat → Int} {a : Nat} : ∀ {b : Nat}, S f (a + b) = S f a + S (fun y => f (a + y)) b
  | 0 => by show S f a = S f a + 0; omega
  | b + 1 => by
    show S f (a + b) + f (a + b) = S f a + (S (fun y => f (a + y)) b + f (a + b))
    rw [S_split]
    omega
theorem sum_app {xs ys : List Int} : (xs ++ ys).sum = xs.sum + ys.sum := by
  induction xs with
  | nil => simp
  | cons x xs ih => simp only [List.cons_append, List.sum_cons, ih]; omega
theorem sum_range {g : Nat → Int} : ∀ {k : Nat}, ((List.range k).map g).sum = S g k
  | 0 => rfl
  | k + 1 => by
    rw [List.range_succ, List.map_append, sum_app, sum_range]
    simp only [List.map_cons, List.map_nil, List.sum_cons, List.sum_nil]
    show S g k + (g k + 0) = S g k + g k
    omega
theorem sum_rangeI {f : Int → Int} {lo hi : Int} : ((rangeI lo hi).map f).sum = W f lo hi := by
  unfold rangeI W
  rw [List.map_map]
  exact sum_range
theorem W_empty {f : Int → Int} {lo hi : Int} (h : hi ≤ lo) : W f lo hi = 0 := by
  unfold W
  rw [show (hi - lo).toNat = 0 by omega]
  rfl
theorem W_split {f : Int → Int} {lo mid hi : Int} (h1 : lo ≤ mid) (h2 : mid ≤ hi) : W f lo hi = W f lo mid + W f mid hi := by
  unfold W
  rw [show (hi - lo).toNat = (mid - lo).toNat + (hi - mid).toNat by omega, S_split]
  congr 1
  refine S_eq fun y _ => ?_
  rw [show lo + (((mid - lo).toNat + y : Nat) : Int) = mid + (y : Int) by omega]
theorem W_shift {f : Int → Int} {s lo hi : Int} : W f (s + lo) (s + hi) = W (fun y => f (s + y)) lo hi := by
  unfold W
  rw [show (s + hi - (s + lo)).toNat = (hi - lo).toNat by omega]
  refine S_eq fun y _ => ?_
  rw [show s + lo + (y : Int) = s + (lo + (y : Int)) by omega]
theorem W_one {f : Int → Int} {lo : Int} : W f lo (lo + 1) = f lo := by
  unfold W
  rw [show (lo + 1 - lo).toNat = 1 by omega]
  show 0 + f (lo + ((0 : Nat) : Int)) = f lo
  rw [show lo + ((0 : Nat) : Int) = lo by omega]
  omega
theorem W_per {f : Int → Int} {n : Int} (hn : 0 ≤ n) (per : ∀ y, f (y + n) = f y) : ∀ a : Nat, W f (a : Int) ((a : Int) + n) = W f 0 n
  | 0 => by rw [show ((0 : Nat) : Int) + n = n by omega]; rfl
  | a + 1 => by
    rw [← W_per hn per a]
    by_cases h : n = 0
    · subst h
      rw [W_empty (by omega), W_empty (by omega)]
    have e1 : W f (a : Int) ((a : Int) + n + 1) = W f (a : Int) ((a : Int) + 1) + W f ((a : Int) + 1) ((a : Int) + n + 1) := W_split (by omega) (by omega)
    have e2 : W f (a : Int) ((a : Int) + n + 1) = W f (a : Int) ((a : Int) + n) + W f ((a : Int) + n) ((a : Int) + n + 1) := W_split (by omega) (by omega)
    rw [W_one] at e1 e2
    have := per a
    rw [show ((a + 1 : Nat) : Int) = (a : Int) + 1 by omega, show (a : Int) + 1 + n = (a : Int) + n + 1 by omega]
    omega
theorem W_rounds {f : Int → Int} {n : Int} (hn : 0 ≤ n) (per : ∀ y, f (y + n) = f y) {lo : Int} (h0 : 0 ≤ lo) : ∀ {k : Nat} {hi : Int}, lo + (k : Int) * n ≤ hi → W f lo hi = (k : Int) * W f 0 n + W f (lo + (k : Int) * n) hi
  | 0, hi, h => by
    rw [show lo + ((0 : Nat) : Int) * n = lo by omega]
    omega
  | k + 1, hi, h => by
    have e : ((k + 1 : Nat) : Int) * n = (k : Int) * n + n := by
      rw [show ((k + 1 : Nat) : Int) = (k : Int) + 1 by omega, Int.add_mul, Int.one_mul]
    rw [e] at h ⊢
    have hk : 0 ≤ (k : Int) * n := Int.mul_nonneg (by omega) hn
    rw [W_rounds hn per h0 (k := k) (hi := hi) (by omega), W_split (f := f) (lo := lo + (k : Int) * n) (mid := lo + (k : Int) * n + n) (hi := hi) (by omega) (by omega)]
    have q := W_per hn per (lo + (k : Int) * n).toNat
    rw [show (((lo + (k : Int) * n).toNat : Nat) : Int) = lo + (k : Int) * n by omega] at q
    rw [q, show ((k + 1 : Nat) : Int) = (k : Int) + 1 by omega, Int.add_mul, Int.one_mul, show lo + ((k : Int) * n + n) = lo + (k : Int) * n + n by omega]
    omega
theorem S_window {g : Nat → Int} {lo hi B : Nat} (h1 : lo ≤ hi) (h2 : hi ≤ B) : S (fun y => if lo ≤ y ∧ y < hi then g y else 0) B = S (fun i => g (lo + i)) (hi - lo) := by
  rw [show B = hi + (B - hi) by omega, S_tail fun y h3 h4 => if_neg (by omega)]
  conv => lhs; rw [show hi = lo + (hi - lo) by omega]
  rw [S_split, S_zero fun y hy => if_neg (by omega)]
  rw [S_eq (g := fun i => g (lo + i)) fun y hy => if_pos (by omega)]
  omega
theorem foldl_sum {f : Int → Int} : ∀ (xs : List Int) (t : Int), xs.foldl (fun t x => t + f x) t = t + (xs.map f).sum
  | [], t => by simp
  | x :: xs, t => by
    rw [List.foldl_cons, foldl_sum xs, List.map_cons, List.sum_cons]
    omega

/-! ### the sweep over spans (first, length), sorted by the first -/
def sweep (f : Int → Int) (s : Int × Int) (q : Int × Int) : Int × Int := (s.1 + W f (max q.1 s.2) (q.1 + q.2), max s.2 (q.1 + q.2))
def CovI (g : List (Int × Int)) (y : Nat) : Prop := ∃ q ∈ g, q.1 ≤ (y : Int) ∧ (y : Int) < q.1 + q.2
open Classical in
theorem sweep_cov {f : Int → Int} {B : Nat} : ∀ (xs pre : List (Int × Int)) (s : Int × Int), (∀ q ∈ pre ++ xs, 0 ≤ q.1 ∧ 0 ≤ q.2 ∧ q.1 + q.2 ≤ B) → (pre ++ xs).Pairwise (fun a b => a.1 ≤ b.1) →
    s.1 = S (fun y => if CovI pre y then f (y : Int) else 0) B → 0 ≤ s.2 → (∀ q ∈ pre, q.1 + q.2 ≤ s.2) → (s.2 = 0 ∨ ∃ q ∈ pre, q.1 + q.2 = s.2) →
    (xs.foldl (sweep f) s).1 = S (fun y => if CovI (pre ++ xs) y then f (y : Int) else 0) B
  | [], pre, s, _, _, h, _, _, _ => by rw [List.append_nil]; exact h
  | q :: xs, pre, s, hb, hp, h, h0, h1, h2 => by
    have hq := hb q (by simp)
    have e : pre ++ q :: xs = (pre ++ [q]) ++ xs := by simp
    rw [List.foldl_cons, e]
    rw [e] at hb hp
    have hpre : ∀ p ∈ pre, p.1 ≤ q.1 := fun p hp' => by
      have := (List.pairwise_append.mp (List.pairwise_append.mp hp).1).2.2
      exact this p hp' q (by simp)
    refine sweep_cov xs (pre ++ [q]) (sweep f s q) hb hp ?_ ?_ ?_ ?_
    · show s.1 + W f (max q.1 s.2) (q.1 + q.2) = _
      have hW : W f (max q.1 s.2) (q.1 + q.2) = S (fun y => if max q.1 s.2 ≤ (y : Int) ∧ (y : Int) < q.1 + q.2 then f (y : Int) else 0) B := by
        by_cases hlt : max q.1 s.2 ≤ q.1 + q.2
        · have q1 := S_window (g := fun y => f (y : Int)) (lo := (max q.1 s.2).toNat) (hi := (q.1 + q.2).toNat) (B := B) (by omega) (by omega)
          unfold W
          rw [show (q.1 + q.2 - max q.1 s.2).toNat = (q.1 + q.2).toNat - (max q.1 s.2).toNat by omega]
          rw [show S (fun i => f (max q.1 s.2 + (i : Int))) ((q.1 + q.2).toNat - (max q.1 s.2).toNat) = S (fun i => f (((max q.1 s.2).toNat + i : Nat) : Int)) ((q.1 + q.2).toNat - (max q.1 s.2).toNat) from S_eq fun y _ => by
            rw [show (((max q.1 s.2).toNat + y : Nat) : Int) = max q.1 s.2 + (y : Int) by omega]]
          rw [← q1]
          refine S_eq fun y _ => ?_
          by_cases c : max q.1 s.2 ≤ (y : Int) ∧ (y : Int) < q.1 + q.2
          · rw [if_pos c, if_pos (by omega)]
          · rw [if_neg c, if_neg (by omega)]
        · rw [W_empty (by omega), S_zero fun y _ => if_neg (by omega)]
      rw [h, hW, ← S_add]
      refine S_eq fun y _ => ?_
      have hcov : CovI (pre ++ [q]) y ↔ CovI pre y ∨ (q.1 ≤ (y : Int) ∧ (y : Int) < q.1 + q.2) := by
        unfold CovI
        constructor
        · rintro ⟨p, hp1, hp2⟩
          rcases List.mem_append.mp hp1 with hp1 | hp1
          · exact .inl ⟨p, hp1, hp2⟩
          · rw [List.mem_singleton] at hp1
            subst hp1
            exact .inr hp2
        · rintro (⟨p, hp1, hp2⟩ | hp2)
          · exact ⟨p, by simp [hp1], hp2⟩
          · exact ⟨q, by simp, hp2⟩
      have hr : q.1 ≤ (y : Int) → (CovI pre y ↔ (y : Int) < s.2) := fun hy => by
        constructor
        · rintro ⟨p, hp1, hp2⟩
          have := h1 p hp1
          omega
        · intro hlt
          rcases h2 with h2 | ⟨p, hp1, hp2⟩
          · omega
          · exact ⟨p, hp1, by have := hpre p hp1; omega, by omega⟩
      by_cases c1 : CovI pre y
      · rw [if_pos c1, if_pos (hcov.mpr (.inl c1)), if_neg, Int.add_zero]
        rintro ⟨c2, c3⟩
        have := (hr (by omega)).mp c1
        omega
      · rw [if_neg c1, Int.zero_add]
        by_cases c2 : q.1 ≤ (y : Int) ∧ (y : Int) < q.1 + q.2
        · rw [if_pos (hcov.mpr (.inr c2)), if_pos]
          have : ¬ ((y : Int) < s.2) := fun z => c1 ((hr c2.1).mpr z)
          omega
        · rw [if_neg (fun z => (hcov.mp z).elim c1 c2), if_neg (by omega)]
    · show 0 ≤ max s.2 (q.1 + q.2); omega
    · intro p hp1
      show p.1 + p.2 ≤ max s.2 (q.1 + q.2)
      rcases List.mem_append.mp hp1 with hp1 | hp1
      · have := h1 p hp1; omega
      · rw [List.mem_singleton] at hp1
        subst hp1
        omega
    · show max s.2 (q.1 + q.2) = 0 ∨ ∃ p ∈ pre ++ [q], p.1 + p.2 = max s.2 (q.1 + q.2)
      by_cases c : s.2 ≤ q.1 + q.2
      · exact .inr ⟨q, by simp, by omega⟩
      · rcases h2 with h2 | ⟨p, hp1, hp2⟩
        · omega
        · exact .inr ⟨p, by simp [hp1], by omega⟩
end R57

end
/-! ## M57c.lean -/
section
set_option Elab.async false
set_option linter.all false
set_option maxRecDepth 100000
/-! k57, the plain law, part C: what the mirror's layings compute. -/
namespace F57
open CT R57
open L2 (atI)
abbrev bs {α β : Type} (a : α) (f : α → Option β) : (some a).bind f = f a := rfl
theorem modM_pos {x y : Int} (h : 0 < y) : modM x y = some (x % y) := if_pos h
theorem rngM_eq {lo hi : Int} (h1 : -1000000000000 ≤ lo) (h2 : lo ≤ 1000000000000) (h3 : -1000000000000 ≤ hi) (h4 : hi ≤ 1000000000000) (h5 : hi - lo ≤ 16777216) : rngM lo hi = some (rangeI lo hi) := if_pos ⟨h1, h2, h3, h4, h5⟩
def PI (p : List Int) (y : Int) : Int := (p[(y % (p.length : Int)).toNat]?).getD 0
theorem at_PI {p : List Int} (hp : p ≠ []) (y : Int) : atI p (y % (p.length : Int)) = some (PI p y) := by
  have hn : 0 < p.length := List.length_pos_iff.mpr hp
  have h1 := Int.emod_nonneg y (b := (p.length : Int)) (by omega)
  have h2 := Int.emod_lt_of_pos y (b := (p.length : Int)) (by omega)
  have h3 : (y % (p.length : Int)).toNat < p.length := by omega
  rw [atI_int h1 (List.getElem?_eq_getElem h3)]
  unfold PI
  rw [List.getElem?_eq_getElem h3]
  rfl
theorem PI_per {p : List Int} (y : Int) : PI p (y + (p.length : Int)) = PI p y := by
  unfold PI
  rw [Int.add_emod_right]
/-- the spans of a laying, behind the start -/
def spans (n : Int) (stays : List (Int × Int)) (start : Int) : List (Int × Int) := stays.map fun q => ((q.1 - start) % n, q.2)
def lay (p : List Int) (stays : List (Int × Int)) (start : Int) : Int := ((sortT (spans p.length stays start)).foldl (sweep fun y => PI p (start + y)) (0, 0)).1
theorem mem_sortT {α : Type} [DecidableEq α] [PySem.W.DatumOrd α] {xs : List α} {x : α} : x ∈ sortT xs ↔ x ∈ xs := List.mem_mergeSort
theorem span_ok {n : Int} (hn : 0 < n) {stays : List (Int × Int)} {start : Int} (hs : ∀ q ∈ stays, 0 ≤ q.2 ∧ q.2 ≤ 1000) : ∀ q ∈ spans n stays start, 0 ≤ q.1 ∧ q.1 < n ∧ 0 ≤ q.2 ∧ q.2 ≤ 1000 := by
  intro q hq
  obtain ⟨r, hr, rfl⟩ := List.mem_map.mp hq
  have := hs r hr
  exact ⟨Int.emod_nonneg _ (by omega), Int.emod_lt_of_pos _ hn, this.1, this.2⟩
theorem sum_loop {L ρ : Type} {b : Int → Int → Option (Oc Int Int ρ)} {f : Int → Int} {xs : List Int} {t : Int} (h : ∀ x ∈ xs, ∀ s, b x s = some (.nx (s + f x))) : forM (L := L) b xs t = some (.nx (t + (xs.map f).sum)) := by
  rw [forM_fold (g := fun s x => s + f x) h, foldl_sum]
theorem law_union_eq {p : List Int} {stays : List (Int × Int)} {start : Int} (hp : p ≠ []) (hl : p.length ≤ 1000) (hs : ∀ q ∈ stays, 0 ≤ q.2 ∧ q.2 ≤ 1000) : r_law_union (p, stays, start, ()) = some (lay p stays start) := by
  have hn : 0 < (p.length : Int) := by have := List.length_pos_iff.mpr hp; omega
  unfold r_law_union b_law_union
  simp only [Option.bind_some]
  rw [lcM_eqT (f := fun q : Int × Int => ((q.1 - start) % (p.length : Int), q.2)) (fun x hx => by rw [modM_pos hn]; rfl)]
  simp only [Option.bind_some]
  refine forM_out (fun pre s => s = pre.foldl (sweep fun y => PI p (start + y)) (0, 0) ∧ 0 ≤ s.2 ∧ s.2 ≤ 2000) ⟨rfl, by decide, by decide⟩ (fun pre x q hx s hP => ?_) (fun s hP => ?_)
  · obtain ⟨h1, h2, h3⟩ := hP
    have hq := span_ok hn (start := start) hs x (mem_sortT.mp (by rw [spans, hx]; simp))
    refine ⟨sweep (fun y => PI p (start + y)) s x, ?_, ?_, ?_, ?_⟩
    · rw [rngM_eq (by omega) (by omega) (by omega) (by omega) (by omega), Option.bind_some,
        sum_loop (f := fun y => PI p (start + y)) (fun y _ s => by rw [modM_pos hn, Option.bind_some, at_PI hp]; rfl)]
      simp only [Option.bind_some, Oc.seq, sum_rangeI]
      rfl
    · rw [List.foldl_append, ← h1]
      rfl
    · show 0 ≤ max s.2 (x.1 + x.2); omega
    · show max s.2 (x.1 + x.2) ≤ 2000; omega
  · rw [hP.1]
    rfl
end F57

end
/-! ## M57d.lean -/
section
set_option Elab.async false
set_option linter.all false
set_option maxRecDepth 100000
/-! k57, the plain law, part D: the program's ring and laying. -/
namespace F57
open CT R57
open L2 (atI)
theorem check_ring_eq {p g : List Int} (hp : p ≠ []) (h1 : ∀ x ∈ p, 1 ≤ x) (hg : g ≠ []) (hs : g.Pairwise (· < ·)) (hb : ∀ x ∈ g, 0 ≤ x ∧ x < (p.length : Int)) : r_check_ring (p, g, (), ()) = some () := by
  have hn := List.length_pos_iff.mpr hp
  have hgn := List.length_pos_iff.mpr hg
  obtain ⟨m, hm⟩ : ∃ m, p.min? = some m := by
    cases p with
    | nil => exact absurd rfl hp
    | cons x r => exact ⟨_, rfl⟩
  have hm1 : 1 ≤ m := h1 m (List.min?_mem hm)
  unfold r_check_ring b_check_ring
  simp only [Option.bind_some, hm]
  rw [if_neg (by simp only [decide_eq_true_eq]; omega), if_neg (by simp only [decide_eq_true_eq]; omega), Option.bind_some, if_neg (by simp only [decide_eq_true_eq]; omega)]
  refine forM_out (fun pre s => s = (pre.getLast?).getD (-1)) rfl (fun pre x q hx s hP => ?_) (fun s hP => ?_)
  · have hxg : x ∈ g := by rw [hx]; simp
    have hx2 := hb x hxg
    have hlt : s < x := by
      rw [hP]
      rw [hx] at hs
      cases hpre : pre.getLast? with
      | none => show -1 < x; omega
      | some y =>
        have hy : y ∈ pre := List.mem_of_getLast? hpre
        exact (List.pairwise_append.mp hs).2.2 y hy x (by simp)
    refine ⟨x, ?_, by simp⟩
    rw [decide_eq_true hlt, if_pos rfl, decide_eq_true hx2.2]
    rfl
  · rfl
theorem sum_S {p : List Int} : p.sum = S (fun i => (p[i]?).getD 0) p.length := by
  induction p with
  | nil => rfl
  | cons x r ih =>
    rw [List.sum_cons, List.length_cons, S_shift, ih]
    rfl
theorem whole_W {p : List Int} : W (PI p) 0 (p.length : Int) = p.sum := by
  rw [sum_S]
  unfold W
  rw [show ((p.length : Int) - 0).toNat = p.length by omega]
  refine S_eq fun y hy => ?_
  unfold PI
  rw [show (0 + (y : Int)) % (p.length : Int) = (y : Int) by rw [Int.zero_add]; exact Int.emod_eq_of_lt (by omega) (by omega)]
  rfl
theorem sums_eq {p : List Int} (hl : p.length ≤ 1000) : ∃ xs, r_sums_of (p, ()) = some ⟨xs⟩ ∧ xs[p.length]? = some p.sum := by
  have key : ∃ xs : List Int, (∃ ys, xs = ys ++ [p.sum] ∧ ys.length = p.length) ∧ r_sums_of (p, ()) = some ⟨xs⟩ := by
    obtain ⟨s', e, ys, h1, h2⟩ := forM_run (L := Empty) (ρ := Tup Int) (b := fun (x3 : Int) (s2 : (List Int)) => (((atI s2 (-1)).bind fun x => some (x + x3)).bind fun y => (appM s2 y).bind fun s => some (Oc.nx s))) (xs := p) (s0 := [0])
      (fun pre s => ∃ ys, s = ys ++ [pre.sum] ∧ ys.length = pre.length) ⟨[], rfl, rfl⟩ (fun pre x q hx s hP => by
        obtain ⟨ys, rfl, h2⟩ := hP
        have hlen : pre.length + (q.length + 1) = p.length := by rw [hx]; simp
        refine ⟨ys ++ [pre.sum] ++ [pre.sum + x], ?_, ys ++ [pre.sum], ?_, by simp [h2]⟩
        · rw [atI_last, Option.bind_some, Option.bind_some, appM_eq (by simp; omega)]
          rfl
        · rw [sum_app]; simp)
    refine ⟨s', ⟨ys, h1, h2⟩, ?_⟩
    unfold r_sums_of b_sums_of
    simp only [Option.bind_some]
    refine (congrArg (fun o => Option.bind (Option.bind o (Oc.seq fun s5 : List Int => some (Oc.rt (S := Empty) (L := Empty) (PySem.W.Tup.mk s5)))) Oc.out) (Eq.trans ?_ e)).trans rfl
    rfl
  obtain ⟨xs, ⟨ys, rfl, h2⟩, e⟩ := key
  exact ⟨_, e, by rw [← h2]; simp⟩
/-- the ring that the law makes -/
def ring (p g xs : List Int) : O_Ring := ⟨(⟨xs⟩, ⟨rangeI 0 p.length⟩, ⟨g⟩, ⟨p⟩, (p.length : Int), ())⟩
theorem ring_eq {p g : List Int} (hp : p ≠ []) (hl : p.length ≤ 1000) (h1 : ∀ x ∈ p, 1 ≤ x) (hg : g ≠ []) (hs : g.Pairwise (· < ·)) (hb : ∀ x ∈ g, 0 ≤ x ∧ x < (p.length : Int)) : ∃ xs, r_Ring_init (p, g, (), ()) = some (ring p g xs) ∧ xs[p.length]? = some p.sum := by
  obtain ⟨xs, e, h⟩ := sums_eq hl
  refine ⟨xs, ?_, h⟩
  unfold r_Ring_init b_Ring_init
  simp only [Option.bind_some, check_ring_eq hp h1 hg hs hb, if_pos, rngM_eq (lo := 0) (hi := (p.length : Int)) (by omega) (by omega) (by omega) (by omega) (by omega), Oc.seq, e]
  rfl
section
variable {p g xs : List Int} {stays : List (Int × Int)} {start : Int} (hp : p ≠ []) (hl : p.length ≤ 1000) (hx : xs[p.length]? = some p.sum) (hs : ∀ q ∈ stays, 0 ≤ q.2 ∧ q.2 ≤ 1000) (h0 : 0 ≤ start) (h9 : start ≤ 1000)
include hp hl hx
theorem whole_eq : r_Ring_whole (ring p g xs, ()) = some (W (PI p) 0 (p.length : Int)) := by
  unfold r_Ring_whole b_Ring_whole
  simp only [Option.bind_some]
  show ((atI xs (p.length : Int)).bind fun r => some (Oc.rt r)).bind Oc.out = _
  rw [atI_nat hx, whole_W]
  rfl
theorem piece_price_eq {a b : Int} (h1 : 0 ≤ a) (h2 : a ≤ b) (h3 : b ≤ 10000) : r_piece_price (ring p g xs, a, b, ()) = some (W (PI p) a b) := by
  have hn : 0 < (p.length : Int) := by have := List.length_pos_iff.mpr hp; omega
  unfold r_piece_price b_piece_price
  simp only [Option.bind_some, whole_eq hp hl hx]
  have hd : 0 ≤ (b - a) / (p.length : Int) := Int.ediv_nonneg (by omega) (by omega)
  have hd2 : (b - a) / (p.length : Int) * (p.length : Int) ≤ b - a := Int.ediv_mul_le _ (by omega)
  have hd3 : b - a < (b - a) / (p.length : Int) * (p.length : Int) + (p.length : Int) := by
    have := Int.lt_ediv_add_one_mul_self (b - a) hn
    rw [Int.add_mul, Int.one_mul] at this
    exact this
  have hd4 : (b - a) / (p.length : Int) ≤ b - a := Int.ediv_le_self _ (by omega)
  show (((fdivM (b - a) (p.length : Int)).bind fun k => (mulM k (W (PI p) 0 (p.length : Int))).bind fun t => _).bind Oc.out) = _
  rw [show fdivM (b - a) (p.length : Int) = some ((b - a) / (p.length : Int)) from if_pos (by omega), Option.bind_some]
  rw [show ∀ z, mulM ((b - a) / (p.length : Int)) z = some ((b - a) / (p.length : Int) * z) from fun z => if_pos (.inl (by omega)), Option.bind_some]
  show (((((mulM ((b - a) / (p.length : Int)) (p.length : Int)).bind fun y => some (a + y)).bind fun lo => rngM lo b).bind fun xs => _).bind _).bind Oc.out = _
  rw [show mulM ((b - a) / (p.length : Int)) (p.length : Int) = some ((b - a) / (p.length : Int) * (p.length : Int)) from if_pos (.inl (by omega)), Option.bind_some, Option.bind_some]
  rw [rngM_eq (by omega) (by omega) (by omega) (by omega) (by omega), Option.bind_some]
  rw [sum_loop (f := PI p) (fun y _ s => by
    show ((modM y (p.length : Int)).bind fun i => atI p i).bind _ = _
    rw [modM_pos hn, Option.bind_some, at_PI hp]; rfl)]
  obtain ⟨k, hk⟩ := Int.eq_ofNat_of_zero_le hd
  rw [hk] at hd2 ⊢
  rw [W_rounds (f := PI p) (n := (p.length : Int)) (by omega) PI_per h1 (k := k) (hi := b) (by omega)]
  simp only [Option.bind_some, Oc.seq, sum_rangeI]
  rfl
end
end F57

end
/-! ## M57e.lean -/
section
set_option Elab.async false
set_option linter.all false
set_option maxRecDepth 100000
/-! k57, the plain law, part E: layings and their prices. -/
namespace F57
open CT R57
open L2 (atI)
theorem leT_pair (p q : Int × Int) : leT p q = decide (p.1 < q.1 ∨ (p.1 = q.1 ∧ p.2 ≤ q.2)) := by
  unfold leT
  show (!(if q.1 = p.1 then decide (q.2 < p.2) else decide (q.1 < p.1))) = _
  rw [Bool.eq_iff_iff]
  by_cases h : q.1 = p.1
  · rw [if_pos h]; simp only [Bool.not_eq_true', decide_eq_false_iff_not, decide_eq_true_eq]; omega
  · rw [if_neg h]; simp only [Bool.not_eq_true', decide_eq_false_iff_not, decide_eq_true_eq]; omega
theorem sortT_pw (xs : List (Int × Int)) : (sortT xs).Pairwise (fun a b => a.1 ≤ b.1) := by
  have h := List.pairwise_mergeSort (le := leT (α := Int × Int)) (by
    intro a b c h1 h2
    rw [leT_pair] at *
    simp only [decide_eq_true_eq] at *
    omega) (by
    intro a b
    rw [leT_pair, leT_pair]
    simp only [Bool.or_eq_true, decide_eq_true_eq]
    omega) xs
  refine List.Pairwise.imp ?_ h
  intro a b hab
  rw [leT_pair] at hab
  simp only [decide_eq_true_eq] at hab
  omega
theorem sortT_map {s : Int} {xs : List (Int × Int)} : sortT (xs.map fun q => (s + q.1, s + q.1 + q.2)) = (sortT xs).map fun q => (s + q.1, s + q.1 + q.2) := by
  unfold sortT
  refine (List.map_mergeSort fun a _ b _ => ?_).symm
  rw [leT_pair, leT_pair, Bool.eq_iff_iff]
  simp only [decide_eq_true_eq]
  omega
def PInv (p : List Int) (start : Int) (pre s : List (Int × Int)) : Prop := ∃ pre' : List (Int × Int), pre = pre'.map (fun q => (start + q.1, start + q.1 + q.2)) ∧ s.length ≤ pre.length ∧ (∀ q ∈ s, 0 ≤ q.1 ∧ q.1 ≤ q.2 ∧ q.2 ≤ 10000) ∧
  0 ≤ (pre'.foldl (sweep fun y => PI p (start + y)) (0, 0)).2 ∧ (pre'.foldl (sweep fun y => PI p (start + y)) (0, 0)).2 ≤ 2000 ∧ (s.map fun q => W (PI p) q.1 q.2).sum = (pre'.foldl (sweep fun y => PI p (start + y)) (0, 0)).1 ∧
  ((s = [] ∧ (pre'.foldl (sweep fun y => PI p (start + y)) (0, 0)).2 = 0) ∨ ∃ i a, s = i ++ [(a, start + (pre'.foldl (sweep fun y => PI p (start + y)) (0, 0)).2)])
section
variable {p g xs : List Int} {stays : List (Int × Int)} {start : Int} (hp : p ≠ []) (hl : p.length ≤ 1000) (hx : xs[p.length]? = some p.sum) (hs : ∀ q ∈ stays, 0 ≤ q.2 ∧ q.2 ≤ 1000) (h0 : 0 ≤ start) (h9 : start ≤ 1000) (hn9 : stays.length ≤ 1000)
include hp hn9
theorem laid_eq : r_laid (ring p g xs, stays, start, ()) = some ((sortT (spans p.length stays start)).map fun q => (start + q.1, start + q.1 + q.2)) := by
  have hn : 0 < (p.length : Int) := by have := List.length_pos_iff.mpr hp; omega
  unfold r_laid b_laid
  simp only [Option.bind_some]
  refine forM_out (fun pre s => s = (spans p.length pre start).map fun q => (start + q.1, start + q.1 + q.2)) rfl (fun pre x q hx s hP => ?_) (fun s hP => ?_)
  · refine ⟨_, ?_, rfl⟩
    show (((modM (x.1 - start) (p.length : Int)).bind fun y => some (start + y)).bind fun z => (appM s (z, z + x.2)).bind fun t => some (Oc.nx t)) = _
    have hlen : pre.length + (q.length + 1) = stays.length := by rw [hx]; simp
    rw [modM_pos hn, Option.bind_some, Option.bind_some, appM_eq (by rw [hP]; simp [spans]; omega), hP]
    simp [spans]
  · rw [hP, sortT_map]
    rfl
include hl hx hs h0 h9
/-- pieces: where the sweep stands -/
theorem pieces_eq : ∃ ps : List (Int × Int), r_pieces (ring p g xs, stays, start, ()) = some ps ∧ (∀ q ∈ ps, 0 ≤ q.1 ∧ q.1 ≤ q.2 ∧ q.2 ≤ 10000) ∧ (ps.map fun q => W (PI p) q.1 q.2).sum = lay p stays start := by
  have hn : 0 < (p.length : Int) := by have := List.length_pos_iff.mpr hp; omega
  have hsp := span_ok hn (start := start) hs
  have key : ∃ ps : List (Int × Int), r_pieces (ring p g xs, stays, start, ()) = some ps ∧ ((∀ q ∈ ps, 0 ≤ q.1 ∧ q.1 ≤ q.2 ∧ q.2 ≤ 10000) ∧ (ps.map fun q => W (PI p) q.1 q.2).sum = lay p stays start) := by
    unfold r_pieces b_pieces
    simp only [Option.bind_some, laid_eq hp hn9]
    obtain ⟨s', e, hP⟩ := forM_run (S := List (Int × Int)) (L := Empty) (ρ := List (Int × Int)) (xs := (sortT (spans p.length stays start)).map fun q => (start + q.1, start + q.1 + q.2)) (s0 := [])
      (b := fun (x3 : (Int × Int)) (s2 : (List (Int × Int))) => (if Tru.tru s2 = true then (((atI s2 (-1)).bind fun x => some x.2).bind fun y => some (decide (x3.1 ≤ y))) else some false).bind fun q => if q = true then
        ((((atI s2 (-1)).bind fun x => some x.1).bind fun x => (((((atI s2 (-1)).bind fun x => some x.2).bind fun x => some (x, ())).bind fun r => some (x3.2, r)).bind fun z : Int × Int × Unit => some (max z.1 z.2.1)).bind fun y => some (x, y)).bind fun y => (setM s2 (-1) y).bind fun t => some (Oc.nx t))
        else ((appM s2 (x3.1, x3.2)).bind fun t => some (Oc.nx t)))
      (PInv p start)
      ⟨[], rfl, by simp, by simp, Int.le_refl _, (by decide : (0 : Int) ≤ 2000), rfl, .inl ⟨rfl, rfl⟩⟩ (fun pre x q hxx s hP => by
        obtain ⟨pre', rfl, hlen, hok, h1, h2, h3, h4⟩ := hP
        generalize hw : pre'.foldl (sweep fun y => PI p (start + y)) (0, 0) = w at h1 h2 h3 h4
        have hmem : x ∈ (sortT (spans p.length stays start)).map fun q => (start + q.1, start + q.1 + q.2) := by rw [hxx]; simp
        obtain ⟨z, hz, rfl⟩ := List.mem_map.mp hmem
        have hz2 := hsp z (mem_sortT.mp hz)
        have hlen2 : pre'.length + (q.length + 1) = stays.length := by
          have := congrArg List.length hxx
          simp [sortT, List.length_mergeSort, spans] at this
          omega
        have hfold : (pre' ++ [z]).foldl (sweep fun y => PI p (start + y)) (0, 0) = sweep (fun y => PI p (start + y)) w z := by rw [List.foldl_append, hw]; rfl
        rw [List.length_map] at hlen
        have hap : s = [] ∨ start + w.2 < start + z.1 → (w.2 = 0 ∨ w.2 < z.1) → ∃ s', (appM s (start + z.1, start + z.1 + z.2)).bind (fun t => some (Oc.nx (L := List (Int × Int)) (ρ := List (Int × Int)) t)) = some (.nx s') ∧ PInv p start (pre'.map (fun q => (start + q.1, start + q.1 + q.2)) ++ [(start + z.1, start + z.1 + z.2)]) s' := fun _ hw0 => ⟨s ++ [(start + z.1, start + z.1 + z.2)], by rw [appM_eq (by omega)]; rfl, ⟨pre' ++ [z], by simp, by simp; omega, fun q hq => by
              rcases List.mem_append.mp hq with hq | hq
              · exact hok q hq
              · rw [List.mem_singleton] at hq
                subst hq
                dsimp only
                omega, by
            rw [hfold]
            refine ⟨?_, ?_, ?_, .inr ⟨s, start + z.1, ?_⟩⟩
            · show 0 ≤ max w.2 (z.1 + z.2); omega
            · show max w.2 (z.1 + z.2) ≤ 2000; omega
            · rw [List.map_append, sum_app, h3]
              show w.1 + ((W (PI p) (start + z.1) (start + z.1 + z.2)) + 0) = w.1 + W _ (max z.1 w.2) (z.1 + z.2)
              rw [show max z.1 w.2 = z.1 by omega, ← W_shift, show start + (z.1 + z.2) = start + z.1 + z.2 by omega]
              omega
            · show _ = s ++ [(start + z.1, start + max w.2 (z.1 + z.2))]
              rw [show max w.2 (z.1 + z.2) = z.1 + z.2 by omega, show start + (z.1 + z.2) = start + z.1 + z.2 by omega]⟩⟩
        dsimp only
        rcases h4 with ⟨rfl, h4⟩ | ⟨i, a, rfl⟩
        · exact hap (.inl rfl) (.inl h4)
        · have ht : Tru.tru (i ++ [(a, start + w.2)]) = true := by simp [Tru.tru]
          rw [if_pos ht, atI_last, Option.bind_some, Option.bind_some, Option.bind_some]
          by_cases hc : start + z.1 ≤ start + w.2
          · rw [decide_eq_true hc, if_pos rfl]
            refine ⟨i ++ [(a, max (start + z.1 + z.2) (start + w.2))], by simp only [Option.bind_some, setM_last], pre' ++ [z], by simp, by simp at hlen ⊢; omega, fun q hq => ?_, ?_⟩
            · rcases List.mem_append.mp hq with hq | hq
              · exact hok q (by simp [hq])
              · rw [List.mem_singleton] at hq
                subst hq
                have := hok (a, start + w.2) (by simp)
                dsimp only at this ⊢
                omega
            · have ha := hok (a, start + w.2) (by simp)
              dsimp only at ha
              rw [hfold]
              refine ⟨?_, ?_, ?_, .inr ⟨i, a, ?_⟩⟩
              · show 0 ≤ max w.2 (z.1 + z.2); omega
              · show max w.2 (z.1 + z.2) ≤ 2000; omega
              · rw [List.map_append, sum_app] at h3 ⊢
                change _ + (W (PI p) a (start + w.2) + 0) = w.1 at h3
                show _ + (W (PI p) a (max (start + z.1 + z.2) (start + w.2)) + 0) = w.1 + W _ (max z.1 w.2) (z.1 + z.2)
                rw [W_split (f := PI p) (lo := a) (mid := start + w.2) (hi := max (start + z.1 + z.2) (start + w.2)) (by omega) (by omega), ← W_shift, show max z.1 w.2 = w.2 by omega]
                have : W (PI p) (start + w.2) (max (start + z.1 + z.2) (start + w.2)) = W (PI p) (start + w.2) (start + (z.1 + z.2)) := by
                  by_cases hd : start + w.2 ≤ start + z.1 + z.2
                  · rw [show max (start + z.1 + z.2) (start + w.2) = start + (z.1 + z.2) by omega]
                  · rw [W_empty (by omega), W_empty (by omega)]
                omega
              · rw [show max (start + z.1 + z.2) (start + w.2) = start + max w.2 (z.1 + z.2) by omega]
                rfl
          · rw [decide_eq_false hc, if_neg (by decide)]
            exact hap (.inr (by omega)) (.inr (by omega)))
    obtain ⟨pre', h1, h2, h3, h4, h5, h6, _⟩ := hP
    refine ⟨s', ?_, h3, ?_⟩
    · exact (congrArg (fun o => Option.bind (Option.bind o (Oc.seq fun s6 : List (Int × Int) => some (Oc.rt (S := Empty) (L := Empty) s6))) Oc.out) e)
    · have hinj : pre' = sortT (spans p.length stays start) := by
        refine ((List.map_inj_right fun a b hab => ?_).mp h1).symm
        simp only [Prod.mk.injEq] at hab
        exact Prod.ext (by omega) (by omega)
      rw [h6, hinj]
      rfl
  exact key
theorem laid_price_eq : r_laid_price (ring p g xs, stays, start, ()) = some (lay p stays start) := by
  obtain ⟨ps, e, h1, h2⟩ := pieces_eq (g := g) hp hl hx hs h0 h9 hn9
  unfold r_laid_price b_laid_price
  simp only [Option.bind_some, e]
  rw [lcM_eqT (f := fun q : Int × Int => W (PI p) q.1 q.2) fun q hq => piece_price_eq hp hl hx (h1 q hq).1 (h1 q hq).2.1 (h1 q hq).2.2]
  simp only [Option.bind_some, h2]
  rfl
end
end F57

end
/-! ## M57f.lean -/
section
set_option Elab.async false
set_option linter.all false
set_option maxRecDepth 100000
/-! k57, the plain law, part F: the least laying, and the laying as a sum over the ring. -/
namespace F57
open CT R57
open L2 (atI)
def Pf (p : List Int) (y : Nat) : Int := PI p (y : Int)
def cfg (stays : List (Int × Int)) : Cfg := stays.map fun q => (q.1.toNat, q.2.toNat)
theorem Pf_per {p : List Int} (y : Nat) : Pf p (y + p.length) = Pf p y := by
  unfold Pf
  rw [show ((y + p.length : Nat) : Int) = (y : Int) + (p.length : Int) by omega, PI_per]
theorem Pf_pos {p : List Int} (h : ∀ x ∈ p, 1 ≤ x) (hp : p ≠ []) (y : Nat) : 1 ≤ Pf p y := by
  have e := at_PI hp (y : Int)
  have hn : 0 < p.length := List.length_pos_iff.mpr hp
  have h1 := Int.emod_nonneg (y : Int) (b := (p.length : Int)) (by omega)
  have h2 := Int.emod_lt_of_pos (y : Int) (b := (p.length : Int)) (by omega)
  have h3 : ((y : Int) % (p.length : Int)).toNat < p.length := by omega
  unfold Pf PI
  rw [List.getElem?_eq_getElem h3]
  exact h _ (List.getElem_mem h3)
structure StOk (n : Int) (stays : List (Int × Int)) : Prop where
  at_ : ∀ q ∈ stays, 0 ≤ q.1 ∧ q.1 < n
  le : ∀ q ∈ stays, 1 ≤ q.2 ∧ q.2 ≤ 1000
theorem off_mod {n c a : Int} (h1 : 0 ≤ c) (h2 : c < n) (h3 : 0 ≤ a) (h4 : a < n) : (off n.toNat a.toNat c.toNat : Int) = (c - a) % n := by
  unfold off
  by_cases h : a ≤ c
  · rw [if_pos (by omega), Int.emod_eq_of_lt (by omega) (by omega)]; omega
  · rw [if_neg (by omega), ← Int.add_emod_right, Int.emod_eq_of_lt (by omega) (by omega)]; omega
theorem lay_U {p : List Int} {stays : List (Int × Int)} {start : Int} (hp : p ≠ []) (hs : StOk p.length stays) (h0 : 0 ≤ start) (h1 : start < (p.length : Int)) : lay p stays start = U (Pf p) p.length (p.length + 1000) start.toNat (cfg stays) := by
  have hn : 0 < (p.length : Int) := by omega
  unfold lay
  have hsp := span_ok hn (start := start) (stays := stays) fun q hq => ⟨by have := (hs.le q hq).1; omega, (hs.le q hq).2⟩
  rw [sweep_cov (B := p.length + 1000) (sortT (spans p.length stays start)) [] (0, 0) (fun q hq => by
      have := hsp q (mem_sortT.mp (by simpa using hq))
      omega) (by simpa using sortT_pw _) (by
      symm
      refine S_zero fun y _ => if_neg ?_
      rintro ⟨q, hq, _⟩
      exact nomatch hq) (Int.le_refl _) (fun q hq => nomatch hq) (.inl rfl)]
  unfold U
  refine S_eq fun y _ => ?_
  have e : CovI ([] ++ sortT (spans p.length stays start)) y ↔ cov p.length start.toNat (cfg stays) y = true := by
    rw [cov_iff, List.nil_append]
    constructor
    · rintro ⟨q, hq, g1, g2⟩
      obtain ⟨r, hr, rfl⟩ := List.mem_map.mp (mem_sortT.mp hq)
      have := hs.at_ r hr
      have hr2 := hs.le r hr
      have ho := off_mod this.1 this.2 h0 h1
      rw [Int.toNat_natCast] at ho
      refine ⟨(r.1.toNat, r.2.toNat), List.mem_map.mpr ⟨r, hr, rfl⟩, ?_⟩
      dsimp only at g1 g2 ⊢
      omega
    · rintro ⟨q, hq, g1, g2⟩
      obtain ⟨r, hr, rfl⟩ := List.mem_map.mp hq
      have := hs.at_ r hr
      have hr2 := hs.le r hr
      have ho := off_mod this.1 this.2 h0 h1
      rw [Int.toNat_natCast] at ho
      refine ⟨_, mem_sortT.mpr (List.mem_map.mpr ⟨r, hr, rfl⟩), ?_⟩
      dsimp only at g1 g2 ⊢
      omega
  by_cases c : CovI ([] ++ sortT (spans p.length stays start)) y
  · rw [if_pos c, if_pos (e.mp c)]
    unfold Pf
    rw [show ((start.toNat + y : Nat) : Int) = start + (y : Int) by omega]
  · rw [if_neg c, if_neg fun z => c (e.mpr z)]
theorem cfg_ok {n : Nat} {stays : List (Int × Int)} (hs : StOk n stays) : Ok n (n + 1000) (cfg stays) := by
  constructor
  · intro q hq
    obtain ⟨r, hr, rfl⟩ := List.mem_map.mp hq
    have := hs.at_ r hr
    dsimp only
    omega
  · intro q hq
    obtain ⟨r, hr, rfl⟩ := List.mem_map.mp hq
    have := hs.le r hr
    dsimp only
    omega
theorem zip_mem {α : Type} : ∀ {is : List Nat} {l : List α} {q : Int × α}, q ∈ List.zipWith (fun (i : Nat) x => ((i : Int), x)) is l → q.2 ∈ l
  | [], _, _, h => by simp at h
  | _ :: _, [], _, h => by simp at h
  | i :: is, x :: l, q, h => by
    rw [List.zipWith_cons_cons] at h
    rcases List.mem_cons.mp h with h | h
    · rw [h]; simp
    · exact List.mem_cons_of_mem _ (zip_mem h)
theorem enumI_mem {α : Type} {l : List α} {q : Int × α} (h : q ∈ enumI l) : q.2 ∈ l := zip_mem h
theorem foldl_min : ∀ (l : List Int) (x : Int), l.foldl min x ≤ x ∧ ∀ y ∈ l, l.foldl min x ≤ y
  | [], x => ⟨Int.le_refl _, fun y hy => nomatch hy⟩
  | z :: l, x => by
    obtain ⟨h1, h2⟩ := foldl_min l (min x z)
    rw [List.foldl_cons]
    refine ⟨by omega, fun y hy => ?_⟩
    rcases List.mem_cons.mp hy with rfl | hy
    · omega
    · exact h2 y hy
theorem min_le {l : List Int} {v x : Int} (h : l.min? = some v) (hx : x ∈ l) : v ≤ x := by
  cases l with
  | nil => exact nomatch hx
  | cons y r =>
    have e : r.foldl min y = v := Option.some.inj h
    rw [← e]
    rcases List.mem_cons.mp hx with rfl | hx
    · exact (foldl_min r x).1
    · exact (foldl_min r y).2 x hx
/-- what is due: nothing, or the least laying from a stay's own door -/
def Due (p : List Int) (stays : List (Int × Int)) (v : Int) : Prop := (stays = [] ∧ v = 0) ∨ ((∃ q ∈ stays, v = lay p stays q.1) ∧ ∀ q ∈ stays, v ≤ lay p stays q.1)
theorem Due.uniq {p : List Int} {stays : List (Int × Int)} {v w : Int} (h : Due p stays v) (h' : Due p stays w) : v = w := by
  rcases h with ⟨e, h⟩ | ⟨⟨q, hq, h1⟩, h2⟩
  · rcases h' with ⟨_, h'⟩ | ⟨⟨q, hq, _⟩, _⟩
    · omega
    · rw [e] at hq; exact nomatch hq
  · rcases h' with ⟨e, _⟩ | ⟨⟨r, hr, g1⟩, g2⟩
    · rw [e] at hq; exact nomatch hq
    · have := h2 r hr
      have := g2 q hq
      omega
theorem Due.least {p : List Int} {stays : List (Int × Int)} {v : Int} (hp : p ≠ []) (h1 : ∀ x ∈ p, 1 ≤ x) (hs : StOk p.length stays) (h : Due p stays v) : Least (Pf p) p.length (p.length + 1000) (cfg stays) v := by
  have hn : 0 < p.length := List.length_pos_iff.mpr hp
  rcases h with ⟨rfl, rfl⟩ | ⟨⟨q, hq, e⟩, h2⟩
  · exact least_done hn fun q hq => nomatch hq
  · have hlay : ∀ r ∈ stays, lay p stays r.1 = U (Pf p) p.length (p.length + 1000) r.1.toNat (cfg stays) := fun r hr => lay_U hp hs (hs.at_ r hr).1 (hs.at_ r hr).2
    refine least_door Pf_per (fun y => by have := Pf_pos h1 hp y; omega) (cfg_ok hs) (fun z => by
      have : stays = [] := List.map_eq_nil_iff.mp z
      rw [this] at hq; exact nomatch hq) (fun r hr => ?_) ⟨_, List.mem_map.mpr ⟨q, hq, rfl⟩, by rw [e, hlay q hq]⟩ fun r hr => ?_
    · obtain ⟨t, ht, rfl⟩ := List.mem_map.mp hr
      have := hs.le t ht
      dsimp only
      omega
    · obtain ⟨t, ht, rfl⟩ := List.mem_map.mp hr
      rw [← hlay t ht]
      exact h2 t ht
theorem least_ring_eq {p : List Int} {stays : List (Int × Int)} (hp : p ≠ []) (hl : p.length ≤ 1000) (hs : StOk p.length stays) : ∃ v, r_law_least_ring (p, stays, ()) = some v ∧ Due p stays v := by
  unfold r_law_least_ring b_law_least_ring
  simp only [Option.bind_some]
  by_cases h : stays = []
  · subst h
    exact ⟨0, rfl, .inl ⟨rfl, rfl⟩⟩
  · have hn := List.length_pos_iff.mpr h
    rw [decide_eq_false (by omega), if_neg (by decide)]
    rw [lcM_eqT (f := fun q : Int × Int => lay p stays q.1) fun q hq => law_union_eq hp hl fun r hr => by have := hs.le r hr; omega]
    obtain ⟨v, hv⟩ : ∃ v, (stays.map fun q => lay p stays q.1).min? = some v := by
      cases stays with
      | nil => exact absurd rfl h
      | cons x r => exact ⟨_, rfl⟩
    refine ⟨v, ?_, .inr ⟨?_, fun q hq => ?_⟩⟩
    · simp only [Option.bind_some, hv]
      rfl
    · obtain ⟨q, hq, e⟩ := List.mem_map.mp (List.min?_mem hv)
      exact ⟨q, hq, e.symm⟩
    · exact min_le hv (List.mem_map.mpr ⟨q, hq, rfl⟩)
section
variable {p g xs : List Int} {stays : List (Int × Int)} (hp : p ≠ []) (hl : p.length ≤ 1000) (hx : xs[p.length]? = some p.sum) (hs : StOk p.length stays) (hg : ∀ q ∈ stays, q.1 ∈ g) (hn9 : stays.length ≤ 60)
include hs hg in
theorem check_stays_eq : r_check_stays (ring p g xs, stays, ()) = some () := by
  unfold r_check_stays b_check_stays
  simp only [Option.bind_some]
  refine forM_out (fun _ _ => True) trivial (fun pre x q hx s hP => ?_) (fun s hP => rfl)
  have hm : x.2 ∈ stays := enumI_mem (by rw [hx]; simp)
  refine ⟨(), ?_, trivial⟩
  have h1 : ¬ (x.2.1 ∉ g) := fun z => z (hg x.2 hm)
  show ((if decide (x.2.1 ∉ g) = true then some true else some (decide (x.2.2 < 1))).bind _) = _
  rw [decide_eq_false h1, if_neg (by decide), decide_eq_false (by have := hs.le x.2 hm; omega)]
  rfl
include hp hl hx hs hg hn9 in
theorem least_laying_eq : ∃ v o, r_least_laying (ring p g xs, stays, ()) = some (v, o) ∧ Due p stays v := by
  have hlp : ∀ d, d ∈ stays.map (·.1) → r_laid_price (ring p g xs, stays, d, ()) = some (lay p stays d) := fun d hd => by
    obtain ⟨q, hq, rfl⟩ := List.mem_map.mp hd
    have h1 := hs.at_ q hq
    exact laid_price_eq hp hl hx (fun r hr => by have := hs.le r hr; omega) h1.1 (by omega) (by omega)
  unfold r_least_laying b_least_laying
  simp only [Option.bind_some, check_stays_eq hs hg]
  rw [lcM_eqT (f := fun q : Int × Int => q.1) fun q hq => rfl]
  have hd : r_distinct (stays.map (·.1), ()) = some (distinctI (stays.map (·.1))) := by
    unfold r_distinct b_distinct
    simp only [Option.bind_some]
    rw [show distinctM (stays.map (·.1)) = some (distinctI (stays.map (·.1))) from if_pos (by simpa using hn9)]
    rfl
  simp only [Option.bind_some, hd]
  have hmem : ∀ d, d ∈ distinctI (stays.map (·.1)) ↔ d ∈ stays.map (·.1) := fun d => mem_distinctI
  have key : ∀ r : Option (Int × Option Int), (∀ s : Int × Option Int, Due p stays s.1 → some s = r) → r = r := fun _ _ => rfl
  obtain ⟨s', e, hP⟩ := forM_run (S := Int × Option Int) (L := Empty) (ρ := Int × Option Int) (xs := distinctI (stays.map (·.1))) (s0 := ((0 : Int), (none : Option Int)))
    (b := fun (x4 : Int) (s2 : Int × Option Int) => (r_laid_price (ring p g xs, stays, x4, ())).bind fun price => (if s2.2.isNone = true then some true else some (decide (price < s2.1))).bind fun q => if q = true then ((Option.map some (some x4)).bind fun y => some (price, y)).bind fun t => some (Oc.nx t) else some (Oc.nx s2))
    (fun pre s => (pre = [] ∧ s = (0, none)) ∨ (s.2.isNone = false ∧ (∃ d ∈ pre, s.1 = lay p stays d) ∧ ∀ d ∈ pre, s.1 ≤ lay p stays d)) (.inl ⟨rfl, rfl⟩) (fun pre x q hxx s hP => by
      have hxm : x ∈ stays.map (·.1) := (hmem x).mp (by rw [hxx]; simp)
      rw [hlp x hxm, Option.bind_some]
      rcases hP with ⟨rfl, rfl⟩ | ⟨h1, ⟨d, hd1, hd2⟩, h3⟩
      · exact ⟨(lay p stays x, some x), rfl, .inr ⟨rfl, ⟨x, by simp, rfl⟩, fun d hd => by simp at hd; rw [hd]; exact Int.le_refl _⟩⟩
      · rw [h1, if_neg (by decide), Option.bind_some]
        by_cases hc : lay p stays x < s.1
        · rw [decide_eq_true hc, if_pos rfl]
          refine ⟨(lay p stays x, some x), rfl, .inr ⟨rfl, ⟨x, by simp, rfl⟩, fun d hd => ?_⟩⟩
          rcases List.mem_append.mp hd with hd | hd
          · have := h3 d hd; dsimp only; omega
          · simp at hd; rw [hd]; exact Int.le_refl _
        · rw [decide_eq_false hc, if_neg (by decide)]
          refine ⟨s, rfl, .inr ⟨h1, ⟨d, by simp [hd1], hd2⟩, fun d hd => ?_⟩⟩
          rcases List.mem_append.mp hd with hd | hd
          · exact h3 d hd
          · simp at hd; rw [hd]; omega)
  refine ⟨s'.1, s'.2, (congrArg (fun o => Option.bind (Option.bind o (Oc.seq fun s7 : Int × Option Int => some (Oc.rt (S := Empty) (L := Empty) s7))) Oc.out) e), ?_⟩
  rcases hP with ⟨h1, h2⟩ | ⟨_, ⟨d, hd1, hd2⟩, h3⟩
  · left
    refine ⟨?_, by rw [h2]⟩
    cases stays with
    | nil => rfl
    | cons q r =>
      have : q.1 ∈ distinctI ((q :: r).map (·.1)) := (hmem q.1).mpr (by simp)
      rw [h1] at this
      exact nomatch this
  · right
    obtain ⟨q, hq, rfl⟩ := List.mem_map.mp ((hmem d).mp hd1)
    exact ⟨⟨q, hq, hd2⟩, fun r hr => h3 r.1 ((hmem r.1).mpr (List.mem_map.mpr ⟨r, hr, rfl⟩))⟩
end
end F57

end
/-! ## M57g.lean -/
section
set_option Elab.async false
set_option linter.all false
set_option maxRecDepth 100000
/-! k57, the plain law, part G: fronts and steps. -/
namespace F57
open CT R57
open L2 (atI)
def T (f : List Nat) : Tup Int := ⟨f.map fun (k : Nat) => (k : Int)⟩
theorem T_inj {f g : List Nat} (h : T f = T g) : f = g := by
  have h2 : f.map (fun (k : Nat) => (k : Int)) = g.map (fun (k : Nat) => (k : Int)) := congrArg PySem.W.Tup.items h
  exact (List.map_inj_right fun a b hab => by omega).mp h2
/-- the row i stands before s -/
def hit (rows : List (List Int)) (f : List Nat) (s : Int) (i : Nat) : Bool := ((rows[i]?).bind fun r => (f[i]?).bind fun k => r[k]?) == some s
def advJ (rows : List (List Int)) (f : List Nat) (j : Nat) (s : Int) : List Nat := f.mapIdx fun i k => if decide (i < j) && hit rows f s i then k + 1 else k
abbrev adv (rows : List (List Int)) (f : List Nat) (s : Int) : List Nat := advJ rows f rows.length s
def EnJ (rows : List (List Int)) (f : List Nat) (j : Nat) (s : Int) : Prop := ∃ i, i < j ∧ hit rows f s i = true
theorem advJ_len {rows : List (List Int)} {f : List Nat} {j : Nat} {s : Int} : (advJ rows f j s).length = f.length := by simp [advJ]
theorem advJ_none {rows : List (List Int)} {f : List Nat} {j : Nat} {s : Int} (h : ¬ EnJ rows f j s) : advJ rows f j s = f := by
  refine List.ext_getElem? fun i => ?_
  unfold advJ
  rw [List.getElem?_mapIdx]
  have : (decide (i < j) && hit rows f s i) = false := by
    rw [Bool.eq_false_iff]
    intro z
    simp only [Bool.and_eq_true, decide_eq_true_eq] at z
    exact h ⟨i, z.1, z.2⟩
  rw [this]
  cases f[i]? <;> rfl
theorem advJ_skip {rows : List (List Int)} {f : List Nat} {j : Nat} {s : Int} (h : hit rows f s j = false) : advJ rows f (j + 1) s = advJ rows f j s := by
  refine List.ext_getElem? fun i => ?_
  unfold advJ
  rw [List.getElem?_mapIdx, List.getElem?_mapIdx]
  by_cases e : i = j
  · subst e; rw [h]; simp
  · have : decide (i < j + 1) = decide (i < j) := by simp only [decide_eq_decide]; omega
    rw [this]
theorem advJ_hit {rows : List (List Int)} {f : List Nat} {j k : Nat} {s : Int} (h : hit rows f s j = true) (hk : f[j]? = some k) : advJ rows f (j + 1) s = (advJ rows f j s).set j (k + 1) := by
  have hj := (List.getElem?_eq_some_iff.mp hk).1
  refine List.ext_getElem? fun i => ?_
  rw [List.getElem?_set]
  by_cases e : j = i
  · subst e
    rw [if_pos rfl, if_pos (by rw [advJ_len]; exact hj)]
    unfold advJ
    rw [List.getElem?_mapIdx, hk, h]
    simp
  · rw [if_neg e]
    unfold advJ
    rw [List.getElem?_mapIdx, List.getElem?_mapIdx]
    have : decide (i < j + 1) = decide (i < j) := by simp only [decide_eq_decide]; omega
    rw [this]
theorem enJ_succ {rows : List (List Int)} {f : List Nat} {j : Nat} {s : Int} : EnJ rows f (j + 1) s ↔ EnJ rows f j s ∨ hit rows f s j = true := by
  constructor
  · rintro ⟨i, h1, h2⟩
    by_cases e : i = j
    · subst e; exact .inr h2
    · exact .inl ⟨i, by omega, h2⟩
  · rintro (⟨i, h1, h2⟩ | h)
    · exact ⟨i, by omega, h2⟩
    · exact ⟨j, by omega, h⟩
theorem enumI_at' {l : List (List Int)} {p q : List (Int × List Int)} {x : Int × List Int} (h : enumI l = p ++ x :: q) : x.1 = (p.length : Int) ∧ l[p.length]? = some x.2 := by
  have h1 : (enumI l)[p.length]? = some x := by rw [h]; simp
  have h2 : p.length < l.length := by
    have := congrArg List.length h
    rw [enumI_len] at this
    simp at this
    omega
  have h3 := enumI_at (List.getElem?_eq_getElem h2)
  rw [h1] at h3
  cases h3
  exact ⟨rfl, List.getElem?_eq_getElem h2⟩
theorem map_set {α β : Type} (g : α → β) (xs : List α) (i : Nat) (x : α) : (xs.set i x).map g = (xs.map g).set i (g x) := List.map_set
theorem keys_mem {α : Type} {kvs : List (Int × α)} {s : Int} : s ∈ kvs.map (·.1) ↔ (dget kvs s).isSome = true := by
  induction kvs with
  | nil => simp [dget]
  | cons q r ih =>
    rw [dget_cons, List.map_cons, List.mem_cons]
    by_cases e : q.1 = s
    · simp [e]
    · rw [if_neg e, ih]
      constructor
      · rintro (z | z)
        · exact absurd z.symm e
        · exact z
      · exact .inr
open Classical in
theorem steps_eq {rows : List (List Int)} {f : List Nat} (hf : f.length = rows.length) (h64 : rows.length < 64) :
    ∃ syms : List Int, r_steps (rows, T f, ()) = some (syms.map fun s => (s, T (adv rows f s))) ∧ ∀ s, s ∈ syms ↔ EnJ rows f rows.length s := by
  let R (j : Nat) (d : DL Int Int) : Prop := d.kvs.length ≤ j ∧ ∀ s, dget d.kvs s = if EnJ rows f j s then some ((advJ rows f j s).map fun (k : Nat) => (k : Int)) else none
  have key : ∃ d : DL Int Int, R rows.length d ∧ r_steps (rows, T f, ()) = (((sortK d.kvs).bind fun xs => lcM (fun _ => some true) (fun (x9 : Int) => (((Dic.get (α := List Int) d x9).bind fun x => some (x, ())).bind fun x : List Int × Unit => some (PySem.W.Tup.mk x.1)).bind fun y => some (x9, y)) xs).bind fun r => some (Oc.rt (S := Empty) (L := Empty) r)).bind Oc.out := by
    obtain ⟨d, e, hR⟩ := forM_run (S := DL Int Int) (L := Empty) (ρ := List (Int × Tup Int)) (xs := enumI rows) (s0 := (DL.mk [] : DL Int Int))
      (b := fun (x3 : Int × List Int) (s2 : DL Int Int) => ((atI (T f).items x3.1).bind fun x => (((some x3.2).bind fun x => some (x, ())).bind fun x : List Int × Unit => some (x.1.length : Int)).bind fun y => some (decide (x < y))).bind fun q => if q = true then
        ((atI (T f).items x3.1).bind fun i => atI x3.2 i).bind fun sy => ((some (Dic.get (α := List Int) s2 sy).isNone).bind fun q => if q = true then (dlputM s2 sy (T f).items).bind fun t => some (Oc.nx t) else some (Oc.nx s2)).bind (Oc.seq fun s6 =>
          ((atI (T f).items x3.1).bind fun x => some (x + 1)).bind fun y => (dlsetM s6 sy x3.1 y).bind fun t => some (Oc.nx t)) else some (Oc.nx s2))
      (fun pre d => R pre.length d) ⟨Nat.le_refl _, fun s => by
        rw [if_neg (by rintro ⟨i, h, _⟩; exact Nat.not_lt_zero _ h)]
        rfl⟩ (fun pre x q hx d hR => by
        obtain ⟨hlen, hd⟩ := hR
        obtain ⟨x1, x2⟩ := x
        obtain ⟨e1, e2⟩ := enumI_at' hx
        dsimp only at e1 e2
        subst e1
        have hj := (List.getElem?_eq_some_iff.mp e2).1
        have hk : f[pre.length]? = some f[pre.length] := List.getElem?_eq_getElem (by omega)
        generalize f[pre.length] = k at hk
        have hT : atI (T f).items (pre.length : Int) = some (k : Int) := atI_nat (by unfold T; rw [List.getElem?_map, hk]; rfl)
        rw [List.length_append, List.length_cons, List.length_nil]
        simp only [hT, Option.bind_some]
        by_cases hlt : (k : Int) < (x2.length : Int)
        · rw [decide_eq_true hlt, if_pos rfl]
          have hk2 : k < x2.length := by omega
          have hs : x2[k]? = some x2[k] := List.getElem?_eq_getElem hk2
          generalize x2[k] = sy at hs
          rw [atI_nat hs, Option.bind_some]
          have hhit : ∀ s, hit rows f s pre.length = decide (s = sy) := fun s => by
            unfold hit
            rw [e2, Option.bind_some, hk, Option.bind_some, hs]
            rw [Bool.eq_iff_iff]
            simp only [beq_iff_eq, Option.some.injEq, decide_eq_true_eq]
            exact eq_comm
          -- the row of the symbol, made if it is new
          obtain ⟨d2, g1, g2, g3⟩ : ∃ d2 : DL Int Int, (if (Dic.get (α := List Int) d sy).isNone = true then (dlputM d sy (T f).items).bind fun t => some (Oc.nx (L := DL Int Int) (ρ := List (Int × Tup Int)) t) else some (Oc.nx d)) = some (Oc.nx d2) ∧ d2.kvs.length ≤ pre.length + 1 ∧ ∀ s, dget d2.kvs s = if EnJ rows f pre.length s ∨ s = sy then some ((advJ rows f pre.length s).map fun (k : Nat) => (k : Int)) else none := by
            by_cases he : EnJ rows f pre.length sy
            · refine ⟨d, ?_, by omega, fun s => ?_⟩
              · have : Dic.get (α := List Int) d sy = some _ := (hd sy).trans (if_pos he)
                rw [this]
                rfl
              · rw [hd s]
                by_cases h2 : s = sy
                · subst h2; rw [if_pos he, if_pos (.inl he)]
                · by_cases h3 : EnJ rows f pre.length s
                  · rw [if_pos h3, if_pos (.inl h3)]
                  · rw [if_neg h3, if_neg (by rintro (z | z); exact h3 z; exact h2 z)]
            · have hn : dget d.kvs sy = none := (hd sy).trans (if_neg he)
              refine ⟨⟨d.kvs ++ [(sy, (T f).items)]⟩, ?_, by simp; omega, fun s => ?_⟩
              · have : Dic.get (α := List Int) d sy = none := hn
                rw [this, Option.isNone_none, if_pos rfl, dlputM_eq hn (by omega)]
                rfl
              · show dget (d.kvs ++ [(sy, (T f).items)]) s = _
                rw [dget_app hn]
                by_cases h2 : s = sy
                · subst h2; rw [if_pos rfl, if_pos (.inr rfl), advJ_none he]; rfl
                · rw [if_neg h2, hd s]
                  by_cases h3 : EnJ rows f pre.length s
                  · rw [if_pos h3, if_pos (.inl h3)]
                  · rw [if_neg h3, if_neg (by rintro (z | z); exact h3 z; exact h2 z)]
          rw [g1, Option.bind_some]
          have hg := (g3 sy).trans (if_pos (.inr rfl))
          refine ⟨⟨setFirst sy (((advJ rows f pre.length sy).map fun (k : Nat) => (k : Int)).set pre.length ((k : Int) + 1)) d2.kvs⟩, ?_, ?_, fun s => ?_⟩
          · show ((dlsetM d2 sy (pre.length : Int) ((k : Int) + 1)).bind fun t => some (Oc.nx t)) = _
            rw [dlsetM_eq hg (by rw [List.length_map, advJ_len]; omega)]
            rfl
          · have := congrArg List.length (setFirst_keys (k := sy) (y := ((advJ rows f pre.length sy).map fun (k : Nat) => (k : Int)).set pre.length ((k : Int) + 1)) (kvs := d2.kvs))
            simp only [List.length_map] at this
            show List.length (setFirst _ _ _) ≤ _
            omega
          · show dget (setFirst _ _ _) s = _
            rw [dget_setFirst (by rw [hg]; rfl)]
            by_cases h2 : s = sy
            · subst h2
              have hh := (hhit s).trans (decide_eq_true rfl)
              rw [if_pos rfl, if_pos (enJ_succ.mpr (.inr hh)), advJ_hit hh hk, map_set]
              rfl
            · have hh := (hhit s).trans (decide_eq_false h2)
              rw [if_neg h2, g3 s, advJ_skip hh]
              by_cases h3 : EnJ rows f pre.length s
              · rw [if_pos (.inl h3), if_pos (enJ_succ.mpr (.inl h3))]
              · rw [if_neg (by rintro (z | z); exact h3 z; exact h2 z), if_neg (fun z => by rcases enJ_succ.mp z with z | z; exact h3 z; rw [hh] at z; exact nomatch z)]
        · rw [decide_eq_false hlt, if_neg (by decide)]
          have hs : x2[k]? = none := List.getElem?_eq_none (by omega)
          have hh : ∀ s, hit rows f s pre.length = false := fun s => by
            unfold hit
            rw [e2, Option.bind_some, hk, Option.bind_some, hs]
            rfl
          refine ⟨d, rfl, by omega, fun s => ?_⟩
          rw [hd s, advJ_skip (hh s)]
          by_cases h3 : EnJ rows f pre.length s
          · rw [if_pos h3, if_pos (enJ_succ.mpr (.inl h3))]
          · rw [if_neg h3, if_neg (fun z => by rcases enJ_succ.mp z with z | z; exact h3 z; rw [hh] at z; exact nomatch z)])
    rw [enumI_len] at hR
    refine ⟨d, hR, ?_⟩
    exact congrArg (fun o => Option.bind (Option.bind o (Oc.seq fun d : DL Int Int => ((sortK d.kvs).bind fun xs => lcM (fun _ => some true) (fun (x9 : Int) => (((Dic.get (α := List Int) d x9).bind fun x => some (x, ())).bind fun x : List Int × Unit => some (PySem.W.Tup.mk x.1)).bind fun y => some (x9, y)) xs).bind fun r => some (Oc.rt (S := Empty) (L := Empty) r))) Oc.out) e
  obtain ⟨d, ⟨h1, h2⟩, e⟩ := key
  have hsy : ∀ s, s ∈ sortT (d.kvs.map (·.1)) ↔ EnJ rows f rows.length s := fun s => by
    rw [mem_sortT, keys_mem, h2 s]
    by_cases h : EnJ rows f rows.length s
    · simp [h]
    · simp [h]
  refine ⟨sortT (d.kvs.map (·.1)), ?_, hsy⟩
  rw [e, show sortK d.kvs = some (sortT (d.kvs.map (·.1))) from if_pos (by omega), Option.bind_some]
  rw [lcM_eqT (f := fun s => (s, T (adv rows f s))) fun s hs => by
    have : Dic.get (α := List Int) d s = some _ := (h2 s).trans (if_pos ((hsy s).mp hs))
    rw [this]
    rfl]
  rfl
end F57

end
/-! ## M57h.lean -/
section
set_option Elab.async false
set_option linter.all false
set_option maxRecDepth 100000
/-! k57, the plain law, part H: fronts as configurations of the ring. -/
namespace F57
open CT R57
open L2 (atI)
def rowsOf (n : Nat) (stays : List (Int × Int)) : List (List Int) := stays.map fun q => (rangeI 0 q.2).map fun k => (q.1 + k) % (n : Int)
def cfgF (n : Nat) (stays : List (Int × Int)) (f : List Nat) : Cfg := List.zipWith (fun q k => ((q.1.toNat + k) % n, q.2.toNat - k)) stays f
structure FOk (stays : List (Int × Int)) (f : List Nat) : Prop where
  len : f.length = stays.length
  le : ∀ (i : Nat) (q : Int × Int) (k : Nat), stays[i]? = some q → f[i]? = some k → k ≤ q.2.toNat
theorem row_at {n : Nat} {q : Int × Int} {k : Nat} : ((rangeI 0 q.2).map fun k => (q.1 + k) % (n : Int))[k]? = if k < q.2.toNat then some ((q.1 + (k : Int)) % (n : Int)) else none := by
  rw [List.getElem?_map]
  by_cases h : k < q.2.toNat
  · rw [if_pos h, rangeI_at (by simpa using h)]
    simp
  · rw [if_neg h, List.getElem?_eq_none (by rw [rangeI_len]; simpa using h)]
    rfl
theorem rows_at {n : Nat} {stays : List (Int × Int)} {i : Nat} {q : Int × Int} (h : stays[i]? = some q) : (rowsOf n stays)[i]? = some ((rangeI 0 q.2).map fun k => (q.1 + k) % (n : Int)) := by
  unfold rowsOf
  rw [List.getElem?_map, h]
  rfl
theorem hit_iff {n : Nat} {stays : List (Int × Int)} {f : List Nat} {i : Nat} {q : Int × Int} {k : Nat} {s : Int} (h1 : stays[i]? = some q) (h2 : f[i]? = some k) : hit (rowsOf n stays) f s i = true ↔ k < q.2.toNat ∧ s = (q.1 + (k : Int)) % (n : Int) := by
  unfold hit
  rw [rows_at h1, Option.bind_some, h2, Option.bind_some, row_at]
  by_cases h : k < q.2.toNat
  · rw [if_pos h]
    simp only [beq_iff_eq, Option.some.injEq]
    exact ⟨fun z => ⟨h, z.symm⟩, fun z => z.2.symm⟩
  · rw [if_neg h]
    simp [h]
section
variable {n : Nat} {stays : List (Int × Int)} (hn : 0 < n) (hs : StOk n stays)
theorem get_both {f : List Nat} (hf : FOk stays f) {i : Nat} (hi : i < stays.length) : ∃ q k, stays[i]? = some q ∧ f[i]? = some k ∧ q ∈ stays :=
  ⟨stays[i], f[i]'(by rw [hf.len]; exact hi), List.getElem?_eq_getElem hi, List.getElem?_eq_getElem _, List.getElem_mem _⟩
theorem rows_len : (rowsOf n stays).length = stays.length := by simp [rowsOf]
include hn hs
theorem cast_mod {q : Int × Int} (hq : q ∈ stays) (k : Nat) : (((q.1.toNat + k) % n : Nat) : Int) = (q.1 + (k : Int)) % (n : Int) := by
  have := hs.at_ q hq
  rw [Int.natCast_emod, show ((q.1.toNat + k : Nat) : Int) = q.1 + (k : Int) by omega]
theorem en_of {f : List Nat} (hf : FOk stays f) {s : Int} (h : EnJ (rowsOf n stays) f (rowsOf n stays).length s) : 0 ≤ s ∧ s < (n : Int) ∧ en s.toNat (cfgF n stays f) = true := by
  obtain ⟨i, hi, hh⟩ := h
  rw [rows_len] at hi
  obtain ⟨q, k, h1, h2, hq⟩ := get_both hf hi
  obtain ⟨h3, h4⟩ := (hit_iff h1 h2).mp hh
  have h5 := cast_mod hn hs hq k
  have h6 : (q.1.toNat + k) % n < n := Nat.mod_lt _ hn
  refine ⟨by omega, by omega, en_iff.mpr ⟨((q.1.toNat + k) % n, q.2.toNat - k), ?_, ?_, ?_⟩⟩
  · refine List.mem_of_getElem? (i := i) ?_
    unfold cfgF
    rw [List.getElem?_zipWith, h1, h2]
  · show q.2.toNat - k ≠ 0; omega
  · show (q.1.toNat + k) % n = s.toNat; omega
theorem of_en {f : List Nat} (hf : FOk stays f) {t : Nat} (h : en t (cfgF n stays f) = true) : EnJ (rowsOf n stays) f (rowsOf n stays).length (t : Int) := by
  obtain ⟨c, hc, h1, h2⟩ := en_iff.mp h
  obtain ⟨i, hi⟩ := List.mem_iff_getElem?.mp hc
  unfold cfgF at hi
  rw [List.getElem?_zipWith] at hi
  have hlt : i < stays.length := by
    rcases Nat.lt_or_ge i stays.length with z | z
    · exact z
    · rw [List.getElem?_eq_none z] at hi; exact nomatch hi
  obtain ⟨q, k, g1, g2, hq⟩ := get_both hf hlt
  rw [g1, g2] at hi
  cases hi
  dsimp only at h1 h2
  refine ⟨i, by rw [rows_len]; exact hlt, (hit_iff g1 g2).mpr ⟨by omega, ?_⟩⟩
  have := cast_mod hn hs hq k
  omega
theorem nxt_mod (m : Nat) : nxt n (m % n) = (m + 1) % n := by
  unfold nxt
  have h1 := Nat.mod_lt m hn
  by_cases h : m % n + 1 = n
  · rw [if_pos h, Nat.add_mod, ]
    by_cases h1' : n = 1
    · subst h1'; omega
    · rw [Nat.mod_eq_of_lt (show 1 < n by omega), h, Nat.mod_self]
  · rw [if_neg h, Nat.add_mod]
    rw [Nat.mod_eq_of_lt (show 1 < n by omega), Nat.mod_eq_of_lt (show m % n + 1 < n by omega)]
theorem adv_at {f : List Nat} (hf : FOk stays f) {s : Int} {i : Nat} {q : Int × Int} {k : Nat} (h1 : stays[i]? = some q) (h2 : f[i]? = some k) : (adv (rowsOf n stays) f s)[i]? = some (if k < q.2.toNat ∧ s = (q.1 + (k : Int)) % (n : Int) then k + 1 else k) := by
  have hi := (List.getElem?_eq_some_iff.mp h1).1
  show (advJ _ _ _ _)[i]? = _
  unfold advJ
  rw [List.getElem?_mapIdx, h2, rows_len, decide_eq_true hi, Bool.true_and]
  by_cases h : k < q.2.toNat ∧ s = (q.1 + (k : Int)) % (n : Int)
  · rw [if_pos h, Option.map_some, (hit_iff h1 h2).mpr h]
    rfl
  · rw [if_neg h, Option.map_some]
    have : hit (rowsOf n stays) f s i = false := by
      rw [Bool.eq_false_iff]
      exact fun z => h ((hit_iff h1 h2).mp z)
    rw [this]
    rfl
theorem adv_ok {f : List Nat} (hf : FOk stays f) (s : Int) : FOk stays (adv (rowsOf n stays) f s) := by
  refine ⟨by rw [advJ_len]; exact hf.len, fun i q k h1 h2 => ?_⟩
  have hi := (List.getElem?_eq_some_iff.mp h1).1
  obtain ⟨q', k', g1, g2, _⟩ := get_both hf hi
  rw [h1] at g1
  cases g1
  rw [adv_at hn hs hf h1 g2] at h2
  have := hf.le i q k' h1 g2
  by_cases h : k' < q.2.toNat ∧ s = (q.1 + (k' : Int)) % (n : Int)
  · rw [if_pos h] at h2
    cases h2
    omega
  · rw [if_neg h] at h2
    cases h2
    omega
theorem cfg_adv {f : List Nat} (hf : FOk stays f) {s : Int} (h0 : 0 ≤ s) : cfgF n stays (adv (rowsOf n stays) f s) = beat n s.toNat (cfgF n stays f) := by
  refine List.ext_getElem? fun i => ?_
  unfold beat cfgF
  rw [List.getElem?_map, List.getElem?_zipWith, List.getElem?_zipWith]
  rcases Nat.lt_or_ge i stays.length with hi | hi
  · obtain ⟨q, k, g1, g2, hq⟩ := get_both hf hi
    rw [g1, g2, adv_at hn hs hf g1 g2]
    have hc := cast_mod hn hs hq k
    show some _ = some (beat1 n s.toNat ((q.1.toNat + k) % n, q.2.toNat - k))
    congr 1
    unfold beat1
    by_cases h : k < q.2.toNat ∧ s = (q.1 + (k : Int)) % (n : Int)
    · rw [if_pos h, if_pos (by dsimp only; omega)]
      have : s.toNat = (q.1.toNat + k) % n := by omega
      rw [this, nxt_mod hn hs, Nat.add_assoc]
      exact Prod.ext rfl (by dsimp only; omega)
    · rw [if_neg h, if_neg (by dsimp only; omega)]
  · rw [List.getElem?_eq_none hi]
    rfl
theorem cfgF_ok {f : List Nat} (hf : FOk stays f) : Ok n (n + 1000) (cfgF n stays f) := by
  constructor
  · intro c hc
    obtain ⟨i, hi⟩ := List.mem_iff_getElem?.mp hc
    unfold cfgF at hi
    rw [List.getElem?_zipWith] at hi
    rcases Nat.lt_or_ge i stays.length with z | z
    · obtain ⟨q, k, g1, g2, hq⟩ := get_both hf z
      rw [g1, g2] at hi
      cases hi
      exact Nat.mod_lt _ hn
    · rw [List.getElem?_eq_none z] at hi; exact nomatch hi
  · intro c hc
    obtain ⟨i, hi⟩ := List.mem_iff_getElem?.mp hc
    unfold cfgF at hi
    rw [List.getElem?_zipWith] at hi
    rcases Nat.lt_or_ge i stays.length with z | z
    · obtain ⟨q, k, g1, g2, hq⟩ := get_both hf z
      rw [g1, g2] at hi
      cases hi
      have := hs.le q hq
      dsimp only
      omega
    · rw [List.getElem?_eq_none z] at hi; exact nomatch hi
end
/-! ### sums and the box of all fronts -/
theorem sum_le : ∀ {f g : List Nat}, f.length = g.length → (∀ (i a b : Nat), f[i]? = some a → g[i]? = some b → a ≤ b) → f.sum ≤ g.sum
  | [], [], _, _ => Nat.le_refl _
  | [], _ :: _, h, _ => by simp at h
  | _ :: _, [], h, _ => by simp at h
  | a :: f, b :: g, h, hp => by
    have h1 := hp 0 a b rfl rfl
    have h2 := sum_le (f := f) (g := g) (by simpa using h) fun i x y hx hy => hp (i + 1) x y hx hy
    simp only [List.sum_cons]
    omega
theorem sum_lt : ∀ {f g : List Nat}, f.length = g.length → (∀ (i a b : Nat), f[i]? = some a → g[i]? = some b → a ≤ b) → (∃ (i a b : Nat), f[i]? = some a ∧ g[i]? = some b ∧ a < b) → f.sum < g.sum
  | [], [], _, _, h => by obtain ⟨i, a, b, h, _⟩ := h; simp at h
  | [], _ :: _, h, _, _ => by simp at h
  | _ :: _, [], h, _, _ => by simp at h
  | a :: f, b :: g, h, hp, hx => by
    have h1 := hp 0 a b rfl rfl
    have hp2 : ∀ (i x y : Nat), f[i]? = some x → g[i]? = some y → x ≤ y := fun i x y hx hy => hp (i + 1) x y hx hy
    have h2 := sum_le (f := f) (g := g) (by simpa using h) hp2
    obtain ⟨i, x, y, g1, g2, g3⟩ := hx
    simp only [List.sum_cons]
    cases i with
    | zero => cases g1; cases g2; omega
    | succ i =>
      have := sum_lt (f := f) (g := g) (by simpa using h) hp2 ⟨i, x, y, g1, g2, g3⟩
      omega
theorem sum_adv {rows : List (List Int)} {f : List Nat} (hf : f.length = rows.length) {s : Int} (h : EnJ rows f rows.length s) : f.sum < (adv rows f s).sum := by
  obtain ⟨i, hi, hh⟩ := h
  refine sum_lt (by rw [advJ_len]) (fun j a b h1 h2 => ?_) ?_
  · unfold adv advJ at h2
    rw [List.getElem?_mapIdx, h1] at h2
    cases h2
    dsimp only
    split <;> omega
  · have hk : f[i]? = some f[i] := List.getElem?_eq_getElem (by omega)
    refine ⟨i, f[i], f[i] + 1, hk, ?_, Nat.lt_succ_self _⟩
    unfold adv advJ
    rw [List.getElem?_mapIdx, hk, decide_eq_true hi, hh]
    rfl
theorem T_sum (f : List Nat) : (T f).items.sum = (f.sum : Int) := by
  unfold T
  induction f with
  | nil => rfl
  | cons a f ih =>
    simp only [List.map_cons, List.sum_cons] at ih ⊢
    rw [ih]
    omega
def allF : List (Int × Int) → List (List Nat)
  | [] => [[]]
  | q :: r => (List.range (q.2.toNat + 1)).flatMap fun k => (allF r).map (k :: ·)
def size : List (Int × Int) → Nat
  | [] => 1
  | q :: r => (q.2.toNat + 1) * size r
theorem mem_allF : ∀ {stays : List (Int × Int)} {f : List Nat}, FOk stays f → f ∈ allF stays
  | [], f, h => by
    have : f = [] := List.length_eq_zero_iff.mp h.len
    rw [this]; simp [allF]
  | q :: r, [], h => by have := h.len; simp at this
  | q :: r, k :: f, h => by
    have h1 := h.le 0 q k rfl rfl
    have h2 : FOk r f := ⟨by simpa using h.len, fun i q k g1 g2 => h.le (i + 1) q k g1 g2⟩
    unfold allF
    rw [List.mem_flatMap]
    exact ⟨k, by rw [List.mem_range]; omega, List.mem_map.mpr ⟨f, mem_allF h2, rfl⟩⟩
theorem flat_len {α β : Type} {g : α → List β} {m : Nat} : ∀ {l : List α}, (∀ x ∈ l, (g x).length = m) → (l.flatMap g).length = l.length * m
  | [], _ => by simp
  | x :: l, h => by
    rw [List.flatMap_cons, List.length_append, h x (by simp), flat_len fun y hy => h y (by simp [hy]), List.length_cons, Nat.add_mul, Nat.one_mul]
    omega
theorem len_allF : ∀ stays : List (Int × Int), (allF stays).length = size stays
  | [] => rfl
  | q :: r => by
    unfold allF size
    rw [flat_len (m := size r) fun k _ => by rw [List.length_map, len_allF r], List.length_range]
theorem nodup_len : ∀ {l m : List (List Nat)}, l.Nodup → (∀ x ∈ l, x ∈ m) → l.length ≤ m.length
  | [], _, _, _ => Nat.zero_le _
  | x :: l, m, h, hs => by
    obtain ⟨h1, h2⟩ := List.nodup_cons.mp h
    have hx := hs x (by simp)
    have h3 := nodup_len (l := l) (m := m.erase x) h2 fun y hy => (List.mem_erase_of_ne (fun z => by subst z; exact h1 hy)).mpr (hs y (by simp [hy]))
    have h4 := List.length_erase_of_mem hx
    have h5 := List.length_pos_of_mem hx
    simp only [List.length_cons]
    omega
theorem fronts_few {stays : List (Int × Int)} {l : List (List Nat)} (h : l.Nodup) (hf : ∀ f ∈ l, FOk stays f) : l.length ≤ size stays := by
  rw [← len_allF]
  exact nodup_len h fun f hx => mem_allF (hf f hx)
end F57

end
/-! ## M57i.lean -/
section
set_option Elab.async false
set_option linter.all false
set_option maxRecDepth 100000
/-! k57, the plain law, part I: the reachable fronts. -/
namespace F57
open CT R57
open L2 (atI)
def zero (rows : List (List Int)) : List Nat := rows.map fun _ => 0
theorem zeros_eq (rows : List (List Int)) : r_zeros (rows, ()) = some (T (zero rows)) := by
  unfold r_zeros b_zeros
  simp only [Option.bind_some]
  rw [lcM_eqT (f := fun _ => (0 : Int)) fun _ _ => rfl]
  simp only [Option.bind_some, Oc.out, T, zero, List.map_map]
  rfl
theorem zero_ok {n : Nat} {stays : List (Int × Int)} : FOk stays (zero (rowsOf n stays)) := by
  refine ⟨by simp [zero, rowsOf], fun i q k h1 h2 => ?_⟩
  unfold zero at h2
  rw [List.getElem?_map] at h2
  cases h : (rowsOf n stays)[i]? with
  | none => rw [h] at h2; exact nomatch h2
  | some r => rw [h] at h2; cases h2; exact Nat.zero_le _
theorem cfg_zero {n : Nat} {stays : List (Int × Int)} (hs : StOk n stays) : cfgF n stays (zero (rowsOf n stays)) = cfg stays := by
  refine List.ext_getElem? fun i => ?_
  unfold cfgF cfg zero rowsOf
  rw [List.getElem?_zipWith, List.getElem?_map, List.getElem?_map, List.getElem?_map]
  cases h : stays[i]? with
  | none => rfl
  | some q =>
    have := hs.at_ q (List.mem_of_getElem? h)
    show some ((q.1.toNat + 0) % n, q.2.toNat - 0) = some (q.1.toNat, q.2.toNat)
    rw [Nat.add_zero, Nat.mod_eq_of_lt (by omega), Nat.sub_zero]
/-- a set of fronts that holds the first and is closed under the steps -/
structure Reach (n : Nat) (stays : List (Int × Int)) (fs : List (List Nat)) : Prop where
  nd : fs.Nodup
  ok : ∀ f ∈ fs, FOk stays f
  zero : zero (rowsOf n stays) ∈ fs
  step : ∀ f ∈ fs, ∀ s, EnJ (rowsOf n stays) f (rowsOf n stays).length s → adv (rowsOf n stays) f s ∈ fs
structure Known (d : DT (Tup Int) Bool) (fs : List (List Nat)) : Prop where
  len : d.kvs.length ≤ fs.length
  iff : ∀ t, (dget d.kvs t).isSome = true ↔ t ∈ fs.map T
theorem T_mem {f : List Nat} {fs : List (List Nat)} : T f ∈ fs.map T ↔ f ∈ fs := by
  constructor
  · intro h
    obtain ⟨g, hg, e⟩ := List.mem_map.mp h
    exact T_inj e ▸ hg
  · exact fun h => List.mem_map.mpr ⟨f, h, rfl⟩
section
variable {n : Nat} {stays : List (Int × Int)} (hn : 0 < n) (hs : StOk n stays) (h64 : stays.length < 64) (hz : size stays ≤ 5000)
include hn hs h64 hz
theorem reachable_eq : ∃ fs, r_reachable (rowsOf n stays, ()) = some (fs.map T) ∧ Reach n stays fs := by
  have hrl : (rowsOf n stays).length = stays.length := rows_len
  have key : ∀ r, (∀ fs, Reach n stays fs → some (fs.map T) = r) → r = r := fun _ _ => rfl
  suffices h : ∃ s : DT (Tup Int) Bool × List (Tup Int) × Int, (∃ fs, s.2.1 = fs.map T ∧ Reach n stays fs) ∧ r_reachable (rowsOf n stays, ()) = some s.2.1 by
    obtain ⟨s, ⟨fs, e, hR⟩, h⟩ := h
    exact ⟨fs, by rw [h, e], hR⟩
  unfold r_reachable b_reachable
  simp only [Option.bind_some, zeros_eq, show ∀ t : Tup Int, atI [t] 0 = some t from fun t => rfl]
  let I (s : DT (Tup Int) Bool × List (Tup Int) × Int) : Prop := ∃ (fs : List (List Nat)) (pl : Nat), s.2.1 = fs.map T ∧ fs.Nodup ∧ (∀ f ∈ fs, FOk stays f) ∧ zero (rowsOf n stays) ∈ fs ∧ Known s.1 fs ∧ s.2.2 = (pl : Int) ∧ pl ≤ fs.length ∧
    ∀ (i : Nat) (f : List Nat), i < pl → fs[i]? = some f → ∀ s, EnJ (rowsOf n stays) f (rowsOf n stays).length s → adv (rowsOf n stays) f s ∈ fs
  have hI0 : I (DT.mk [(T (zero (rowsOf n stays)), true)], [T (zero (rowsOf n stays))], 0) :=
    ⟨[zero (rowsOf n stays)], 0, rfl, by simp, fun f hf => by rw [List.mem_singleton] at hf; rw [hf]; exact zero_ok, by simp, ⟨Nat.le_refl _, fun t => by
      show (dget [(T (zero (rowsOf n stays)), true)] t).isSome = true ↔ _
      rw [dget_cons]
      by_cases e : T (zero (rowsOf n stays)) = t
      · rw [if_pos e]; simp [e]
      · rw [if_neg e]; simp [dget]; exact fun z => e z.symm⟩, rfl, by simp, fun i f h => absurd h (Nat.not_lt_zero _)⟩
  obtain ⟨s', e, hI, ht⟩ := whileM_run (S := DT (Tup Int) Bool × List (Tup Int) × Int) (L := Empty) (ρ := List (Tup Int))
    (t := fun s4 => some (decide (s4.2.2 < (s4.2.1.length : Int))))
    (b := fun s4 => ((((atI s4.2.1 s4.2.2).bind fun x => some (x, ())).bind fun r => some (rowsOf n stays, r)).bind r_steps).bind (fun xs : List (Int × Tup Int) => forM (S := DT (Tup Int) Bool × List (Tup Int)) (L := DT (Tup Int) Bool × List (Tup Int) × Int) (ρ := List (Tup Int)) (fun (x6 : Int × Tup Int) (s5 : DT (Tup Int) Bool × List (Tup Int)) => if (Dic.get (α := Bool) s5.1 x6.2).isNone = true then (dputTM s5.1 x6.2 true).bind fun k => (appM s5.2 x6.2).bind fun f => some (Oc.nx (k, f)) else some (Oc.nx (s5.1, s5.2))) xs (s4.1, s4.2.1)) |>.bind (Oc.seq fun s9 : DT (Tup Int) Bool × List (Tup Int) => some (Oc.nx (s9.1, s9.2, s4.2.2 + 1))))
    I (fun s => size stays + 1 - s.2.2.toNat) (fun s hI => by
      obtain ⟨fs, pl, h1, h2, h3, h4, h5, h6, h7, h8⟩ := hI
      obtain ⟨d, ts, p⟩ := s
      dsimp only at h1 h5 h6 ⊢
      subst h1
      subst h6
      rw [List.length_map]
      by_cases hc : (pl : Int) < (fs.length : Int)
      · right
        refine ⟨by rw [decide_eq_true hc], ?_⟩
        have hlt : pl < fs.length := by omega
        have hf : fs[pl]? = some fs[pl] := List.getElem?_eq_getElem hlt
        generalize fs[pl] = f at hf
        have hfm : f ∈ fs := List.mem_of_getElem? hf
        have hfo := h3 f hfm
        obtain ⟨syms, e1, e2⟩ := steps_eq (rows := rowsOf n stays) (f := f) (by rw [hrl]; exact hfo.len) (by omega)
        rw [atI_nat (show (fs.map T)[pl]? = some (T f) by rw [List.getElem?_map, hf]; rfl)]
        simp only [Option.bind_some, e1]
        obtain ⟨s9, g1, fs', gs, g2, g3, g4, g5, g6, g7⟩ := forM_run (L := DT (Tup Int) Bool × List (Tup Int) × Int) (ρ := List (Tup Int)) (S := DT (Tup Int) Bool × List (Tup Int)) (xs := syms.map fun s => (s, T (adv (rowsOf n stays) f s))) (s0 := (d, fs.map T))
          (b := fun (x6 : Int × Tup Int) (s5 : DT (Tup Int) Bool × List (Tup Int)) => if (Dic.get (α := Bool) s5.1 x6.2).isNone = true then (dputTM s5.1 x6.2 true).bind fun k => (appM s5.2 x6.2).bind fun f => some (Oc.nx (k, f)) else some (Oc.nx (s5.1, s5.2)))
          (fun pre s5 => ∃ fs' gs : List (List Nat), fs' = fs ++ gs ∧ s5.2 = fs'.map T ∧ fs'.Nodup ∧ (∀ f ∈ fs', FOk stays f) ∧ Known s5.1 fs' ∧ ∀ q ∈ pre, q.2 ∈ fs'.map T) ⟨fs, [], by simp, rfl, h2, h3, h5, fun q hq => nomatch hq⟩ (fun pre x post hx s5 hP => by
            obtain ⟨fs', gs, g1, g2, g3, g4, g5, g6⟩ := hP
            have hxm : x ∈ syms.map fun s => (s, T (adv (rowsOf n stays) f s)) := by rw [hx]; simp
            obtain ⟨sy, hsy, rfl⟩ := List.mem_map.mp hxm
            have hadv := adv_ok hn hs hfo sy
            have hfew := fronts_few g3 g4
            dsimp only
            cases hg : Dic.get (α := Bool) s5.1 (T (adv (rowsOf n stays) f sy)) with
            | none =>
              have hno : T (adv (rowsOf n stays) f sy) ∉ fs'.map T := fun z => by
                have := (g5.iff _).mpr z
                rw [show dget s5.1.kvs (T (adv (rowsOf n stays) f sy)) = none from hg] at this
                exact nomatch this
              have hno' : adv (rowsOf n stays) f sy ∉ fs' := fun z => hno (T_mem.mpr z)
              rw [Option.isNone_none, if_pos rfl, dputTM_eq (by have := g5.len; omega), Option.bind_some, g2, appM_eq (by rw [List.length_map]; omega)]
              refine ⟨_, rfl, fs' ++ [adv (rowsOf n stays) f sy], gs ++ [adv (rowsOf n stays) f sy], by rw [g1]; simp, by simp, ?_, fun g hg' => ?_, ⟨?_, fun t => ?_⟩, fun q hq => ?_⟩
              · rw [List.nodup_append]
                refine ⟨g3, by simp, fun a ha b hb => ?_⟩
                rw [List.mem_singleton] at hb
                subst hb
                exact fun z => hno' (z ▸ ha)
              · rcases List.mem_append.mp hg' with z | z
                · exact g4 g z
                · rw [List.mem_singleton] at z; subst z; exact hadv
              · have := dput_len (kvs := s5.1.kvs) (k := T (adv (rowsOf n stays) f sy)) (x := true)
                have := g5.len
                simp only [List.length_append, List.length_cons, List.length_nil]
                omega
              · show (dget (dput s5.1.kvs (T (adv (rowsOf n stays) f sy)) true) t).isSome = true ↔ _
                rw [dget_dput, List.map_append, List.mem_append]
                by_cases et : t = T (adv (rowsOf n stays) f sy)
                · rw [if_pos et]; simp [et]
                · rw [if_neg et, g5.iff]; simp [et]
              · rw [List.map_append, List.mem_append]
                rcases List.mem_append.mp hq with z | z
                · exact .inl (g6 q z)
                · rw [List.mem_singleton] at z; subst z; exact .inr (by simp)
            | some w =>
              have hyes : T (adv (rowsOf n stays) f sy) ∈ fs'.map T := (g5.iff _).mp (by
                rw [show dget s5.1.kvs (T (adv (rowsOf n stays) f sy)) = some w from hg]; rfl)
              rw [Option.isNone_some, if_neg (by decide)]
              refine ⟨_, rfl, fs', gs, g1, g2, g3, g4, g5, fun q hq => ?_⟩
              rcases List.mem_append.mp hq with z | z
              · exact g6 q z
              · rw [List.mem_singleton] at z; subst z; exact hyes)
        rw [g1]
        have hfew := fronts_few g4 g5
        have hl9 : fs'.length = fs.length + gs.length := by rw [g2]; simp
        refine ⟨_, rfl, ⟨fs', pl + 1, g3, g4, g5, by rw [g2]; simp [h4], g6, rfl, by omega, fun i f' hi hf' sy hen => ?_⟩, ?_⟩
        · by_cases hip : i < pl
          · have hf2 : fs[i]? = some f' := by rw [g2, List.getElem?_append_left (by omega)] at hf'; exact hf'
            rw [g2]
            exact List.mem_append_left _ (h8 i f' hip hf2 sy hen)
          · have : i = pl := by omega
            subst this
            have hf2 : fs[i]? = some f' := by rw [g2, List.getElem?_append_left (by omega)] at hf'; exact hf'
            rw [hf] at hf2
            cases hf2
            have := g7 (sy, T (adv (rowsOf n stays) f sy)) (List.mem_map.mpr ⟨sy, (e2 sy).mpr hen, rfl⟩)
            exact T_mem.mp this
        · dsimp only
          omega
      · left
        rw [decide_eq_false hc]) 1000000 _ hI0 (by dsimp only; omega)
  obtain ⟨fs, pl, h1, h2, h3, h4, h5, h6, h7, h8⟩ := hI
  refine ⟨s', ⟨fs, h1, h2, h3, h4, fun f hf s hen => ?_⟩, (congrArg (fun o => Option.bind (Option.bind o (Oc.seq fun s11 : DT (Tup Int) Bool × List (Tup Int) × Int => some (Oc.rt (S := Empty) (L := Empty) s11.2.1))) Oc.out) e)⟩
  have : ¬ (s'.2.2 < (s'.2.1.length : Int)) := by simpa using ht
  rw [h1, List.length_map, h6] at this
  obtain ⟨i, hi⟩ := List.mem_iff_getElem?.mp hf
  have hil := (List.getElem?_eq_some_iff.mp hi).1
  exact h8 i f (by omega) hi s hen
end
end F57

end
/-! ## M57j.lean -/
section
set_option Elab.async false
set_option linter.all false
set_option maxRecDepth 100000
/-! k57, the plain law, part J: heights, the least row. -/
namespace F57
open CT R57
open L2 (atI)
theorem size_fold : ∀ (stays : List (Int × Int)) (t : Int), (∀ q ∈ stays, 0 ≤ q.2) → stays.foldl (fun t q => t * (q.2 + 1)) t = t * (size stays : Int)
  | [], t, _ => by show t = t * ((1 : Nat) : Int); omega
  | q :: r, t, h => by
    have h1 := h q (by simp)
    rw [List.foldl_cons, size_fold r _ fun x hx => h x (by simp [hx])]
    show t * (q.2 + 1) * (size r : Int) = t * (((q.2.toNat + 1) * size r : Nat) : Int)
    rw [Int.natCast_mul, show ((q.2.toNat + 1 : Nat) : Int) = q.2 + 1 by omega, Int.mul_assoc]
theorem foldl_cg {α β : Type} {f g : β → α → β} : ∀ {l : List α} {b : β}, (∀ b, ∀ a ∈ l, f b a = g b a) → l.foldl f b = l.foldl g b
  | [], _, _ => rfl
  | x :: l, b, h => by
    rw [List.foldl_cons, List.foldl_cons, h b x (by simp)]
    exact foldl_cg fun b a ha => h b a (by simp [ha])
theorem min?_ex {l : List Int} (h : l ≠ []) : ∃ v, l.min? = some v := by
  cases l with
  | nil => exact absurd rfl h
  | cons x r => exact ⟨_, rfl⟩
section
variable {p : List Int} {stays : List (Int × Int)} (hp : p ≠ []) (h1 : ∀ x ∈ p, 1 ≤ x) (hs : StOk p.length stays) (h64 : stays.length < 64) (hz : size stays ≤ 5000)
include hs hz in
theorem check_fronts_eq : r_check_fronts (rowsOf p.length stays, ()) = some () := by
  unfold r_check_fronts b_check_fronts
  simp only [Option.bind_some]
  rw [forM_fold (g := fun (t : Int) (r : List Int) => t * ((r.length : Int) + 1)) fun r hr s => by
    obtain ⟨q, hq, rfl⟩ := List.mem_map.mp hr
    have := hs.le q hq
    rw [show mulM s _ = some (s * _) from if_pos (.inr (by rw [List.length_map, rangeI_len]; omega))]
    rfl]
  have e : (rowsOf p.length stays).foldl (fun (t : Int) (r : List Int) => t * ((r.length : Int) + 1)) 1 = (size stays : Int) := by
    unfold rowsOf
    rw [List.foldl_map]
    have : stays.foldl (fun (t : Int) q => t * ((((rangeI 0 q.2).map fun k => (q.1 + k) % (p.length : Int)).length : Int) + 1)) 1 = stays.foldl (fun t q => t * (q.2 + 1)) 1 := by
      refine foldl_cg fun t q hq => ?_
      have := hs.le q hq
      rw [List.length_map, rangeI_len, show (((q.2 - 0).toNat : Nat) : Int) = q.2 by omega]
    rw [this, size_fold stays 1 fun q hq => by have := hs.le q hq; omega]
    omega
  rw [e, Option.bind_some]
  show ((if decide ((size stays : Int) > 5000) = true then _ else _) : Option _).bind _ = _
  rw [decide_eq_false (by omega), if_neg (by decide)]
  rfl
/-- a dict of heights that tells the least price at every front of fs -/
def Heights (p : List Int) (stays : List (Int × Int)) (d : DT (Tup Int) Int) (fs : List (List Nat)) : Prop := ∀ f ∈ fs, ∃ v, dget d.kvs (T f) = some v ∧ Least (Pf p) p.length (p.length + 1000) (cfgF p.length stays f) v
include hp h1 hs in
theorem unfinished {f : List Nat} (hf : FOk stays f) : (∀ c ∈ cfgF p.length stays f, c.2 = 0) ∨ ∃ c ∈ cfgF p.length stays f, c.2 ≠ 0 := by
  by_cases h : ∃ c ∈ cfgF p.length stays f, c.2 ≠ 0
  · exact .inr h
  · exact .inl fun c hc => Classical.byContradiction fun z => h ⟨c, hc, z⟩
include hp h1 hs in
/-- one front's height from its steps' heights -/
theorem height_step {f : List Nat} (hf : FOk stays f) {syms : List Int} (hsy : ∀ s, s ∈ syms ↔ EnJ (rowsOf p.length stays) f (rowsOf p.length stays).length s) {v : Int → Int} (hv : ∀ s ∈ syms, Least (Pf p) p.length (p.length + 1000) (cfgF p.length stays (adv (rowsOf p.length stays) f s)) (v s)) :
    Least (Pf p) p.length (p.length + 1000) (cfgF p.length stays f) (((syms.map fun s => PI p s + v s).min?).getD 0) ∧ ((∃ c ∈ cfgF p.length stays f, c.2 ≠ 0) → ∃ s ∈ syms, ((syms.map fun s => PI p s + v s).min?).getD 0 = PI p s + v s) := by
  have hn : 0 < p.length := List.length_pos_iff.mpr hp
  rcases unfinished hp h1 hs hf with hd | ⟨c, hc, hc0⟩
  · have : syms = [] := by
      rw [List.eq_nil_iff_forall_not_mem]
      intro s hm
      obtain ⟨_, _, h⟩ := en_of hn hs hf ((hsy s).mp hm)
      obtain ⟨q, hq, h2, _⟩ := en_iff.mp h
      exact h2 (hd q hq)
    subst this
    exact ⟨least_done hn hd, fun ⟨c, hc, h⟩ => absurd (hd c hc) h⟩
  · have hen : en c.1 (cfgF p.length stays f) = true := en_iff.mpr ⟨c, hc, hc0, rfl⟩
    have hm := (hsy _).mpr (of_en hn hs hf hen)
    obtain ⟨w, hw⟩ := min?_ex (l := syms.map fun s => PI p s + v s) (fun z => by rw [List.map_eq_nil_iff] at z; rw [z] at hm; exact nomatch hm)
    obtain ⟨s, hs1, hs2⟩ := List.mem_map.mp (List.min?_mem hw)
    rw [hw]
    show Least _ _ _ _ w ∧ _
    refine ⟨?_, fun _ => ⟨s, hs1, hs2.symm⟩⟩
    refine least_step Pf_per (fun y => by have := Pf_pos h1 hp y; omega) (cfgF_ok hn hs hf) (by omega) hc hc0 (f := fun t => v (t : Int)) (fun t ht => ?_) ?_ fun t ht => ?_
    · have hm := (hsy _).mpr (of_en hn hs hf ht)
      have := hv _ hm
      rw [cfg_adv hn hs hf (by omega)] at this
      simpa using this
    · obtain ⟨g0, _, h⟩ := en_of hn hs hf ((hsy s).mp hs1)
      refine ⟨s.toNat, h, ?_⟩
      unfold Pf
      rw [show ((s.toNat : Nat) : Int) = s by omega]
      exact hs2.symm
    · exact min_le hw (List.mem_map.mpr ⟨(t : Int), (hsy _).mpr (of_en hn hs hf ht), rfl⟩)
include hs hp in
theorem price_at {f : List Nat} (hf : FOk stays f) {s : Int} (h : EnJ (rowsOf p.length stays) f (rowsOf p.length stays).length s) : atI p s = some (PI p s) := by
  have hn : 0 < p.length := List.length_pos_iff.mpr hp
  obtain ⟨g0, g1, _⟩ := en_of hn hs hf h
  have := at_PI hp s
  rw [Int.emod_eq_of_lt g0 g1] at this
  exact this
include hp h1 hs h64 hz
theorem front_heights_eq : ∃ d fs, r_front_heights (p, rowsOf p.length stays, ()) = some d ∧ Reach p.length stays fs ∧ Heights p stays d fs := by
  have hn : 0 < p.length := List.length_pos_iff.mpr hp
  have hrl : (rowsOf p.length stays).length = stays.length := rows_len
  obtain ⟨fs, e, hR⟩ := reachable_eq hn hs h64 hz
  suffices h : ∃ d, r_front_heights (p, rowsOf p.length stays, ()) = some d ∧ Heights p stays d fs by
    obtain ⟨d, h1, h2⟩ := h
    exact ⟨d, fs, h1, hR, h2⟩
  unfold r_front_heights b_front_heights
  simp only [Option.bind_some, check_fronts_eq hs hz, e]
  have hmem : ∀ t, t ∈ sortSum (fs.map T) ↔ t ∈ fs.map T := fun t => List.mem_mergeSort
  have hpw : (sortSum (fs.map T)).Pairwise (fun a b => b.items.sum ≤ a.items.sum) := by
    have h := List.pairwise_mergeSort (le := fun a b : Tup Int => decide (b.items.sum ≤ a.items.sum)) (by
      intro a b c h1 h2
      simp only [decide_eq_true_eq] at *
      omega) (by
      intro a b
      simp only [Bool.or_eq_true, decide_eq_true_eq]
      omega) (fs.map T)
    exact List.Pairwise.imp (fun h => by simpa using h) h
  have hlen : (sortSum (fs.map T)).length ≤ 5000 := by
    unfold sortSum
    rw [List.length_mergeSort, List.length_map]
    have := fronts_few hR.nd hR.ok
    omega
  refine (fun ⟨d, h⟩ => ⟨d, h⟩ : (∃ d, _ ∧ _) → _) ?_
  obtain ⟨d, e2, _, hH⟩ := forM_run (S := DT (Tup Int) Int) (L := Empty) (ρ := DT (Tup Int) Int) (xs := sortSum (fs.map T)) (s0 := DT.mk [])
    (b := fun (x3 : Tup Int) (s2 : DT (Tup Int) Int) => (r_height (p, rowsOf p.length stays, x3, s2, ())).bind fun y => (dputTM s2 x3 y).bind fun t => some (Oc.nx t))
    (fun pre d => d.kvs.length ≤ pre.length ∧ ∀ f, T f ∈ pre → ∃ v, dget d.kvs (T f) = some v ∧ Least (Pf p) p.length (p.length + 1000) (cfgF p.length stays f) v) ⟨Nat.le_refl _, fun f hf => nomatch hf⟩ (fun pre x post hx d hP => by
      obtain ⟨hl, hP⟩ := hP
      obtain ⟨f, hf, rfl⟩ := List.mem_map.mp ((hmem x).mp (by rw [hx]; simp))
      have hfo := hR.ok f hf
      obtain ⟨syms, e1, hsy⟩ := steps_eq (rows := rowsOf p.length stays) (f := f) (by rw [hrl]; exact hfo.len) (by omega)
      -- the steps stand before
      have hbef : ∀ s ∈ syms, T (adv (rowsOf p.length stays) f s) ∈ pre := fun s hsm => by
        have hen := (hsy s).mp hsm
        have hin := (hmem _).mpr (T_mem.mpr (hR.step f hf s hen))
        rw [hx] at hin
        rcases List.mem_append.mp hin with z | z
        · exact z
        · have hlt := sum_adv (rows := rowsOf p.length stays) (f := f) (by rw [hrl]; exact hfo.len) hen
          have hq1 := T_sum (adv (rowsOf p.length stays) f s)
          have hq2 := T_sum f
          rw [hx] at hpw
          rcases List.mem_cons.mp z with z | z
          · rw [z] at hq1; omega
          · have := (List.pairwise_cons.mp (List.pairwise_append.mp hpw).2.1).1 _ z
            omega
      let v (s : Int) : Int := (dget d.kvs (T (adv (rowsOf p.length stays) f s))).getD 0
      have hv : ∀ s ∈ syms, dget d.kvs (T (adv (rowsOf p.length stays) f s)) = some (v s) ∧ Least (Pf p) p.length (p.length + 1000) (cfgF p.length stays (adv (rowsOf p.length stays) f s)) (v s) := fun s hsm => by
        obtain ⟨w, g1, g2⟩ := hP _ (hbef s hsm)
        have : v s = w := by show (dget d.kvs _).getD 0 = w; rw [g1]; rfl
        rw [this]
        exact ⟨g1, g2⟩
      have hh : r_height (p, rowsOf p.length stays, T f, d, ()) = some (((syms.map fun s => PI p s + v s).min?).getD 0) := by
        unfold r_height b_height
        simp only [Option.bind_some, e1]
        rw [lcM_eqT (f := fun q : Int × Tup Int => PI p q.1 + v q.1) fun q hq => by
          obtain ⟨s, hsm, rfl⟩ := List.mem_map.mp hq
          dsimp only
          rw [price_at hp hs hfo ((hsy s).mp hsm), Option.bind_some, show Dic.get (α := Int) d (T (adv (rowsOf p.length stays) f s)) = some (v s) from (hv s hsm).1]
          rfl]
        simp only [Option.bind_some, List.map_map]
        rfl
      obtain ⟨hL, _⟩ := height_step hp h1 hs hfo hsy (v := v) fun s hsm => (hv s hsm).2
      have hlp : pre.length + (post.length + 1) = (sortSum (fs.map T)).length := by rw [hx]; simp
      refine ⟨⟨dput d.kvs (T f) (((syms.map fun s => PI p s + v s).min?).getD 0)⟩, ?_, ?_, fun g hg => ?_⟩
      · rw [hh, Option.bind_some, dputTM_eq (by omega)]
        rfl
      · have := dput_len (kvs := d.kvs) (k := T f) (x := ((syms.map fun s => PI p s + v s).min?).getD 0)
        simp only [List.length_append, List.length_cons, List.length_nil]
        omega
      · show ∃ w, dget (dput _ _ _) (T g) = some w ∧ _
        rw [dget_dput]
        by_cases eg : T g = T f
        · rw [if_pos eg, T_inj eg]
          exact ⟨_, rfl, hL⟩
        · rw [if_neg eg]
          rcases List.mem_append.mp hg with z | z
          · exact hP g z
          · rw [List.mem_singleton] at z; exact absurd z eg)
  exact ⟨d, (congrArg (fun o => Option.bind (Option.bind o (Oc.seq fun s5 : DT (Tup Int) Int => some (Oc.rt (S := Empty) (L := Empty) s5))) Oc.out) e2), fun f hf => hH f ((hmem _).mpr (T_mem.mpr hf))⟩
end
end F57

end
/-! ## M57k.lean -/
section
set_option Elab.async false
set_option linter.all false
set_option maxRecDepth 100000
/-! k57, the plain law, part K: the least row is a least word. -/
namespace F57
open CT R57
open L2 (atI)
def preN (row : List Int) (w : List Int) : Nat := w.foldl (fun k s => if row[k]? = some s then k + 1 else k) 0
theorem preN_app (row w : List Int) (s : Int) : preN row (w ++ [s]) = if row[preN row w]? = some s then preN row w + 1 else preN row w := by
  unfold preN
  rw [List.foldl_append]
  rfl
theorem adv_pre {rows : List (List Int)} {w : List Int} {s : Int} : adv rows (rows.map fun r => preN r w) s = rows.map fun r => preN r (w ++ [s]) := by
  refine List.ext_getElem? fun i => ?_
  unfold adv advJ
  rw [List.getElem?_mapIdx, List.getElem?_map, List.getElem?_map]
  cases h : rows[i]? with
  | none => rfl
  | some r =>
    have hi := (List.getElem?_eq_some_iff.mp h).1
    have hh : hit rows (rows.map fun r => preN r w) s i = decide (r[preN r w]? = some s) := by
      unfold hit
      rw [List.getElem?_map, h]
      show (r[preN r w]? == some s) = _
      rw [Bool.eq_iff_iff]
      simp
    show some (if (decide (i < rows.length) && hit rows (rows.map fun r => preN r w) s i) = true then preN r w + 1 else preN r w) = some (preN r (w ++ [s]))
    rw [decide_eq_true hi, Bool.true_and, hh, preN_app]
    simp
theorem law_prefix_eq (row w : List Int) : r_law_prefix (row, w, ()) = some (preN row w : Int) := by
  unfold r_law_prefix b_law_prefix
  simp only [Option.bind_some]
  refine forM_out (fun pre s => s = (preN row pre : Int)) rfl (fun pre x q hx s hP => ?_) (fun s hP => by rw [hP]; rfl)
  subst hP
  refine ⟨(preN row (pre ++ [x]) : Int), ?_, rfl⟩
  rw [preN_app]
  by_cases h : (preN row pre : Int) < (row.length : Int)
  · have hk : row[preN row pre]? = some row[preN row pre] := List.getElem?_eq_getElem (by omega)
    generalize row[preN row pre] = z at hk
    rw [decide_eq_true h, if_pos rfl, atI_nat hk, hk, Option.bind_some, Option.bind_some]
    by_cases e : z = x
    · rw [decide_eq_true e, if_pos rfl, if_pos (by rw [e])]; rfl
    · rw [decide_eq_false e, if_neg (by decide), if_neg (fun z => e (Option.some.inj z))]
  · rw [decide_eq_false h, if_neg (by decide), Option.bind_some, if_neg (by decide), List.getElem?_eq_none (by omega), if_neg (fun z => nomatch z)]
theorem law_whole_eq {rows : List (List Int)} {w : List Int} (h : ∀ r ∈ rows, preN r w = r.length) : r_law_whole (rows, w, ()) = some true := by
  unfold r_law_whole b_law_whole
  simp only [Option.bind_some]
  refine forM_out (fun _ _ => True) trivial (fun pre x q hx s hP => ⟨(), ?_, trivial⟩) (fun s hP => rfl)
  rw [law_prefix_eq, Option.bind_some, h x (by rw [hx]; simp), decide_eq_false (by omega), Option.bind_some, if_neg (by decide)]
theorem law_ints_eq (w : List Int) : r_law_ints (w, ()) = some true := by
  unfold r_law_ints b_law_ints
  simp only [Option.bind_some]
  rw [if_neg (by decide)]
  exact forM_out (fun _ _ => True) trivial (fun pre x q hx s hP => ⟨(), rfl, trivial⟩) (fun s hP => rfl)
theorem lcM_filter {α : Type} {t : α → Option Bool} {p : α → Bool} {xs : List α} (h : ∀ x ∈ xs, t x = some (p x)) : lcM t (fun x => some x) xs = some (xs.filter p) := by
  rw [lcM_eq (f := fun x => x) h fun _ _ _ => rfl, List.map_id']
theorem sum_bound : ∀ {l : List Nat} {m : Nat}, (∀ x ∈ l, x ≤ m) → l.sum ≤ l.length * m
  | [], _, _ => by simp
  | x :: l, m, h => by
    have h1 := h x (by simp)
    have h2 := sum_bound (l := l) (m := m) fun y hy => h y (by simp [hy])
    rw [List.sum_cons, List.length_cons, Nat.add_mul, Nat.one_mul]
    omega
section
variable {p : List Int} {stays : List (Int × Int)} (hp : p ≠ []) (h1 : ∀ x ∈ p, 1 ≤ x) (hs : StOk p.length stays) (h64 : stays.length < 64) (hz : size stays ≤ 5000)
include hs h64 in
theorem sum_few {f : List Nat} (hf : FOk stays f) : f.sum ≤ 64000 := by
  have : f.sum ≤ (stays.map fun q => q.2.toNat).sum := sum_le (by rw [List.length_map]; exact hf.len) fun i a b g1 g2 => by
    rw [List.getElem?_map] at g2
    cases h : stays[i]? with
    | none => rw [h] at g2; exact nomatch g2
    | some q =>
      rw [h] at g2
      cases g2
      exact hf.le i q a h g1
  have h2 : (stays.map fun q => q.2.toNat).sum ≤ (stays.map fun q => q.2.toNat).length * 1000 := sum_bound fun x hx => by
    obtain ⟨q, hq, rfl⟩ := List.mem_map.mp hx
    have := hs.le q hq
    omega
  rw [List.length_map] at h2
  omega
include hp h1 in
theorem U_pos {g : Cfg} (hg : Ok p.length (p.length + 1000) g) {c : Nat × Nat} (hc : c ∈ g) (hc0 : c.2 ≠ 0) {v : Int} (h : Least (Pf p) p.length (p.length + 1000) g v) : 1 ≤ v := by
  obtain ⟨⟨a, ha, e⟩, _⟩ := h
  obtain ⟨s, g1, g2, g3⟩ := norm Pf_per hg hc hc0 _ a rfl ha
  rw [← e, ← g3, key Pf_per hg g1, if_pos g2]
  have q1 := Pf_pos h1 hp s
  have q2 : 0 ≤ U (Pf p) p.length (p.length + 1000) (nxt p.length s) (beat p.length s g) := S_nonneg fun y _ => by
    have := Pf_pos h1 hp (nxt p.length s + y)
    split <;> omega
  omega
include hp h1 hs h64 hz
theorem least_row_eq : ∃ v w, r_least_row (p, rowsOf p.length stays, ()) = some (v, w) ∧ Least (Pf p) p.length (p.length + 1000) (cfg stays) v ∧ (∀ s ∈ w, 0 ≤ s ∧ s < (p.length : Int)) ∧ (w.map (PI p)).sum = v ∧ (∀ r ∈ rowsOf p.length stays, preN r w = r.length) := by
  have hn : 0 < p.length := List.length_pos_iff.mpr hp
  have hrl : (rowsOf p.length stays).length = stays.length := rows_len
  obtain ⟨d, fs, e, hR, hH⟩ := front_heights_eq hp h1 hs h64 hz
  obtain ⟨v0, hv0, hL0⟩ := hH _ hR.zero
  rw [cfg_zero hs] at hL0
  unfold r_least_row b_least_row
  simp only [Option.bind_some, e, zeros_eq]
  let I (s : List Int × Tup Int) : Prop := ∃ f ∈ fs, s.2 = T f ∧ f = (rowsOf p.length stays).map (fun r => preN r s.1) ∧ (∀ t ∈ s.1, 0 ≤ t ∧ t < (p.length : Int)) ∧ s.1.length ≤ f.sum ∧ ∃ v, dget d.kvs (T f) = some v ∧ Least (Pf p) p.length (p.length + 1000) (cfgF p.length stays f) v ∧ (s.1.map (PI p)).sum + v = v0
  obtain ⟨s', e2, hI, ht⟩ := whileM_run (S := List Int × Tup Int) (L := Empty) (ρ := Int × List Int)
    (t := fun s4 => (Dic.get (α := Int) d s4.2).bind fun x => some (decide (x > 0)))
    (b := fun s4 => (((some (s4.2, ())).bind fun r => some (rowsOf p.length stays, r)).bind r_steps).bind fun pairs => (lcM (fun (x7 : Int × Tup Int) => ((atI p x7.1).bind fun x => (Dic.get (α := Int) d x7.2).bind fun y => some (x + y)).bind fun x => (Dic.get (α := Int) d s4.2).bind fun y => some (decide (x = y))) (fun x7 => some x7) pairs).bind fun good => ((atI good 0).bind fun x => some x.1).bind fun y => (appM s4.1 y).bind fun tk => ((atI good 0).bind fun x => some x.2).bind fun fr => some (Oc.nx (tk, fr)))
    I (fun s => 64001 - s.2.items.sum.toNat) (fun s hI => by
      obtain ⟨w, t⟩ := s
      obtain ⟨f, hf, g1, g2, g3, g4, v, g5, g6, g7⟩ := hI
      dsimp only at g1 g2 g3 g4 g7 ⊢
      subst g1
      rw [show Dic.get (α := Int) d (T f) = some v from g5]
      have hfo := hR.ok f hf
      by_cases hc : v > 0
      · right
        refine ⟨by rw [Option.bind_some, decide_eq_true hc], ?_⟩
        obtain ⟨syms, e1, hsy⟩ := steps_eq (rows := rowsOf p.length stays) (f := f) (by rw [hrl]; exact hfo.len) (by omega)
        simp only [Option.bind_some, e1]
        let u (s : Int) : Int := (dget d.kvs (T (adv (rowsOf p.length stays) f s))).getD 0
        have hu : ∀ s ∈ syms, dget d.kvs (T (adv (rowsOf p.length stays) f s)) = some (u s) ∧ Least (Pf p) p.length (p.length + 1000) (cfgF p.length stays (adv (rowsOf p.length stays) f s)) (u s) := fun s hsm => by
          obtain ⟨x, q1, q2⟩ := hH _ (hR.step f hf s ((hsy s).mp hsm))
          have : u s = x := by show (dget d.kvs _).getD 0 = x; rw [q1]; rfl
          rw [this]
          exact ⟨q1, q2⟩
        obtain ⟨k1, k2⟩ := height_step hp h1 hs hfo hsy (v := u) fun s hsm => (hu s hsm).2
        have hun : ∃ c ∈ cfgF p.length stays f, c.2 ≠ 0 := by
          rcases unfinished hp h1 hs hfo with z | z
          · have := g6.uniq (least_done hn z); omega
          · exact z
        obtain ⟨sg, hsg, hsg2⟩ := k2 hun
        rw [k1.uniq g6] at hsg2
        rw [lcM_filter (p := fun q : Int × Tup Int => decide (PI p q.1 + u q.1 = v)) (fun q hq => by
          obtain ⟨s, hsm, rfl⟩ := List.mem_map.mp hq
          rw [price_at hp hs hfo ((hsy s).mp hsm), Option.bind_some, show Dic.get (α := Int) d (T (adv (rowsOf p.length stays) f s)) = some (u s) from (hu s hsm).1]
          rfl)]
        obtain ⟨a, rest, hgood⟩ : ∃ a rest, (syms.map fun s => (s, T (adv (rowsOf p.length stays) f s))).filter (fun q => decide (PI p q.1 + u q.1 = v)) = a :: rest := by
          cases hfl : (syms.map fun s => (s, T (adv (rowsOf p.length stays) f s))).filter (fun q => decide (PI p q.1 + u q.1 = v)) with
          | cons a rest => exact ⟨a, rest, rfl⟩
          | nil =>
            have : (sg, T (adv (rowsOf p.length stays) f sg)) ∈ (syms.map fun s => (s, T (adv (rowsOf p.length stays) f s))).filter (fun q => decide (PI p q.1 + u q.1 = v)) := List.mem_filter.mpr ⟨List.mem_map.mpr ⟨sg, hsg, rfl⟩, by simpa using hsg2.symm⟩
            rw [hfl] at this
            exact nomatch this
        have ham : a ∈ (syms.map fun s => (s, T (adv (rowsOf p.length stays) f s))).filter (fun q => decide (PI p q.1 + u q.1 = v)) := by rw [hgood]; simp
        obtain ⟨ha1, ha2⟩ := List.mem_filter.mp ham
        obtain ⟨s, hsm, rfl⟩ := List.mem_map.mp ha1
        have ha3 : PI p s + u s = v := by simpa using ha2
        have hen := (hsy s).mp hsm
        obtain ⟨z1, z2, _⟩ := en_of hn hs hfo hen
        have hsum := sum_adv (rows := rowsOf p.length stays) (f := f) (by rw [hrl]; exact hfo.len) hen
        have hao := adv_ok hn hs hfo s
        have hfew := sum_few hs h64 hao
        rw [hgood, Option.bind_some]
        refine ⟨(w ++ [s], T (adv (rowsOf p.length stays) f s)), ?_, ⟨adv (rowsOf p.length stays) f s, hR.step f hf s hen, rfl, ?_, fun t htm => ?_, ?_, u s, (hu s hsm).1, (hu s hsm).2, ?_⟩, ?_⟩
        · rw [show ∀ l : List (Int × Tup Int), atI ((s, T (adv (rowsOf p.length stays) f s)) :: l) 0 = some (s, T (adv (rowsOf p.length stays) f s)) from fun l => atI_nat (i := 0) rfl]
          simp only [Option.bind_some]
          rw [appM_eq (by omega)]
          rfl
        · conv => lhs; rw [g2]
          exact adv_pre
        · rcases List.mem_append.mp htm with h | h
          · exact g3 t h
          · rw [List.mem_singleton] at h; rw [h]; exact ⟨z1, z2⟩
        · rw [List.length_append, List.length_cons, List.length_nil]; omega
        · show ((w ++ [s]).map (PI p)).sum + u s = v0
          rw [List.map_append, sum_app]
          show (w.map (PI p)).sum + (PI p s + 0) + u s = v0
          omega
        · show 64001 - (T (adv (rowsOf p.length stays) f s)).items.sum.toNat < 64001 - (T f).items.sum.toNat
          rw [T_sum, T_sum]
          omega
      · left
        rw [Option.bind_some, decide_eq_false hc]) 1000000 ([], T (zero (rowsOf p.length stays))) ⟨_, hR.zero, rfl, rfl, (fun t ht => nomatch ht), Nat.zero_le _, v0, hv0, by rw [cfg_zero hs]; exact hL0, by show 0 + v0 = v0; omega⟩ (by dsimp only; omega)
  obtain ⟨f, hf, g1, g2, g3, g4, v, g5, g6, g7⟩ := hI
  have hfo := hR.ok f hf
  rw [g1, show Dic.get (α := Int) d (T f) = some v from g5, Option.bind_some] at ht
  have hv : ¬ v > 0 := by simpa using ht
  have hdone : ∀ c ∈ cfgF p.length stays f, c.2 = 0 := by
    rcases unfinished hp h1 hs hfo with z | ⟨c, hc, hc0⟩
    · exact z
    · have := U_pos hp h1 (cfgF_ok hn hs hfo) hc hc0 g6
      omega
  have hv2 := g6.uniq (least_done hn hdone)
  refine ⟨v0, s'.1, ?_, hL0, g3, by omega, fun r hr => ?_⟩
  · refine (congrArg (fun o => Option.bind (Option.bind o (Oc.seq fun s10 : List Int × Tup Int => ((Dic.get (α := Int) d (T (zero (rowsOf p.length stays)))).bind fun x => some (x, s10.1)).bind fun r => some (Oc.rt (S := Empty) (L := Empty) r))) Oc.out) e2).trans ?_
    show (((Dic.get (α := Int) d (T (zero (rowsOf p.length stays)))).bind fun x => some (x, s'.1)).bind fun r => some (Oc.rt (S := Empty) (L := Empty) r)).bind Oc.out = _
    rw [show Dic.get (α := Int) d (T (zero (rowsOf p.length stays))) = some v0 from hv0]
    rfl
  · obtain ⟨i, hi⟩ := List.mem_iff_getElem?.mp hr
    have hil : i < stays.length := by rw [← hrl]; exact (List.getElem?_eq_some_iff.mp hi).1
    obtain ⟨q, k, q1, q2, hq⟩ := get_both hfo hil
    have h3 := rows_at (n := p.length) q1
    rw [hi] at h3
    cases h3
    have hk : k = preN ((rangeI 0 q.2).map fun k => (q.1 + k) % (p.length : Int)) s'.1 := by
      rw [g2, List.getElem?_map, hi] at q2
      exact (Option.some.inj q2).symm
    rw [← hk, List.length_map, rangeI_len]
    have h4 := hfo.le i q k q1 q2
    have h5 : ((q.1.toNat + k) % p.length, q.2.toNat - k) ∈ cfgF p.length stays f := by
      refine List.mem_of_getElem? (i := i) ?_
      unfold cfgF
      rw [List.getElem?_zipWith, q1, q2]
    have h6 := hdone _ h5
    dsimp only at h6
    omega
end
end F57

end
/-! ## M57l.lean -/
section
set_option Elab.async false
set_option linter.all false
set_option maxRecDepth 100000
/-! k57, the plain law, part L: what the script is turned into. -/
namespace F57
open CT R57
open L2 (atI)
theorem mulM_eq {x y : Int} (h : (-(2 ^ 64) < x ∧ x < 2 ^ 64) ∨ (-(2 ^ 64) < y ∧ y < 2 ^ 64)) : mulM x y = some (x * y) := if_pos h
theorem digits_eq (cell count size : Int) (h1 : 0 < size) (h2 : size < 1073741824) (h3 : 0 ≤ count) (h4 : count ≤ 1000) : ∃ xs, r_law_digits (cell, count, size, ()) = some xs ∧ (xs.length : Int) = count ∧ ∀ x ∈ xs, 0 ≤ x ∧ x < size := by
  suffices h : ∃ s : Int × List Int, r_law_digits (cell, count, size, ()) = some s.2 ∧ (s.2.length : Int) = count ∧ ∀ x ∈ s.2, 0 ≤ x ∧ x < size by
    obtain ⟨s, h⟩ := h
    exact ⟨s.2, h⟩
  unfold r_law_digits b_law_digits
  simp only [Option.bind_some]
  rw [rngM_eq (by omega) (by omega) (by omega) (by omega) (by omega), Option.bind_some]
  obtain ⟨s, e, h5, h6⟩ := forM_run (S := Int × List Int) (L := Empty) (ρ := List Int) (xs := rangeI 0 count) (s0 := (cell, ([] : List Int)))
    (b := fun (x4 : Int) (s3 : Int × List Int) => (if decide (cell ≥ 1000000000000000000) = true then some (decide (s3.1 > 0)) else some false).bind fun q => if q = true then
      (modM s3.1 size).bind fun y => (appM s3.2 y).bind fun row => (fdivM s3.1 size).bind fun rest => some (Oc.nx (rest, row))
      else ((((mulM ((cell + 7919 * x4 + 13) % 2147483647) ((cell + 7919 * x4 + 13) % 2147483647 + 48271)).bind fun x => some (x, ())).bind fun x : Int × Unit => some x.1).bind fun x => some (x % 2147483629)).bind fun m8 => (((((mulM m8 (m8 + 69621)).bind fun x => some (x + 31 * x4)).bind fun x => some (x, ())).bind fun x : Int × Unit => some x.1).bind fun x => some (x % 2147483647)).bind fun m9 => (modM (m9 / 9) size).bind fun y => (appM s3.2 y).bind fun row => some (Oc.nx (s3.1, row)))
    (fun pre s => s.2.length = pre.length ∧ ∀ x ∈ s.2, 0 ≤ x ∧ x < size) ⟨rfl, fun x hx => nomatch hx⟩ (fun pre x q hx s hP => by
      obtain ⟨hl, hP⟩ := hP
      have hlen : pre.length + (q.length + 1) = count.toNat := by
        have := congrArg List.length hx
        rw [rangeI_len] at this
        simp at this
        omega
      have hadd : ∀ z : Int, ∀ x ∈ s.2 ++ [z % size], 0 ≤ x ∧ x < size := fun z x hxm => by
        rcases List.mem_append.mp hxm with h | h
        · exact hP x h
        · rw [List.mem_singleton] at h
          rw [h]
          exact ⟨Int.emod_nonneg _ (by omega), Int.emod_lt_of_pos _ h1⟩
      have hb : ∃ q, (if decide (cell ≥ 1000000000000000000) = true then some (decide (s.1 > 0)) else some false) = some q := by
        split <;> exact ⟨_, rfl⟩
      obtain ⟨q, hq⟩ := hb
      rw [hq, Option.bind_some]
      cases q with
      | true =>
        rw [if_pos rfl, modM_pos h1, Option.bind_some, appM_eq (by omega), Option.bind_some, show fdivM s.1 size = some (s.1 / size) from if_pos ⟨h1, h2⟩]
        exact ⟨_, rfl, by simp [hl], hadd _⟩
      | false =>
        rw [if_neg (by decide)]
        have e1 := Int.emod_nonneg (cell + 7919 * x + 13) (b := 2147483647) (by decide)
        have e2 := Int.emod_lt_of_pos (cell + 7919 * x + 13) (b := 2147483647) (by decide)
        rw [mulM_eq (.inl (by omega))]
        simp only [Option.bind_some]
        generalize ((cell + 7919 * x + 13) % 2147483647) * ((cell + 7919 * x + 13) % 2147483647 + 48271) = z
        have e3 := Int.emod_nonneg z (b := 2147483629) (by decide)
        have e4 := Int.emod_lt_of_pos z (b := 2147483629) (by decide)
        rw [mulM_eq (.inl (by omega))]
        simp only [Option.bind_some]
        rw [modM_pos h1, Option.bind_some, appM_eq (by omega)]
        exact ⟨_, rfl, by simp [hl], hadd _⟩)
  refine ⟨s, (congrArg (fun o => Option.bind (Option.bind o (Oc.seq fun s11 : Int × List Int => some (Oc.rt (S := Empty) (L := Empty) s11.2))) Oc.out) e), ?_, h6⟩
  rw [rangeI_len] at h5
  omega
theorem seed_eq (ns : List Int) (k : Nat) (hk : k ≤ 100) : ∃ c, r_law_seed (ns, (k : Int), ()) = some c := by
  unfold r_law_seed b_law_seed
  simp only [Option.bind_some]
  by_cases h : (k : Int) < (ns.length : Int)
  · rw [decide_eq_true h, if_pos rfl]
    have : ns[k]? = some ns[k] := List.getElem?_eq_getElem (by omega)
    rw [atI_nat this]
    exact ⟨_, rfl⟩
  · rw [decide_eq_false h, if_neg (by decide)]
    have hc : ∃ c, r_law_cell (ns, 0, ()) = some c := by
      unfold r_law_cell b_law_cell
      simp only [Option.bind_some]
      by_cases h0 : (0 : Int) < (ns.length : Int)
      · rw [decide_eq_true h0, if_pos rfl]
        have : ns[0]? = some ns[0] := List.getElem?_eq_getElem (by omega)
        rw [show atI ns 0 = some ns[0] from atI_nat (i := 0) this]
        exact ⟨_, rfl⟩
      · rw [decide_eq_false h0, if_neg (by decide)]
        exact ⟨_, rfl⟩
    obtain ⟨c, hc⟩ := hc
    rw [hc]
    simp only [Option.bind_some]
    obtain ⟨xs, e, hl, _⟩ := digits_eq (c + 101 * (k : Int) + 7) 1 1000000000 (by decide) (by decide) (by decide) (by decide)
    rw [e, Option.bind_some]
    have : xs[0]? = some xs[0] := List.getElem?_eq_getElem (by omega)
    rw [show atI xs 0 = some xs[0] from atI_nat (i := 0) this]
    exact ⟨_, rfl⟩
theorem digit_at {xs : List Int} {n i : Nat} (h : (xs.length : Int) = n) (hi : i < n) : ∃ z, atI xs (i : Int) = some z ∧ z ∈ xs :=
  ⟨xs[i], atI_nat (List.getElem?_eq_getElem (by omega)), List.getElem_mem _⟩
theorem digit_atI {xs : List Int} {n i : Int} (h : (xs.length : Int) = n) (h0 : 0 ≤ i) (hi : i < n) : ∃ z, atI xs i = some z ∧ z ∈ xs := by
  obtain ⟨k, rfl⟩ := Int.eq_ofNat_of_zero_le h0
  exact digit_at (n := n.toNat) (by omega) (by omega)
theorem prices_eq (cell n choice : Int) (h1 : 1 ≤ n) (h2 : n ≤ 16) : ∃ p, r_law_prices (cell, n, choice, ()) = some p ∧ (p.length : Int) = n ∧ ∀ x ∈ p, 1 ≤ x := by
  obtain ⟨xs, e, hl, hx⟩ := digits_eq cell n 1000000000 (by decide) (by decide) (by omega) (by omega)
  unfold r_law_prices b_law_prices
  simp only [Option.bind_some, e]
  by_cases c0 : choice = 0
  · rw [decide_eq_true c0, if_pos rfl]
    refine ⟨List.flatten (List.replicate n.toNat [1]), ?_, ?_, fun x hm => ?_⟩
    · rw [show repM [(1 : Int)] n = some (List.flatten (List.replicate n.toNat [1])) from if_pos ⟨by omega, by omega, by decide⟩]
      rfl
    · simp; omega
    · simp at hm; omega
  · rw [decide_eq_false c0, if_neg (by decide)]
    by_cases c1 : choice = 1
    · rw [decide_eq_true c1, if_pos rfl, lcM_eqT (f := fun x : Int => 1 + x % 3) fun x hx => rfl]
      refine ⟨_, rfl, by rw [List.length_map]; exact hl, fun x hm => ?_⟩
      obtain ⟨y, _, rfl⟩ := List.mem_map.mp hm
      have := Int.emod_nonneg y (b := 3) (by decide)
      omega
    · rw [decide_eq_false c1, if_neg (by decide)]
      by_cases c2 : choice = 2
      · rw [decide_eq_true c2, if_pos rfl, lcM_eqT (f := fun x : Int => 1 + x % 9) fun x hx => rfl]
        refine ⟨_, rfl, by rw [List.length_map]; exact hl, fun x hm => ?_⟩
        obtain ⟨y, _, rfl⟩ := List.mem_map.mp hm
        have := Int.emod_nonneg y (b := 9) (by decide)
        omega
      · rw [decide_eq_false c2, if_neg (by decide), lcM_eqT (f := fun x : Int => 1 + x) fun x hx => rfl]
        refine ⟨_, rfl, by rw [List.length_map]; exact hl, fun x hm => ?_⟩
        obtain ⟨y, hy, rfl⟩ := List.mem_map.mp hm
        have := hx y hy
        omega
structure GOk (n : Int) (g : List Int) : Prop where
  ne : g ≠ []
  pw : g.Pairwise (· < ·)
  at_ : ∀ x ∈ g, 0 ≤ x ∧ x < n
theorem rangeI_pw (n : Int) : (rangeI 0 n).Pairwise (· < ·) := by
  unfold rangeI
  rw [List.pairwise_map]
  exact List.Pairwise.imp (fun h => by omega) List.pairwise_lt_range
theorem rangeI_mem {n x : Int} (h : x ∈ rangeI 0 n) : 0 ≤ x ∧ x < n := by
  unfold rangeI at h
  obtain ⟨i, hi, rfl⟩ := List.mem_map.mp h
  rw [List.mem_range] at hi
  omega
theorem gates_eq (cell n : Int) (h1 : 1 ≤ n) (h2 : n ≤ 16) : ∃ g, r_law_gates (cell, n, ()) = some g ∧ GOk n g := by
  obtain ⟨xs, e, hl, hx⟩ := digits_eq cell (n + 1) 55440 (by decide) (by decide) (by omega) (by omega)
  unfold r_law_gates b_law_gates
  simp only [Option.bind_some, e]
  obtain ⟨z, hz, _⟩ := digit_atI (i := 0) hl (by decide) (by omega)
  rw [hz]
  simp only [Option.bind_some]
  rw [rngM_eq (lo := 0) (hi := n) (by omega) (by omega) (by omega) (by omega) (by omega)]
  by_cases c : z / 40 % 2 = 1
  · rw [decide_eq_true c, if_pos rfl]
    refine ⟨_, rfl, fun h => ?_, rangeI_pw n, fun x hx => rangeI_mem hx⟩
    have := congrArg List.length h
    rw [rangeI_len] at this
    simp at this
    omega
  · rw [decide_eq_false c, if_neg (by decide), Option.bind_some]
    rw [lcM_filter (p := fun x : Int => decide (((atI xs (1 + x)).getD 0) % 2 = 0)) fun x hx => by
      have := rangeI_mem hx
      obtain ⟨y, hy, _⟩ := digit_atI (i := 1 + x) hl (by omega) (by omega)
      rw [hy]
      rfl]
    simp only [Option.bind_some]
    by_cases c2 : ((((rangeI 0 n).filter fun x : Int => decide (((atI xs (1 + x)).getD 0) % 2 = 0)).length : Int)) = 0
    · rw [decide_eq_true c2, if_pos rfl, modM_pos (by omega)]
      refine ⟨_, rfl, by simp, by simp, fun x hx => ?_⟩
      rw [List.mem_singleton] at hx
      rw [hx]
      exact ⟨Int.emod_nonneg _ (by omega), Int.emod_lt_of_pos _ (by omega)⟩
    · rw [decide_eq_false c2, if_neg (by decide)]
      refine ⟨_, rfl, fun h => c2 (by rw [h]; rfl), (rangeI_pw n).filter _, fun x hx => rangeI_mem (List.mem_filter.mp hx).1⟩
structure DOk (g : List Int) (most : Int) (stays : List (Int × Int)) : Prop where
  door : ∀ q ∈ stays, q.1 ∈ g
  le : ∀ q ∈ stays, 1 ≤ q.2 ∧ q.2 ≤ most
theorem drawn_eq (cell count most : Int) (g : List Int) (hg : g ≠ []) (h1 : 0 ≤ count) (h2 : count ≤ 100) (h3 : 1 ≤ most) : ∃ stays, r_law_drawn (cell, g, count, most, ()) = some stays ∧ DOk g most stays ∧ (stays.length : Int) = count := by
  obtain ⟨xs, e, hl, hx⟩ := digits_eq cell (3 * count) 55440 (by decide) (by decide) (by omega) (by omega)
  have hgl := List.length_pos_iff.mpr hg
  suffices h : ∃ stays, r_law_drawn (cell, g, count, most, ()) = some stays ∧ (stays.length = (rangeI 0 count).length ∧ DOk g most stays) by
    obtain ⟨stays, h1, h2, h3⟩ := h
    rw [rangeI_len] at h2
    exact ⟨stays, h1, h3, by omega⟩
  unfold r_law_drawn b_law_drawn
  simp only [Option.bind_some, e]
  rw [rngM_eq (lo := 0) (hi := count) (by omega) (by omega) (by omega) (by omega) (by omega), Option.bind_some]
  obtain ⟨s, e2, hP⟩ := forM_run (S := List (Int × Int)) (L := Empty) (ρ := List (Int × Int)) (xs := rangeI 0 count) (s0 := ([] : List (Int × Int)))
    (b := fun (x4 : Int) (s3 : List (Int × Int)) => (if decide (x4 > 0) = true then (((atI xs (3 * x4)).bind fun x => some (x, ())).bind fun x : Int × Unit => some x.1).bind (fun x => some (x % 4)) |>.bind (fun x => some (decide (x = 1))) else some false).bind fun q => if q = true then
      (((((atI xs (3 * x4 + 1)).bind fun x => some (x, ())).bind fun x : Int × Unit => some x.1).bind fun x => modM x x4).bind fun j => atI s3 j).bind fun y => (appM s3 y).bind fun t => some (Oc.nx t)
      else (((((((atI xs (3 * x4 + 1)).bind fun x => some (x, ())).bind fun x : Int × Unit => some x.1).bind fun x => modM x (g.length : Int)).bind fun i => atI g i).bind fun x => (((((atI xs (3 * x4 + 2)).bind fun x => some (x, ())).bind fun x : Int × Unit => some x.1).bind fun x => modM x most).bind fun y => some (1 + y)).bind fun y => some (x, y))).bind fun y => (appM s3 y).bind fun t => some (Oc.nx t))
    (fun pre s => s.length = pre.length ∧ DOk g most s) ⟨rfl, ⟨(fun q hq => nomatch hq), (fun q hq => nomatch hq)⟩⟩ (fun pre x q hxx s hP => by
      obtain ⟨hsl, hP⟩ := hP
      have hxm : x ∈ rangeI 0 count := by rw [hxx]; simp
      have hxb := rangeI_mem hxm
      have hxi : x = (pre.length : Int) := by
        have h9 : (rangeI 0 count)[pre.length]? = some x := by rw [hxx]; simp
        rw [rangeI_at (by have := congrArg List.length hxx; rw [rangeI_len] at this; simp at this; omega)] at h9
        have := Option.some.inj h9
        omega
      have hadd : ∀ y : Int × Int, y.1 ∈ g → 1 ≤ y.2 ∧ y.2 ≤ most → DOk g most (s ++ [y]) := fun y k1 k2 => ⟨fun q hq => by
        rcases List.mem_append.mp hq with h | h
        · exact hP.door q h
        · rw [List.mem_singleton] at h; rw [h]; exact k1, fun q hq => by
        rcases List.mem_append.mp hq with h | h
        · exact hP.le q h
        · rw [List.mem_singleton] at h; rw [h]; exact k2⟩
      have happ : ∀ y : Int × Int, appM s y = some (s ++ [y]) := fun y => appM_eq (by omega) y
      obtain ⟨d0, k0, _⟩ := digit_atI (i := 3 * x) hl (by omega) (by omega)
      obtain ⟨d1, k1, _⟩ := digit_atI (i := 3 * x + 1) hl (by omega) (by omega)
      obtain ⟨d2, k2, _⟩ := digit_atI (i := 3 * x + 2) hl (by omega) (by omega)
      simp only [k0, k1, k2, Option.bind_some, happ]
      obtain ⟨c, hc, hcx⟩ : ∃ c, (if decide (x > 0) = true then some (decide (d0 % 4 = 1)) else some false) = some c ∧ (c = true → 0 < x) := by
        by_cases h : x > 0
        · rw [decide_eq_true h, if_pos rfl]; exact ⟨_, rfl, fun _ => h⟩
        · rw [decide_eq_false h, if_neg (by decide)]; exact ⟨_, rfl, fun z => nomatch z⟩
      rw [hc, Option.bind_some]
      cases c with
      | true =>
        have hx0 := hcx rfl
        rw [if_pos rfl, modM_pos hx0, Option.bind_some]
        have m1 := Int.emod_nonneg d1 (b := x) (by omega)
        have m2 := Int.emod_lt_of_pos d1 hx0
        have hjl : (d1 % x).toNat < s.length := by omega
        rw [atI_int m1 (List.getElem?_eq_getElem hjl), Option.bind_some]
        have hm := List.getElem_mem hjl
        exact ⟨_, rfl, by simp [hsl], hadd _ (hP.door _ hm) (hP.le _ hm)⟩
      | false =>
        rw [if_neg (by decide), modM_pos (by omega), Option.bind_some]
        have m1 := Int.emod_nonneg d1 (b := (g.length : Int)) (by omega)
        have m2 := Int.emod_lt_of_pos d1 (b := (g.length : Int)) (by omega)
        have hjl : (d1 % (g.length : Int)).toNat < g.length := by omega
        rw [atI_int m1 (List.getElem?_eq_getElem hjl), Option.bind_some, modM_pos (by omega), Option.bind_some, Option.bind_some, Option.bind_some]
        have m3 := Int.emod_nonneg d2 (b := most) (by omega)
        have m4 := Int.emod_lt_of_pos d2 (b := most) (by omega)
        exact ⟨_, rfl, by simp [hsl], hadd _ (List.getElem_mem hjl) ⟨by dsimp only; omega, by dsimp only; omega⟩⟩)
  exact ⟨s, (congrArg (fun o => Option.bind (Option.bind o (Oc.seq fun s7 : List (Int × Int) => some (Oc.rt (S := Empty) (L := Empty) s7))) Oc.out) e2), hP⟩
end F57

end
/-! ## M57m.lean -/
section
set_option Elab.async false
set_option linter.all false
set_option maxRecDepth 100000
set_option maxHeartbeats 4000000
/-! k57, the plain law, part M: the law answers True. -/
namespace F57
open CT R57
open L2 (atI)
theorem size_app : ∀ (k : List (Int × Int)) (q : Int × Int), size (k ++ [q]) = size k * (q.2.toNat + 1)
  | [], q => by show (q.2.toNat + 1) * 1 = 1 * (q.2.toNat + 1); omega
  | r :: k, q => by
    show (r.2.toNat + 1) * size (k ++ [q]) = (r.2.toNat + 1) * size k * (q.2.toNat + 1)
    rw [size_app k q, Nat.mul_assoc]
theorem few_runs_eq {n : Nat} {drawn : List (Int × Int)} {room : Int} (h1 : room ≤ 5000) (h2 : drawn.length ≤ 50) (h3 : ∀ q ∈ drawn, 1 ≤ q.2 ∧ q.2 ≤ 1000) : ∃ kept, r_law_few_runs (rowsOf n drawn, room, ()) = some (rowsOf n kept) ∧ (∀ q ∈ kept, q ∈ drawn) ∧ size kept ≤ 5000 ∧ kept.length ≤ 50 := by
  suffices h : ∃ s : Int × List (List Int), r_law_few_runs (rowsOf n drawn, room, ()) = some s.2 ∧ ∃ kept, (∀ q ∈ kept, q ∈ drawn) ∧ s.2 = rowsOf n kept ∧ s.1 = (size kept : Int) ∧ size kept ≤ 5000 ∧ kept.length ≤ (rowsOf n drawn).length by
    obtain ⟨s, e, kept, g1, g2, g3, g4, g5⟩ := h
    rw [rows_len] at g5
    exact ⟨kept, by rw [e, g2], g1, g4, by omega⟩
  unfold r_law_few_runs b_law_few_runs
  simp only [Option.bind_some]
  obtain ⟨s, e, hP⟩ := forM_run (S := Int × List (List Int)) (L := Empty) (ρ := List (List Int)) (xs := rowsOf n drawn) (s0 := ((1 : Int), ([] : List (List Int))))
    (b := fun (x4 : List Int) (s3 : Int × List (List Int)) => ((mulM s3.1 ((x4.length : Int) + 1)).bind fun x => some (decide (x ≤ room))).bind fun q => if q = true then (appM s3.2 x4).bind fun k => (mulM s3.1 ((x4.length : Int) + 1)).bind fun t => some (Oc.nx (t, k)) else some (Oc.nx (s3.1, s3.2)))
    (fun pre s => ∃ kept, (∀ q ∈ kept, q ∈ drawn) ∧ s.2 = rowsOf n kept ∧ s.1 = (size kept : Int) ∧ size kept ≤ 5000 ∧ kept.length ≤ pre.length) ⟨[], (fun q hq => nomatch hq), rfl, rfl, by decide, Nat.le_refl _⟩ (fun pre x q hx s hP => by
      obtain ⟨kept, g1, g2, g3, g4, g5⟩ := hP
      have hxm : x ∈ rowsOf n drawn := by rw [hx]; simp
      obtain ⟨d, hd, rfl⟩ := List.mem_map.mp hxm
      have hd2 := h3 d hd
      have hlen : pre.length + (q.length + 1) = drawn.length := by
        have := congrArg List.length hx
        rw [rows_len] at this
        simp at this
        omega
      rw [List.length_map, rangeI_len, show (((d.2 - 0).toNat : Nat) : Int) = d.2 by omega, mulM_eq (.inr (by omega)), Option.bind_some, Option.bind_some]
      by_cases c : s.1 * (d.2 + 1) ≤ room
      · rw [decide_eq_true c, if_pos rfl, appM_eq (by rw [g2, rows_len]; omega), Option.bind_some, Option.bind_some]
        have e1 : ((size (kept ++ [d]) : Nat) : Int) = s.1 * (d.2 + 1) := by
          rw [size_app, Int.natCast_mul, g3, show ((d.2.toNat + 1 : Nat) : Int) = d.2 + 1 by omega]
        refine ⟨_, rfl, kept ++ [d], fun r hr => ?_, ?_, e1.symm, by omega, by simp; omega⟩
        · rcases List.mem_append.mp hr with h | h
          · exact g1 r h
          · rw [List.mem_singleton] at h; rw [h]; exact hd
        · show s.2 ++ [_] = _
          rw [g2]
          simp [rowsOf]
      · rw [decide_eq_false c, if_neg (by decide)]
        exact ⟨_, rfl, kept, g1, g2, g3, g4, by simp; omega⟩)
  exact ⟨s, (congrArg (fun o => Option.bind (Option.bind o (Oc.seq fun s7 : Int × List (List Int) => some (Oc.rt (S := Empty) (L := Empty) s7.2))) Oc.out) e), hP⟩
theorem is_int_eq (z : Int) : r_law_is_int (z, ()) = some true := rfl
theorem filter_none {α : Type} {p : α → Bool} {l : List α} (h : ∀ x ∈ l, p x = false) : l.filter p = [] := by
  rw [List.filter_eq_nil_iff]
  intro x hx
  rw [h x hx]
  decide
theorem plain (ns : List Int) (hlen : ns.length ≤ 63) : r_law (ns, ()) = some true := by
  obtain ⟨c0, s0⟩ := seed_eq ns 0 (by decide)
  obtain ⟨c1, s1⟩ := seed_eq ns 1 (by decide)
  obtain ⟨c2, s2⟩ := seed_eq ns 2 (by decide)
  obtain ⟨c3, s3⟩ := seed_eq ns 3 (by decide)
  obtain ⟨row, e0, hrl, hrow⟩ := digits_eq c0 6 55440 (by decide) (by decide) (by decide) (by decide)
  obtain ⟨d0, k0, _⟩ := digit_atI (i := 0) hrl (by decide) (by decide)
  obtain ⟨d1, k1, _⟩ := digit_atI (i := 1) hrl (by decide) (by decide)
  obtain ⟨d2, k2, _⟩ := digit_atI (i := 2) hrl (by decide) (by decide)
  obtain ⟨d3, k3, _⟩ := digit_atI (i := 3) hrl (by decide) (by decide)
  obtain ⟨d4, k4, _⟩ := digit_atI (i := 4) hrl (by decide) (by decide)
  obtain ⟨sz, hsz, hszm⟩ := digit_atI (xs := [1, 2, 3, 4, 5, 2, 3, 4]) (n := 8) (i := d0 % 8) rfl (Int.emod_nonneg _ (by decide)) (Int.emod_lt_of_pos _ (by decide))
  have hsz2 : 1 ≤ sz ∧ sz ≤ 5 := by simp at hszm; omega
  obtain ⟨p, e1, hpl, hp1⟩ := prices_eq c1 sz (d1 % 4) (by omega) (by omega)
  obtain ⟨g, e2, hg⟩ := gates_eq c2 sz (by omega) (by omega)
  obtain ⟨ct, hct, hctm⟩ := digit_atI (xs := [0, 1, 2, 3, 2, 3]) (n := 6) (i := d2 % 6) rfl (Int.emod_nonneg _ (by decide)) (Int.emod_lt_of_pos _ (by decide))
  have hct2 : 0 ≤ ct ∧ ct ≤ 3 := by simp at hctm; omega
  have hp : p ≠ [] := fun h => by rw [h] at hpl; simp at hpl; omega
  have hn0 : 0 < p.length := List.length_pos_iff.mpr hp
  unfold r_law b_law
  simp only [Option.bind_some, show r_law_seed (ns, 0, ()) = some c0 from s0, show r_law_seed (ns, 1, ()) = some c1 from s1, show r_law_seed (ns, 2, ()) = some c2 from s2, show r_law_seed (ns, 3, ()) = some c3 from s3, e0, k0, k1, k2, k3, k4, hsz, e1, e2, hct]
  -- how many, and the room
  obtain ⟨cr, hcr, hcr2⟩ : ∃ cr : Int × Int, (if decide (d3 % 8 = 1) = true then some (Oc.nx (L := Empty) (ρ := Bool) ((4 : Int) + d2 / 6 % 2, (100 : Int))) else some (Oc.nx (ct, (360 : Int)))) = some (Oc.nx cr) ∧ 0 ≤ cr.1 ∧ cr.1 ≤ 5 ∧ cr.2 ≤ 360 := by
    have := Int.emod_nonneg (d2 / 6) (b := 2) (by decide)
    have := Int.emod_lt_of_pos (d2 / 6) (b := 2) (by decide)
    split
    · exact ⟨_, rfl, by dsimp only; omega, by dsimp only; omega, by dsimp only; omega⟩
    · exact ⟨_, rfl, by dsimp only; omega, by dsimp only; omega, by dsimp only; omega⟩
  obtain ⟨lg, hlg, hlg2⟩ : ∃ lg : Int, (if decide (d4 % 8 = 6) = true then some (Oc.nx (L := Empty) (ρ := Bool) (18 : Int)) else some (Oc.nx (6 : Int))) = some (Oc.nx lg) ∧ 1 ≤ lg ∧ lg ≤ 18 := by
    split
    · exact ⟨_, rfl, by decide, by decide⟩
    · exact ⟨_, rfl, by decide, by decide⟩
  obtain ⟨drawn, e3, hdr, hdl⟩ := drawn_eq c3 cr.1 lg g hg.ne (by omega) (by omega) (by omega)
  have hlines : lcM (fun _ => some true) (fun x15 : Int × Int => (rngM 0 x15.2).bind fun xs => lcM (fun _ => some true) (fun x16 : Int => (modM (x15.1 + x16) sz)) xs) drawn = some (rowsOf p.length drawn) := by
    refine lcM_eqT fun q hq => ?_
    have := hdr.le q hq
    rw [rngM_eq (by omega) (by omega) (by omega) (by omega) (by omega), Option.bind_some]
    refine lcM_eqT fun k hk => ?_
    rw [modM_pos (by omega), hpl]
  obtain ⟨kept, e4, hk1, hk2, hk3⟩ := few_runs_eq (n := p.length) (drawn := drawn) (room := cr.2) (by omega) (by omega) fun q hq => by have := hdr.le q hq; omega
  have hst : StOk p.length kept := ⟨fun q hq => by have := hg.at_ q.1 (hdr.door q (hk1 q hq)); omega, fun q hq => by have := hdr.le q (hk1 q hq); omega⟩
  have hstays : lcM (fun _ => some true) (fun x19 : List Int => (atI x19 0).bind fun x => some (x, (x19.length : Int))) (rowsOf p.length kept) = some kept := by
    rw [lcM_eqT (f := fun r : List Int => ((atI r 0).getD 0, (r.length : Int))) fun r hr => by
      obtain ⟨q, hq, rfl⟩ := List.mem_map.mp hr
      have := hst.le q hq
      rw [show atI ((rangeI 0 q.2).map fun k => (q.1 + k) % (p.length : Int)) 0 = some ((q.1 + ((0 : Nat) : Int)) % (p.length : Int)) from atI_nat (i := 0) (by rw [row_at, if_pos (by omega)])]
      rfl]
    congr 1
    unfold rowsOf
    rw [List.map_map]
    conv => rhs; rw [← List.map_id kept]
    refine List.map_congr_left fun q hq => ?_
    have h5 := hst.le q hq
    have h6 := hst.at_ q hq
    show ((atI ((rangeI 0 q.2).map fun k => (q.1 + k) % (p.length : Int)) 0).getD 0, _) = q
    rw [show atI ((rangeI 0 q.2).map fun k => (q.1 + k) % (p.length : Int)) 0 = some ((q.1 + ((0 : Nat) : Int)) % (p.length : Int)) from atI_nat (i := 0) (by rw [row_at, if_pos (by omega)])]
    refine Prod.ext ?_ ?_
    · show (q.1 + ((0 : Nat) : Int)) % (p.length : Int) = q.1
      rw [show q.1 + ((0 : Nat) : Int) = q.1 by omega, Int.emod_eq_of_lt (by omega) (by omega)]
    · show (((List.map _ (rangeI 0 q.2)).length : Nat) : Int) = q.2
      rw [List.length_map, rangeI_len]
      omega
  obtain ⟨due, e5, hdue⟩ := least_ring_eq (p := p) (stays := kept) hp (by omega) hst
  obtain ⟨xs, e6, hxs⟩ := ring_eq (p := p) (g := g) hp (by omega) hp1 hg.ne hg.pw fun x hx => by have := hg.at_ x hx; omega
  obtain ⟨v, o, e7, hv⟩ := least_laying_eq (g := g) (xs := xs) hp (by omega) hxs hst (fun q hq => hdr.door q (hk1 q hq)) (by omega)
  rw [hv.uniq hdue] at e7
  have hL := hdue.least hp hp1 hst
  obtain ⟨dd, fs, e8, hR, hH⟩ := front_heights_eq (stays := kept) hp hp1 hst (by omega) hk2
  obtain ⟨v1, e9, hv1⟩ := hH _ hR.zero
  rw [cfg_zero hst] at hv1
  rw [hv1.uniq hL] at e9
  obtain ⟨v2, w, e10, hv2, hw1, hw2, hw3⟩ := least_row_eq (stays := kept) hp hp1 hst (by omega) hk2
  rw [hv2.uniq hL] at e10 hw2
  have hzero : T (zero (rowsOf p.length kept)) = PySem.W.Tup.mk (List.flatten (List.replicate ((rowsOf p.length kept).length : Int).toNat [(0 : Int)])) := by
    unfold T zero
    rw [List.map_map, Int.toNat_natCast]
    congr 1
    induction rowsOf p.length kept with
    | nil => rfl
    | cons r rs ih => rw [List.map_cons, List.length_cons, List.replicate_succ, List.flatten_cons, ih]; rfl
  simp only [hcr, hlg, Option.bind_some, Oc.seq, e3]
  have hid : ∀ l : List (List Int), lcM (fun _ => some true) (fun x => some x) l = some l := fun l => by
    rw [lcM_filter (p := fun _ => true) fun _ _ => rfl, List.filter_eq_self.mpr (by simp)]
  have hrep : repM [(0 : Int)] ((rowsOf p.length kept).length : Int) = some (List.flatten (List.replicate ((rowsOf p.length kept).length : Int).toNat [(0 : Int)])) := if_pos ⟨by omega, by rw [rows_len]; omega, by decide⟩
  have hget : Dic.get (α := Int) dd (PySem.W.Tup.mk (List.flatten (List.replicate ((rowsOf p.length kept).length : Int).toNat [(0 : Int)]))) = some due := by rw [← hzero]; exact e9
  rw [hlines]
  simp only [Option.bind_some, e4, hstays, e5, show r_Ring_init (ext_Ring (p, g, ())) = some (ring p g xs) from e6, e7, is_int_eq, Bool.not_true, Bool.false_eq_true, if_false, ne_eq, not_true_eq_false, decide_false, hid, e8, hrep, hget, Option.isNone_some, e10, law_ints_eq]
  rw [lcM_filter (p := fun x : Int => false) fun x hx => by
    have := hw1 x hx
    rw [decide_eq_false (by omega), if_neg (by decide), decide_eq_false (by omega)]]
  simp only [Option.bind_some]
  rw [filter_none (fun _ _ => rfl), lcM_eqT (f := PI p) fun x hx => by
    have := hw1 x hx
    have h7 := at_PI hp x
    rw [Int.emod_eq_of_lt (by omega) (by omega)] at h7
    exact h7]
  simp only [Option.bind_some, hw2, law_whole_eq hw3]
  simp
  rfl
end F57

end
/-! ## E57body.lean -/
section
namespace F57
open PySem L2 CT PySem.Spec PyProof.Rows
section
variable {K : Frag} {h : Heap} {mg : Str → Option Value}
theorem Ring_mk {C : Addr} (X : K.In h) (G : h.Ns mainGlobals mg) (D : ClsAt K "Ring" C) (na_size : PySem.W.findIn K (.ref C) "size" = some none) (na_prices : PySem.W.findIn K (.ref C) "prices" = some none) (na_doors : PySem.W.findIn K (.ref C) "doors" = some none) (na_nodes : PySem.W.findIn K (.ref C) "nodes" = some none) (na__sums : PySem.W.findIn K (.ref C) "_sums" = some none) {f Dk : Addr} {oc : Value} {od an : Option Addr} {sl : Array (Option Value)} {dc pm cd ct : Value} (ia : PySem.W.findIn K (.ref C) "__init__" = some (some (.ref f))) (ii : PySem.W.isFn K (.ref f) = true) (il : K.lookup f = some ⟨oc, od, .func (PySem.W.fnOf "__init__" "Ring.__init__" (defArgs s_Ring_init) (defBody s_Ring_init) (defScope s_Ring_init) .none (.ref Dk) dc pm an cd ct), sl⟩) (ic : PySem.W.codeIn K cd "Ring.__init__" = true) (ik : PySem.W.keepIn K (.ref f) = true) (kw_nodes : PySem.W.nsIn K Dk "nodes" = some (some .none)) (M_whole : MetAt K C "whole" "Ring.whole" s_Ring_whole) : ∃ C, L2.Cls K C ∧ NoAttr K C "size" ∧ NoAttr K C "prices" ∧ NoAttr K C "doors" ∧ NoAttr K C "nodes" ∧ NoAttr K C "_sums" ∧ (∃ f fd ds, FunD K "__init__" "Ring.__init__" (defArgs s_Ring_init) (defBody s_Ring_init) (defScope s_Ring_init) [] [("nodes", V.non)] f fd ∧ Mk K C f ∧ mg "Ring" = some (.ref C) ∧ Binds K fd ["self", "prices", "doors", "nodes"] ds ∧ Vals [V.non] ds) ∧ (∃ f fd, Fun K "whole" "Ring.whole" s_Ring_whole f fd ∧ Meth K C "whole" f ∧ Binds K fd ["self"] []) :=
  ⟨C, ⟨D.pg, D.hd, D.po, D.sa⟩, na_size, na_prices, na_doors, na_nodes, na__sums, init_txtK X G D ia ii il ic ik (kws := [("nodes", V.non)]) (fun q hq => by simp only [List.mem_cons, List.not_mem_nil, or_false] at hq; subst hq; exact ⟨_, kw_nodes, rfl⟩) 3 (by simp) rfl (fun _ _ _ _ _ _ us ks hl hk => match us, hl, ks, hk with | [_, _, _], _, [_], _ => ⟨_, _, _, _, _, _, rfl, rfl, rfl⟩), M_whole.txt (fun _ _ _ _ _ _ us hl => match us, hl with | [_], _ => rfl)⟩
theorem txt_mk (X : K.In h) (G : h.Ns mainGlobals mg) (b_abs : PySem.W.nsIn K mainGlobals "abs" = some none) (b_bool : PySem.W.nsIn K mainGlobals "bool" = some none) (b_dict : PySem.W.nsIn K mainGlobals "dict" = some none) (b_enumerate : PySem.W.nsIn K mainGlobals "enumerate" = some none) (b_int : PySem.W.nsIn K mainGlobals "int" = some none) (b_isinstance : PySem.W.nsIn K mainGlobals "isinstance" = some none) (b_len : PySem.W.nsIn K mainGlobals "len" = some none) (b_list : PySem.W.nsIn K mainGlobals "list" = some none) (b_max : PySem.W.nsIn K mainGlobals "max" = some none) (b_min : PySem.W.nsIn K mainGlobals "min" = some none) (b_range : PySem.W.nsIn K mainGlobals "range" = some none) (b_set : PySem.W.nsIn K mainGlobals "set" = some none) (b_sorted : PySem.W.nsIn K mainGlobals "sorted" = some none) (b_sum : PySem.W.nsIn K mainGlobals "sum" = some none) (b_tuple : PySem.W.nsIn K mainGlobals "tuple" = some none) (c_MOST_FRONTS : ∃ t, PySem.W.nsIn K mainGlobals "MOST_FRONTS" = some (some (.int 5000 t))) (K_Ring : ∃ C, L2.Cls K C ∧ NoAttr K C "size" ∧ NoAttr K C "prices" ∧ NoAttr K C "doors" ∧ NoAttr K C "nodes" ∧ NoAttr K C "_sums" ∧ (∃ f fd ds, FunD K "__init__" "Ring.__init__" (defArgs s_Ring_init) (defBody s_Ring_init) (defScope s_Ring_init) [] [("nodes", V.non)] f fd ∧ Mk K C f ∧ mg "Ring" = some (.ref C) ∧ Binds K fd ["self", "prices", "doors", "nodes"] ds ∧ Vals [V.non] ds) ∧ (∃ f fd, Fun K "whole" "Ring.whole" s_Ring_whole f fd ∧ Meth K C "whole" f ∧ Binds K fd ["self"] [])) (d_check_fronts : DefAt K "check_fronts" s_check_fronts) (d_zeros : DefAt K "zeros" s_zeros) (d_steps : DefAt K "steps" s_steps) (d_reachable : DefAt K "reachable" s_reachable) (d_height : DefAt K "height" s_height) (d_front_heights : DefAt K "front_heights" s_front_heights) (d_least_row : DefAt K "least_row" s_least_row) (d_distinct : DefAt K "distinct" s_distinct) (d_check_ring : DefAt K "check_ring" s_check_ring) (d_sums_of : DefAt K "sums_of" s_sums_of) (d_check_stays : DefAt K "check_stays" s_check_stays) (d_laid : DefAt K "laid" s_laid) (d_pieces : DefAt K "pieces" s_pieces) (d_piece_price : DefAt K "piece_price" s_piece_price) (d_laid_price : DefAt K "laid_price" s_laid_price) (d_least_laying : DefAt K "least_laying" s_least_laying) (d_law_cell : DefAt K "_law_cell" s_law_cell) (d_law_digits : DefAt K "_law_digits" s_law_digits) (d_law_seed : DefAt K "_law_seed" s_law_seed) (d_law_union : DefAt K "_law_union" s_law_union) (d_law_least_ring : DefAt K "_law_least_ring" s_law_least_ring) (d_law_prefix : DefAt K "_law_prefix" s_law_prefix) (d_law_is_int : DefAt K "_law_is_int" s_law_is_int) (d_law_ints : DefAt K "_law_ints" s_law_ints) (d_law_whole : DefAt K "_law_whole" s_law_whole) (d_law_few_runs : DefAt K "_law_few_runs" s_law_few_runs) (d_law_prices : DefAt K "_law_prices" s_law_prices) (d_law_gates : DefAt K "_law_gates" s_law_gates) (d_law_drawn : DefAt K "_law_drawn" s_law_drawn) (d_law : DefAt K "law" s_law) : ∃ c : CT.Cls, Txt K mg c := by
  obtain ⟨cRing, qRing0, qRing1, qRing2, qRing3, qRing4, qRing5, qRing6, qRing7⟩ := K_Ring
  exact ⟨fun n => cRing, PySem.W.mg_none_of X G b_abs, PySem.W.mg_none_of X G b_bool, PySem.W.mg_none_of X G b_dict, PySem.W.mg_none_of X G b_enumerate, PySem.W.mg_none_of X G b_int, PySem.W.mg_none_of X G b_isinstance, PySem.W.mg_none_of X G b_len, PySem.W.mg_none_of X G b_list, PySem.W.mg_none_of X G b_max, PySem.W.mg_none_of X G b_min, PySem.W.mg_none_of X G b_range, PySem.W.mg_none_of X G b_set, PySem.W.mg_none_of X G b_sorted, PySem.W.mg_none_of X G b_sum, PySem.W.mg_none_of X G b_tuple, c_MOST_FRONTS.elim fun t z => ⟨t, PySem.W.mg_of X G z⟩, qRing0, qRing1, qRing2, qRing3, qRing4, qRing5, d_check_fronts.txt X G (fun _ _ _ _ _ _ us hl => match us, hl with | [_], _ => rfl), d_zeros.txt X G (fun _ _ _ _ _ _ us hl => match us, hl with | [_], _ => rfl), d_steps.txt X G (fun _ _ _ _ _ _ us hl => match us, hl with | [_, _], _ => rfl), d_reachable.txt X G (fun _ _ _ _ _ _ us hl => match us, hl with | [_], _ => rfl), d_height.txt X G (fun _ _ _ _ _ _ us hl => match us, hl with | [_, _, _, _], _ => rfl), d_front_heights.txt X G (fun _ _ _ _ _ _ us hl => match us, hl with | [_, _], _ => rfl), d_least_row.txt X G (fun _ _ _ _ _ _ us hl => match us, hl with | [_, _], _ => rfl), d_distinct.txt X G (fun _ _ _ _ _ _ us hl => match us, hl with | [_], _ => rfl), d_check_ring.txt X G (fun _ _ _ _ _ _ us hl => match us, hl with | [_, _, _], _ => rfl), d_sums_of.txt X G (fun _ _ _ _ _ _ us hl => match us, hl with | [_], _ => rfl), qRing6, qRing7, d_check_stays.txt X G (fun _ _ _ _ _ _ us hl => match us, hl with | [_, _], _ => rfl), d_laid.txt X G (fun _ _ _ _ _ _ us hl => match us, hl with | [_, _, _], _ => rfl), d_pieces.txt X G (fun _ _ _ _ _ _ us hl => match us, hl with | [_, _, _], _ => rfl), d_piece_price.txt X G (fun _ _ _ _ _ _ us hl => match us, hl with | [_, _, _], _ => rfl), d_laid_price.txt X G (fun _ _ _ _ _ _ us hl => match us, hl with | [_, _, _], _ => rfl), d_least_laying.txt X G (fun _ _ _ _ _ _ us hl => match us, hl with | [_, _], _ => rfl), d_law_cell.txt X G (fun _ _ _ _ _ _ us hl => match us, hl with | [_, _], _ => rfl), d_law_digits.txt X G (fun _ _ _ _ _ _ us hl => match us, hl with | [_, _, _], _ => rfl), d_law_seed.txt X G (fun _ _ _ _ _ _ us hl => match us, hl with | [_, _], _ => rfl), d_law_union.txt X G (fun _ _ _ _ _ _ us hl => match us, hl with | [_, _, _], _ => rfl), d_law_least_ring.txt X G (fun _ _ _ _ _ _ us hl => match us, hl with | [_, _], _ => rfl), d_law_prefix.txt X G (fun _ _ _ _ _ _ us hl => match us, hl with | [_, _], _ => rfl), d_law_is_int.txt X G (fun _ _ _ _ _ _ us hl => match us, hl with | [_], _ => rfl), d_law_ints.txt X G (fun _ _ _ _ _ _ us hl => match us, hl with | [_], _ => rfl), d_law_whole.txt X G (fun _ _ _ _ _ _ us hl => match us, hl with | [_, _], _ => rfl), d_law_few_runs.txt X G (fun _ _ _ _ _ _ us hl => match us, hl with | [_, _], _ => rfl), d_law_prices.txt X G (fun _ _ _ _ _ _ us hl => match us, hl with | [_, _, _], _ => rfl), d_law_gates.txt X G (fun _ _ _ _ _ _ us hl => match us, hl with | [_, _], _ => rfl), d_law_drawn.txt X G (fun _ _ _ _ _ _ us hl => match us, hl with | [_, _, _, _], _ => rfl), d_law.txt X G (fun _ _ _ _ _ _ us hl => match us, hl with | [_], _ => rfl)⟩
end
theorem walk {l : PySem.W.OpenLaw} {q : Program} {loose : List Str} {XP : (Str → Option Value) → Heap → Prop} {YP : World → Heap → Prop} {d : DefRec} {K : Params → PySem.W.Frag} (hn : l.most = some 63) (hdf : d.params.defaults = []) (hnm : d.name = "law")
    (hY : ∀ (w : World) (h : Heap), YP w h → (K w.params).In h)
    (F : ∀ (w : World) (mg : Str → Option Value) (h : Heap), (K w.params).In h → h.Ns mainGlobals mg → ∃ c : CT.Cls, Txt (K w.params) mg c) :
    PySem.W.WalkO q loose XP YP l.row.toRowW d [] (fun f vs => PySem.call f vs) :=
  L2.walk_of (n := 63) (k := 5) (x := "_law_script") (CX := fun _ => CX0) (sp := fun w => spEnd 63 (K w.params)) hn (by decide) hdf ⟨rfl, by decide, by decide⟩ hY (fun w mg fa h X G hmg => by
    obtain ⟨c, T⟩ := F w mg h X G
    obtain ⟨f, fd, F1, hg, hB⟩ := T.d_law
    rw [hnm] at hmg
    cases hmg.symm.trans hg
    obtain ⟨_, _, _, _, _, _, _, _, _, rfl, _, _⟩ := id F1.ex
    exact ⟨_, fun s v => .of_eq rfl, fun base _ _ => law_sp (ok_law T F1) (by decide) plain⟩) (fun _ _ a ns hl _ hS => ⟨a, ns, rfl, hS, hl, fun _ => rfl⟩) fun _ _ _ _ _ z => z
end F57
open PySem PySem.W PyProof.Rows
set_option maxRecDepth 100000 in
set_option maxHeartbeats 0 in
theorem PySem.Challenge.cw_foreworth_k57_whole_least_two_ways_holds : PySem.Challenge.rw_foreworth_k57_whole_least_two_ways.Holds := by
  w_on; o_law; k_head; (case hw => w_witness2)
  k_fill
  refine F57.walk (l := PySem.Challenge.rw_foreworth_k57_whole_least_two_ways) rfl rfl rfl (fun w h Y => PySem.W.kIn_of Y) ?F
  case F =>
    intro w mg h KX G
    have b_abs := CT.b_mk KX "abs" (by k_is)
    have b_bool := CT.b_mk KX "bool" (by k_is)
    have b_dict := CT.b_mk KX "dict" (by k_is)
    have b_enumerate := CT.b_mk KX "enumerate" (by k_is)
    have b_int := CT.b_mk KX "int" (by k_is)
    have b_isinstance := CT.b_mk KX "isinstance" (by k_is)
    have b_len := CT.b_mk KX "len" (by k_is)
    have b_list := CT.b_mk KX "list" (by k_is)
    have b_max := CT.b_mk KX "max" (by k_is)
    have b_min := CT.b_mk KX "min" (by k_is)
    have b_range := CT.b_mk KX "range" (by k_is)
    have b_set := CT.b_mk KX "set" (by k_is)
    have b_sorted := CT.b_mk KX "sorted" (by k_is)
    have b_sum := CT.b_mk KX "sum" (by k_is)
    have b_tuple := CT.b_mk KX "tuple" (by k_is)
    have c_MOST_FRONTS := by
      refine' CT.c_mk KX "MOST_FRONTS" 5000 ?a
      (case a => k_is)
    have K_Ring := by
      refine' F57.Ring_mk (mg := mg) KX G ⟨?cat, ?pg, ?hd, ?po, ?sa, ?mk, ?kc⟩ ?na_size ?na_prices ?na_doors ?na_nodes ?na__sums ?ia ?ii ?il ?ic ?ik ?kw_nodes (CT.met_mk ?a0 ?i0 ?l0 ?c0 ?k0)
      (case cat => k_is)
      (case pg => k_is)
      (case hd => k_is)
      (case po => k_is)
      (case sa => k_is)
      (case mk => k_is)
      (case kc => k_is)
      (case na_size => k_is)
      (case na_prices => k_is)
      (case na_doors => k_is)
      (case na_nodes => k_is)
      (case na__sums => k_is)
      (case ia => k_is)
      (case ii => k_is)
      (case il => k_is)
      (case ic => k_is)
      (case ik => k_is)
      (case kw_nodes => k_is)
      (case a0 => k_is)
      (case i0 => k_is)
      (case l0 => k_is)
      (case c0 => k_is)
      (case k0 => k_is)
    have d_check_fronts := by
      refine' CT.def_mk KX "check_fronts" F57.s_check_fronts ?a ?l ?c ?k
      (case a => k_is)
      (case l => k_is)
      (case c => k_is)
      (case k => k_is)
    have d_zeros := by
      refine' CT.def_mk KX "zeros" F57.s_zeros ?a ?l ?c ?k
      (case a => k_is)
      (case l => k_is)
      (case c => k_is)
      (case k => k_is)
    have d_steps := by
      refine' CT.def_mk KX "steps" F57.s_steps ?a ?l ?c ?k
      (case a => k_is)
      (case l => k_is)
      (case c => k_is)
      (case k => k_is)
    have d_reachable := by
      refine' CT.def_mk KX "reachable" F57.s_reachable ?a ?l ?c ?k
      (case a => k_is)
      (case l => k_is)
      (case c => k_is)
      (case k => k_is)
    have d_height := by
      refine' CT.def_mk KX "height" F57.s_height ?a ?l ?c ?k
      (case a => k_is)
      (case l => k_is)
      (case c => k_is)
      (case k => k_is)
    have d_front_heights := by
      refine' CT.def_mk KX "front_heights" F57.s_front_heights ?a ?l ?c ?k
      (case a => k_is)
      (case l => k_is)
      (case c => k_is)
      (case k => k_is)
    have d_least_row := by
      refine' CT.def_mk KX "least_row" F57.s_least_row ?a ?l ?c ?k
      (case a => k_is)
      (case l => k_is)
      (case c => k_is)
      (case k => k_is)
    have d_distinct := by
      refine' CT.def_mk KX "distinct" F57.s_distinct ?a ?l ?c ?k
      (case a => k_is)
      (case l => k_is)
      (case c => k_is)
      (case k => k_is)
    have d_check_ring := by
      refine' CT.def_mk KX "check_ring" F57.s_check_ring ?a ?l ?c ?k
      (case a => k_is)
      (case l => k_is)
      (case c => k_is)
      (case k => k_is)
    have d_sums_of := by
      refine' CT.def_mk KX "sums_of" F57.s_sums_of ?a ?l ?c ?k
      (case a => k_is)
      (case l => k_is)
      (case c => k_is)
      (case k => k_is)
    have d_check_stays := by
      refine' CT.def_mk KX "check_stays" F57.s_check_stays ?a ?l ?c ?k
      (case a => k_is)
      (case l => k_is)
      (case c => k_is)
      (case k => k_is)
    have d_laid := by
      refine' CT.def_mk KX "laid" F57.s_laid ?a ?l ?c ?k
      (case a => k_is)
      (case l => k_is)
      (case c => k_is)
      (case k => k_is)
    have d_pieces := by
      refine' CT.def_mk KX "pieces" F57.s_pieces ?a ?l ?c ?k
      (case a => k_is)
      (case l => k_is)
      (case c => k_is)
      (case k => k_is)
    have d_piece_price := by
      refine' CT.def_mk KX "piece_price" F57.s_piece_price ?a ?l ?c ?k
      (case a => k_is)
      (case l => k_is)
      (case c => k_is)
      (case k => k_is)
    have d_laid_price := by
      refine' CT.def_mk KX "laid_price" F57.s_laid_price ?a ?l ?c ?k
      (case a => k_is)
      (case l => k_is)
      (case c => k_is)
      (case k => k_is)
    have d_least_laying := by
      refine' CT.def_mk KX "least_laying" F57.s_least_laying ?a ?l ?c ?k
      (case a => k_is)
      (case l => k_is)
      (case c => k_is)
      (case k => k_is)
    have d_law_cell := by
      refine' CT.def_mk KX "_law_cell" F57.s_law_cell ?a ?l ?c ?k
      (case a => k_is)
      (case l => k_is)
      (case c => k_is)
      (case k => k_is)
    have d_law_digits := by
      refine' CT.def_mk KX "_law_digits" F57.s_law_digits ?a ?l ?c ?k
      (case a => k_is)
      (case l => k_is)
      (case c => k_is)
      (case k => k_is)
    have d_law_seed := by
      refine' CT.def_mk KX "_law_seed" F57.s_law_seed ?a ?l ?c ?k
      (case a => k_is)
      (case l => k_is)
      (case c => k_is)
      (case k => k_is)
    have d_law_union := by
      refine' CT.def_mk KX "_law_union" F57.s_law_union ?a ?l ?c ?k
      (case a => k_is)
      (case l => k_is)
      (case c => k_is)
      (case k => k_is)
    have d_law_least_ring := by
      refine' CT.def_mk KX "_law_least_ring" F57.s_law_least_ring ?a ?l ?c ?k
      (case a => k_is)
      (case l => k_is)
      (case c => k_is)
      (case k => k_is)
    have d_law_prefix := by
      refine' CT.def_mk KX "_law_prefix" F57.s_law_prefix ?a ?l ?c ?k
      (case a => k_is)
      (case l => k_is)
      (case c => k_is)
      (case k => k_is)
    have d_law_is_int := by
      refine' CT.def_mk KX "_law_is_int" F57.s_law_is_int ?a ?l ?c ?k
      (case a => k_is)
      (case l => k_is)
      (case c => k_is)
      (case k => k_is)
    have d_law_ints := by
      refine' CT.def_mk KX "_law_ints" F57.s_law_ints ?a ?l ?c ?k
      (case a => k_is)
      (case l => k_is)
      (case c => k_is)
      (case k => k_is)
    have d_law_whole := by
      refine' CT.def_mk KX "_law_whole" F57.s_law_whole ?a ?l ?c ?k
      (case a => k_is)
      (case l => k_is)
      (case c => k_is)
      (case k => k_is)
    have d_law_few_runs := by
      refine' CT.def_mk KX "_law_few_runs" F57.s_law_few_runs ?a ?l ?c ?k
      (case a => k_is)
      (case l => k_is)
      (case c => k_is)
      (case k => k_is)
    have d_law_prices := by
      refine' CT.def_mk KX "_law_prices" F57.s_law_prices ?a ?l ?c ?k
      (case a => k_is)
      (case l => k_is)
      (case c => k_is)
      (case k => k_is)
    have d_law_gates := by
      refine' CT.def_mk KX "_law_gates" F57.s_law_gates ?a ?l ?c ?k
      (case a => k_is)
      (case l => k_is)
      (case c => k_is)
      (case k => k_is)
    have d_law_drawn := by
      refine' CT.def_mk KX "_law_drawn" F57.s_law_drawn ?a ?l ?c ?k
      (case a => k_is)
      (case l => k_is)
      (case c => k_is)
      (case k => k_is)
    have d_law := by
      refine' CT.def_mk KX "law" F57.s_law ?a ?l ?c ?k
      (case a => k_is)
      (case l => k_is)
      (case c => k_is)
      (case k => k_is)
    exact F57.txt_mk KX G b_abs b_bool b_dict b_enumerate b_int b_isinstance b_len b_list b_max b_min b_range b_set b_sorted b_sum b_tuple c_MOST_FRONTS K_Ring d_check_fronts d_zeros d_steps d_reachable d_height d_front_heights d_least_row d_distinct d_check_ring d_sums_of d_check_stays d_laid d_pieces d_piece_price d_laid_price d_least_laying d_law_cell d_law_digits d_law_seed d_law_union d_law_least_ring d_law_prefix d_law_is_int d_law_ints d_law_whole d_law_few_runs d_law_prices d_law_gates d_law_drawn d_law

end
