import PyProof.Rows.All
import Wide.All
import OpenK.AllK
import Wide.FinOn
import HandS.ForMost
import HandS.Evl
import HandS.Wide
import HandS.Flow
import HandS.Exc
import HandS.HeadHook1
import HandS.Defaults
import HandS.HeadHook2
import HandS.IsInst
import HandS.More
import HandS.Walk
import HandS.ListItems
import KE.KEqNest
import HandS.DictEq
import KE.KDictZip
import KE.KRevIter
import HandS.Rev
import KE.KSortTupAny
import HandS.SortKw
import HandS.SortInts
import KE.KDictSum
import KE.KStateDown
import KE.KItemsList
import HandS.TupSets
import HandS.Dict
import KE.DataMinMax
import HandS.Finally
import KE.DatumOrd
import PyProof.DictUpdate
import HandS.Conv
import KE.GoesEnumKw
import KE.GoesEnum
import PyProof.Rows.CountFlat
import HandS.RevTup
import HandS.DictTup
import KE.KDictWalk
import HandS.SetKeys
import HandS.Lambda
import KE.SortKeyHeap
import HandS.EndTab
import HandS.HeadHook4
import HandS.ExcOwn
import HandS.ExcIs
import HandS.TryMany
import HandS.ExcField
import HandS.ExcInit
import HandS.HotCalls
import HandS.TryOnly
import HandS.TupLe
import HandS.Head0
import HandS.Head1
import HandS.Head2
import HandS.HeadEnd
import PySem.Challenge.RW_levelbench_k71_whole_windows_or_a_crowd
set_option Elab.async false
set_option linter.all false
set_option maxRecDepth 100000
set_option maxHeartbeats 4000000
namespace Ly
open PySem PySem.Spec PyProof.Rows L2

/-! heaps -/
def dictO : HO → Prop
  | .dK _ => True
  | .dT _ => True
  | _ => False
/-- a list that is told apart from the others: it belongs to a thing of its own kind -/
abbrev mL (vs : List V) : HO := .frz ⟨.none, none, .fields #[], #[]⟩ (.lst vs)
def rdO : HO → Prop
  | .dK _ => True
  | .dT _ => True
  | .frz _ (.lst _) => True
  | _ => False
theorem rdO_of {o : HO} (h : dictO o) : rdO o := by
  cases o <;> first | exact h | exact h.elim
/-- read at a as o: o itself, or a dict that a walk holds, or a list told apart -/
def Rdd (H : Hp) (a : Addr) (o : HO) : Prop := H a = some o ∨ (dictO o ∧ ∃ ob, H a = some (.frz ob o)) ∨ ∃ vs, o = mL vs ∧ H a = some (.lst vs)
def Sub (F H : Hp) : Prop := ∀ a o, F a = some o → Rdd H a o
def Inc (H H' : Hp) : Prop := ∀ a o, H a = some o → H' a = some o
theorem Inc.refl (H : Hp) : Inc H H := fun _ _ h => h
theorem Inc.trans {A B C : Hp} (x : Inc A B) (y : Inc B C) : Inc A C := fun a o h => y a o (x a o h)
theorem Inc.new {H : Hp} {p : Addr} {o : HO} (h : H p = none) : Inc H (upd H p o) := fun a u e => by
  rw [upd_ne (ne_of_none e h)]; exact e
theorem Rdd.inc {H H' : Hp} {a : Addr} {o : HO} (r : Rdd H a o) (x : Inc H H') : Rdd H' a o := by
  rcases r with r | ⟨d, ob, r⟩ | ⟨vs, e, r⟩
  · exact .inl (x _ _ r)
  · exact .inr (.inl ⟨d, ob, x _ _ r⟩)
  · exact .inr (.inr ⟨vs, e, x _ _ r⟩)
theorem Sub.inc {F H H' : Hp} (s : Sub F H) (x : Inc H H') : Sub F H' := fun a o h => (s a o h).inc x
theorem Inc.sub {F H : Hp} (x : Inc F H) : Sub F H := fun a o h => .inl (x a o h)
theorem Rdd.nd {H : Hp} {a : Addr} {o : HO} (r : Rdd H a o) (h : ¬ rdO o) : H a = some o := by
  rcases r with r | ⟨d, _⟩ | ⟨vs, e, _⟩
  · exact r
  · exact absurd (rdO_of d) h
  · exact absurd (show rdO o by rw [e]; exact True.intro) h
theorem Rdd.ne {H : Hp} {a : Addr} {o : HO} (r : Rdd H a o) : H a ≠ none := by
  rcases r with r | ⟨_, ob, r⟩ | ⟨_, _, r⟩ <;> (rw [r]; intro z; cases z)

theorem nn {H : Hp} {a : Addr} {o : HO} (h : H a = some o) : H a ≠ none := by
  rw [h]; intro z; cases z

/-! what a value stands for -/
class Rp (α : Type) where
  rep : PySem.W.Frag → Hp → V → α → Prop
  mono : ∀ {K : PySem.W.Frag} {H H' : Hp} {v : V} {x : α}, Inc H H' → rep K H v x → rep K H' v x
/-- an object at an address, its parts being frozen -/
class Cl (α : Type) where
  cell : PySem.W.Frag → Hp → HO → α → Prop
  mono : ∀ {K : PySem.W.Frag} {H H' : Hp} {o : HO} {x : α}, Inc H H' → cell K H o x → cell K H' o x
instance (priority := 500) rpCl {α : Type} [Cl α] : Rp α where
  rep K H v (x : α) := ∃ a o, v = .ref a ∧ H a = some o ∧ Cl.cell K H o x
  mono {K H H' v x} i h := by
    obtain ⟨a, o, e, h1, h2⟩ := h
    exact ⟨a, o, e, i _ _ h1, Cl.mono (α := α) i h2⟩
/-- a scalar -/
class Sc (α : Type) where
  toV : α → V
  ok : α → Prop
/-- the most that a list, a text has -/
abbrev big : Nat := 1000000
theorem big_line {n : Nat} (h : n ≤ big) : n ≤ sizeLine := Nat.le_trans h (by decide)
theorem big_lt {n : Nat} (h : n ≤ big) : n < sizeLine := Nat.lt_of_le_of_lt h (by decide)
instance (priority := 600) rpSc {α : Type} [Sc α] : Rp α where
  rep _ _ v (x : α) := v = Sc.toV x ∧ Sc.ok x
  mono _ h := h
instance : Sc Int := ⟨V.int, fun _ => True⟩
instance : Sc Bool := ⟨V.bl, fun _ => True⟩
/-- a text that is not too long, of signs that there are -/
abbrev sbig : Nat := 900000
def sOk (z : Str) : Prop := z.length ≤ sbig ∧ ∀ c ∈ z.cps.toList, c < 1114112
instance (z : Str) : Decidable (sOk z) := inferInstanceAs (Decidable (_ ∧ _))
theorem sOk.line {z : Str} (h : sOk z) : z.length ≤ sizeLine := Nat.le_trans h.1 (by decide)
instance : Sc Str := ⟨V.str, sOk⟩
instance : Sc Unit := ⟨fun _ => V.non, fun _ => True⟩
theorem pairedM {α : Type} [Rp α] {K : PySem.W.Frag} {H H' : Hp} (i : Inc H H') : ∀ {vs : List V} {xs : List α}, Paired (Rp.rep K H) vs xs → Paired (Rp.rep K H') vs xs
  | _, _, .nil => .nil
  | _, _, .cons h t => .cons (Rp.mono i h) (pairedM i t)
instance clList {α : Type} [Rp α] : Cl (List α) where
  cell K H o (xs : List α) := xs.length ≤ big ∧ ∃ vs, o = .lst vs ∧ Paired (Rp.rep K H) vs xs
  mono {K H H' o x} i h := by
    obtain ⟨z, vs, e, h⟩ := h
    exact ⟨z, vs, e, pairedM i h⟩
instance clPair {α β : Type} [Rp α] [Rp β] : Cl (α × β) where
  cell K H o (x : α × β) := ∃ v w, o = .tup [v, w] ∧ Rp.rep K H v x.1 ∧ Rp.rep K H w x.2
  mono {K H H' o x} i h := by
    obtain ⟨v, w, e, h1, h2⟩ := h
    exact ⟨v, w, e, Rp.mono i h1, Rp.mono i h2⟩
def fzP (F H : Hp) (P : List Addr) : Hp := fun a => if a ∈ P then H a else F a
theorem fzP_in {F H : Hp} {P : List Addr} {a : Addr} (h : a ∈ P) : fzP F H P a = H a := by unfold fzP; rw [if_pos h]
theorem fzP_out {F H : Hp} {P : List Addr} {a : Addr} (h : a ∉ P) : fzP F H P a = F a := by unfold fzP; rw [if_neg h]
theorem fzP_inc {F H : Hp} {P : List Addr} (h : ∀ p ∈ P, F p = none) : Inc F (fzP F H P) := fun a o e => by
  by_cases q : a ∈ P
  · rw [h a q] at e; cases e
  · rw [fzP_out q]; exact e
/-- a tuple of keys: it may be held by a dict, and is never one's own -/
abbrev sk (ks : List L2.Key) : HO := .tup (ks.map kV)
def nsk (o : HO) : Prop := ∀ ks, o ≠ sk ks
theorem nskL {vs : List V} : nsk (.lst vs) := fun _ e => by cases e
/-- an object that is one's own, with what belongs to it: P all its addresses -/
class Ow (α : Type) where
  rp : Rp α
  own : PySem.W.Frag → Hp → Hp → V → α → List Addr → Prop
  mono : ∀ {K : PySem.W.Frag} {F F' H H' : Hp} {v : V} {x : α} {P : List Addr}, Inc F F' → (∀ p ∈ P, H' p = H p) → (∀ p ∈ P, F' p = none) → own K F H v x P → own K F' H' v x P
  out : ∀ {K : PySem.W.Frag} {F H : Hp} {v : V} {x : α} {P : List Addr}, own K F H v x P → ∀ p ∈ P, H p ≠ none ∧ F p = none
  fzn : ∀ {K : PySem.W.Frag} {F H : Hp} {v : V} {x : α} {P : List Addr}, own K F H v x P → Rp.rep K (fzP F H P) v x
  nt : ∀ {K : PySem.W.Frag} {F H : Hp} {v : V} {x : α} {P : List Addr}, own K F H v x P → ∀ p ∈ P, ∀ ks, H p ≠ some (sk ks)
/-- objects that are no tuples of keys -/
class Clm (α : Type) [Cl α] : Prop where
  nt : ∀ {K : PySem.W.Frag} {H : Hp} {o : HO} {x : α}, Cl.cell K H o x → nsk o
instance clmList {α : Type} [Rp α] : Clm (List α) := ⟨fun h ks e => by
  obtain ⟨_, vs, e2, _⟩ := h
  rw [e2] at e; cases e⟩
instance (priority := 400) owCl {α : Type} [Cl α] [Clm α] : Ow α where
  rp := rpCl
  own K F H v (x : α) P := ∃ a o, v = .ref a ∧ P = [a] ∧ H a = some o ∧ F a = none ∧ Cl.cell K F o x
  mono {K F F' H H' v x P} i h hf r := by
    obtain ⟨a, o, e, rfl, h1, h2, c⟩ := r
    exact ⟨a, o, e, rfl, (h a (by simp)).trans h1, hf a (by simp), Cl.mono (α := α) i c⟩
  out {K F H v x P} r p hp := by
    obtain ⟨a, o, e, rfl, h1, h2, c⟩ := r
    have e : p = a := by simpa using hp
    subst e
    exact ⟨nn h1, h2⟩
  fzn {K F H v x P} r := by
    obtain ⟨a, o, e, rfl, h1, h2, c⟩ := r
    refine ⟨a, o, e, (fzP_in (by simp)).trans h1, Cl.mono (α := α) (fzP_inc fun p hp => ?_) c⟩
    have e : p = a := by simpa using hp
    rw [e]; exact h2
  nt {K F H v x P} r p hp ks := by
    obtain ⟨a, o, e, rfl, h1, h2, c⟩ := r
    have e : p = a := by simpa using hp
    subst e
    rw [h1]
    exact fun z => Clm.nt (α := α) c ks (Option.some.inj z)

/-! what stands in a slot: nothing said, a frozen value, an own object, the own object at a, what belongs to the slot j -/
inductive En : Type 1 where
  | un
  | fzI {α : Type} (r : Rp α) (x : α)
  | owI {α : Type} (r : Ow α) (x : α)
  | atI (a : Addr) {α : Type} (r : Ow α) (x : α)
  | alI (j : Nat) {α : Type} (r : Ow α) (x : α)
abbrev En.fz {α : Type} [r : Rp α] (x : α) : En := .fzI r x
abbrev En.ow {α : Type} [r : Ow α] (x : α) : En := .owI r x
abbrev En.at (a : Addr) {α : Type} [r : Ow α] (x : α) : En := .atI a r x
abbrev En.al (j : Nat) {α : Type} [r : Ow α] (x : α) : En := .alI j r x
/-- a slot's value, by the frozen heap F and the heap H; P: the addresses that are its own -/
def EnOk (K : PySem.W.Frag) (F H : Hp) (sl : Option V) (P : List Addr) : En → Prop
  | .un => P = []
  | .fzI _ x => P = [] ∧ ∃ v, sl = some v ∧ Rp.rep K F v x
  | .owI _ x => ∃ v, sl = some v ∧ Ow.own K F H v x P
  | .atI a _ x => sl = some (.ref a) ∧ Ow.own K F H (.ref a) x P
  | .alI _ _ _ => P = []

/-- where one came from: what may be changed, the frozen heap, the heap -/
structure Fr where
  io : Addr → Prop
  F : Hp
  H : Hp
def Fr.free (f : Fr) (a : Addr) : Prop := f.H a = none ∨ f.io a
structure Stp (g : Fr) (F H : Hp) : Prop where
  f : Inc g.F F
  h : ∀ a o, ¬ g.io a → g.H a = some o → H a = some o
  t : ∀ a, g.H a ≠ none → H a ≠ none
  e : Sub F H
  n : ∀ a, g.H a ≠ none → g.F a = none → F a = none ∨ ∃ ks, H a = some (sk ks)
  k : ∀ a ks, g.H a = some (sk ks) → H a = some (sk ks)
abbrev no : Addr → Prop := fun _ => False
/-- a step that changes nothing -/
abbrev St0 (F H F' H' : Hp) : Prop := Stp ⟨no, F, H⟩ F' H'
theorem St0.inc {F H F' H' : Hp} (s : St0 F H F' H') : Inc H H' := fun a o e => s.h a o (fun z => z) e
theorem St0.refl {F H : Hp} (s : Sub F H) : St0 F H F H := ⟨Inc.refl _, fun _ _ _ h => h, fun _ h => h, s, fun _ _ h => .inl h, fun _ _ h => h⟩
theorem Stp.sub {f : Fr} {F H : Hp} (s : Stp f F H) : Sub F H := s.e
theorem Stp.refl {io : Addr → Prop} {F H : Hp} (s : Sub F H) : Stp ⟨io, F, H⟩ F H := ⟨Inc.refl _, fun _ _ _ h => h, fun _ h => h, s, fun _ _ h => .inl h, fun _ _ h => h⟩
/-- what is not frozen and is no tuple of keys stays so -/
theorem St0.nz {F H F' H' : Hp} (s : St0 F H F' H') {a : Addr} {o : HO} (h : H a = some o) (ho : nsk o) (hf : F a = none) : F' a = none := by
  rcases s.n a (nn h) hf with z | ⟨ks, z⟩
  · exact z
  · have e := s.inc a o h
    rw [e] at z
    exact absurd (Option.some.inj z) (ho ks)
theorem Stp.trans {f : Fr} {F H F' H' : Hp} {io : Addr → Prop} (a : Stp f F H) (b : Stp ⟨io, F, H⟩ F' H') (hio : ∀ x, io x → f.free x) : Stp f F' H' where
  f := a.f.trans b.f
  h := fun x o hn e => b.h x o (fun z => by
    rcases hio x z with q | q
    · rw [q] at e; cases e
    · exact hn q) (a.h x o hn e)
  t := fun x e => b.t x (a.t x e)
  e := b.e
  n := fun x e1 e2 => by
    rcases a.n x e1 e2 with z | ⟨ks, z⟩
    · exact b.n x (a.t x e1) z
    · exact .inr ⟨ks, b.k x ks z⟩
  k := fun x ks e => b.k x ks (a.k x ks e)
theorem Stp.then0 {f : Fr} {F H F' H' : Hp} (a : Stp f F H) (b : St0 F H F' H') : Stp f F' H' := a.trans b fun _ z => z.elim
theorem St0.trans {A H A1 H1 A2 H2 : Hp} (a : St0 A H A1 H1) (b : St0 A1 H1 A2 H2) : St0 A H A2 H2 := Stp.then0 a b
theorem Stp.back {f : Fr} {F H : Hp} (a : Stp f F H) {x : Addr} (h : H x = none) : f.H x = none := by
  cases q : f.H x with
  | none => rfl
  | some u => exact absurd h (a.t x (nn q))
theorem St0.back {F H F1 H1 : Hp} (a : St0 F H F1 H1) {x : Addr} (h : H1 x = none) : H x = none := Stp.back a h
theorem sub_none {F H : Hp} (s : Sub F H) {p : Addr} (h : H p = none) : F p = none := by
  cases q : F p with
  | none => rfl
  | some o => exact absurd h (s p o q).ne
/-- a new object, not frozen -/
theorem St0.new {F H : Hp} {p : Addr} {o : HO} (s : Sub F H) (h : H p = none) : St0 F H F (upd H p o) :=
  ⟨Inc.refl _, fun a u _ e => Inc.new h a u e, fun a e => by
    by_cases q : a = p
    · subst q; exact absurd h e
    · show upd H p o a ≠ none
      rw [upd_ne q]; exact e, s.inc (Inc.new h), fun _ _ e => .inl e, fun a ks e => Inc.new h a _ e⟩
/-- what is new since is frozen -/
theorem Stp.freeze {f : Fr} {F H : Hp} {P : List Addr} (s : Stp f F H) (h : ∀ p ∈ P, F p = none ∧ f.H p = none) : Stp f (fzP F H P) H where
  f := s.f.trans (fzP_inc fun p hp => (h p hp).1)
  h := s.h
  t := s.t
  e := fun b u e => by
    by_cases q : b ∈ P
    · rw [fzP_in q] at e; exact .inl e
    · rw [fzP_out q] at e; exact s.e b u e
  n := fun b e1 e2 => by
    by_cases q : b ∈ P
    · exact absurd (h b q).2 e1
    · rw [fzP_out q]; exact s.n b e1 e2
  k := s.k

theorem ownStep {K : PySem.W.Frag} {F H F' H' : Hp} {α : Type} [Ow α] {v : V} {x : α} {P : List Addr} (h : Ow.own K F H v x P) (s : St0 F H F' H') : Ow.own K F' H' v x P := by
  refine Ow.mono s.f (fun p hp => ?_) (fun p hp => by
    cases q : H p with
    | none => exact absurd q (Ow.out h p hp).1
    | some o => exact s.nz q (fun ks e => Ow.nt h p hp ks (by rw [q, e])) (Ow.out h p hp).2) h
  cases q : H p with
  | none => exact absurd q (Ow.out h p hp).1
  | some o => exact s.inc p o q
theorem EnOk.step {K : PySem.W.Frag} {F H F' H' : Hp} {sl : Option V} {e : En} {P : List Addr} (h : EnOk K F H sl P e) (s : St0 F H F' H') : EnOk K F' H' sl P e := by
  cases e with
  | un => exact h
  | fzI _ x => obtain ⟨z, v, e, r⟩ := h; exact ⟨z, v, e, Rp.mono s.f r⟩
  | owI _ x =>
    obtain ⟨v, e, r⟩ := h
    exact ⟨v, e, ownStep r s⟩
  | atI a _ x => exact ⟨h.1, ownStep h.2 s⟩
  | alI _ _ _ => exact h
/-- what is own stands in the heap and is not frozen -/
theorem EnOk.out {K : PySem.W.Frag} {F H : Hp} {sl : Option V} {e : En} {P : List Addr} (h : EnOk K F H sl P e) : ∀ p ∈ P, H p ≠ none ∧ F p = none := by
  intro p hp
  cases e with
  | un => rw [show P = [] from h] at hp; cases hp
  | fzI _ x => rw [show P = [] from h.1] at hp; cases hp
  | owI _ x => obtain ⟨v, e, r⟩ := h; exact Ow.out r p hp
  | atI a _ x => exact Ow.out h.2 p hp
  | alI _ _ _ => rw [show P = [] from h] at hp; cases hp
theorem EnOk.nt {K : PySem.W.Frag} {F H : Hp} {sl : Option V} {e : En} {P : List Addr} (h : EnOk K F H sl P e) : ∀ p ∈ P, ∀ ks, H p ≠ some (sk ks) := by
  intro p hp
  cases e with
  | un => rw [show P = [] from h] at hp; cases hp
  | fzI _ x => rw [show P = [] from h.1] at hp; cases hp
  | owI _ x => obtain ⟨v, e, r⟩ := h; exact Ow.nt r p hp
  | atI a _ x => exact Ow.nt h.2 p hp
  | alI _ _ _ => rw [show P = [] from h] at hp; cases hp
/-- other objects have changed -/
theorem EnOk.but {K : PySem.W.Frag} {F H F' H' : Hp} {sl : Option V} {e : En} {P : List Addr} (h : EnOk K F H sl P e) (i : Inc F F') (k : ∀ p ∈ P, H' p = H p) (n : ∀ p ∈ P, F' p = none) : EnOk K F' H' sl P e := by
  cases e with
  | un => exact h
  | fzI _ x => obtain ⟨z, v, e, r⟩ := h; exact ⟨z, v, e, Rp.mono i r⟩
  | owI _ x =>
    obtain ⟨v, e, r⟩ := h
    exact ⟨v, e, Ow.mono i k n r⟩
  | atI a _ x => exact ⟨h.1, Ow.mono i k n h.2⟩
  | alI _ _ _ => exact h

abbrev sl (σ : L2.St) (i : Nat) : Option V := (σ[i]?).join
theorem sl_of {σ : L2.St} {i : Nat} {v : V} (h : sl σ i = some v) : σ[i]? = some (some v) := by
  cases e : σ[i]? with
  | none => rw [sl, e] at h; cases h
  | some o =>
    rw [sl, e] at h
    have h' : o = some v := h
    rw [h']
theorem sl_set {σ : L2.St} {i : Nat} {v : V} (h : i < σ.length) : sl (σ.set i (some v)) i = some v := by
  unfold sl; rw [List.getElem?_set_self h]; rfl
theorem sl_ne {σ : L2.St} {i j : Nat} {v : Option V} (h : i ≠ j) : sl (σ.set i v) j = sl σ j := by
  unfold sl; rw [List.getElem?_set_ne h]
structure EnvP (K : PySem.W.Frag) (f : Fr) (es : List En) (σ : L2.St) (F H : Hp) (Ps : Nat → List Addr) : Prop where
  len : es.length = σ.length
  ok : ∀ (i : Nat) e, es[i]? = some e → EnOk K F H (sl σ i) (Ps i) e
  nd : ∀ i : Nat, i < es.length → (Ps i).Nodup
  dj : ∀ (i j : Nat) p, i < es.length → j < es.length → p ∈ Ps i → p ∈ Ps j → i = j
  fr : ∀ (i : Nat) p, i < es.length → p ∈ Ps i → f.free p
  nw : ∀ (i : Nat) p (α : Type) (r : Ow α) (x : α), es[i]? = some (.owI r x) → p ∈ Ps i → f.H p = none
  al : ∀ (i j : Nat) (α : Type) (r : Ow α) (x : α), es[i]? = some (.alI j r x) → j < es.length ∧ ∃ v Q, sl σ i = some v ∧ (∀ p ∈ Q, p ∈ Ps j) ∧ Ow.own K F H v x Q
structure Sw (K : PySem.W.Frag) (f : Fr) (es : List En) (σ : L2.St) (F H : Hp) : Prop where
  st : Stp f F H
  env : ∃ Ps, EnvP K f es σ F H Ps
/-- nothing belongs to the slot i -/
def noAl (i : Nat) (es : List En) : Prop := ∀ (k : Nat) (α : Type) (r : Ow α) (x : α), es[k]? ≠ some (.alI i r x)
def alFree (i : Nat) : List En → Bool
  | [] => true
  | .alI j _ _ :: r => !(i == j) && alFree i r
  | _ :: r => alFree i r
theorem noAl_of {i : Nat} : ∀ {es : List En}, alFree i es = true → noAl i es
  | [], _ => fun k α r x h => by simp at h
  | e :: es, h => fun k α r x hk => by
    cases k with
    | zero =>
      have e1 : e = .alI i r x := by simpa using hk
      subst e1
      simp [alFree] at h
    | succ k =>
      have h2 : alFree i es = true := by
        cases e <;> simp [alFree] at h <;> first | exact h | exact h.2
      exact noAl_of h2 k α r x (by simpa using hk)
section
variable {K : PySem.W.Frag} {f : Fr} {es es' : List En} {σ : L2.St} {F H F' H' : Hp} {Ps : Nat → List Addr}
theorem Sw.sub (s : Sw K f es σ F H) : Sub F H := s.st.e
theorem EnvP.step (s : EnvP K f es σ F H Ps) (t : St0 F H F' H') : EnvP K f es σ F' H' Ps :=
  ⟨s.len, fun i e h => (s.ok i e h).step t, s.nd, s.dj, s.fr, s.nw, fun i j α r x h => by
    obtain ⟨q, v, Q, e, hq, o⟩ := s.al i j α r x h
    exact ⟨q, v, Q, e, hq, ownStep o t⟩⟩
theorem Sw.step (s : Sw K f es σ F H) (t : St0 F H F' H') : Sw K f es σ F' H' := let ⟨Ps, p⟩ := s.env; ⟨s.st.then0 t, Ps, p.step t⟩
theorem Sw.fz {α : Type} [Rp α] {x : α} {i : Nat} (s : Sw K f es σ F H) (h : es[i]? = some (.fz x)) : ∃ v, σ[i]? = some (some v) ∧ Rp.rep K F v x := by
  obtain ⟨Ps, p⟩ := s.env
  obtain ⟨_, v, e, r⟩ := p.ok i _ h
  exact ⟨v, sl_of e, r⟩
theorem get_lt.{u} {α : Type u} {l : List α} {i : Nat} {x : α} (h : l[i]? = some x) : i < l.length := (List.getElem?_eq_some_iff.mp h).1
/-- the own slots' addresses stand in the heap -/
theorem EnvP.out (s : EnvP K f es σ F H Ps) {i : Nat} (hi : i < es.length) : ∀ p ∈ Ps i, H p ≠ none ∧ F p = none :=
  (s.ok i es[i] (List.getElem?_eq_getElem hi)).out
/-- a slot is set: what stands there is new, or is frozen -/
theorem Sw.set {e : En} {v : V} {P : List Addr} {i : Nat} (st : Stp f F H) (q : EnvP K f es σ F H Ps) (hi : i < es.length) (h : EnOk K F H (some v) P e) (hn : P.Nodup) (hf : ∀ p ∈ P, f.H p = none)
    (hd' : ∀ j, j < es.length → j ≠ i → ∀ p ∈ P, p ∉ Ps j) (ha : noAl i es) (hae : ∀ j (α : Type) (r : Ow α) (x : α), e ≠ .alI j r x) : Sw K f (es.set i e) (σ.set i (some v)) F H := by
  have hi' : i < σ.length := by rw [← q.len]; exact hi
  refine ⟨st, fun j => if j = i then P else Ps j, by simp [q.len], fun j e' hj => ?_, fun j hj => ?_, fun j k p h1 h2 p1 p2 => ?_, fun j p h1 p1 => ?_, fun j p α r x hj p1 => ?_, fun j k α r x hj => ?_⟩
  · by_cases z : j = i
    · subst z
      rw [List.getElem?_set_self hi] at hj
      cases hj
      rw [sl_set hi', if_pos rfl]; exact h
    · rw [List.getElem?_set_ne (Ne.symm z)] at hj
      rw [sl_ne (Ne.symm z), if_neg z]; exact q.ok j e' hj
  · by_cases z : j = i
    · rw [if_pos z]; exact hn
    · rw [if_neg z]; exact q.nd j (by simpa using hj)
  · rw [List.length_set] at h1 h2
    by_cases z : j = i
    · by_cases z2 : k = i
      · rw [z, z2]
      · rw [if_pos z] at p1
        rw [if_neg z2] at p2
        exact absurd p2 (hd' k h2 z2 p p1)
    · rw [if_neg z] at p1
      by_cases z2 : k = i
      · rw [if_pos z2] at p2
        exact absurd p1 (hd' j h1 z p p2)
      · rw [if_neg z2] at p2
        exact q.dj j k p h1 h2 p1 p2
  · rw [List.length_set] at h1
    by_cases z : j = i
    · rw [if_pos z] at p1; exact .inl (hf p p1)
    · rw [if_neg z] at p1; exact q.fr j p h1 p1
  · by_cases z : j = i
    · rw [if_pos z] at p1; exact hf p p1
    · rw [if_neg z] at p1
      rw [List.getElem?_set_ne (Ne.symm z)] at hj
      exact q.nw j p α r x hj p1
  · by_cases z : j = i
    · subst z
      rw [List.getElem?_set_self hi] at hj
      exact absurd (Option.some.inj hj) (hae k α r x)
    · rw [List.getElem?_set_ne (Ne.symm z)] at hj
      obtain ⟨hk, w, Q, ew, hQ, o⟩ := q.al j k α r x hj
      have hki : k ≠ i := fun z2 => ha j α r x (z2 ▸ hj)
      refine ⟨by rw [List.length_set]; exact hk, w, Q, by rw [sl_ne (Ne.symm z)]; exact ew, fun p hp => ?_, o⟩
      rw [if_neg hki]; exact hQ p hp
theorem Sw.setF {α : Type} [Rp α] {x : α} {v : V} {i : Nat} (s : Sw K f es σ F H) (hi : i < es.length) (h : Rp.rep K F v x) (ha : noAl i es) : Sw K f (es.set i (.fz x)) (σ.set i (some v)) F H := by
  obtain ⟨Ps, q⟩ := s.env
  exact Sw.set s.st q hi (P := []) ⟨rfl, v, rfl, h⟩ List.nodup_nil (fun p hp => by cases hp) (fun _ _ _ p hp => by cases hp) ha fun j α r x z => by cases z
/-- what is new is set -/
theorem Sw.setN {α : Type} [Ow α] {x : α} {v : V} {P : List Addr} {i : Nat} (s : Sw K f es σ F H) (t : St0 F H F' H') (hi : i < es.length) (h : Ow.own K F' H' v x P) (hn : P.Nodup) (hp : ∀ p ∈ P, H p = none) (ha : noAl i es) : Sw K f (es.set i (.ow x)) (σ.set i (some v)) F' H' := by
  obtain ⟨Ps, q⟩ := s.env
  exact Sw.set (s.st.then0 t) (q.step t) hi (P := P) ⟨v, rfl, h⟩ hn (fun p h => s.st.back (hp p h)) (fun j hj _ p h1 h2 => (q.out hj p h2).1 (hp p h1)) ha fun j α r x z => by cases z
/-- an own object has changed, with what belongs to it -/
theorem Sw.mutG {e e' : En} {P P' : List Addr} {i : Nat} (st : Stp f F H) (q : EnvP K f es σ F H Ps) (hi : es[i]? = some e) (hP : Ps i = P)
    (t : ∀ p, H p ≠ none → H' p ≠ none) (k : ∀ p, p ∉ P → H p ≠ none → H' p = H p) (h : EnOk K F H' (sl σ i) P' e') (hn : P'.Nodup) (hp : ∀ p ∈ P', p ∈ P ∨ ((∀ j, j < es.length → p ∉ Ps j) ∧ f.H p = none)) (ha : noAl i es)
    (hw : ∀ (α : Type) (r : Ow α) (x : α), e' = .owI r x → ∃ (β : Type) (r : Ow β) (y : β), e = .owI r y) (hae : ∀ j (α : Type) (r : Ow α) (x : α), e' ≠ .alI j r x) : Sw K f (es.set i e') σ F H' := by
  have hil : i < es.length := get_lt hi
  have out := q.out hil
  rw [hP] at out
  have nt := (q.ok i e hi).nt
  rw [hP] at nt
  have keep : ∀ a ks, H a = some (sk ks) → H' a = some (sk ks) := fun a ks z => by
    rw [k a (fun m => nt a m ks z) (nn z)]; exact z
  have st' : Stp f F H' := ⟨st.f, fun a o hio e => by
    have h1 := st.h a o hio e
    have np : a ∉ P := fun z => by
      rcases q.fr i a hil (by rw [hP]; exact z) with w | w
      · rw [w] at e; cases e
      · exact hio w
    rw [k a np (nn h1)]; exact h1, fun a e => t a (st.t a e), fun a o e => by
    have r := st.e a o e
    have np : a ∉ P := fun z => by rw [(out a z).2] at e; cases e
    have e2 : H' a = H a := k a np r.ne
    rcases r with r | ⟨d, ob, r⟩ | ⟨vs, e3, r⟩
    · exact .inl (e2.trans r)
    · exact .inr (.inl ⟨d, ob, e2.trans r⟩)
    · exact .inr (.inr ⟨vs, e3, e2.trans r⟩), fun a e1 e2 => by
    rcases st.n a e1 e2 with z | ⟨ks, z⟩
    · exact .inl z
    · exact .inr ⟨ks, keep a ks z⟩, fun a ks e => keep a ks (st.k a ks e)⟩
  have kj : ∀ j, j < es.length → j ≠ i → ∀ p ∈ Ps j, H' p = H p := fun j hj hne p hp => k p (fun z => hne (q.dj j i p hj hil hp (by rw [hP]; exact z))) (q.out hj p hp).1
  refine ⟨st', fun j => if j = i then P' else Ps j, by simp [q.len], fun j e' hj => ?_, fun j hj => ?_, fun j k' p h1 h2 p1 p2 => ?_, fun j p h1 p1 => ?_, fun j p α r x hj p1 => ?_, fun j k' α r x hj => ?_⟩
  · by_cases z : j = i
    · subst z
      rw [List.getElem?_set_self hil] at hj
      cases hj
      rw [if_pos rfl]; exact h
    · rw [List.getElem?_set_ne (Ne.symm z)] at hj
      rw [if_neg z]
      have ok := q.ok j e' hj
      exact ok.but (Inc.refl _) (kj j (get_lt hj) z) fun p hp => (ok.out p hp).2
  · by_cases z : j = i
    · rw [if_pos z]; exact hn
    · rw [if_neg z]; exact q.nd j (by simpa using hj)
  · rw [List.length_set] at h1 h2
    by_cases z : j = i
    · by_cases z2 : k' = i
      · rw [z, z2]
      · rw [if_pos z] at p1
        rw [if_neg z2] at p2
        rcases hp p p1 with w | w
        · exact absurd (q.dj k' i p h2 hil p2 (by rw [hP]; exact w)) z2
        · exact absurd p2 (w.1 k' h2)
    · rw [if_neg z] at p1
      by_cases z2 : k' = i
      · rw [if_pos z2] at p2
        rcases hp p p2 with w | w
        · exact absurd (q.dj j i p h1 hil p1 (by rw [hP]; exact w)) z
        · exact absurd p1 (w.1 j h1)
      · rw [if_neg z2] at p2
        exact q.dj j k' p h1 h2 p1 p2
  · rw [List.length_set] at h1
    by_cases z : j = i
    · rw [if_pos z] at p1
      rcases hp p p1 with w | w
      · exact q.fr i p hil (by rw [hP]; exact w)
      · exact .inl w.2
    · rw [if_neg z] at p1; exact q.fr j p h1 p1
  · by_cases z : j = i
    · subst z
      rw [List.getElem?_set_self hil] at hj
      rw [if_pos rfl] at p1
      obtain ⟨β, r2, y, e2⟩ := hw α r x (Option.some.inj hj)
      rcases hp p p1 with w | w
      · exact q.nw j p β r2 y (hi.trans (congrArg some e2)) (by rw [hP]; exact w)
      · exact w.2
    · rw [List.getElem?_set_ne (Ne.symm z)] at hj
      rw [if_neg z] at p1
      exact q.nw j p α r x hj p1
  · by_cases z : j = i
    · subst z
      rw [List.getElem?_set_self hil] at hj
      exact absurd (Option.some.inj hj) (hae k' α r x)
    · rw [List.getElem?_set_ne (Ne.symm z)] at hj
      obtain ⟨hk, w, Q, ew, hQ, o⟩ := q.al j k' α r x hj
      have hki : k' ≠ i := fun z2 => ha j α r x (z2 ▸ hj)
      refine ⟨by rw [List.length_set]; exact hk, w, Q, ew, fun p hp => ?_, ?_⟩
      · rw [if_neg hki]; exact hQ p hp
      · exact Ow.mono (Inc.refl _) (fun p hp => kj k' hk hki p (hQ p hp)) (fun p hp => (q.out hk p (hQ p hp)).2) o
theorem Sw.mutE {e e' : En} {P P' : List Addr} {i : Nat} (st : Stp f F H) (q : EnvP K f es σ F H Ps) (hi : es[i]? = some e) (hP : Ps i = P)
    (t : ∀ p, H p ≠ none → H' p ≠ none) (k : ∀ p, p ∉ P → H p ≠ none → H' p = H p) (h : EnOk K F H' (sl σ i) P' e') (hn : P'.Nodup) (hp : ∀ p ∈ P', p ∈ P ∨ H p = none) (ha : noAl i es)
    (hw : ∀ (α : Type) (r : Ow α) (x : α), e' = .owI r x → ∃ (β : Type) (r : Ow β) (y : β), e = .owI r y) (hae : ∀ j (α : Type) (r : Ow α) (x : α), e' ≠ .alI j r x) : Sw K f (es.set i e') σ F H' :=
  Sw.mutG st q hi hP t k h hn (fun p z => (hp p z).imp id fun w => ⟨fun j hj c => (q.out hj p c).1 w, st.back w⟩) ha hw hae
def unB : Option En → Bool
  | some .un => true
  | _ => false
theorem unB_t {o : Option En} (h : unB o = true) : o = some .un := by
  cases o with
  | none => cases h
  | some e => cases e <;> first | rfl | cases h
/-- less is said -/
theorem Sw.weak (s : Sw K f es σ F H) (hl : es'.length = es.length) (h : ∀ (i : Nat) (e : En), es'[i]? = some e → e = En.un ∨ es[i]? = some e) (ha : ∀ (i j : Nat) (α : Type) (r : Ow α) (x : α), es'[i]? = some (.alI j r x) → es'[j]? = es[j]?) : Sw K f es' σ F H := by
  obtain ⟨Ps, q⟩ := s.env
  have hc : ∀ i : Nat, i < es'.length → es'[i]? = some En.un ∨ es'[i]? = es[i]? := fun i hi => by
    rcases h i es'[i] (List.getElem?_eq_getElem hi) with z | z
    · exact .inl (by rw [List.getElem?_eq_getElem hi, z])
    · exact .inr (by rw [List.getElem?_eq_getElem hi, z])
  have key : ∀ i : Nat, ∀ p, p ∈ (if unB es'[i]? = true then ([] : List Addr) else Ps i) → p ∈ Ps i := fun i p hp => by
    by_cases z : unB es'[i]? = true
    · rw [if_pos z] at hp; cases hp
    · rw [if_neg z] at hp; exact hp
  refine ⟨s.st, fun i => if unB es'[i]? = true then [] else Ps i, by rw [hl]; exact q.len, fun i e hi => ?_, fun i hi => ?_, fun i j p h1 h2 p1 p2 => q.dj i j p (by omega) (by omega) (key i p p1) (key j p p2), fun i p h1 p1 => q.fr i p (by omega) (key i p p1), fun i p α r x hi p1 => (by
      rcases h i _ hi with z2 | z2
      · cases z2
      · exact q.nw i p α r x z2 (key i p p1)), fun i j α r x hi => ?_⟩
  · by_cases z : unB es'[i]? = true
    · rw [if_pos z]
      rw [unB_t z] at hi
      cases hi
      rfl
    · rw [if_neg z]
      rcases h i e hi with z2 | z2
      · rw [hi, z2] at z; exact absurd rfl z
      · exact q.ok i e z2
  · by_cases z : unB es'[i]? = true
    · rw [if_pos z]; exact List.nodup_nil
    · rw [if_neg z]; exact q.nd i (by omega)
  · rcases h i _ hi with z2 | z2
    · cases z2
    obtain ⟨hj, v, Q, e1, hQ, o⟩ := q.al i j α r x z2
    refine ⟨by omega, v, Q, e1, fun p hp => ?_, o⟩
    have hp' := hQ p hp
    have z : ¬ unB es'[j]? = true := fun z => by
      have e2 := (ha i j α r x hi).symm.trans (unB_t z)
      have ok := q.ok j _ e2
      rw [show Ps j = [] from ok] at hp'
      cases hp'
    rw [if_neg z]; exact hp'
end
end Ly
namespace Ly
open PySem PySem.Spec PyProof.Rows L2
/-! the weakest readings -/
section
variable (X : Cx)
def wpE (e : Expr) : TE := fun σ H Q => ∀ (pins : List (Addr × Obj)) (s : Shared), Inv X pins σ H s → wpAny (model X.prog X.w) X.A (eval e X.env) (EP X pins σ Q) X.xe s
def wpT (e : Expr) : TT := fun σ H Q => ∀ (pins : List (Addr × Obj)) (s : Shared), Inv X pins σ H s → wpAny (model X.prog X.w) X.A (isTrue e X.env (eval e X.env)) (TP X pins σ Q) X.xe s
def wpW (e : Expr) : TT := fun σ H Q => ∀ (whole : Sem Value) (pins : List (Addr × Obj)) (s : Shared), Inv X pins σ H s → wpAny (model X.prog X.w) X.A (isTrue e X.env whole) (TP X pins σ Q) X.xe s
def wpA (es : List Expr) : TA := fun σ H Q => ∀ (pos : Pos) (pins : List (Addr × Obj)) (s : Shared), Inv X pins σ H s → wpAny (model X.prog X.w) X.A (spliced (backTo pos (starEach es X.env))) (AP X pins σ Q) X.xe s
def wpS (st : Stmt) : TS := fun D σ H => ∀ (pins : List (Addr × Obj)) (s : Shared), Inv X pins σ H s → wpAny (model X.prog X.w) X.A (exec st X.env) (SP X pins D) X.xe s
def wpSs (st : List Stmt) : TS := fun D σ H => ∀ (pins : List (Addr × Obj)) (s : Shared), Inv X pins σ H s → wpAny (model X.prog X.w) X.A (execs st X.env) (SP X pins D) X.xe s
def wpG (tg : Expr) : TG := fun v σ H Q => ∀ (pins : List (Addr × Obj)) (s : Shared) (u : Value), Inv X pins σ H s → RelV v u → wpAny (model X.prog X.w) X.A (assign tg X.env u) (fun _ s' => ∃ σ' H', Inv X pins σ' H' s' ∧ Q σ' H') X.xe s
def wpI (tg e : Expr) : TI := fun σ H R => ∀ (pins : List (Addr × Obj)) (s : Shared), Inv X pins σ H s → wpAny (model X.prog X.w) X.A (eval e X.env) (fun v s1 => wpAny (model X.prog X.w) X.A (pyIter v) (PIE X pins σ tg R) X.xe s1) X.xe s
variable {X}
theorem peW {e : Expr} : PE X e (wpE X e) := ⟨fun pins s _ _ _ I h => h pins s I⟩
theorem ptW {e : Expr} : PT X e (wpT X e) := ⟨fun pins s _ _ _ I h => h pins s I⟩
theorem pwW {e : Expr} : PW X e (wpW X e) := ⟨fun w pins s _ _ _ I h => h w pins s I⟩
theorem paW {es : List Expr} : PA X es (wpA X es) := ⟨fun pos pins s _ _ _ I h => h pos pins s I⟩
theorem psW {st : Stmt} : PS X st (wpS X st) := ⟨fun pins s _ _ _ I h => h pins s I⟩
theorem pssW {st : List Stmt} : PSs X st (wpSs X st) := ⟨fun pins s _ _ _ I h => h pins s I⟩
theorem pgW {tg : Expr} : PG X tg (wpG X tg) := ⟨fun pins s _ _ _ u _ I r h => h pins s u I r⟩
theorem piW {tg e : Expr} : PI X tg e (wpI X tg e) := ⟨fun pins s _ _ _ I h => h pins s I⟩
theorem peR {e : Expr} {t : TE} (h : PE X e t) {σ : L2.St} {H : Hp} {Q : VK} (q : t σ H Q) : wpE X e σ H Q := fun pins s I => h.run pins s σ H Q I q
theorem ptR {e : Expr} {t : TT} (h : PT X e t) {σ : L2.St} {H : Hp} {Q : Bool → Hp → Prop} (q : t σ H Q) : wpT X e σ H Q := fun pins s I => h.run pins s σ H Q I q
theorem pwR {e : Expr} {t : TT} (h : PW X e t) {σ : L2.St} {H : Hp} {Q : Bool → Hp → Prop} (q : t σ H Q) : wpW X e σ H Q := fun w pins s I => h.run w pins s σ H Q I q
theorem paR {es : List Expr} {t : TA} (h : PA X es t) {σ : L2.St} {H : Hp} {Q : List V → Hp → Prop} (q : t σ H Q) : wpA X es σ H Q := fun pos pins s I => h.run pos pins s σ H Q I q
theorem psR {st : Stmt} {t : TS} (h : PS X st t) {σ : L2.St} {H : Hp} {D : Ends} (q : t D σ H) : wpS X st D σ H := fun pins s I => h.run pins s σ H D I q
theorem pssR {st : List Stmt} {t : TS} (h : PSs X st t) {σ : L2.St} {H : Hp} {D : Ends} (q : t D σ H) : wpSs X st D σ H := fun pins s I => h.run pins s σ H D I q
theorem pgR {tg : Expr} {t : TG} (h : PG X tg t) {σ : L2.St} {H : Hp} {v : V} {Q : L2.St → Hp → Prop} (q : t v σ H Q) : wpG X tg v σ H Q := fun pins s u I r => h.run pins s σ H v u Q I r q
theorem piR {tg e : Expr} {t : TI} (h : PI X tg e t) {σ : L2.St} {H : Hp} {R : It → Hp → Prop} (q : t σ H R) : wpI X tg e σ H R := fun pins s I => h.run pins s σ H R I q
end

/-! the frozen and the own, to be read -/
def ovl (F H : Hp) : Hp := fun a => match F a with
  | some o => some o
  | none => H a
theorem ovl_some {F H : Hp} {a : Addr} {o : HO} (h : F a = some o) : ovl F H a = some o := by unfold ovl; rw [h]
theorem ovl_none {F H : Hp} {a : Addr} (h : F a = none) : ovl F H a = H a := by unfold ovl; rw [h]
theorem ovl_inc {F H : Hp} : Inc F (ovl F H) := fun _ _ h => ovl_some h
theorem ovl_sub {F H : Hp} (s : Sub F H) : Sub (ovl F H) H := fun a o h => by
  cases q : F a with
  | none => rw [ovl_none q] at h; exact .inl h
  | some u =>
    rw [ovl_some q] at h
    have e : u = o := Option.some.inj h
    rw [← e]; exact s a u q
theorem ovl_step {F H F' H' : Hp} (t : St0 F H F' H') : Inc (ovl F H) (ovl F' H') := fun a o h => by
  cases q : F a with
  | none =>
    rw [ovl_none q] at h
    have h2 := t.inc a o h
    rcases t.n a (nn h) q with z | ⟨ks, z⟩
    · rw [ovl_none z]; exact h2
    · cases q2 : F' a with
      | none => rw [ovl_none q2]; exact h2
      | some u =>
        rw [ovl_some q2]
        rw [h2] at z
        rcases t.e a u q2 with w | ⟨d, ob, w⟩ | ⟨vs, e3, w⟩
        · rw [h2] at w; exact w.symm
        · rw [h2, z] at w; cases w
        · rw [h2, z] at w; cases w
  | some u =>
    rw [ovl_some q] at h
    rw [ovl_some (t.f a u q)]; exact h

/-! judgements: frozen, new and own, read, a test -/
structure FJ (X : Cx) (es : List En) (e : Expr) {α : Type} [Rp α] (x : α) : Prop where
  run : ∀ (f : Fr) (σ : L2.St) (F H : Hp), Sw X.K f es σ F H → ∀ Q : VK, (∀ v F' H', St0 F H F' H' → Rp.rep X.K F' v x → Q v H') → wpE X e σ H Q
instance {X : Cx} {es : List En} {e : Expr} {α : Type} [Rp α] {x : α} : CoeFun (FJ X es e x) (fun _ => ∀ (f : Fr) (σ : L2.St) (F H : Hp), Sw X.K f es σ F H → ∀ Q : VK, (∀ v F' H', St0 F H F' H' → Rp.rep X.K F' v x → Q v H') → wpE X e σ H Q) := ⟨FJ.run⟩
structure NJ (X : Cx) (es : List En) (e : Expr) {α : Type} [Ow α] (x : α) : Prop where
  run : ∀ (f : Fr) (σ : L2.St) (F H : Hp), Sw X.K f es σ F H → ∀ Q : VK, (∀ v F' H' P, St0 F H F' H' → Ow.own X.K F' H' v x P → P.Nodup → (∀ p ∈ P, H p = none) → Q v H') → wpE X e σ H Q
instance {X : Cx} {es : List En} {e : Expr} {α : Type} [Ow α] {x : α} : CoeFun (NJ X es e x) (fun _ => ∀ (f : Fr) (σ : L2.St) (F H : Hp), Sw X.K f es σ F H → ∀ Q : VK, (∀ v F' H' P, St0 F H F' H' → Ow.own X.K F' H' v x P → P.Nodup → (∀ p ∈ P, H p = none) → Q v H') → wpE X e σ H Q) := ⟨NJ.run⟩
structure RJ (X : Cx) (es : List En) (e : Expr) {α : Type} [Rp α] (x : α) : Prop where
  run : ∀ (f : Fr) (σ : L2.St) (F H : Hp), Sw X.K f es σ F H → ∀ Q : VK, (∀ v F' H', St0 F H F' H' → Rp.rep X.K (ovl F' H') v x → Q v H') → wpE X e σ H Q
instance {X : Cx} {es : List En} {e : Expr} {α : Type} [Rp α] {x : α} : CoeFun (RJ X es e x) (fun _ => ∀ (f : Fr) (σ : L2.St) (F H : Hp), Sw X.K f es σ F H → ∀ Q : VK, (∀ v F' H', St0 F H F' H' → Rp.rep X.K (ovl F' H') v x → Q v H') → wpE X e σ H Q) := ⟨RJ.run⟩
structure TJ (X : Cx) (es : List En) (e : Expr) (b : Bool) : Prop where
  run : ∀ (f : Fr) (σ : L2.St) (F H : Hp), Sw X.K f es σ F H → ∀ Q : Bool → Hp → Prop, (∀ F' H', St0 F H F' H' → Q b H') → wpT X e σ H Q
instance {X : Cx} {es : List En} {e : Expr} {b : Bool} : CoeFun (TJ X es e b) (fun _ => ∀ (f : Fr) (σ : L2.St) (F H : Hp), Sw X.K f es σ F H → ∀ Q : Bool → Hp → Prop, (∀ F' H', St0 F H F' H' → Q b H') → wpT X e σ H Q) := ⟨TJ.run⟩
structure WJ (X : Cx) (es : List En) (e : Expr) (b : Bool) : Prop where
  run : ∀ (f : Fr) (σ : L2.St) (F H : Hp), Sw X.K f es σ F H → ∀ Q : Bool → Hp → Prop, (∀ F' H', St0 F H F' H' → Q b H') → wpW X e σ H Q
instance {X : Cx} {es : List En} {e : Expr} {b : Bool} : CoeFun (WJ X es e b) (fun _ => ∀ (f : Fr) (σ : L2.St) (F H : Hp), Sw X.K f es σ F H → ∀ Q : Bool → Hp → Prop, (∀ F' H', St0 F H F' H' → Q b H') → wpW X e σ H Q) := ⟨WJ.run⟩
/-! the own slots may change: es' is left -/
structure XJ (X : Cx) (es : List En) (e : Expr) {α : Type} [Rp α] (x : α) (es' : List En) : Prop where
  run : ∀ (f : Fr) (σ : L2.St) (F H : Hp), Sw X.K f es σ F H → ∀ Q : VK, (∀ v F' H', Sw X.K f es' σ F' H' → Inc F F' → Rp.rep X.K F' v x → Q v H') → wpE X e σ H Q
instance {X : Cx} {es : List En} {e : Expr} {α : Type} [Rp α] {x : α} {es' : List En} : CoeFun (XJ X es e x es') (fun _ => ∀ (f : Fr) (σ : L2.St) (F H : Hp), Sw X.K f es σ F H → ∀ Q : VK, (∀ v F' H', Sw X.K f es' σ F' H' → Inc F F' → Rp.rep X.K F' v x → Q v H') → wpE X e σ H Q) := ⟨XJ.run⟩
structure YJ (X : Cx) (es : List En) (e : Expr) {α : Type} [Ow α] (x : α) (es' : List En) : Prop where
  run : ∀ (f : Fr) (σ : L2.St) (F H : Hp), Sw X.K f es σ F H → ∀ Q : VK, (∀ v F' H' P Ps, Stp f F' H' → EnvP X.K f es' σ F' H' Ps → Inc F F' → Ow.own X.K F' H' v x P → P.Nodup → (∀ p ∈ P, f.H p = none) → (∀ j, j < es'.length → ∀ p ∈ P, p ∉ Ps j) → Q v H') → wpE X e σ H Q
instance {X : Cx} {es : List En} {e : Expr} {α : Type} [Ow α] {x : α} {es' : List En} : CoeFun (YJ X es e x es') (fun _ => ∀ (f : Fr) (σ : L2.St) (F H : Hp), Sw X.K f es σ F H → ∀ Q : VK, (∀ v F' H' P Ps, Stp f F' H' → EnvP X.K f es' σ F' H' Ps → Inc F F' → Ow.own X.K F' H' v x P → P.Nodup → (∀ p ∈ P, f.H p = none) → (∀ j, j < es'.length → ∀ p ∈ P, p ∉ Ps j) → Q v H') → wpE X e σ H Q) := ⟨YJ.run⟩
structure XT (X : Cx) (es : List En) (e : Expr) (b : Bool) (es' : List En) : Prop where
  run : ∀ (f : Fr) (σ : L2.St) (F H : Hp), Sw X.K f es σ F H → ∀ Q : Bool → Hp → Prop, (∀ F' H', Sw X.K f es' σ F' H' → Inc F F' → Q b H') → wpT X e σ H Q
instance {X : Cx} {es : List En} {e : Expr} {b : Bool} {es' : List En} : CoeFun (XT X es e b es') (fun _ => ∀ (f : Fr) (σ : L2.St) (F H : Hp), Sw X.K f es σ F H → ∀ Q : Bool → Hp → Prop, (∀ F' H', Sw X.K f es' σ F' H' → Inc F F' → Q b H') → wpT X e σ H Q) := ⟨XT.run⟩
instance (priority := 300) rpOw {α : Type} [Ow α] : Rp α := Ow.rp

section
variable {X : Cx} {es es1 es2 : List En} {a b c e : Expr} {pos : Pos} {α β : Type}
/-! from one judgement to another -/
theorem FJ.x [Rp α] {x : α} (h : FJ X es e x) : XJ X es e x es := .mk fun f σ F H S Q q => h f σ F H S Q fun v F' H' t r => q v F' H' (S.step t) t.f r
theorem NJ.y [Ow α] {x : α} (h : NJ X es e x) : YJ X es e x es := .mk fun f σ F H S Q q => h f σ F H S Q fun v F' H' P t r hn hp => by
  obtain ⟨Ps, p⟩ := S.env
  exact q v F' H' P Ps (S.st.then0 t) (p.step t) t.f r hn (fun z hz => S.st.back (hp z hz)) fun j hj z hz k => (p.out hj z k).1 (hp z hz)
theorem TJ.x {b : Bool} (h : TJ X es e b) : XT X es e b es := .mk fun f σ F H S Q q => h f σ F H S Q fun F' H' t => q F' H' (S.step t) t.f
theorem FJ.rd [Rp α] {x : α} (h : FJ X es e x) : RJ X es e x := .mk fun f σ F H S Q q => h f σ F H S Q fun v F' H' t r => q v F' H' t (Rp.mono ovl_inc r)
theorem fzP_ovl {F H : Hp} {P : List Addr} (h : ∀ p ∈ P, F p = none) : Inc (fzP F H P) (ovl F H) := fun a o e => by
  by_cases q : a ∈ P
  · rw [fzP_in q] at e; rw [ovl_none (h a q)]; exact e
  · rw [fzP_out q] at e; exact ovl_some e
theorem NJ.rd [Ow α] {x : α} (h : NJ X es e x) : @RJ X es e α Ow.rp x := .mk fun f σ F H S Q q => h f σ F H S Q fun v F' H' P t r hn hp =>
  q v F' H' t (@Rp.mono α Ow.rp _ _ _ _ _ (fzP_ovl fun p z => (Ow.out r p z).2) (Ow.fzn r))
theorem NJ.frz [Ow α] {x : α} (h : NJ X es e x) : @FJ X es e α Ow.rp x := .mk fun f σ F H S Q q => h f σ F H S Q fun v F' H' P t r hn hp =>
  q v (fzP F' H' P) H' (t.freeze fun p z => ⟨(Ow.out r p z).2, hp p z⟩) (Ow.fzn r)
theorem RJ.sc [Sc α] {x : α} (h : RJ X es e x) : FJ X es e x := .mk fun f σ F H S Q q => h f σ F H S Q fun v F' H' t r => q v F' H' t r
theorem RJ.xs [Sc α] {x : α} (h : RJ X es e x) : XJ X es e x es := h.sc.x
theorem EnvP.frz {K : PySem.W.Frag} {f : Fr} {es : List En} {σ : L2.St} {F H : Hp} {Ps : Nat → List Addr} (q : EnvP K f es σ F H Ps) {P : List Addr} (hP : ∀ p ∈ P, F p = none) (hd : ∀ j, j < es.length → ∀ p ∈ P, p ∉ Ps j) : EnvP K f es σ (fzP F H P) H Ps := by
  have key : ∀ j, j < es.length → ∀ p ∈ Ps j, (fzP F H P) p = none := fun j hj p hp => by
    rw [fzP_out fun z => hd j hj p z hp]; exact (q.out hj p hp).2
  refine ⟨q.len, fun i e h => ?_, q.nd, q.dj, q.fr, q.nw, fun i j α r x h => ?_⟩
  · exact (q.ok i e h).but (fzP_inc hP) (fun _ _ => rfl) (key i (get_lt h))
  · obtain ⟨hj, v, Q, e1, hQ, o⟩ := q.al i j α r x h
    exact ⟨hj, v, Q, e1, hQ, Ow.mono (fzP_inc hP) (fun _ _ => rfl) (fun p hp => key j hj p (hQ p hp)) o⟩
theorem YJ.frz [Ow α] {x : α} (h : YJ X es e x es1) : @XJ X es e α Ow.rp x es1 := .mk fun f σ F H S Q q => h f σ F H S Q fun v F' H' P Ps st p i r hn hp hd => by
  have hP : ∀ z ∈ P, F' z = none := fun z hz => (Ow.out r z hz).2
  exact q v (fzP F' H' P) H' ⟨st.freeze fun z hz => ⟨hP z hz, hp z hz⟩, Ps, p.frz hP hd⟩ (i.trans (fzP_inc hP)) (Ow.fzn r)

/-! names, constants -/
theorem f_var {i : Nat} [Rp α] {x : α} (hv : PE X e (tVar i)) (h : es[i]? = some (.fz x) := by rfl) : FJ X es e x := .mk fun f σ F H S Q q => peR hv (by
  obtain ⟨v, e, r⟩ := S.fz h
  exact ⟨v, e, q v F H (St0.refl S.sub) r⟩)
theorem r_var {i : Nat} [Rp α] {x : α} (hv : PE X e (tVar i)) (h : es[i]? = some (.fz x) := by rfl) : RJ X es e x := (f_var hv h).rd
theorem o_var {i : Nat} [Ow α] {x : α} (hv : PE X e (tVar i)) (h : es[i]? = some (.ow x) := by rfl) : @RJ X es e α Ow.rp x := .mk fun f σ F H S Q q => peR hv (by
  obtain ⟨Ps, p⟩ := S.env
  obtain ⟨v, e, r⟩ := p.ok i _ h
  exact ⟨v, sl_of e, q _ F H (St0.refl S.sub) (@Rp.mono α Ow.rp _ _ _ _ _ (fzP_ovl fun p z => (Ow.out r p z).2) (Ow.fzn r))⟩)
theorem a_var {i : Nat} [Ow α] {x : α} {p : Addr} (hv : PE X e (tVar i)) (h : es[i]? = some (.at p x) := by rfl) : @RJ X es e α Ow.rp x := .mk fun f σ F H S Q q => peR hv (by
  obtain ⟨Ps, p⟩ := S.env
  obtain ⟨e, r⟩ := p.ok i _ h
  exact ⟨_, sl_of e, q _ F H (St0.refl S.sub) (@Rp.mono α Ow.rp _ _ _ _ _ (fzP_ovl fun p z => (Ow.out r p z).2) (Ow.fzn r))⟩)
theorem r_con [Sc α] {x : α} (hv : PE X e (tC (Sc.toV x))) (hz : Sc.ok x) : RJ X es e x := .mk fun f σ F H S Q q => peR hv (q _ F H (St0.refl S.sub) ⟨rfl, hz⟩)

/-! operators on scalars -/
variable {γ : Type} [Sc α] [Sc β] [Sc γ] {x : α} {y : β} {z : γ}
theorem r_bin {op : Operator} {r : R2} (ho : OpR X (binaryOp op) r) (hr : ∀ (H : Hp) (Q : VK), Q (Sc.toV z) H → r (Sc.toV x) (Sc.toV y) H Q) (hz : Sc.ok z) (ha : RJ X es a x) (hb : RJ X es b y) : RJ X es (.BinOp a op b pos) z := .mk fun f σ F H S Q q =>
  peR (pe_op ho peW peW) (ha f σ F H S _ fun v F1 H1 t1 r1 => hb f σ F1 H1 (S.step t1) _ fun w F2 H2 t2 r2 => by
    have e1 : v = Sc.toV x := r1.1
    have e2 : w = Sc.toV y := r2.1
    subst e1 e2
    exact hr H2 Q (q _ F2 H2 (t1.trans t2) ⟨rfl, hz⟩))
theorem x_bin {op : Operator} {r : R2} (ho : OpR X (binaryOp op) r) (hr : ∀ (H : Hp) (Q : VK), Q (Sc.toV z) H → r (Sc.toV x) (Sc.toV y) H Q) (hz : Sc.ok z) (ha : XJ X es a x es1) (hb : XJ X es1 b y es2) : XJ X es (.BinOp a op b pos) z es2 := .mk fun f σ F H S Q q =>
  peR (pe_op ho peW peW) (ha f σ F H S _ fun v F1 H1 S1 i1 r1 => hb f σ F1 H1 S1 _ fun w F2 H2 S2 i2 r2 => by
    have e1 : v = Sc.toV x := r1.1
    have e2 : w = Sc.toV y := r2.1
    subst e1 e2
    exact hr H2 Q (q _ F2 H2 S2 (i1.trans i2) ⟨rfl, hz⟩))
theorem r_cmp {op : CmpOp} {r : R2} (ho : OpR X (compareOp op) r) (hr : ∀ (H : Hp) (Q : VK), Q (Sc.toV z) H → r (Sc.toV x) (Sc.toV y) H Q) (hz : Sc.ok z) (ha : RJ X es a x) (hb : RJ X es b y) (hm : behindInMarks op b = false := by first | exact nomark _ | rfl) : RJ X es (.Compare a [op] [b] pos) z := .mk fun f σ F H S Q q =>
  peR (pe_cmpR ho peW peW hm) (ha f σ F H S _ fun v F1 H1 t1 r1 => hb f σ F1 H1 (S.step t1) _ fun w F2 H2 t2 r2 => by
    have e1 : v = Sc.toV x := r1.1
    have e2 : w = Sc.toV y := r2.1
    subst e1 e2
    exact hr H2 Q (q _ F2 H2 (t1.trans t2) ⟨rfl, hz⟩))
theorem x_cmp {op : CmpOp} {r : R2} (ho : OpR X (compareOp op) r) (hr : ∀ (H : Hp) (Q : VK), Q (Sc.toV z) H → r (Sc.toV x) (Sc.toV y) H Q) (hz : Sc.ok z) (ha : XJ X es a x es1) (hb : XJ X es1 b y es2) (hm : behindInMarks op b = false := by first | exact nomark _ | rfl) : XJ X es (.Compare a [op] [b] pos) z es2 := .mk fun f σ F H S Q q =>
  peR (pe_cmpR ho peW peW hm) (ha f σ F H S _ fun v F1 H1 S1 i1 r1 => hb f σ F1 H1 S1 _ fun w F2 H2 S2 i2 r2 => by
    have e1 : v = Sc.toV x := r1.1
    have e2 : w = Sc.toV y := r2.1
    subst e1 e2
    exact hr H2 Q (q _ F2 H2 S2 (i1.trans i2) ⟨rfl, hz⟩))
/-- a chain a op b op' c -/
theorem r_chain {c : Expr} {δ : Type} [Sc δ] {w : δ} {op op' : CmpOp} {r r' : R2} {p q : Bool} (ho : OpR X (compareOp op) r) (ho' : OpR X (compareOp op') r') (hr : ∀ (H : Hp) (Q : VK), Q (.bl p) H → r (Sc.toV x) (Sc.toV y) H Q) (hr' : ∀ (H : Hp) (Q : VK), Q (.bl q) H → r' (Sc.toV y) (Sc.toV w) H Q)
    (ha : RJ X es a x) (hb : RJ X es b y) (hc : RJ X es c w) (hm : lastMarks [op, op'] [b, c] = false := by rfl) : RJ X es (.Compare a [op, op'] [b, c] pos) (p && q) := .mk fun f σ F H S Q k =>
  peR (pe_chain ho ho' peW peW peW hm) (ha f σ F H S _ fun v1 F1 H1 t1 r1 => hb f σ F1 H1 (S.step t1) _ fun v2 F2 H2 t2 r2 => by
    have e1 : v1 = Sc.toV x := r1.1
    have e2 : v2 = Sc.toV y := r2.1
    subst e1 e2
    refine hr H2 _ ⟨p, rfl, ?_⟩
    cases p with
    | false => exact k _ F2 H2 (t1.trans t2) ⟨rfl, True.intro⟩
    | true =>
      refine hc f σ F2 H2 ((S.step t1).step t2) _ fun v3 F3 H3 t3 r3 => ?_
      have e3 : v3 = Sc.toV w := r3.1
      subst e3
      exact hr' H3 _ (k _ F3 H3 ((t1.trans t2).trans t3) ⟨rfl, True.intro⟩))
end
end Ly
namespace Ly
open PySem PySem.Spec PyProof.Rows L2
instance : Inhabited Str := ⟨⟨#[]⟩⟩
def getI {α : Type} [Inhabited α] (xs : List α) (i : Int) : α := (atI xs i).getD default
def okI {α : Type} (xs : List α) (i : Int) : Prop := (atI xs i).isSome = true
theorem getI_ok {α : Type} [Inhabited α] {xs : List α} {i : Int} (h : okI xs i) : atI xs i = some (getI xs i) := by
  unfold getI
  cases e : atI xs i with
  | none => unfold okI at h; rw [e] at h; cases h
  | some x => rfl
/-- one sign -/
def sgn (c : Nat) : Str := ⟨#[c]⟩
def chI (z : Str) (i : Int) : Str := sgn ((atI z.cps.toList i).getD 0)
def okC (z : Str) (i : Int) : Prop := (atI z.cps.toList i).isSome = true
class ScE (α : Type) [Sc α] [DecidableEq α] : Prop where
  sc : ∀ x y : α, scal (Sc.toV x) (Sc.toV y) = true
  inj : ∀ x y : α, Sc.toV x = Sc.toV y → x = y
instance : ScE Int := ⟨fun _ _ => rfl, fun _ _ h => by injection h⟩
instance : ScE Bool := ⟨fun _ _ => rfl, fun _ _ h => by injection h⟩
instance : ScE Str := ⟨fun _ _ => rfl, fun _ _ h => by injection h⟩
theorem ScE.dec {α : Type} [Sc α] [DecidableEq α] [ScE α] (x y : α) : decide (Sc.toV x = Sc.toV y) = decide (x = y) := by
  by_cases e : x = y
  · subst e; simp
  · rw [decide_eq_false e, decide_eq_false fun h => e (ScE.inj x y h)]

section
variable {X : Cx} {es es1 es2 : List En} {a b c e : Expr} {pos : Pos} {α β : Type} {x y : Int}
theorem r_int {i : Int} {j} : RJ X es (.Constant (.int i) j pos) i := r_con pe_int True.intro
theorem r_str {z : Str} {j} (hz : sOk z := by decide) : RJ X es (.Constant (.str z) j pos) z := r_con pe_str hz
theorem r_bl {z : Bool} {j} : RJ X es (.Constant (.bool z) j pos) z := r_con pe_bl True.intro
theorem r_non {j} : RJ X es (.Constant .none j pos) () := r_con pe_non True.intro
theorem r_add (ha : RJ X es a x) (hb : RJ X es b y) : RJ X es (.BinOp a .Add b pos) (x + y) := r_bin op_add (fun _ _ q => ⟨x, y, rfl, rfl, q⟩) True.intro ha hb
theorem r_sub (ha : RJ X es a x) (hb : RJ X es b y) : RJ X es (.BinOp a .Sub b pos) (x - y) := r_bin op_sub (fun _ _ q => ⟨x, y, rfl, rfl, q⟩) True.intro ha hb
theorem r_mul (hc : CMul x y) (ha : RJ X es a x) (hb : RJ X es b y) : RJ X es (.BinOp a .Mult b pos) (x * y) := r_bin op_mul (fun _ _ q => ⟨x, y, rfl, rfl, hc, q⟩) True.intro ha hb
theorem r_mulW (hc : CMulW x y) (ha : RJ X es a x) (hb : RJ X es b y) : RJ X es (.BinOp a .Mult b pos) (x * y) := r_bin op_mulW (fun _ _ q => ⟨x, y, rfl, rfl, hc, q⟩) True.intro ha hb
theorem r_mod (hc : 0 < y) (ha : RJ X es a x) (hb : RJ X es b y) : RJ X es (.BinOp a .Mod b pos) (x % y) := r_bin op_mod (fun _ _ q => ⟨x, y, rfl, rfl, hc, q⟩) True.intro ha hb
theorem r_div (hc : CDivW x y) (ha : RJ X es a x) (hb : RJ X es b y) : RJ X es (.BinOp a .FloorDiv b pos) (x / y) := r_bin op_fdivW (fun _ _ q => ⟨x, y, rfl, rfl, hc, q⟩) True.intro ha hb
theorem r_pow (hc : CPow x y) (ha : RJ X es a x) (hb : RJ X es b y) : RJ X es (.BinOp a .Pow b pos) (x ^ y.toNat) := r_bin op_pow (fun _ _ q => ⟨x, y, rfl, rfl, hc, q⟩) True.intro ha hb
theorem x_add (ha : XJ X es a x es1) (hb : XJ X es1 b y es2) : XJ X es (.BinOp a .Add b pos) (x + y) es2 := x_bin op_add (fun _ _ q => ⟨x, y, rfl, rfl, q⟩) True.intro ha hb
theorem x_sub (ha : XJ X es a x es1) (hb : XJ X es1 b y es2) : XJ X es (.BinOp a .Sub b pos) (x - y) es2 := x_bin op_sub (fun _ _ q => ⟨x, y, rfl, rfl, q⟩) True.intro ha hb
theorem x_mul (hc : CMul x y) (ha : XJ X es a x es1) (hb : XJ X es1 b y es2) : XJ X es (.BinOp a .Mult b pos) (x * y) es2 := x_bin op_mul (fun _ _ q => ⟨x, y, rfl, rfl, hc, q⟩) True.intro ha hb
theorem r_gt (ha : RJ X es a x) (hb : RJ X es b y) : RJ X es (.Compare a [.Gt] [b] pos) (decide (x > y)) := r_cmp op_gt (fun _ _ q => ⟨x, y, rfl, rfl, q⟩) True.intro ha hb
theorem r_ltle {z : Int} (ha : RJ X es a x) (hb : RJ X es b y) (hc : RJ X es c z) (hm : lastMarks [CmpOp.LtE, CmpOp.LtE] [b, c] = false := by rfl) : RJ X es (.Compare a [.LtE, .LtE] [b, c] pos) (decide (x ≤ y) && decide (y ≤ z)) :=
  r_chain op_le op_le (fun _ _ q => ⟨x, y, rfl, rfl, q⟩) (fun _ _ q => ⟨y, z, rfl, rfl, q⟩) ha hb hc hm
theorem r_eq [Sc α] [DecidableEq α] [ScE α] {x y : α} (ha : RJ X es a x) (hb : RJ X es b y) : RJ X es (.Compare a [.Eq] [b] pos) (decide (x = y)) := r_cmp op_eq (fun _ Q q => ⟨ScE.sc x y, by rw [ScE.dec]; exact q⟩) True.intro ha hb
theorem x_eq [Sc α] [DecidableEq α] [ScE α] {x y : α} (ha : XJ X es a x es1) (hb : XJ X es1 b y es2) : XJ X es (.Compare a [.Eq] [b] pos) (decide (x = y)) es2 := x_cmp op_eq (fun _ Q q => ⟨ScE.sc x y, by rw [ScE.dec]; exact q⟩) True.intro ha hb
/-! texts -/
theorem str_len (z w : Str) : (z ++ w).length = z.length + w.length := by
  show (z.cps ++ w.cps).size = z.cps.size + w.cps.size
  exact Array.size_append
theorem sOk_cat {z w : Str} (h : (z ++ w).length ≤ sbig) (hz : sOk z) (hw : sOk w) : sOk (z ++ w) := ⟨h, fun c hc => by
  have e : (z ++ w).cps.toList = z.cps.toList ++ w.cps.toList := by
    show (z.cps ++ w.cps).toList = _
    exact Array.toList_append
  rw [e] at hc
  rcases List.mem_append.mp hc with k | k
  · exact hz.2 c k
  · exact hw.2 c k⟩
theorem sOk_sgn {z : Str} (h : sOk z) {c : Nat} (hc : c ∈ z.cps.toList) : sOk (sgn c) := ⟨show 1 ≤ sbig by decide, fun d hd => by
  have e : d = c := by simpa [sgn] using hd
  rw [e]; exact h.2 c hc⟩
theorem x_cat {z w : Str} (hc : (z ++ w).length ≤ sbig) (ha : XJ X es a z es1) (hb : XJ X es1 b w es2) : XJ X es (.BinOp a .Add b pos) (z ++ w) es2 := .mk fun f σ F H S Q q =>
  peR (pe_op op_add_str peW peW) (ha f σ F H S _ fun v F1 H1 S1 i1 r1 => hb f σ F1 H1 S1 _ fun u F2 H2 S2 i2 r2 =>
    ⟨z, w, r1.1, r2.1, by rw [← str_len]; exact Nat.le_trans hc (by decide), q _ F2 H2 S2 (i1.trans i2) ⟨rfl, sOk_cat hc r1.2 r2.2⟩⟩)
/-! a call of a built-in with one, two arguments -/
theorem r_call1 {id : String} {n : Str} {r : List V → Hp → VK → Prop} [Rp α] [Rp β] {x : α} {y : β} (hc : CallR X (.builtin id) r) (hg : Gl X n) (hm : X.mg n = none) (hv : bootBuiltins n = some (.builtin id))
    (hr : ∀ (F H : Hp) (v : V) (Q : VK), Sub F H → Rp.rep X.K (ovl F H) v x → (∀ w F' H', St0 F H F' H' → Rp.rep X.K (ovl F' H') w y → Q w H') → r [v] H Q) (ha : RJ X es a x) (hn : n ≠ "__name__" := by decide) (hdb : (n == ("__debug__" : Str)) = false := by decide) (s1 : starEach [a] X.env = (false, eval a X.env) :: starEach [] X.env := by rfl) {p : Pos} : RJ X es (.Call (.Name n p) [a] [] pos) y := .mk fun f σ F H S Q q =>
  peR (pe_callB hc hg hm hv (pa_cons peW pa_nil s1) hn hdb s1) (ha f σ F H S _ fun v F1 H1 t1 r1 => hr F1 H1 v Q t1.sub r1 fun w F2 H2 t2 r2 => q w F2 H2 (t1.trans t2) r2)
/-- two scalars -/
theorem r_call2 {id : String} {n : Str} {r : List V → Hp → VK → Prop} {γ : Type} [Sc α] [Sc β] [Sc γ] {x : α} {y : β} {z : γ} (hc : CallR X (.builtin id) r) (hg : Gl X n) (hm : X.mg n = none) (hv : bootBuiltins n = some (.builtin id))
    (hr : ∀ (H : Hp) (Q : VK), Q (Sc.toV z) H → r [Sc.toV x, Sc.toV y] H Q) (hz : Sc.ok z) (ha : RJ X es a x) (hb : RJ X es b y) (hn : n ≠ "__name__" := by decide) (hdb : (n == ("__debug__" : Str)) = false := by decide) (s1 : starEach [a, b] X.env = (false, eval a X.env) :: starEach [b] X.env := by rfl) (s2 : starEach [b] X.env = (false, eval b X.env) :: starEach [] X.env := by rfl) (s3 : (backTo pos (starEach [b] X.env)).any (·.1) = false := by rfl) {p : Pos} : RJ X es (.Call (.Name n p) [a, b] [] pos) z := .mk fun f σ F H S Q q =>
  peR (pe_callB hc hg hm hv (pa_cons peW (pa_cons peW pa_nil s2) s1) hn hdb s1 s3) (ha f σ F H S _ fun v F1 H1 t1 r1 => hb f σ F1 H1 (S.step t1) _ fun w F2 H2 t2 r2 => by
    have e1 : v = Sc.toV x := r1.1
    have e2 : w = Sc.toV y := r2.1
    subst e1 e2
    exact hr H2 Q (q _ F2 H2 (t1.trans t2) ⟨rfl, hz⟩))
theorem r_max2 (hk : X.calm = true) (hg : Gl X "max") (hm : X.mg "max" = none) (ha : RJ X es a x) (hb : RJ X es b y) (s1 : starEach [a, b] X.env = (false, eval a X.env) :: starEach [b] X.env := by rfl) (s2 : starEach [b] X.env = (false, eval b X.env) :: starEach [] X.env := by rfl) (s3 : (backTo pos (starEach [b] X.env)).any (·.1) = false := by rfl) {p : Pos} : RJ X es (.Call (.Name "max" p) [a, b] [] pos) (if y > x then y else x) :=
  r_call2 (call_max2 hk) hg hm (by decide +kernel) (fun _ _ q => ⟨x, y, rfl, q⟩) True.intro ha hb (by decide) (by decide) s1 s2 s3
theorem r_min2 (hk : X.calm = true) (hg : Gl X "min") (hm : X.mg "min" = none) (ha : RJ X es a x) (hb : RJ X es b y) (s1 : starEach [a, b] X.env = (false, eval a X.env) :: starEach [b] X.env := by rfl) (s2 : starEach [b] X.env = (false, eval b X.env) :: starEach [] X.env := by rfl) (s3 : (backTo pos (starEach [b] X.env)).any (·.1) = false := by rfl) {p : Pos} : RJ X es (.Call (.Name "min" p) [a, b] [] pos) (if y < x then y else x) :=
  r_call2 (call_min2 hk) hg hm (by decide +kernel) (fun _ _ q => ⟨x, y, rfl, q⟩) True.intro ha hb (by decide) (by decide) s1 s2 s3
theorem r_lenS (hg : Gl X "len") (hm : X.mg "len" = none) {z : Str} (ha : RJ X es a z) (s1 : starEach [a] X.env = (false, eval a X.env) :: starEach [] X.env := by rfl) {p : Pos} : RJ X es (.Call (.Name "len" p) [a] [] pos) (z.length : Int) :=
  r_call1 (α := Str) (β := Int) call_len_str hg hm (by decide +kernel) (by intro F H v Q s r q; exact ⟨z, by rw [show v = V.str z from r.1], r.2.line, q _ F H (St0.refl s) ⟨rfl, True.intro⟩⟩) ha (by decide) (by decide) s1
/-! lists read -/
theorem repL [Rp α] {K : PySem.W.Frag} {F H : Hp} {v : V} {xs : List α} (s : Sub F H) (r : Rp.rep K F v xs) : ∃ p vs, v = .ref p ∧ H p = some (.lst vs) ∧ F p = some (.lst vs) ∧ Paired (Rp.rep K F) vs xs := by
  obtain ⟨p, o, e, h, _, vs, eo, r⟩ := r
  subst eo
  exact ⟨p, vs, e, (s p _ h).nd fun z => z, h, r⟩
theorem repLen [Rp α] {K : PySem.W.Frag} {F : Hp} {v : V} {xs : List α} (r : Rp.rep K F v xs) : xs.length ≤ big := by
  obtain ⟨p, o, e, h, z, _⟩ := r
  exact z
theorem pairedLen {γ δ : Type} {R : γ → δ → Prop} : ∀ {xs : List γ} {ys : List δ}, Paired R xs ys → xs.length = ys.length
  | _, _, .nil => rfl
  | _, _, .cons _ t => by simp [pairedLen t]
theorem pairedGet {γ δ : Type} {R : γ → δ → Prop} : ∀ {xs : List γ} {ys : List δ} {i : Nat} {y : δ}, Paired R xs ys → ys[i]? = some y → ∃ x, xs[i]? = some x ∧ R x y
  | _, _, _, _, .nil, e => by simp at e
  | _, _, 0, _, .cons r _, e => by simp at e; subst e; exact ⟨_, rfl, r⟩
  | _, _, i + 1, y, .cons _ t, e => by
    obtain ⟨u, h1, h2⟩ := pairedGet (i := i) (y := y) t (by simpa using e)
    exact ⟨u, by simpa using h1, h2⟩
theorem pairedAt {γ δ : Type} {R : γ → δ → Prop} {xs : List γ} {ys : List δ} {i : Int} {y : δ} (h : Paired R xs ys) (e : atI ys i = some y) : ∃ x, atI xs i = some x ∧ R x y := by
  unfold atI at e ⊢
  rw [pairedLen h]
  cases q : ixN ys.length i with
  | none => rw [q] at e; cases e
  | some j =>
    rw [q] at e
    exact pairedGet h e
theorem pairedMap {γ δ : Type} {R : γ → δ → Prop} {f : δ → γ} (h : ∀ x y, R x y → x = f y) : ∀ {xs : List γ} {ys : List δ}, Paired R xs ys → xs = ys.map f
  | _, _, .nil => rfl
  | _, _, .cons r t => by rw [List.map_cons, h _ _ r, pairedMap h t]
theorem scMap [Sc α] {K : PySem.W.Frag} {F : Hp} {vs : List V} {xs : List α} (h : Paired (Rp.rep K F) vs xs) : vs = xs.map Sc.toV := pairedMap (fun _ _ r => r.1) h
theorem okSc [Sc α] {K : PySem.W.Frag} {F : Hp} : ∀ {vs : List V} {xs : List α}, Paired (Rp.rep K F) vs xs → ∀ x ∈ xs, Sc.ok x
  | _, _, .nil, x, h => by cases h
  | _, _, .cons r t, x, h => by
    rcases List.mem_cons.mp h with e | e
    · rw [e]; exact r.2
    · exact okSc t x e
theorem mapSc [Sc α] {K : PySem.W.Frag} {F : Hp} : ∀ (xs : List α), (∀ x ∈ xs, Sc.ok x) → Paired (Rp.rep K F) (xs.map Sc.toV) xs
  | [], _ => .nil
  | x :: xs, h => .cons ⟨rfl, h x List.mem_cons_self⟩ (mapSc xs fun y hy => h y (List.mem_cons_of_mem _ hy))
theorem r_len [Rp α] {xs : List α} (hg : Gl X "len") (hm : X.mg "len" = none) (ha : RJ X es a xs) (s1 : starEach [a] X.env = (false, eval a X.env) :: starEach [] X.env := by rfl) {p : Pos} : RJ X es (.Call (.Name "len" p) [a] [] pos) (xs.length : Int) :=
  r_call1 (α := List α) (β := Int) call_len_seq hg hm (by decide +kernel) (fun F H v Q s r q => by
    obtain ⟨p, vs, e, h, _, rr⟩ := repL (ovl_sub s) r
    subst e
    refine ⟨p, vs, rfl, .inl (.inl (.inl h)), ?_⟩
    rw [pairedLen rr]
    exact q _ F H (St0.refl s) ⟨rfl, True.intro⟩) ha (by decide) (by decide) s1
/-- x in xs, both flat -/
class Fl1 (α : Type) [Sc α] [DecidableEq α] : Prop where
  flat : ∀ x : α, flatV (Sc.toV x) = true
  eq : ∀ x y : α, eqV (Sc.toV x) (Sc.toV y) = decide (x = y)
instance : Fl1 Str := ⟨fun _ => rfl, fun x y => by show (x == y) = _; exact Bool.beq_eq_decide_eq x y⟩
instance : Fl1 Int := ⟨fun _ => rfl, fun x y => by show (x == y) = _; exact Bool.beq_eq_decide_eq x y⟩
theorem inV_eq [Sc α] [DecidableEq α] [Fl1 α] (x : α) : ∀ xs : List α, inV (Sc.toV x) (xs.map Sc.toV) = decide (x ∈ xs)
  | [] => by simp [inV]
  | y :: ys => by
    have h := inV_eq x ys
    unfold inV at h ⊢
    rw [List.map_cons, List.any_cons, h, Fl1.eq, Bool.eq_iff_iff]
    simp only [Bool.or_eq_true, decide_eq_true_eq, List.mem_cons]
    exact ⟨fun h => h.elim (fun e => .inl e.symm) .inr, fun h => h.elim (fun e => .inl e.symm) .inr⟩
/-! an item -/
theorem f_ix [Rp α] [Inhabited α] {xs : List α} {i : Int} (ho : okI xs i) (ha : FJ X es a xs) (hb : RJ X es b i) (hs : PlainIx b := by exact fun _ _ => rfl) : FJ X es (.Subscript a b pos) (getI xs i) := .mk fun f σ F H S Q q =>
  peR (pe_ix ix_list peW peW hs) (ha f σ F H S _ fun v F1 H1 t1 r1 => hb f σ F1 H1 (S.step t1) _ fun w F2 H2 t2 r2 => by
    have e2 : w = V.int i := r2.1
    subst e2
    obtain ⟨p, vs, e, h, hf, rr⟩ := repL t2.sub (Rp.mono t2.f r1)
    obtain ⟨z, hz, rz⟩ := pairedAt rr (getI_ok ho)
    exact ⟨p, vs, i, z, e, rfl, .inl (.inl h), hz, q _ F2 H2 (t1.trans t2) rz⟩)
/-- the list frozen, the place by a step -/
theorem x_ix [Rp α] [Inhabited α] {xs : List α} {i : Int} (ho : okI xs i) (ha : XJ X es a xs es1) (hb : XJ X es1 b i es2) (hs : PlainIx b := by exact fun _ _ => rfl) : XJ X es (.Subscript a b pos) (getI xs i) es2 := .mk fun f σ F H S Q q =>
  peR (pe_ix ix_list peW peW hs) (ha f σ F H S _ fun v F1 H1 S1 i1 r1 => hb f σ F1 H1 S1 _ fun w F2 H2 S2 i2 r2 => by
    have e2 : w = V.int i := r2.1
    subst e2
    obtain ⟨p, vs, e, h, hf, rr⟩ := repL S2.sub (Rp.mono i2 r1)
    obtain ⟨z, hz, rz⟩ := pairedAt rr (getI_ok ho)
    exact ⟨p, vs, i, z, e, rfl, .inl (.inl h), hz, q _ F2 H2 S2 (i1.trans i2) rz⟩)
theorem atI_mem {xs : List α} {i : Int} {x : α} (h : atI xs i = some x) : x ∈ xs := by
  unfold atI at h
  cases q : ixN xs.length i with
  | none => rw [q] at h; cases h
  | some j => rw [q] at h; exact List.mem_of_getElem? h
theorem chI_ok {z : Str} {i : Int} (ho : okC z i) : atI z.cps.toList i = some ((atI z.cps.toList i).getD 0) := by
  cases e : atI z.cps.toList i with
  | none => unfold okC at ho; rw [e] at ho; cases ho
  | some c => rfl
theorem x_ixS {z : Str} {i : Int} (ho : okC z i) (ha : XJ X es a z es1) (hb : XJ X es1 b i es2) (hs : PlainIx b := by exact fun _ _ => rfl) : XJ X es (.Subscript a b pos) (chI z i) es2 := .mk fun f σ F H S Q q =>
  peR (pe_ix ix_str peW peW hs) (ha f σ F H S _ fun v F1 H1 S1 i1 r1 => hb f σ F1 H1 S1 _ fun w F2 H2 S2 i2 r2 =>
    ⟨z, i, (atI z.cps.toList i).getD 0, r1.1, r2.1, r1.2.line, chI_ok ho, q _ F2 H2 S2 (i1.trans i2) ⟨rfl, sOk_sgn r1.2 (atI_mem (chI_ok ho))⟩⟩)
/-! tests -/
theorem t_val {k : Bool} (h : RJ X es e k) (he : ∀ whole, isTrue e X.env whole = (do let v ← whole; standAt e.pos; holding [v] (truthy v)) := by intro _; rfl) : TJ X es e k := .mk fun f σ F H S Q q =>
  ptR (pt_val peW he) (h f σ F H S _ fun v F1 H1 t1 r1 => ⟨k, r1.1, q F1 H1 t1⟩)
theorem t_not {k : Bool} (h : TJ X es a k) : TJ X es (.UnaryOp .Not a pos) (!k) := .mk fun f σ F H S Q q =>
  ptR (pt_not ptW) (h f σ F H S _ fun F1 H1 t1 => q F1 H1 t1)
theorem w_t {k : Bool} (h : WJ X es e k) : TJ X es e k := .mk fun f σ F H S Q q => ptR (pwW (X := X) (e := e)).pt (h f σ F H S Q q)
theorem w_and1 {k : Bool} (h : TJ X es a k) : WJ X es (.BoolOp .And [a] pos) k := .mk fun f σ F H S Q q => pwR (pw_and1 ptW) (h f σ F H S Q q)
theorem w_or1 {k : Bool} (h : TJ X es a k) : WJ X es (.BoolOp .Or [a] pos) k := .mk fun f σ F H S Q q => pwR (pw_or1 ptW) (h f σ F H S Q q)
theorem w_and {rest : List Expr} {k l : Bool} (h : TJ X es a k) (h2 : k = true → WJ X es (.BoolOp .And (b :: rest) pos) l) : WJ X es (.BoolOp .And (a :: b :: rest) pos) (k && l) := .mk fun f σ F H S Q q =>
  pwR (pw_and ptW pwW) (h f σ F H S _ fun F1 H1 t1 => by
    cases k with
    | true => exact h2 rfl f σ F1 H1 (S.step t1) Q fun F2 H2 t2 => q F2 H2 (t1.trans t2)
    | false => exact q F1 H1 t1)
theorem w_or {rest : List Expr} {k l : Bool} (h : TJ X es a k) (h2 : k = false → WJ X es (.BoolOp .Or (b :: rest) pos) l) : WJ X es (.BoolOp .Or (a :: b :: rest) pos) (k || l) := .mk fun f σ F H S Q q =>
  pwR (pw_or ptW pwW) (h f σ F H S _ fun F1 H1 t1 => by
    cases k with
    | false => exact h2 rfl f σ F1 H1 (S.step t1) Q fun F2 H2 t2 => q F2 H2 (t1.trans t2)
    | true => exact q F1 H1 t1)
/-! and, or, not as values -/
theorem r_and1 {op} {k : Bool} (h : RJ X es a k) : RJ X es (.BoolOp op [a] pos) k := .mk fun f σ F H S Q q => peR (pe_one peW) (h f σ F H S Q q)
theorem r_and {rest : List Expr} {k l : Bool} (h : RJ X es a k) (h2 : k = true → RJ X es (.BoolOp .And (b :: rest) pos) l) : RJ X es (.BoolOp .And (a :: b :: rest) pos) (k && l) := .mk fun f σ F H S Q q =>
  peR (pe_and peW peW) (h f σ F H S _ fun v F1 H1 t1 r1 => ⟨k, r1.1, by
    cases k with
    | true => exact h2 rfl f σ F1 H1 (S.step t1) Q fun v F2 H2 t2 r2 => q v F2 H2 (t1.trans t2) r2
    | false => exact q _ F1 H1 t1 ⟨rfl, True.intro⟩⟩)
theorem r_not {k : Bool} (h : RJ X es a k) : RJ X es (.UnaryOp .Not a pos) (!k) := .mk fun f σ F H S Q q =>
  peR (pe_not peW) (h f σ F H S _ fun v F1 H1 t1 r1 => ⟨k, r1.1, q _ F1 H1 t1 ⟨rfl, True.intro⟩⟩)
theorem f_ife {t : Expr} {k : Bool} [Rp α] {x y : α} (h : TJ X es t k) (h1 : k = true → FJ X es a x) (h2 : k = false → FJ X es b y) : FJ X es (.IfExp t a b pos) (bif k then x else y) := .mk fun f σ F H S Q q =>
  peR (pe_ifExp ptW peW peW) (h f σ F H S _ fun F1 H1 t1 => by
    cases k with
    | true => exact h1 rfl f σ F1 H1 (S.step t1) Q fun v F2 H2 t2 r2 => q v F2 H2 (t1.trans t2) r2
    | false => exact h2 rfl f σ F1 H1 (S.step t1) Q fun v F2 H2 t2 r2 => q v F2 H2 (t1.trans t2) r2)
end
end Ly
namespace Ly
open PySem PySem.Spec PyProof.Rows L2
/-! data of any kind -/
inductive Dv where
  | non
  | bl (b : Bool)
  | int (i : Int)
  | str (z : Str)
  | emp
  | lst (xs : List Dv)
  | tup (xs : List Dv)
instance : Inhabited Dv := ⟨.non⟩
mutual
def Dv.dep : Dv → Nat
  | .lst xs => depDs xs + 1
  | .tup xs => depDs xs + 1
  | _ => 0
def depDs : List Dv → Nat
  | [] => 0
  | x :: xs => max x.dep (depDs xs)
end
mutual
def repV (H : Hp) : Dv → V → Prop
  | .non, v => v = .non
  | .bl b, v => v = .bl b
  | .int i, v => v = .int i
  | .str z, v => v = .str z ∧ sOk z
  | .emp, v => ∃ a, v = .ref a ∧ H a = some (.dK [])
  | .lst xs, v => ∃ a vs, v = .ref a ∧ H a = some (.lst vs) ∧ xs.length ≤ big ∧ repVs H xs vs
  | .tup xs, v => ∃ a vs, v = .ref a ∧ H a = some (.tup vs) ∧ xs.length ≤ big ∧ repVs H xs vs
def repVs (H : Hp) : List Dv → List V → Prop
  | [], vs => vs = []
  | x :: xs, vs => ∃ v ws, vs = v :: ws ∧ repV H x v ∧ repVs H xs ws
end
mutual
theorem repV_mono {H H' : Hp} (i : Inc H H') : ∀ (x : Dv) (v : V), repV H x v → repV H' x v
  | .non, _, h => h
  | .bl _, _, h => h
  | .int _, _, h => h
  | .str _, _, h => h
  | .emp, _, ⟨a, e, h⟩ => ⟨a, e, i _ _ h⟩
  | .lst xs, _, ⟨a, vs, e, h, z, r⟩ => ⟨a, vs, e, i _ _ h, z, repVs_mono i xs vs r⟩
  | .tup xs, _, ⟨a, vs, e, h, z, r⟩ => ⟨a, vs, e, i _ _ h, z, repVs_mono i xs vs r⟩
theorem repVs_mono {H H' : Hp} (i : Inc H H') : ∀ (xs : List Dv) (vs : List V), repVs H xs vs → repVs H' xs vs
  | [], _, h => h
  | x :: xs, _, ⟨v, ws, e, h, r⟩ => ⟨v, ws, e, repV_mono i x v h, repVs_mono i xs ws r⟩
end
instance rpDv : Rp Dv where
  rep _ H v x := repV H x v ∧ x.dep ≤ 8
  mono i h := ⟨repV_mono i _ _ h.1, h.2⟩
/-! the program's refusals -/
inductive XC where
  | NoName | Twice | Stranger | Ring | TooMany | NoBench | NoText | NoRow | NoWood | NoEnd | NoJob | NoWindow | NoLength | NoPaper | NoTurns | NoLine
  deriving DecidableEq
def XC.nm : XC → Str
  | .NoName => "NoName" | .Twice => "Twice" | .Stranger => "Stranger" | .Ring => "Ring" | .TooMany => "TooMany" | .NoBench => "NoBench" | .NoText => "NoText" | .NoRow => "NoRow"
  | .NoWood => "NoWood" | .NoEnd => "NoEnd" | .NoJob => "NoJob" | .NoWindow => "NoWindow" | .NoLength => "NoLength" | .NoPaper => "NoPaper" | .NoTurns => "NoTurns" | .NoLine => "NoLine"
/-- the field that it bears -/
def XC.fld : XC → Option Str
  | .NoName => some "name" | .Twice => some "name" | .Stranger => some "name" | .Ring => some "ring" | _ => none
structure ErV where
  c : XC
  p : Dv := .non
instance : Inhabited ErV := ⟨⟨.NoLine, .non⟩⟩
abbrev ECl (K : PySem.W.Frag) (c : XC) : Addr := He.ga K c.nm
/-- the exception's dict -/
def XdOk (F : Hp) (d : Option Addr) (x : ErV) : Prop := match x.c.fld with
  | none => d = none
  | some fl => ∃ dx v, d = some dx ∧ F dx = some (.xd [(fl, v)]) ∧ repV F x.p v ∧ x.p.dep ≤ 8
/-- how a body ends: on, with a value, out of the loop -/
inductive Fl (β ρ : Type) where
  | nx (y : β)
  | rt (r : ρ)
  | bk (y : β)
def Fl.elim {β ρ γ : Type} (m : Fl β ρ) (n : β → γ) (r : ρ → γ) : γ := match m with
  | .nx y => n y
  | .rt x => r x
  | .bk y => n y
def forFl {α β ρ : Type} (g : β → α → Fl β ρ) : List α → β → Fl β ρ
  | [], y => .nx y
  | x :: xs, y => match g y x with
    | .nx z => forFl g xs z
    | .rt r => .rt r
    | .bk z => .bk z
theorem forFl_fold {α β ρ : Type} (g : β → α → β) : ∀ (xs : List α) (y : β), forFl (ρ := ρ) (fun y x => .nx (g y x)) xs y = .nx (xs.foldl g y)
  | [], _ => rfl
  | x :: xs, y => forFl_fold g xs (g y x)
def whFl {β ρ : Type} (c : β → Bool) (g : β → Fl β ρ) : Nat → β → Fl β ρ
  | 0, y => .nx y
  | n + 1, y => if c y then (match g y with
    | .nx z => whFl c g n z
    | .rt r => .rt r
    | .bk z => .nx z) else .nx y
/-- the while ends within n turns, and each turn is well -/
def whOk {β ρ : Type} (c : β → Bool) (g : β → Fl β ρ) (ok : β → Prop) : Nat → β → Prop
  | 0, y => c y = false
  | n + 1, y => c y = true → ok y ∧ ∀ z, g y = .nx z → whOk c g ok n z
/-- the place x of xs, the state y there -/
def At {α β ρ : Type} (g : β → α → Fl β ρ) (xs : List α) (y0 : β) (y : β) (x : α) : Prop := ∃ pre post, xs = pre ++ x :: post ∧ forFl g pre y0 = .nx y
def AtF {α β : Type} (g : β → α → β) (xs : List α) (y0 : β) (y : β) (x : α) : Prop := ∃ pre post, xs = pre ++ x :: post ∧ pre.foldl g y0 = y
theorem forFl_append {α β ρ : Type} (g : β → α → Fl β ρ) (ys : List α) (z : β) : ∀ (pre : List α) (y : β), forFl g pre y = .nx z → forFl g (pre ++ ys) y = forFl g ys z
  | [], y, h => by
    have e : y = z := by injection h
    rw [e]; rfl
  | x :: pre, y, h => by
    have h' : (match g y x with | .nx z => forFl g pre z | .rt r => .rt r | .bk z => .bk z) = Fl.nx z := h
    show (match g y x with | .nx z => forFl g (pre ++ ys) z | .rt r => .rt r | .bk z => .bk z) = forFl g ys z
    cases q : g y x with
    | nx w => rw [q] at h'; exact forFl_append g ys z pre w h'
    | rt r => rw [q] at h'; cases h'
    | bk w => rw [q] at h'; cases h'
theorem forFl_snoc {α β ρ : Type} (g : β → α → Fl β ρ) {pre : List α} {x : α} {y z : β} (h : forFl g pre y = .nx z) : forFl g (pre ++ [x]) y = g z x := by
  rw [forFl_append g [x] z pre y h]
  show (match g z x with | .nx w => forFl g [] w | .rt r => .rt r | .bk w => .bk w) = g z x
  cases g z x <;> rfl

/-- how statements end -/
inductive Out : Type 1 where
  | nx (es : List En)
  | bk (es : List En)
  | en
  | rt (e : En)
  | eu (a : Addr) {α : Type} (r : Ow α) (p : α)
  | ru (a : Addr) {α : Type} (r : Ow α) (p : α) (e : En)
  | xc (x : ErV)
  | xu (a : Addr) {α : Type} (r : Ow α) (p : α) (x : ErV)
  | xs (es : List En) (x : ErV)
/-- an exception is taken: behind it nothing is said; what is lent is as told; the slots are as told -/
def XcK (X : Cx) (f : Fr) (x : ErV) : Prop := ∃ W : L2.WX, L2.Takes X W ∧ ∀ σ F H d, Stp f F H → XdOk F d x → W (.ref (ECl X.K x.c)) d σ H
def XuK (X : Cx) (f : Fr) (a : Addr) {α : Type} (r : Ow α) (p : α) (x : ErV) : Prop := ∃ W : L2.WX, L2.Takes X W ∧ ∀ σ F H d P, Stp f F H → XdOk F d x → Ow.own X.K F H (.ref a) p P → P.Nodup → (∀ q ∈ P, f.free q) → W (.ref (ECl X.K x.c)) d σ H
def XsK (X : Cx) (f : Fr) (es : List En) (x : ErV) : Prop := ∃ W : L2.WX, L2.Takes X W ∧ ∀ σ F H d, Sw X.K f es σ F H → XdOk F d x → W (.ref (ECl X.K x.c)) d σ H
def RetK (K : PySem.W.Frag) (f : Fr) (R : VK) : En → Prop
  | .fzI _ x => ∀ v F H, Stp f F H → Rp.rep K F v x → R v H
  | .owI _ x => ∀ v F H P, Stp f F H → Ow.own K F H v x P → P.Nodup → (∀ p ∈ P, f.H p = none) → R v H
  | _ => False
def RetU (K : PySem.W.Frag) (f : Fr) (R : VK) (a : Addr) {α : Type} (r : Ow α) (p : α) : En → Prop
  | .fzI _ x => ∀ v F H P, Stp f F H → Ow.own K F H (.ref a) p P → P.Nodup → (∀ q ∈ P, f.free q) → Rp.rep K F v x → R v H
  | .owI _ x => ∀ v F H P P', Stp f F H → Ow.own K F H (.ref a) p P → P.Nodup → (∀ q ∈ P, f.free q) → Ow.own K F H v x P' → P'.Nodup → (∀ q ∈ P', f.H q = none) → (∀ q ∈ P', q ∉ P) → R v H
  | _ => False
def OutK (X : Cx) (f : Fr) (D : Ends) : Out → Prop
  | .nx es => ∀ σ F H, Sw X.K f es σ F H → D.nx σ H
  | .bk es => ∀ σ F H, Sw X.K f es σ F H → D.bk σ H
  | .en => ∀ σ F H, Stp f F H → D.nx σ H
  | .rt e => RetK X.K f D.rt e
  | .eu a r p => ∀ σ F H P, Stp f F H → Ow.own X.K F H (.ref a) p P → P.Nodup → (∀ q ∈ P, f.free q) → D.nx σ H
  | .ru a r p e => RetU X.K f D.rt a r p e
  | .xc x => XcK X f x
  | .xu a r p x => XuK X f a r p x
  | .xs es x => XsK X f es x
structure ES (X : Cx) (es : List En) (sts : List Stmt) (out : Out) : Prop where
  run : ∀ (f : Fr) (σ : L2.St) (F H : Hp) (D : Ends), Sw X.K f es σ F H → OutK X f D out → wpSs X sts D σ H
instance {X : Cx} {es : List En} {sts : List Stmt} {out : Out} : CoeFun (ES X es sts out) (fun _ => ∀ (f : Fr) (σ : L2.St) (F H : Hp) (D : Ends), Sw X.K f es σ F H → OutK X f D out → wpSs X sts D σ H) := ⟨ES.run⟩
structure S1 (X : Cx) (es : List En) (st : Stmt) (out : Out) : Prop where
  run : ∀ (f : Fr) (σ : L2.St) (F H : Hp) (D : Ends), Sw X.K f es σ F H → OutK X f D out → wpS X st D σ H
instance {X : Cx} {es : List En} {st : Stmt} {out : Out} : CoeFun (S1 X es st out) (fun _ => ∀ (f : Fr) (σ : L2.St) (F H : Hp) (D : Ends), Sw X.K f es σ F H → OutK X f D out → wpS X st D σ H) := ⟨S1.run⟩
abbrev E1 (X : Cx) (es : List En) (st : Stmt) (es1 : List En) : Prop := S1 X es st (.nx es1)
/-- an out that does not go on -/
def Out.ends : Out → Bool
  | .rt _ => true
  | .ru _ _ _ _ => true
  | .bk _ => true
  | .xc _ => true
  | .xu _ _ _ _ => true
  | .xs _ _ => true
  | _ => false
def Out.rets : Out → Bool
  | .rt _ => true
  | .ru _ _ _ _ => true
  | .xc _ => true
  | .xu _ _ _ _ => true
  | .xs _ _ => true
  | _ => false
/-- less is said of each slot -/
def Wk : List En → List En → Prop
  | [], [] => True
  | e :: es, e' :: es' => (e' = .un ∨ e = e') ∧ Wk es es'
  | _, _ => False
def noAls : List En → Bool
  | [] => true
  | .alI _ _ _ :: _ => false
  | _ :: r => noAls r
theorem Wk.len : ∀ {es es' : List En}, Wk es es' → es'.length = es.length
  | [], [], _ => rfl
  | [], _ :: _, h => h.elim
  | _ :: _, [], h => h.elim
  | _ :: es, _ :: es', h => by simp [Wk.len h.2]
theorem Wk.at : ∀ {es es' : List En} (i : Nat) (e : En), Wk es es' → es'[i]? = some e → e = .un ∨ es[i]? = some e
  | [], [], _, _, _, h => by simp at h
  | [], _ :: _, _, _, h, _ => h.elim
  | _ :: _, [], _, _, h, _ => h.elim
  | a :: es, b :: es', 0, e, h, q => by
    have q' : b = e := by simpa using q
    rcases h.1 with z | z
    · exact .inl (q'.symm.trans z)
    · exact .inr (by simp [z, q'])
  | _ :: es, _ :: es', i + 1, e, h, q => by
    rcases Wk.at i e h.2 (by simpa using q) with z | z
    · exact .inl z
    · exact .inr (by simpa using z)
theorem noAls_at : ∀ {es : List En} (i j : Nat) (α : Type) (r : Ow α) (x : α), noAls es = true → es[i]? ≠ some (.alI j r x)
  | [], _, _, _, _, _, _, h => by simp at h
  | e :: es, 0, j, α, r, x, h, q => by
    have q' : e = .alI j r x := by simpa using q
    rw [q'] at h; cases h
  | e :: es, i + 1, j, α, r, x, h, q => by
    have h2 : noAls es = true := by cases e <;> first | exact h | cases h
    exact noAls_at i j α r x h2 (by simpa using q)
theorem noAls_of {es : List En} (h : noAls es = true) (i : Nat) : noAl i es := fun k α r x => noAls_at k i α r x h
theorem Sw.wk {K : PySem.W.Frag} {f : Fr} {es es' : List En} {σ : L2.St} {F H : Hp} (s : Sw K f es σ F H) (w : Wk es es') (n : noAls es' = true) : Sw K f es' σ F H :=
  s.weak w.len (fun i e h => w.at i e h) fun i j α r x h => absurd h (noAls_at i j α r x n)
/-- seen from a later frozen heap -/
def Fr.at (f : Fr) (F : Hp) : Fr := ⟨f.io, F, f.H⟩
theorem Stp.root {f : Fr} {F H : Hp} (s : Stp f F H) : Stp (f.at F) F H := ⟨Inc.refl _, s.h, s.t, s.e, fun _ _ h => .inl h, s.k⟩
theorem Stp.unroot {f : Fr} {F H F' H' : Hp} (s : Stp f F H) (t : Stp (f.at F) F' H') : Stp f F' H' := ⟨s.f.trans t.f, t.h, t.t, t.e, fun a h1 h2 => by
  rcases s.n a h1 h2 with z | ⟨ks, z⟩
  · exact t.n a h1 z
  · cases q : F a with
    | none => exact t.n a h1 q
    | some u =>
      have e : u = sk ks := by
        rcases s.e a u q with w | ⟨_, ob, w⟩ | ⟨_, _, w⟩
        · rw [z] at w; exact (Option.some.inj w).symm
        · rw [z] at w; cases w
        · rw [z] at w; cases w
      subst e
      exact .inr ⟨ks, (t.e a _ (t.f a _ q)).nd fun d => d⟩, t.k⟩
theorem EnvP.fr' {K : PySem.W.Frag} {f f' : Fr} {es : List En} {σ : L2.St} {F H : Hp} {Ps : Nat → List Addr} (q : EnvP K f es σ F H Ps) (h1 : f'.io = f.io) (h2 : f'.H = f.H) : EnvP K f' es σ F H Ps :=
  ⟨q.len, q.ok, q.nd, q.dj, fun i p a b => by
    have z := q.fr i p a b
    unfold Fr.free at z ⊢
    rw [h1, h2]; exact z, fun i p α r x a b => by
    rw [h2]; exact q.nw i p α r x a b, q.al⟩
theorem Sw.root {K : PySem.W.Frag} {f : Fr} {es : List En} {σ : L2.St} {F H : Hp} (s : Sw K f es σ F H) : Sw K (f.at F) es σ F H := let ⟨Ps, q⟩ := s.env; ⟨s.st.root, Ps, q.fr' rfl rfl⟩
theorem Sw.unroot {K : PySem.W.Frag} {f : Fr} {es es' : List En} {σ σ' : L2.St} {F H F' H' : Hp} (s : Sw K f es σ F H) (t : Sw K (f.at F) es' σ' F' H') : Sw K f es' σ' F' H' := let ⟨Ps, q⟩ := t.env; ⟨s.st.unroot t.st, Ps, q.fr' rfl rfl⟩
theorem RetK.root {K : PySem.W.Frag} {f : Fr} {R : VK} {F H : Hp} (s : Stp f F H) {e : En} (h : RetK K f R e) : RetK K (f.at F) R e := by
  cases e with
  | fzI _ x => exact fun v F' H' st r => h v F' H' (s.unroot st) r
  | owI _ x => exact fun v F' H' P st r hn hp => h v F' H' P (s.unroot st) r hn hp
  | un => exact h
  | atI _ _ _ => exact h
  | alI _ _ _ => exact h
theorem RetU.root {K : PySem.W.Frag} {f : Fr} {R : VK} {F H : Hp} (s : Stp f F H) {a : Addr} {α : Type} {r : Ow α} {p : α} {e : En} (h : RetU K f R a r p e) : RetU K (f.at F) R a r p e := by
  cases e with
  | fzI _ x => exact fun v F' H' P st o hn hf r => h v F' H' P (s.unroot st) o hn hf r
  | owI _ x => exact fun v F' H' P P' st o hn hf r a b c => h v F' H' P P' (s.unroot st) o hn hf r a b c
  | un => exact h
  | atI _ _ _ => exact h
  | alI _ _ _ => exact h
theorem XcK.root {X : Cx} {f : Fr} {F H : Hp} (s : Stp f F H) {x : ErV} (h : XcK X f x) : XcK X (f.at F) x :=
  let ⟨W, t, k⟩ := h
  ⟨W, t, fun σ F' H' d st q => k σ F' H' d (s.unroot st) q⟩
theorem XuK.root {X : Cx} {f : Fr} {F H : Hp} (s : Stp f F H) {a : Addr} {α : Type} {r : Ow α} {p : α} {x : ErV} (h : XuK X f a r p x) : XuK X (f.at F) a r p x :=
  let ⟨W, t, k⟩ := h
  ⟨W, t, fun σ F' H' d P st q => k σ F' H' d P (s.unroot st) q⟩
theorem XsK.root {X : Cx} {f : Fr} {es es' : List En} {σ : L2.St} {F H : Hp} (s : Sw X.K f es σ F H) {x : ErV} (h : XsK X f es' x) : XsK X (f.at F) es' x :=
  let ⟨W, t, k⟩ := h
  ⟨W, t, fun σ F' H' d st q => k σ F' H' d (s.unroot st) q⟩
theorem OutK.root {X : Cx} {f : Fr} {D : Ends} {es : List En} {σ : L2.St} {F H : Hp} (s : Sw X.K f es σ F H) {o : Out} (h : OutK X f D o) : OutK X (f.at F) D o := by
  cases o with
  | nx es => exact fun σ F' H' t => h σ F' H' (s.unroot t)
  | bk es => exact fun σ F' H' t => h σ F' H' (s.unroot t)
  | en => exact fun σ F' H' t => h σ F' H' (s.st.unroot t)
  | rt e => exact RetK.root s.st h
  | eu a r p => exact fun σ F' H' P t o hn hf => h σ F' H' P (s.st.unroot t) o hn hf
  | ru a r p e => exact RetU.root s.st h
  | xc x => exact XcK.root s.st h
  | xu a r p x => exact XuK.root s.st h
  | xs es x => exact XsK.root s h
/-- the loop's own ends -/
def flO {β ρ : Type} (esf : β → List En) (kr : ρ → Out) : Fl β ρ → Out
  | .nx y => .nx (esf y)
  | .rt r => kr r
  | .bk y => .bk (esf y)
/-- behind a loop: out of it is on -/
def flN {β ρ : Type} (esf : β → List En) (kr : ρ → Out) : Fl β ρ → Out
  | .nx y => .nx (esf y)
  | .rt r => kr r
  | .bk y => .nx (esf y)
theorem OutK.rets {X : Cx} {f : Fr} {D : Ends} {N B C : L2.St → Hp → Prop} {o : Out} (he : o.rets = true) (h : OutK X f D o) : OutK X f ⟨N, D.rt, B, C⟩ o := by
  cases o with
  | nx es => cases he
  | en => cases he
  | eu a r p => cases he
  | bk es => cases he
  | rt e => exact h
  | ru a r p e => exact h
  | xc x => exact h
  | xu a r p x => exact h
  | xs es x => exact h
theorem OutK.ends {X : Cx} {f : Fr} {D : Ends} {N C : L2.St → Hp → Prop} {o : Out} (he : o.ends = true) (h : OutK X f D o) : OutK X f ⟨N, D.rt, D.bk, C⟩ o := by
  cases o with
  | nx es => cases he
  | en => cases he
  | eu a r p => cases he
  | bk es => exact h
  | rt e => exact h
  | ru a r p e => exact h
  | xc x => exact h
  | xu a r p x => exact h
  | xs es x => exact h
section
variable {X : Cx} {es es1 es2 : List En} {a b c e tg iter : Expr} {st : Stmt} {rest body : List Stmt} {pos : Pos} {α β γ ρ : Type} {out : Out}
theorem es_nil (w : Wk es es1) (n : noAls es1 = true := by rfl) : ES X es [] (.nx es1) := .mk fun f σ F H D S h => pssR pss_nil (h σ F H (S.wk w n))
theorem es_end : ES X es [] .en := .mk fun f σ F H D S h => pssR pss_nil (h σ F H S.st)
theorem es_cons (h1 : E1 X es st es1) (h2 : ES X es1 rest out) : ES X es (st :: rest) out := .mk fun f σ F H D S h =>
  pssR (pss_cons psW pssW) (h1 f σ F H { D with nx := wpSs X rest D } S fun σ1 F1 H1 S1 => h2 f σ1 F1 H1 D S1 h)
theorem es_one (h1 : S1 X es st out) : ES X es [st] out := .mk fun f σ F H D S h => pssR (pss_one psW) (h1 f σ F H D S h)
/-- a statement that may end in several ways, then the rest -/
theorem es_seq {k : γ → Out} {esf : β → List En} {kr : ρ → Out} {m : Fl β ρ} {mr : β → γ} {rr : ρ → γ} (h1 : S1 X es st (flN esf kr m)) (hr : ∀ r, kr r = k (rr r)) (he : ∀ r, (kr r).rets = true) (h2 : ∀ y, m = .nx y ∨ m = .bk y → ES X (esf y) rest (k (mr y))) : ES X es (st :: rest) (k (m.elim mr rr)) := .mk fun f σ F H D S h => by
  refine pssR (pss_cons psW pssW) ?_
  cases m with
  | nx y => exact h1 f σ F H _ S fun σ1 F1 H1 S1 => h2 y (.inl rfl) f σ1 F1 H1 D S1 h
  | bk y => exact h1 f σ F H _ S fun σ1 F1 H1 S1 => h2 y (.inr rfl) f σ1 F1 H1 D S1 h
  | rt r =>
    refine h1 f σ F H _ S (OutK.rets (he r) ?_)
    show OutK X f D (kr r)
    rw [hr r]; exact h
end
end Ly
namespace Ly
open PySem PySem.Spec PyProof.Rows L2
section
variable {X : Cx} {es es1 es2 es3 : List En} {a b c e tg iter : Expr} {st : Stmt} {sts rest body : List Stmt} {pos : Pos} {α β γ ρ : Type} {out : Out}
/-! targets -/
def GJ (X : Cx) (tg : Expr) (es : List En) [Rp α] (x : α) (es' : List En) : Prop := ∀ (f : Fr) (σ : L2.St) (F H : Hp) (v : V), Sw X.K f es σ F H → Rp.rep X.K F v x → ∀ Q : L2.St → Hp → Prop, (∀ σ' F' H', Sw X.K f es' σ' F' H' → Inc F F' → Q σ' H') → wpG X tg v σ H Q
theorem g_name {i : Nat} [Rp α] {x : α} (hg : PG X tg (gName i)) (hi : i < es.length) (ha : alFree i es = true := by rfl) : GJ X tg es x (es.set i (.fz x)) := fun f σ F H v S r Q q =>
  pgR hg (q _ F H (S.setF hi r (noAl_of ha)) (Inc.refl _))
/-! assignments -/
theorem s_asg {i : Nat} [Rp α] {x : α} (hst : PS X st (tAsg (wpE X e) (gName i))) (h : FJ X es e x) (he : es.set i (.fz x) = es1 := by rfl) (hi : i < es.length := by exact Nat.le_of_ble_eq_true rfl) (ha : alFree i es = true := by rfl) : E1 X es st es1 := .mk fun f σ F H D S q =>
  psR hst (h f σ F H S _ fun v F1 H1 t r => by
    subst he
    exact q _ F1 H1 ((S.step t).setF hi r (noAl_of ha)))
theorem s_asgX {i : Nat} [Rp α] {x : α} (hst : PS X st (tAsg (wpE X e) (gName i))) (h : XJ X es e x es2) (he : es2.set i (.fz x) = es1 := by rfl) (hi : i < es2.length := by exact Nat.le_of_ble_eq_true rfl) (ha : alFree i es2 = true := by rfl) : E1 X es st es1 := .mk fun f σ F H D S q =>
  psR hst (h f σ F H S _ fun v F1 H1 S1 i1 r => by
    subst he
    exact q _ F1 H1 (S1.setF hi r (noAl_of ha)))
theorem s_asgN {i : Nat} [Ow α] {x : α} (hst : PS X st (tAsg (wpE X e) (gName i))) (h : NJ X es e x) (he : es.set i (.ow x) = es1 := by rfl) (hi : i < es.length := by exact Nat.le_of_ble_eq_true rfl) (ha : alFree i es = true := by rfl) : E1 X es st es1 := .mk fun f σ F H D S q =>
  psR hst (h f σ F H S _ fun v F1 H1 P t r hn hp => by
    subst he
    exact q _ F1 H1 (S.setN t hi r hn hp (noAl_of ha)))
/-- an own slot is frozen -/
theorem Sw.frz1P {K : PySem.W.Frag} {f : Fr} {es : List En} {σ : L2.St} {F H : Hp} {i : Nat} [Ow α] {x : α} (S : Sw K f es σ F H) (h : es[i]? = some (.ow x)) (na : noAl i es) : ∃ v P, sl σ i = some v ∧ Ow.own K F H v x P ∧ Sw K f (es.set i (@En.fz α Ow.rp x)) σ (fzP F H P) H := by
  obtain ⟨Ps, p⟩ := S.env
  obtain ⟨v, ev, r⟩ := p.ok i _ h
  have hi := get_lt h
  have hP : ∀ z ∈ Ps i, F z = none ∧ f.H z = none := fun z hz => ⟨(Ow.out r z hz).2, p.nw i z _ _ _ h hz⟩
  refine ⟨v, Ps i, ev, r, S.st.freeze hP, fun j => if j = i then [] else Ps j, by simp [p.len], fun j e' hj => ?_, fun j hj => ?_, fun j k z h1 h2 p1 p2 => ?_, fun j z h1 p1 => ?_, fun j z α r x hj p1 => ?_, fun j k α r x hj => ?_⟩
  · by_cases z : j = i
    · subst z
      rw [List.getElem?_set_self hi] at hj
      cases hj
      rw [if_pos rfl]; exact ⟨rfl, v, ev, Ow.fzn r⟩
    · rw [List.getElem?_set_ne (Ne.symm z)] at hj
      rw [if_neg z]
      refine (p.ok j e' hj).but (fzP_inc fun z hz => (hP z hz).1) (fun _ _ => rfl) fun w hw => ?_
      rw [fzP_out fun k => z (p.dj j i w (get_lt hj) hi hw k)]; exact ((p.ok j e' hj).out w hw).2
  · by_cases z : j = i
    · rw [if_pos z]; exact List.nodup_nil
    · rw [if_neg z]; exact p.nd j (by simpa using hj)
  · rw [List.length_set] at h1 h2
    by_cases y : j = i
    · rw [if_pos y] at p1; cases p1
    · rw [if_neg y] at p1
      by_cases y2 : k = i
      · rw [if_pos y2] at p2; cases p2
      · rw [if_neg y2] at p2; exact p.dj j k z h1 h2 p1 p2
  · rw [List.length_set] at h1
    by_cases y : j = i
    · rw [if_pos y] at p1; cases p1
    · rw [if_neg y] at p1; exact p.fr j z h1 p1
  · by_cases y : j = i
    · rw [if_pos y] at p1; cases p1
    · rw [if_neg y] at p1
      rw [List.getElem?_set_ne (Ne.symm y)] at hj
      exact p.nw j z α r x hj p1
  · by_cases y : j = i
    · subst y
      rw [List.getElem?_set_self hi] at hj
      cases hj
    · rw [List.getElem?_set_ne (Ne.symm y)] at hj
      obtain ⟨hk, w, Q, ew, hQ, o⟩ := p.al j k α r x hj
      have hki : k ≠ i := fun z2 => na j α r x (z2 ▸ hj)
      refine ⟨by rw [List.length_set]; exact hk, w, Q, ew, fun z hz => ?_, ?_⟩
      · rw [if_neg hki]; exact hQ z hz
      · refine Ow.mono (fzP_inc fun z hz => (hP z hz).1) (fun _ _ => rfl) (fun z hz => ?_) o
        rw [fzP_out fun y => hki (p.dj k i z hk hi (hQ z hz) y)]; exact (p.out hk z (hQ z hz)).2
theorem Sw.frz1 {K : PySem.W.Frag} {f : Fr} {es : List En} {σ : L2.St} {F H : Hp} {i : Nat} [Ow α] {x : α} (S : Sw K f es σ F H) (h : es[i]? = some (.ow x)) (na : noAl i es) : ∃ v F', sl σ i = some v ∧ Inc F F' ∧ @Rp.rep α Ow.rp K F' v x ∧ Sw K f (es.set i (@En.fz α Ow.rp x)) σ F' H := by
  obtain ⟨v, P, ev, r, S'⟩ := S.frz1P h na
  exact ⟨v, _, ev, fzP_inc fun z hz => (Ow.out r z hz).2, Ow.fzn r, S'⟩
/-- an own name is read, and frozen with it: y = x, return x -/
theorem x_frz {i : Nat} [Ow α] {x : α} (hv : PE X e (tVar i)) (h : es[i]? = some (.ow x) := by rfl) (he : es.set i (@En.fz α Ow.rp x) = es1 := by rfl) (ha : alFree i es = true := by rfl) : @XJ X es e α Ow.rp x es1 := .mk fun f σ F H S Q q => peR hv (by
  subst he
  obtain ⟨v, F', ev, inc, r, S'⟩ := S.frz1 h (noAl_of ha)
  exact ⟨v, sl_of ev, q v F' H S' inc r⟩)
theorem thaw_r {i : Nat} [Ow α] {x : α} [Sc β] {y : β} (hi : es[i]? = some (.ow x)) (h : RJ X (es.set i (@En.fz α Ow.rp x)) e y) (ha : alFree i es = true := by rfl) : RJ X es e y := .mk fun f σ F H S Q q => by
  obtain ⟨v, F', ev, inc, r, S'⟩ := S.frz1 hi (noAl_of ha)
  exact h f σ F' H S' Q fun w F1 H1 t1 r1 => q w F H1 ⟨Inc.refl _, t1.h, t1.t, S.sub.inc t1.inc, fun _ _ h => .inl h, t1.k⟩ r1
/-- an expression's value is dropped -/
theorem s_drop (hst : PS X st (tDrop (wpE X e))) [Rp α] {x : α} (h : XJ X es e x es1) : E1 X es st es1 := .mk fun f σ F H D S q =>
  psR hst (h f σ F H S _ fun v F1 H1 S1 i1 r => q _ F1 H1 S1)
/-! return -/
theorem s_ret [Rp α] {x : α} (hst : PS X st (tRet (wpE X e))) (h : FJ X es e x) : S1 X es st (.rt (.fz x)) := .mk fun f σ F H D S q =>
  psR hst (h f σ F H S _ fun v F1 H1 t r => q v F1 H1 (S.st.then0 t) r)
theorem s_retX [Rp α] {x : α} (hst : PS X st (tRet (wpE X e))) (h : XJ X es e x es1) : S1 X es st (.rt (.fz x)) := .mk fun f σ F H D S q =>
  psR hst (h f σ F H S _ fun v F1 H1 S1 i1 r => q v F1 H1 S1.st r)
theorem s_retN [Ow α] {x : α} (hst : PS X st (tRet (wpE X e))) (h : NJ X es e x) : S1 X es st (.rt (.ow x)) := .mk fun f σ F H D S q =>
  psR hst (h f σ F H S _ fun v F1 H1 P t r hn hp => q v F1 H1 P (S.st.then0 t) r hn fun z hz => S.st.back (hp z hz))
/-! with something lent at the slot i -/
theorem EnvP.at_ {K : PySem.W.Frag} {f : Fr} {es : List En} {σ : L2.St} {F H : Hp} {Ps : Nat → List Addr} {i : Nat} {p : Addr} [Ow β] {y : β} (q : EnvP K f es σ F H Ps) (h : es[i]? = some (.at p y)) : sl σ i = some (.ref p) ∧ Ow.own K F H (.ref p) y (Ps i) ∧ (Ps i).Nodup ∧ ∀ z ∈ Ps i, f.free z :=
  let ⟨e, r⟩ := q.ok i _ h
  ⟨e, r, q.nd i (get_lt h), fun z hz => q.fr i z (get_lt h) hz⟩
theorem u_ret {i : Nat} {p : Addr} [r : Ow β] {y : β} [Rp α] {x : α} (hst : PS X st (tRet (wpE X e))) (h : XJ X es e x es1) (hu : es1[i]? = some (.at p y) := by rfl) : S1 X es st (.ru p r y (.fz x)) := .mk fun f σ F H D S q =>
  psR hst (h f σ F H S _ fun v F1 H1 S1 i1 r => by
    obtain ⟨Ps, pp⟩ := S1.env
    obtain ⟨_, o, hn, hf⟩ := pp.at_ hu
    exact q v F1 H1 (Ps i) S1.st o hn hf r)
theorem u_retO {i j : Nat} {p : Addr} [r : Ow β] {y : β} [Ow α] {x : α} (hst : PS X st (tRet (wpE X e))) (hv : PE X e (tVar j)) (h : es[j]? = some (.ow x) := by rfl) (hu : es[i]? = some (.at p y) := by rfl) (hij : i ≠ j := by decide) : S1 X es st (.ru p r y (.ow x)) := .mk fun f σ F H D S q =>
  psR hst (peR hv (by
    obtain ⟨Ps, pp⟩ := S.env
    obtain ⟨v, ev, o2⟩ := pp.ok j _ h
    obtain ⟨_, o, hn', hf⟩ := pp.at_ hu
    exact ⟨v, sl_of ev, q v F H (Ps i) (Ps j) S.st o hn' hf o2 (pp.nd j (get_lt h)) (fun z hz => pp.nw j z _ _ _ h hz) fun z hz k => hij (pp.dj i j z (get_lt hu) (get_lt h) k hz)⟩))
/-! if -/
theorem s_if {A B : List Stmt} {k : Bool} (h : XT X es c k es1) (h1 : k = true → ES X es1 A out) (h2 : k = false → ES X es1 B out) : S1 X es (.If c A B pos) out := .mk fun f σ F H D S q =>
  psR (ps_if ptW pssW pssW) (h f σ F H S _ fun F1 H1 S1 i1 => by
    cases k with
    | true => exact h1 rfl f σ F1 H1 D S1 q
    | false => exact h2 rfl f σ F1 H1 D S1 q)
/-- both ways end: k of the value -/
theorem s_ife {A B : List Stmt} {b : Bool} {k : γ → Out} {m1 m2 : γ} (h : XT X es c b es1) (h1 : b = true → ES X es1 A (k m1)) (h2 : b = false → ES X es1 B (k m2)) : S1 X es (.If c A B pos) (k (bif b then m1 else m2)) :=
  s_if h (fun e => by subst e; exact h1 rfl) (fun e => by subst e; exact h2 rfl)
/-- if c: return .. ; the rest -/
theorem es_ifr {A : List Stmt} {b : Bool} {k : γ → Out} {m1 m2 : γ} (h : XT X es c b es1) (he : (k m1).ends = true) (h1 : b = true → ES X es1 A (k m1)) (h2 : b = false → ES X es1 rest (k m2)) : ES X es (.If c A [] pos :: rest) (k (bif b then m1 else m2)) := .mk fun f σ F H D S q =>
  pssR (pss_cons (ps_if ptW pssW pss_nil) pssW) (h f σ F H S _ fun F1 H1 S1 i1 => by
    cases b with
    | true => exact h1 rfl f σ F1 H1 _ S1 (OutK.ends he q)
    | false => exact h2 rfl f σ F1 H1 D S1 q)
/-! what is walked -/
def YlF (K : PySem.W.Frag) (J : It) (F0 : Hp) [Rp α] (xs : List α) : Prop := ∀ (i : Nat) (F H : Hp), Inc F0 F → Sub F H → (i = xs.length → J.stop i H) ∧ ∀ x, xs[i]? = some x → J.go i H ∧ ∀ v H', J.yld i H v H' → ∃ F', St0 F H F' H' ∧ Rp.rep K F' v x
def IJ (X : Cx) (tg : Expr) (es : List En) (iter : Expr) [Rp α] (xs : List α) (es1 : List En) : Prop := ∀ (f : Fr) (σ : L2.St) (F H : Hp), Sw X.K f es σ F H → ∀ R : It → Hp → Prop, (∀ J F' H', Sw X.K f es1 σ F' H' → Inc F F' → YlF X.K J F' xs → R J H') → wpI X tg iter σ H R
theorem i_list [Rp α] {xs : List α} (h : XJ X es iter xs es1) : IJ X tg es iter xs es1 := fun f σ F H S R q =>
  piR (pi_list peW) (h f σ F H S _ fun v F1 H1 S1 i1 r => by
    obtain ⟨p, vs, e, hH, hF, rr⟩ := repL S1.sub r
    refine ⟨p, e, ⟨vs, .inl (.inl hH)⟩, q _ F1 H1 S1 i1 fun i F2 H2 i2 s2 => ?_⟩
    have hH2 : H2 p = some (.lst vs) := (s2 p _ (i2 p _ hF)).nd fun z => z
    have rr2 : Paired (Rp.rep X.K F2) vs xs := pairedM i2 rr
    refine ⟨fun ei => ⟨vs, .inl (.inl hH2), by rw [pairedLen rr2]; omega⟩, fun x hx => ?_⟩
    obtain ⟨w, hw, rw_⟩ := pairedGet rr2 hx
    refine ⟨⟨vs, w, .inl (.inl hH2), hw⟩, fun v' H' y => ?_⟩
    obtain ⟨eH, y⟩ := y
    subst eH
    have ev : vs[i]? = some v' := y vs (.inl (.inl hH2))
    rw [hw] at ev
    cases ev
    exact ⟨F2, St0.refl s2, rw_⟩)
/-- the numbers from lo on, n of them -/
def upFrom (lo : Int) (n : Nat) : List Int := (List.range n).map fun (i : Nat) => lo + (i : Int)
theorem upFrom_at {lo : Int} {n i : Nat} {x : Int} (h : (upFrom lo n)[i]? = some x) : i < n ∧ x = lo + i := by
  unfold upFrom at h
  rw [List.getElem?_map] at h
  cases q : (List.range n)[i]? with
  | none => rw [q] at h; cases h
  | some j =>
    rw [q] at h
    have hj := List.getElem?_eq_some_iff.mp q
    obtain ⟨hl, ej⟩ := hj
    rw [List.getElem_range] at ej
    rw [List.length_range] at hl
    have e : lo + (j : Int) = x := by simpa using h
    exact ⟨hl, by rw [← e, ← ej]⟩
theorem upFrom_len (lo : Int) (n : Nat) : (upFrom lo n).length = n := by unfold upFrom; simp
def rangeL (lo hi : Int) : List Int := upFrom lo (hi - lo).toNat
theorem ylR {K : PySem.W.Frag} {lo : Int} {n : Nat} {F0 : Hp} : YlF K (Itr lo n) F0 (upFrom lo n) := fun i F H i1 s => by
  refine ⟨fun ei => ?_, fun x hx => ?_⟩
  · rw [upFrom_len] at ei
    show n ≤ i
    omega
  · obtain ⟨hi, ex⟩ := upFrom_at hx
    refine ⟨hi, fun v H' y => ?_⟩
    obtain ⟨ev, eH⟩ := y
    subst ev eH
    exact ⟨F, St0.refl s, by rw [ex]; exact ⟨rfl, True.intro⟩⟩
theorem i_range1 {n : Int} {p : Pos} (hg : Gl X "range") (hm : X.mg "range" = none) (hb : -(2 ^ 62) ≤ n ∧ n < 2 ^ 62) (h : XJ X es a n es1) (hs : starEach [a] X.env = (false, eval a X.env) :: starEach [] X.env := by rfl) : IJ X tg es (.Call (.Name "range" p) [a] [] pos) (rangeL 0 n) es1 := fun f σ F H S R q =>
  piR (pi_range1 hg hm (pa_cons peW pa_nil hs) (hs.trans (by rfl))) (h f σ F H S _ fun v F1 H1 S1 i1 r => ⟨n, by rw [show v = V.int n from r.1], hb.1, hb.2, by
    have z : rangeL 0 n = upFrom 0 n.toNat := by unfold rangeL; rw [Int.sub_zero]
    exact q _ F1 H1 S1 i1 (by rw [z]; exact ylR)⟩)
/-- the signs of a text -/
def signsOf (z : Str) : List Str := z.cps.toList.map sgn
/-! for -/
/-- what is walked, seen by the frame -/
def YlS (K : PySem.W.Frag) (J : It) (f : Fr) [Rp α] (xs : List α) : Prop := ∀ (i : Nat) (F H : Hp), Stp f F H → (i = xs.length → J.stop i H) ∧ ∀ x, xs[i]? = some x → J.go i H ∧ ∀ v H', J.yld i H v H' → ∃ F', St0 F H F' H' ∧ Rp.rep K F' v x
theorem YlF.s {K : PySem.W.Frag} {J : It} {F1 : Hp} {f : Fr} [Rp α] {xs : List α} (h : YlF K J F1 xs) : YlS K J (f.at F1) xs := fun i F H st => h i F H st.f st.e
theorem for_core {y0 : β} [Rp α] {xs : List α} {esf : β → List En} {est : β → α → List En} {kr : ρ → Out} {g : β → α → Fl β ρ} {f : Fr} {σ : L2.St} {F H : Hp} {D : Ends}
    (hi : ∀ R : It → Hp → Prop, (∀ J F' H', Sw X.K f (esf y0) σ F' H' → Inc F F' → YlS X.K J (f.at F') xs → R J H') → wpI X tg iter σ H R)
    (ht : ∀ y x, GJ X tg (esf y) x (est y x)) (hk : ∀ r, (kr r).rets = true) (hb : ∀ y x, At g xs y0 y x → ES X (est y x) body (flO esf kr (g y x))) (q : OutK X f D (flN esf kr (forFl g xs y0))) : tFor (wpI X tg iter) (wpG X tg) (wpSs X body) D σ H := by
  refine hi _ fun J F1 H1 S1 i1 yl => ?_
  refine ⟨fun i m σ' H' => m = xs.length - i ∧ i ≤ xs.length ∧ ∃ y F', forFl g (xs.take i) y0 = .nx y ∧ Sw X.K (f.at F1) (esf y) σ' F' H', ⟨xs.length, by omega, Nat.zero_le _, y0, F1, rfl, S1.root⟩, ?_⟩
  rintro i m σ' H' ⟨em, hil, y, F', ey, S'⟩
  have inc : Inc F1 F' := S'.st.f
  by_cases hlt : i < xs.length
  · have hx : xs[i]? = some xs[i] := List.getElem?_eq_getElem hlt
    obtain ⟨go, yd⟩ := (yl i F' H' S'.st).2 _ hx
    have split : xs = xs.take i ++ xs[i] :: xs.drop (i + 1) := by
      rw [List.getElem_cons_drop, List.take_append_drop]
    have tk : xs.take (i + 1) = xs.take i ++ [xs[i]] := by
      rw [List.take_add_one, hx]; rfl
    refine .inr ⟨go, fun σ2 H2 => ∃ y2 F2, forFl g (xs.take (i + 1)) y0 = .nx y2 ∧ Sw X.K (f.at F1) (esf y2) σ2 F2 H2, fun σ2 H2 ⟨y2, F2, e2, S2⟩ => ⟨m - 1, by omega, by omega, hlt, y2, F2, e2, S2⟩, fun v H2 yv => ?_⟩
    obtain ⟨F2, t2, r2⟩ := yd v H2 yv
    have S2 := S'.step t2
    refine ht y xs[i] _ σ' F2 H2 v S2 r2 _ fun σ3 F3 H3 S3 i3 => ?_
    refine hb y xs[i] ⟨_, _, split, ey⟩ _ σ3 F3 H3 _ S3 ?_
    have sn := forFl_snoc g (x := xs[i]) ey
    rw [← tk] at sn
    have whole : forFl g xs y0 = forFl g (xs[i] :: xs.drop (i + 1)) y := by
      have z := forFl_append g (xs[i] :: xs.drop (i + 1)) y _ y0 ey
      rw [← split] at z
      exact z
    cases hg : g y xs[i] with
    | nx z =>
      rw [hg] at sn
      exact fun σ4 F4 H4 S4 => ⟨z, F4, sn, S4⟩
    | bk z =>
      have w2 : forFl g xs y0 = .bk z := by
        rw [whole]
        show (match g y xs[i] with | .nx w => forFl g (xs.drop (i + 1)) w | .rt r => .rt r | .bk w => .bk w) = Fl.bk z
        rw [hg]
      rw [w2] at q
      exact fun σ4 F4 H4 S4 => q σ4 F4 H4 (S1.unroot S4)
    | rt r =>
      have w2 : forFl g xs y0 = .rt r := by
        rw [whole]
        show (match g y xs[i] with | .nx w => forFl g (xs.drop (i + 1)) w | .rt r => .rt r | .bk w => .bk w) = Fl.rt r
        rw [hg]
      rw [w2] at q
      have q' : OutK X f D (kr r) := q
      have q2 := OutK.root S1 q'
      show OutK X (f.at F1) _ (kr r)
      exact OutK.rets (hk r) q2
  · have ei : i = xs.length := by omega
    have ex : xs.take i = xs := List.take_of_length_le (by omega)
    rw [ex] at ey
    rw [ey] at q
    exact .inl ⟨(yl i F' H' S'.st).1 ei, q σ' F' H' (S1.unroot S')⟩

theorem s_for {tst : PassesOwn (model X.prog X.w) X.A X.env X.xe} {y0 : β} [Rp α] {xs : List α} {esf : β → List En} {est : β → α → List En} {kr : ρ → Out} {g : β → α → Fl β ρ} (hc : X.calm = true) (hi : IJ X tg es iter xs (esf y0))
    (ht : ∀ y x, GJ X tg (esf y) x (est y x)) (hk : ∀ r, (kr r).rets = true) (hb : ∀ y x, At g xs y0 y x → ES X (est y x) body (flO esf kr (g y x))) (hs : ∀ x, foldedSetIterable iter X.env x = pure x := by intro _; rfl) : S1 X es (.For tg iter body [] pos) (flN esf kr (forFl g xs y0)) := .mk fun f σ F H D S q =>
  psR (ps_for tst hc piW pgW pssW hs) (for_core (fun R k => hi f σ F H S R fun J F' H' S' i' y => k J F' H' S' i' y.s) ht hk hb q)

/-- a loop that goes to its end -/
theorem s_forF {tst : PassesOwn (model X.prog X.w) X.A X.env X.xe} {y0 : β} [Rp α] {xs : List α} {esf : β → List En} {est : β → α → List En} {g : β → α → β} (hc : X.calm = true) (hi : IJ X tg es iter xs (esf y0))
    (ht : ∀ y x, GJ X tg (esf y) x (est y x)) (hb : ∀ y x, AtF g xs y0 y x → ES X (est y x) body (.nx (esf (g y x)))) (he : esf (xs.foldl g y0) = es2 := by rfl) (hs : ∀ x, foldedSetIterable iter X.env x = pure x := by intro _; rfl) : E1 X es (.For tg iter body [] pos) es2 := by
  have z := s_for (X := X) (tst := tst) (ρ := Empty) (g := fun y x => .nx (g y x)) (kr := fun r => nomatch r) (pos := pos) (body := body) hc hi ht (fun r => nomatch r) (fun y x hat => hb y x (by
    obtain ⟨pre, post, e, h⟩ := hat
    rw [forFl_fold] at h
    exact ⟨pre, post, e, by injection h⟩)) hs
  rw [forFl_fold] at z
  subst he
  exact z
/-! while -/
theorem s_while {tst : PassesOwn (model X.prog X.w) X.A X.env X.xe} {y0 : β} {esf : β → List En} {kr : ρ → Out} {cf : β → Bool} {g : β → Fl β ρ} {ok : β → Prop} (n : Nat) (hok : whOk cf g ok n y0) (h0 : es = esf y0 := by rfl)
    (hk : ∀ r, (kr r).rets = true) (ht : ∀ y, TJ X (esf y) c (cf y)) (hb : ∀ y, ok y → cf y = true → ES X (esf y) body (flO esf kr (g y))) : S1 X es (.While c body [] pos) (flN esf kr (whFl cf g n y0)) := .mk fun f σ F H D S q => by
  subst h0
  refine psR (ps_while tst ptW pssW) ?_
  refine ⟨fun m σ' H' => ∃ y F', whOk cf g ok m y ∧ whFl cf g n y0 = whFl cf g m y ∧ Sw X.K (f.at F) (esf y) σ' F' H', ⟨n, y0, F, hok, rfl, S.root⟩, ?_⟩
  rintro m σ' H' ⟨y, F', hm, ew, S'⟩
  refine ht y _ σ' F' H' S' _ fun F2 H2 t2 => ?_
  have S2 := S'.step t2
  cases hc : cf y with
  | false =>
    have e2 : whFl cf g m y = .nx y := by
      cases m with
      | zero => rfl
      | succ m =>
        show (if cf y then _ else Fl.nx y) = _
        rw [hc]; rfl
    rw [ew, e2] at q
    show D.nx σ' H2
    exact q σ' F2 H2 (S.unroot S2)
  | true =>
    cases m with
    | zero =>
      have h0 : cf y = false := hm
      rw [hc] at h0; cases h0
    | succ m =>
      obtain ⟨oky, hz⟩ := (show cf y = true → ok y ∧ ∀ z, g y = .nx z → whOk cf g ok m z from hm) hc
      have e2 : whFl cf g (m + 1) y = (match g y with | .nx z => whFl cf g m z | .rt r => .rt r | .bk z => .nx z) := by
        show (if cf y then _ else Fl.nx y) = _
        rw [hc]; rfl
      rw [ew, e2] at q
      refine ⟨fun σ3 H3 => ∃ z F3, g y = .nx z ∧ Sw X.K (f.at F) (esf z) σ3 F3 H3, fun σ3 H3 ⟨z, F3, eg, S3⟩ => ⟨m, Nat.lt_succ_self m, z, F3, hz z eg, ?_, S3⟩, ?_⟩
      · rw [ew, e2, eg]
      · refine hb y oky hc _ σ' F2 H2 _ S2 ?_
        cases hg : g y with
        | nx z => exact fun σ4 F4 H4 S4 => ⟨z, F4, rfl, S4⟩
        | bk z =>
          rw [hg] at q
          exact fun σ4 F4 H4 S4 => q σ4 F4 H4 (S.unroot S4)
        | rt r =>
          rw [hg] at q
          have q' : OutK X f D (kr r) := q
          exact OutK.rets (hk r) (OutK.root S q')
end
end Ly
namespace Ly
open PySem PySem.Spec PyProof.Rows L2
/-! what is handed over -/
def ArOk (K : PySem.W.Frag) (F : Hp) (v : V) : En → Prop
  | .fzI _ x => Rp.rep K F v x
  | _ => False
inductive ArgsOk (K : PySem.W.Frag) (F : Hp) : List V → List En → Prop where
  | nil : ArgsOk K F [] []
  | cons {v : V} {e : En} {vs : List V} {as : List En} : ArOk K F v e → ArgsOk K F vs as → ArgsOk K F (v :: vs) (e :: as)
theorem ArOk.mono {K : PySem.W.Frag} {F F' : Hp} (i : Inc F F') {v : V} {e : En} (h : ArOk K F v e) : ArOk K F' v e := by
  cases e <;> first | exact Rp.mono i h | exact h
theorem ArgsOk.mono {K : PySem.W.Frag} {F F' : Hp} (i : Inc F F') : ∀ {vs : List V} {as : List En}, ArgsOk K F vs as → ArgsOk K F' vs as
  | _, _, .nil => .nil
  | _, _, .cons h t => .cons (h.mono i) (ArgsOk.mono i t)
theorem ArgsOk.len {K : PySem.W.Frag} {F : Hp} : ∀ {vs : List V} {as : List En}, ArgsOk K F vs as → vs.length = as.length
  | _, _, .nil => rfl
  | _, _, .cons h t => by simp [ArgsOk.len t]
/-- what a def without lent things does: G tells, of what is handed over, what is handed back -/
def spP (K : PySem.W.Frag) (G : List En → En → Prop) : Sp := fun vs H Q _ => ∃ as r F, G as r ∧ Sub F H ∧ ArgsOk K F vs as ∧ RetK K ⟨no, F, H⟩ Q r
/-- with something lent first, that is changed -/
def spU (K : PySem.W.Frag) {π : Type} [o : Ow π] (G : π → List En → π → En → Prop) : Sp := fun vs H Q _ => ∃ (a : Addr) (ws : List V) (p : π) (as : List En) (p' : π) (r : En) (F : Hp) (P : List Addr), vs = .ref a :: ws ∧ G p as p' r ∧ Sub F H ∧ Ow.own K F H (.ref a) p P ∧ P.Nodup ∧ ArgsOk K F ws as ∧ RetU K ⟨(· ∈ P), F, H⟩ Q a o p' r
/-! arguments: frozen, read, by steps -/
structure AJ (X : Cx) (es : List En) (args : List Expr) (as : List En) : Prop where
  run : ∀ (f : Fr) (σ : L2.St) (F H : Hp), Sw X.K f es σ F H → ∀ Q : List V → Hp → Prop, (∀ vs F' H', St0 F H F' H' → ArgsOk X.K F' vs as → Q vs H') → wpA X args σ H Q
instance {X : Cx} {es : List En} {args : List Expr} {as : List En} : CoeFun (AJ X es args as) (fun _ => ∀ (f : Fr) (σ : L2.St) (F H : Hp), Sw X.K f es σ F H → ∀ Q : List V → Hp → Prop, (∀ vs F' H', St0 F H F' H' → ArgsOk X.K F' vs as → Q vs H') → wpA X args σ H Q) := ⟨AJ.run⟩
structure BJ (X : Cx) (es : List En) (args : List Expr) (as : List En) : Prop where
  run : ∀ (f : Fr) (σ : L2.St) (F H : Hp), Sw X.K f es σ F H → ∀ Q : List V → Hp → Prop, (∀ vs F' H', St0 F H F' H' → ArgsOk X.K (ovl F' H') vs as → Q vs H') → wpA X args σ H Q
instance {X : Cx} {es : List En} {args : List Expr} {as : List En} : CoeFun (BJ X es args as) (fun _ => ∀ (f : Fr) (σ : L2.St) (F H : Hp), Sw X.K f es σ F H → ∀ Q : List V → Hp → Prop, (∀ vs F' H', St0 F H F' H' → ArgsOk X.K (ovl F' H') vs as → Q vs H') → wpA X args σ H Q) := ⟨BJ.run⟩
structure XA (X : Cx) (es : List En) (args : List Expr) (as es' : List En) : Prop where
  run : ∀ (f : Fr) (σ : L2.St) (F H : Hp), Sw X.K f es σ F H → ∀ Q : List V → Hp → Prop, (∀ vs F' H', Sw X.K f es' σ F' H' → Inc F F' → ArgsOk X.K F' vs as → Q vs H') → wpA X args σ H Q
instance {X : Cx} {es : List En} {args : List Expr} {as es' : List En} : CoeFun (XA X es args as es') (fun _ => ∀ (f : Fr) (σ : L2.St) (F H : Hp), Sw X.K f es σ F H → ∀ Q : List V → Hp → Prop, (∀ vs F' H', Sw X.K f es' σ F' H' → Inc F F' → ArgsOk X.K F' vs as → Q vs H') → wpA X args σ H Q) := ⟨XA.run⟩
section
variable {X : Cx} {es es1 es2 as : List En} {a e : Expr} {args : List Expr} {pos : Pos} {α : Type}
theorem a_nil : AJ X es [] [] := .mk fun f σ F H S Q q => paR pa_nil (q [] F H (St0.refl S.sub) .nil)
theorem b_nil : BJ X es [] [] := .mk fun f σ F H S Q q => paR pa_nil (q [] F H (St0.refl S.sub) .nil)
theorem xa_nil : XA X es [] [] es := .mk fun f σ F H S Q q => paR pa_nil (q [] F H S (Inc.refl _) .nil)
theorem a_cons [Rp α] {x : α} (h : FJ X es a x) (hr : AJ X es args as) (hs : starEach (a :: args) X.env = (false, eval a X.env) :: starEach args X.env := by rfl) : AJ X es (a :: args) (.fz x :: as) := .mk fun f σ F H S Q q =>
  paR (pa_cons peW paW hs) (h f σ F H S _ fun v F1 H1 t1 r1 => hr f σ F1 H1 (S.step t1) _ fun vs F2 H2 t2 r2 => q _ F2 H2 (t1.trans t2) (.cons (Rp.mono t2.f r1) r2))
theorem b_cons [Rp α] {x : α} (h : RJ X es a x) (hr : BJ X es args as) (hs : starEach (a :: args) X.env = (false, eval a X.env) :: starEach args X.env := by rfl) : BJ X es (a :: args) (.fz x :: as) := .mk fun f σ F H S Q q =>
  paR (pa_cons peW paW hs) (h f σ F H S _ fun v F1 H1 t1 r1 => hr f σ F1 H1 (S.step t1) _ fun vs F2 H2 t2 r2 => q _ F2 H2 (t1.trans t2) (.cons (Rp.mono (ovl_step t2) r1) r2))
theorem xa_cons [Rp α] {x : α} (h : XJ X es a x es1) (hr : XA X es1 args as es2) (hs : starEach (a :: args) X.env = (false, eval a X.env) :: starEach args X.env := by rfl) : XA X es (a :: args) (.fz x :: as) es2 := .mk fun f σ F H S Q q =>
  paR (pa_cons peW paW hs) (h f σ F H S _ fun v F1 H1 S1 i1 r1 => hr f σ F1 H1 S1 _ fun vs F2 H2 S2 i2 r2 => q _ F2 H2 S2 (i1.trans i2) (.cons (Rp.mono i2 r1) r2))
theorem AJ.x (h : AJ X es args as) : XA X es args as es := .mk fun f σ F H S Q q => h f σ F H S Q fun vs F' H' t r => q vs F' H' (S.step t) t.f r

/-! calls of a def by its name -/
variable {k : Nat} {fa : Addr} {fd : FuncData} {ps : List Str} {n : Str} {p : Pos} {G : List En → En → Prop} {CX : CXT} {E : XK}
theorem f_call (Fn : FnOk X.prog X.w X.K X.mg X.base CX k fa fd ps (spP X.K G)) (hr : Room k X.A) (hm : X.mg n = some (.ref fa)) (hk : PySem.W.keepIn X.K (.ref fa) = true) (hb : Binds X.K fd ps []) (hp : Passes CX X E) (hg : Gl X n := by rfl) [Rp α] {x : α}
    (ha : AJ X es (a :: args) as) (hG : G as (.fz x)) (hdb : (n == ("__debug__" : Str)) = false := by decide) (he : starEach (a :: args) X.env = (false, eval a X.env) :: starEach args X.env := by rfl) (hpl : (backTo pos (starEach args X.env)).any (·.1) = false := by rfl) :
    FJ X es (.Call (.Name n p) (a :: args) [] pos) x := .mk fun f σ F H S Q q =>
  peR (pe_call Fn hr hg hm hk hb .nil hp paW hdb he hpl) (ha f σ F H S _ fun vs F1 H1 t1 r1 => by
    show spP X.K G (vs ++ []) H1 Q E
    rw [List.append_nil]
    exact ⟨as, _, F1, hG, t1.e, r1, fun v F2 H2 t2 r2 => q v F2 H2 (t1.trans t2) r2⟩)
theorem n_call (Fn : FnOk X.prog X.w X.K X.mg X.base CX k fa fd ps (spP X.K G)) (hr : Room k X.A) (hm : X.mg n = some (.ref fa)) (hk : PySem.W.keepIn X.K (.ref fa) = true) (hb : Binds X.K fd ps []) (hp : Passes CX X E) (hg : Gl X n := by rfl) [Ow α] {x : α}
    (ha : AJ X es (a :: args) as) (hG : G as (.ow x)) (hdb : (n == ("__debug__" : Str)) = false := by decide) (he : starEach (a :: args) X.env = (false, eval a X.env) :: starEach args X.env := by rfl) (hpl : (backTo pos (starEach args X.env)).any (·.1) = false := by rfl) :
    NJ X es (.Call (.Name n p) (a :: args) [] pos) x := .mk fun f σ F H S Q q =>
  peR (pe_call Fn hr hg hm hk hb .nil hp paW hdb he hpl) (ha f σ F H S _ fun vs F1 H1 t1 r1 => by
    show spP X.K G (vs ++ []) H1 Q E
    rw [List.append_nil]
    exact ⟨as, _, F1, hG, t1.e, r1, fun v F2 H2 P t2 r2 hn hp => q v F2 H2 P (t1.trans t2) r2 hn fun z hz => t1.back (hp z hz)⟩)
/-- what is its own stands by itself -/
class OwS (α : Type) [Ow α] : Prop where
  in_ : ∀ {K : PySem.W.Frag} {F F' H : Hp} {v : V} {x : α} {P : List Addr}, (∀ p ∈ P, F' p = none) → Ow.own K F H v x P → Ow.own K F' H v x P
instance owsL {α : Type} [Sc α] : OwS (List α) := ⟨fun {K F F' H v x P} hf h => by
  obtain ⟨a, o, e, eP, h1, h2, hz, vs, eo, r⟩ := h
  subst eP
  exact ⟨a, o, e, rfl, h1, hf a (by simp), hz, vs, eo, by rw [scMap r]; exact mapSc x (okSc r)⟩⟩
theorem St0.ovl {F H F2 H2 : Hp} (s : Sub F H) (t : St0 (ovl F H) H F2 H2) : St0 F H F H2 := ⟨Inc.refl _, t.h, t.t, s.inc t.inc, fun _ _ h => .inl h, t.k⟩
/-- the arguments read: the answer is a scalar -/
theorem r_call (Fn : FnOk X.prog X.w X.K X.mg X.base CX k fa fd ps (spP X.K G)) (hr : Room k X.A) (hm : X.mg n = some (.ref fa)) (hk : PySem.W.keepIn X.K (.ref fa) = true) (hb : Binds X.K fd ps []) (hp : Passes CX X E) (hg : Gl X n := by rfl) [Sc α] {x : α}
    (ha : BJ X es (a :: args) as) (hG : G as (.fz x)) (hdb : (n == ("__debug__" : Str)) = false := by decide) (he : starEach (a :: args) X.env = (false, eval a X.env) :: starEach args X.env := by rfl) (hpl : (backTo pos (starEach args X.env)).any (·.1) = false := by rfl) :
    RJ X es (.Call (.Name n p) (a :: args) [] pos) x := .mk fun f σ F H S Q q =>
  peR (pe_call Fn hr hg hm hk hb .nil hp paW hdb he hpl) (ha f σ F H S _ fun vs F1 H1 t1 r1 => by
    show spP X.K G (vs ++ []) H1 Q E
    rw [List.append_nil]
    exact ⟨as, _, ovl F1 H1, hG, ovl_sub t1.e, r1, fun v F2 H2 t2 r2 => q v F1 H2 (t1.trans (St0.ovl t1.e t2)) r2⟩)
/-- behind a call that changed what was lent -/
theorem EnvP.lent {K : PySem.W.Frag} {f : Fr} {es : List En} {σ : L2.St} {F H F' H' : Hp} {Ps : Nat → List Addr} {i : Nat} {e e' : En} {P P' : List Addr} (st : Stp f F H) (q : EnvP K f es σ F H Ps) (hi : es[i]? = some e) (hP : Ps i = P) (t : Stp ⟨(· ∈ P), F, H⟩ F' H')
    (h : EnOk K F' H' (sl σ i) P' e') (hn : P'.Nodup) (hp : ∀ p ∈ P', p ∈ P ∨ H p = none) (ha : noAl i es) (hw : ∀ (α : Type) (r : Ow α) (x : α), e' = .owI r x → ∃ (β : Type) (r : Ow β) (y : β), e = .owI r y) (hae : ∀ j (α : Type) (r : Ow α) (x : α), e' ≠ .alI j r x) :
    Stp f F' H' ∧ EnvP K f (es.set i e') σ F' H' (fun j => if j = i then P' else Ps j) := by
  have hil : i < es.length := get_lt hi
  have kj : ∀ j, j < es.length → j ≠ i → ∀ p ∈ Ps j, H' p = H p ∧ F' p = none := fun j hj hne p hp => by
    have np : p ∉ P := fun z => hne (q.dj j i p hj hil hp (by rw [hP]; exact z))
    obtain ⟨o1, o2⟩ := q.out hj p hp
    cases z : H p with
    | none => exact absurd z o1
    | some u =>
      have e := t.h p u np z
      refine ⟨e, ?_⟩
      rcases t.n p o1 o2 with w | ⟨ks, w⟩
      · exact w
      · rw [e] at w
        exact absurd (z.trans w) ((q.ok j es[j] (List.getElem?_eq_getElem hj)).nt p hp ks)
  refine ⟨st.trans t fun x hx => q.fr i x hil (by rw [hP]; exact hx), by simp [q.len], fun j e2 hj => ?_, fun j hj => ?_, fun j k' p h1 h2 p1 p2 => ?_, fun j p h1 p1 => ?_, fun j p α r x hj p1 => ?_, fun j k' α r x hj => ?_⟩
  · by_cases z : j = i
    · subst z
      rw [List.getElem?_set_self hil] at hj
      cases hj
      rw [if_pos rfl]; exact h
    · rw [List.getElem?_set_ne (Ne.symm z)] at hj
      rw [if_neg z]
      exact (q.ok j e2 hj).but t.f (fun p hp => (kj j (get_lt hj) z p hp).1) fun p hp => (kj j (get_lt hj) z p hp).2
  · by_cases z : j = i
    · rw [if_pos z]; exact hn
    · rw [if_neg z]; exact q.nd j (by simpa using hj)
  · rw [List.length_set] at h1 h2
    by_cases z : j = i
    · by_cases z2 : k' = i
      · rw [z, z2]
      · rw [if_pos z] at p1
        rw [if_neg z2] at p2
        rcases hp p p1 with w | w
        · exact absurd (q.dj k' i p h2 hil p2 (by rw [hP]; exact w)) z2
        · exact absurd w (q.out h2 p p2).1
    · rw [if_neg z] at p1
      by_cases z2 : k' = i
      · rw [if_pos z2] at p2
        rcases hp p p2 with w | w
        · exact absurd (q.dj j i p h1 hil p1 (by rw [hP]; exact w)) z
        · exact absurd w (q.out h1 p p1).1
      · rw [if_neg z2] at p2
        exact q.dj j k' p h1 h2 p1 p2
  · rw [List.length_set] at h1
    by_cases z : j = i
    · rw [if_pos z] at p1
      rcases hp p p1 with w | w
      · exact q.fr i p hil (by rw [hP]; exact w)
      · exact .inl (st.back w)
    · rw [if_neg z] at p1; exact q.fr j p h1 p1
  · by_cases z : j = i
    · subst z
      rw [List.getElem?_set_self hil] at hj
      rw [if_pos rfl] at p1
      obtain ⟨β, r2, y, e2⟩ := hw α r x (Option.some.inj hj)
      rcases hp p p1 with w | w
      · exact q.nw j p β r2 y (hi.trans (congrArg some e2)) (by rw [hP]; exact w)
      · exact st.back w
    · rw [List.getElem?_set_ne (Ne.symm z)] at hj
      rw [if_neg z] at p1
      exact q.nw j p α r x hj p1
  · by_cases z : j = i
    · subst z
      rw [List.getElem?_set_self hil] at hj
      exact absurd (Option.some.inj hj) (hae k' α r x)
    · rw [List.getElem?_set_ne (Ne.symm z)] at hj
      obtain ⟨hk, w, Q, ew, hQ, o⟩ := q.al j k' α r x hj
      have hki : k' ≠ i := fun z2 => ha j α r x (z2 ▸ hj)
      refine ⟨by rw [List.length_set]; exact hk, w, Q, ew, fun p hp => ?_, Ow.mono t.f (fun p hp => (kj k' hk hki p (hQ p hp)).1) (fun p hp => (kj k' hk hki p (hQ p hp)).2) o⟩
      rw [if_neg hki]; exact hQ p hp
/-- the slot's own | lent object, by its kind -/
def En.lent {π : Type} (r : Ow π) (p : π) (e : En) : Option (π → En) := none
variable {π : Type} [r : Ow π] {pp pq : π} {GU : π → List En → π → En → Prop} {i : Nat}
/-- objects stand at an address -/
class OwR (π : Type) [Ow π] : Prop where
  ref : ∀ {K : PySem.W.Frag} {F H : Hp} {v : V} {x : π} {P : List Addr}, Ow.own K F H v x P → ∃ a, v = .ref a
instance owrCl {α : Type} [Cl α] [Clm α] : OwR α := ⟨fun h => let ⟨a, _, e, _⟩ := h; ⟨a, e⟩⟩
/-- a thing at a known address -/
structure Adr (α : Type) where
  a : Addr
  x : α
instance owAdr {α : Type} [r : Ow α] : Ow (Adr α) where
  rp := ⟨fun K H v x => Rp.rep K H v x.x, fun i h => Rp.mono i h⟩
  own K F H v x P := v = .ref x.a ∧ Ow.own K F H (.ref x.a) x.x P
  mono i k n h := ⟨h.1, Ow.mono i k n h.2⟩
  out h := Ow.out h.2
  fzn {K F H v x P} h := by
    have z := Ow.fzn h.2
    rw [h.1]; exact z
  nt h := Ow.nt h.2
/-- how a lent name stands in its slot -/
inductive Lent {π : Type} (r : Ow π) (p q : π) : En → En → Prop where
  | ow : Lent r p q (.owI r p) (.owI r q)
  | at (a : Addr) : Lent r p q (.atI a r p) (.atI a r q)
  | ad (a : Addr) : Lent r p q (@En.ow _ (@owAdr _ r) (Adr.mk a p)) (@En.ow _ (@owAdr _ r) (Adr.mk a q))
theorem x_callU [OwR π] {e1 e2 : En} (Fn : FnOk X.prog X.w X.K X.mg X.base CX k fa fd ps (spU X.K GU)) (hr : Room k X.A) (hm : X.mg n = some (.ref fa)) (hk : PySem.W.keepIn X.K (.ref fa) = true) (hb : Binds X.K fd ps []) (hpx : Passes CX X E) (hg : Gl X n := by rfl) [Rp α] {x : α}
    (hv : PE X a (tVar i)) (ha : XA X es args as es1) (hi : es1[i]? = some e1) (hl : Lent r pp pq e1 e2) (hG : GU pp as pq (.fz x)) (hes : es1.set i e2 = es2 := by rfl) (hal : alFree i es1 = true := by rfl)
    (hse : ∃ e0, es[i]? = some e0 ∧ ∀ (K : PySem.W.Frag) (F H : Hp) s P, EnOk K F H s P e0 → ∃ a, s = some (.ref a))
    (hdb : (n == ("__debug__" : Str)) = false := by decide) (he : starEach (a :: args) X.env = (false, eval a X.env) :: starEach args X.env := by rfl) (hpl : (backTo pos (starEach args X.env)).any (·.1) = false := by rfl) :
    XJ X es (.Call (.Name n p) (a :: args) [] pos) x es2 := .mk fun f σ F H S Q q =>
  peR (pe_call Fn hr hg hm hk hb .nil hpx (pa_cons hv paW he) hdb he hpl) (by
    obtain ⟨Ps0, p0⟩ := S.env
    obtain ⟨e0, he0, href⟩ := hse
    obtain ⟨b, eb⟩ := href _ _ _ _ _ (p0.ok i e0 he0)
    refine ⟨.ref b, sl_of eb, ha f σ F H S _ fun vs F1 H1 S1 i1 r1 => ?_⟩
    show spU X.K GU (V.ref b :: vs ++ []) H1 Q E
    rw [List.append_nil]
    obtain ⟨Ps, q1⟩ := S1.env
    have ok1 := q1.ok i e1 hi
    have own1 : Ow.own X.K F1 H1 (.ref b) pp (Ps i) := by
      cases hl with
      | ow => obtain ⟨v, ev, o⟩ := ok1; rw [eb] at ev; cases ev; exact o
      | «at» c => obtain ⟨ev, o⟩ := ok1; rw [eb] at ev; cases ev; exact o
      | ad c => obtain ⟨v, ev, e3, o⟩ := ok1; subst e3; rw [eb] at ev; cases ev; exact o
    refine ⟨b, vs, pp, as, pq, _, F1, Ps i, rfl, hG, S1.sub, own1, q1.nd i (get_lt hi), r1, fun v F2 H2 P' t2 o2 hn hf r2 => ?_⟩
    have hP' : ∀ z ∈ P', z ∈ Ps i ∨ H1 z = none := fun z hz => (hf z hz).symm
    have z := EnvP.lent S1.st q1 hi rfl t2 (e' := e2) (P' := P') (by
      cases hl with
      | ow => exact ⟨_, eb, o2⟩
      | «at» c =>
        obtain ⟨ev, _⟩ := ok1
        rw [eb] at ev
        cases ev
        exact ⟨eb, o2⟩
      | ad c =>
        obtain ⟨v, ev, e3, o⟩ := ok1
        subst e3
        rw [eb] at ev
        cases ev
        exact ⟨_, eb, rfl, o2⟩) hn hP' (noAl_of hal) (by
      intro α r x e
      cases hl with
      | ow => exact ⟨_, _, _, rfl⟩
      | «at» c => cases e
      | ad c => exact ⟨_, _, _, rfl⟩) (by
      intro j α r x e
      cases hl <;> cases e)
    subst hes
    exact q v F2 H2 ⟨z.1, _, z.2⟩ (i1.trans t2.f) r2)
theorem y_callU [OwR π] {e1 e2 : En} (Fn : FnOk X.prog X.w X.K X.mg X.base CX k fa fd ps (spU X.K GU)) (hr : Room k X.A) (hm : X.mg n = some (.ref fa)) (hk : PySem.W.keepIn X.K (.ref fa) = true) (hb : Binds X.K fd ps []) (hpx : Passes CX X E) (hg : Gl X n := by rfl) [Ow α] {x : α}
    (hv : PE X a (tVar i)) (ha : XA X es args as es1) (hi : es1[i]? = some e1) (hl : Lent r pp pq e1 e2) (hG : GU pp as pq (.ow x)) (hes : es1.set i e2 = es2 := by rfl) (hal : alFree i es1 = true := by rfl)
    (hse : ∃ e0, es[i]? = some e0 ∧ ∀ (K : PySem.W.Frag) (F H : Hp) s P, EnOk K F H s P e0 → ∃ a, s = some (.ref a))
    (hdb : (n == ("__debug__" : Str)) = false := by decide) (he : starEach (a :: args) X.env = (false, eval a X.env) :: starEach args X.env := by rfl) (hpl : (backTo pos (starEach args X.env)).any (·.1) = false := by rfl) :
    YJ X es (.Call (.Name n p) (a :: args) [] pos) x es2 := .mk fun f σ F H S Q q =>
  peR (pe_call Fn hr hg hm hk hb .nil hpx (pa_cons hv paW he) hdb he hpl) (by
    obtain ⟨Ps0, p0⟩ := S.env
    obtain ⟨e0, he0, href⟩ := hse
    obtain ⟨b, eb⟩ := href _ _ _ _ _ (p0.ok i e0 he0)
    refine ⟨.ref b, sl_of eb, ha f σ F H S _ fun vs F1 H1 S1 i1 r1 => ?_⟩
    show spU X.K GU (V.ref b :: vs ++ []) H1 Q E
    rw [List.append_nil]
    obtain ⟨Ps, q1⟩ := S1.env
    have ok1 := q1.ok i e1 hi
    have own1 : Ow.own X.K F1 H1 (.ref b) pp (Ps i) := by
      cases hl with
      | ow => obtain ⟨v, ev, o⟩ := ok1; rw [eb] at ev; cases ev; exact o
      | «at» c => obtain ⟨ev, o⟩ := ok1; rw [eb] at ev; cases ev; exact o
      | ad c => obtain ⟨v, ev, e3, o⟩ := ok1; subst e3; rw [eb] at ev; cases ev; exact o
    refine ⟨b, vs, pp, as, pq, _, F1, Ps i, rfl, hG, S1.sub, own1, q1.nd i (get_lt hi), r1, fun v F2 H2 P' PR t2 o2 hn hf oR hnR hfR hdR => ?_⟩
    have hP' : ∀ z ∈ P', z ∈ Ps i ∨ H1 z = none := fun z hz => (hf z hz).symm
    have z := EnvP.lent S1.st q1 hi rfl t2 (e' := e2) (P' := P') (by
      cases hl with
      | ow => exact ⟨_, eb, o2⟩
      | «at» c =>
        obtain ⟨ev, _⟩ := ok1
        rw [eb] at ev
        cases ev
        exact ⟨eb, o2⟩
      | ad c =>
        obtain ⟨v, ev, e3, o⟩ := ok1
        subst e3
        rw [eb] at ev
        cases ev
        exact ⟨_, eb, rfl, o2⟩) hn hP' (noAl_of hal) (by
      intro α r x e
      cases hl with
      | ow => exact ⟨_, _, _, rfl⟩
      | «at» c => cases e
      | ad c => exact ⟨_, _, _, rfl⟩) (by
      intro j α r x e
      cases hl <;> cases e)
    subst hes
    refine q v F2 H2 PR _ z.1 z.2 (i1.trans t2.f) oR hnR (fun w hw => S1.st.back (hfR w hw)) fun j hj w hw hw2 => ?_
    by_cases c : j = i
    · rw [if_pos c] at hw2; exact hdR w hw hw2
    · rw [if_neg c] at hw2
      rw [List.length_set] at hj
      exact (q1.out hj w hw2).1 (hfR w hw))
end

/-! a def's promise, by its body -/
section
variable {P : Program} {w : World} {K : PySem.W.Frag} {mg : Str → Option Value} {base : Heap} {x qual : Str} {params : Arguments} {body : List Stmt} {scope : Scope} {f : Addr} {fd : FuncData} {N ps : List Str} {k : Nat}
def OutR (r : En) : Out → Prop
  | .rt e => e = r
  | .en => r = .fz ()
  | _ => False
def isFz : En → Bool
  | .fzI _ _ => true
  | _ => false
def pad (as : List En) (n : Nat) : List En := as ++ List.replicate n En.un
theorem start_len {N : List Str} {vs : List V} (h : vs.length ≤ N.length) : (L2.start N vs).length = N.length := by unfold L2.start; simp; omega
theorem start_at {N : List Str} {vs : List V} {i : Nat} {v : V} (h : vs[i]? = some v) : sl (L2.start N vs) i = some v := by
  have hi := (List.getElem?_eq_some_iff.mp h).1
  unfold sl L2.start
  rw [List.getElem?_append_left (by simpa using hi), List.getElem?_map, h]; rfl
theorem pad_at {as : List En} {n i : Nat} {e : En} (h : (pad as n)[i]? = some e) : e = .un ∨ as[i]? = some e := by
  unfold pad at h
  by_cases q : i < as.length
  · rw [List.getElem?_append_left q] at h; exact .inr h
  · rw [List.getElem?_append_right (by omega)] at h
    have := List.mem_of_getElem? h
    exact .inl (List.eq_of_mem_replicate this)
theorem argsGet {K : PySem.W.Frag} {F : Hp} : ∀ {vs : List V} {as : List En} {i : Nat} {e : En}, ArgsOk K F vs as → as[i]? = some e → ∃ v, vs[i]? = some v ∧ ArOk K F v e
  | _, _, _, _, .nil, h => by simp at h
  | _, _, 0, _, .cons r _, h => by simp at h; subst h; exact ⟨_, rfl, r⟩
  | _, _, i + 1, e, .cons _ t, h => by
    obtain ⟨v, h1, h2⟩ := argsGet (i := i) t (by simpa using h)
    exact ⟨v, by simpa using h1, h2⟩
theorem Sw.entry {K : PySem.W.Frag} {N : List Str} {vs : List V} {as : List En} {F H : Hp} (s : Sub F H) (ha : ArgsOk K F vs as) (hl : as.length ≤ N.length) : Sw K ⟨no, F, H⟩ (pad as (N.length - as.length)) (L2.start N vs) F H := by
  have el := ArgsOk.len ha
  refine ⟨Stp.refl s, fun _ => [], by rw [start_len (by omega)]; unfold pad; simp; omega, fun i e h => ?_, fun _ _ => List.nodup_nil, fun _ _ p _ _ h => (by cases h), fun _ p _ h => (by cases h), fun _ p _ _ _ _ h => (by cases h), fun i j α r x h => ?_⟩
  · rcases pad_at h with z | z
    · subst z; rfl
    · obtain ⟨v, hv, ok⟩ := argsGet ha z
      cases e with
      | fzI _ y => exact ⟨rfl, v, start_at hv, ok⟩
      | un => rfl
      | owI _ _ => exact ok.elim
      | atI _ _ _ => exact ok.elim
      | alI _ _ _ => rfl
  · rcases pad_at h with z | z
    · cases z
    · obtain ⟨v, hv, ok⟩ := argsGet ha z
      exact ok.elim
theorem fn_pure {G : List En → En → Prop} (Fd : FunD K x qual params body scope [] [] f fd) (S : FnScope N ps scope) (hN : ps.length ≤ N.length) (hl : ∀ as r, G as r → as.length = ps.length)
    (hb : ∀ (cdv : Value) (A : Around) (outer : List Env) (s : Shared) (H : Hp) (E : XK), Room k (A.deeper (envOfC qual scope s.heap.objs.size f cdv)) → ∀ as r, G as r → ∃ out, OutR r out ∧ ES (cxOf CX0 P w K mg base N qual scope f cdv A outer s H E).nox (pad as (N.length - as.length)) body out) :
    FnOk P w K mg base CX0 (k + 1) f fd ps (spP K G) := by
  refine Fd.ok S (fun vs H Q E h => ?_) (fun cdv A outer s H vs Q E hr h => ?_)
  · obtain ⟨as, r, F, hG, _, ha, _⟩ := h
    rw [ArgsOk.len ha, hl as r hG]
  · obtain ⟨as, r, F, hG, sb, ha, hq⟩ := h
    obtain ⟨out, ho, hES⟩ := hb cdv A outer s H E hr as r hG
    refine ⟨_, PSs.nox pssW, hES ⟨no, F, H⟩ _ F H _ (Sw.entry sb ha (by rw [hl as r hG]; exact hN)) ?_⟩
    cases out with
    | rt e => rw [show e = r from ho]; exact hq
    | en =>
      rw [show r = .fz () from ho] at hq
      exact fun σ F' H' st => hq _ F' H' st ⟨rfl, True.intro⟩
    | nx es => exact ho.elim
    | bk es => exact ho.elim
    | eu a r p => exact ho.elim
    | ru a r p e => exact ho.elim
    | xc x => exact ho.elim
    | xu a r p x => exact ho.elim
    | xs es x => exact ho.elim
def OutU {π : Type} (a : Addr) (o : Ow π) (p : π) (r : En) (out : Out) : Prop := out = .ru a o p r ∨ (out = .eu a o p ∧ r = .fz ())
theorem Sw.entryU {K : PySem.W.Frag} {π : Type} [o : Ow π] {N : List Str} {vs : List V} {as : List En} {F H : Hp} {a : Addr} {p : π} {PP : List Addr} (s : Sub F H) (ho : Ow.own K F H (.ref a) p PP) (hn : PP.Nodup) (ha : ArgsOk K F vs as) (hl : as.length + 1 ≤ N.length) :
    Sw K ⟨(· ∈ PP), F, H⟩ (pad (.at a p :: as) (N.length - (as.length + 1))) (L2.start N (.ref a :: vs)) F H := by
  have el := ArgsOk.len ha
  have nz : ∀ j : Nat, ∀ z : Addr, z ∈ (if j = 0 then PP else []) → j = 0 ∧ z ∈ PP := fun j z h => by
    by_cases c : j = 0
    · rw [if_pos c] at h; exact ⟨c, h⟩
    · rw [if_neg c] at h; cases h
  refine ⟨Stp.refl s, fun j => if j = 0 then PP else [], by rw [start_len (by simp; omega)]; unfold pad; simp; omega, fun i e h => ?_, fun j _ => ?_, fun i j p _ _ h1 h2 => by rw [(nz i p h1).1, (nz j p h2).1], fun j p _ h => .inr (nz j p h).2, fun j q α r x h hp => ?_, fun i j α r x h => ?_⟩
  · rcases pad_at h with z | z
    · subst z
      by_cases c : i = 0
      · subst c
        have h0 : (pad (.at a p :: as) (N.length - (as.length + 1)))[0]? = some (En.at a p) := rfl
        rw [h0] at h; cases h
      · rw [if_neg c]; rfl
    · cases i with
      | zero =>
        have e1 : En.at a p = e := by simpa using z
        subst e1
        rw [if_pos rfl]
        exact ⟨start_at rfl, ho⟩
      | succ i =>
        rw [if_neg (Nat.succ_ne_zero i)]
        obtain ⟨v, hv, ok⟩ := argsGet ha (i := i) (by simpa using z)
        cases e with
        | fzI _ y => exact ⟨rfl, v, start_at (by simpa using hv), ok⟩
        | un => rfl
        | owI _ _ => exact ok.elim
        | atI _ _ _ => exact ok.elim
        | alI _ _ _ => rfl
  · by_cases c : j = 0
    · rw [if_pos c]; exact hn
    · rw [if_neg c]; exact List.nodup_nil
  · obtain ⟨c, _⟩ := nz j q hp
    subst c
    have h0 : (pad (.at a p :: as) (N.length - (as.length + 1)))[0]? = some (En.at a p) := rfl
    rw [h0] at h; cases h
  · rcases pad_at h with z | z
    · cases z
    · cases i with
      | zero => cases z
      | succ i =>
        obtain ⟨v, hv, ok⟩ := argsGet ha (i := i) (by simpa using z)
        exact ok.elim
theorem fn_lent {π : Type} [o : Ow π] {G : π → List En → π → En → Prop} (Fd : FunD K x qual params body scope [] [] f fd) (S : FnScope N ps scope) (hN : ps.length ≤ N.length) (hl : ∀ p as p' r, G p as p' r → as.length + 1 = ps.length)
    (hb : ∀ (cdv : Value) (A : Around) (outer : List Env) (s : Shared) (H : Hp) (E : XK), Room k (A.deeper (envOfC qual scope s.heap.objs.size f cdv)) → ∀ a p as p' r, G p as p' r → ∃ out, OutU a o p' r out ∧ ES (cxOf CX0 P w K mg base N qual scope f cdv A outer s H E).nox (pad (.at a p :: as) (N.length - (as.length + 1))) body out) :
    FnOk P w K mg base CX0 (k + 1) f fd ps (spU K G) := by
  refine Fd.ok S (fun vs H Q E h => ?_) (fun cdv A outer s H vs Q E hr h => ?_)
  · obtain ⟨a, ws, p, as, p', r, F, PP, rfl, hG, _, _, _, ha, _⟩ := h
    rw [List.length_cons, ArgsOk.len ha, hl p as p' r hG]
  · obtain ⟨a, ws, p, as, p', r, F, PP, rfl, hG, sb, hw, hn, ha, hq⟩ := h
    obtain ⟨out, ho, hES⟩ := hb cdv A outer s H E hr a p as p' r hG
    refine ⟨_, PSs.nox pssW, hES ⟨(· ∈ PP), F, H⟩ _ F H _ (Sw.entryU sb hw hn ha (by rw [hl p as p' r hG]; exact hN)) ?_⟩
    rcases ho with e | ⟨e, er⟩
    · subst e; exact hq
    · subst e er
      exact fun σ F' H' P' st o2 hn2 hf => hq _ F' H' P' st o2 hn2 hf ⟨rfl, True.intro⟩
end
end Ly
namespace Ly
open PySem PySem.Spec PyProof.Rows L2 TL
/-- a list that is read, its items frozen -/
structure LR (X : Cx) (es : List En) (e : Expr) {α : Type} [Rp α] (xs : List α) : Prop where
  run : ∀ (f : Fr) (σ : L2.St) (F H : Hp), Sw X.K f es σ F H → ∀ Q : VK, (∀ p vs F' H', St0 F H F' H' → H' p = some (.lst vs) → Paired (Rp.rep X.K F') vs xs → xs.length ≤ big → Q (.ref p) H') → wpE X e σ H Q
instance {X : Cx} {es : List En} {e : Expr} {α : Type} [Rp α] {xs : List α} : CoeFun (LR X es e xs) (fun _ => ∀ (f : Fr) (σ : L2.St) (F H : Hp), Sw X.K f es σ F H → ∀ Q : VK, (∀ p vs F' H', St0 F H F' H' → H' p = some (.lst vs) → Paired (Rp.rep X.K F') vs xs → xs.length ≤ big → Q (.ref p) H') → wpE X e σ H Q) := ⟨LR.run⟩
/-- written items -/
structure LA (X : Cx) (es : List En) (args : List Expr) {α : Type} [Rp α] (xs : List α) : Prop where
  run : ∀ (f : Fr) (σ : L2.St) (F H : Hp), Sw X.K f es σ F H → ∀ Q : List V → Hp → Prop, (∀ vs F' H', St0 F H F' H' → Paired (Rp.rep X.K F') vs xs → Q vs H') → wpA X args σ H Q
instance {X : Cx} {es : List En} {args : List Expr} {α : Type} [Rp α] {xs : List α} : CoeFun (LA X es args xs) (fun _ => ∀ (f : Fr) (σ : L2.St) (F H : Hp), Sw X.K f es σ F H → ∀ Q : List V → Hp → Prop, (∀ vs F' H', St0 F H F' H' → Paired (Rp.rep X.K F') vs xs → Q vs H') → wpA X args σ H Q) := ⟨LA.run⟩
structure XLA (X : Cx) (es : List En) (args : List Expr) {α : Type} [Rp α] (xs : List α) (es' : List En) : Prop where
  run : ∀ (f : Fr) (σ : L2.St) (F H : Hp), Sw X.K f es σ F H → ∀ Q : List V → Hp → Prop, (∀ vs F' H', Sw X.K f es' σ F' H' → Inc F F' → Paired (Rp.rep X.K F') vs xs → Q vs H') → wpA X args σ H Q
instance {X : Cx} {es : List En} {args : List Expr} {α : Type} [Rp α] {xs : List α} {es' : List En} : CoeFun (XLA X es args xs es') (fun _ => ∀ (f : Fr) (σ : L2.St) (F H : Hp), Sw X.K f es σ F H → ∀ Q : List V → Hp → Prop, (∀ vs F' H', Sw X.K f es' σ F' H' → Inc F F' → Paired (Rp.rep X.K F') vs xs → Q vs H') → wpA X args σ H Q) := ⟨XLA.run⟩
section
variable {X : Cx} {es es1 es2 : List En} {a b c e elt tg iter : Expr} {args : List Expr} {pos : Pos} {α β γ : Type} {i : Nat}
theorem lst_of {K : PySem.W.Frag} {F H : Hp} [Rp α] {v : V} {xs : List α} {P : List Addr} (h : Ow.own K F H v xs P) : ∃ p vs, v = .ref p ∧ H p = some (.lst vs) ∧ Paired (Rp.rep K F) vs xs ∧ xs.length ≤ big ∧ P = [p] := by
  obtain ⟨p, o, e, eP, h1, h2, hz, vs, eo, r⟩ := h
  subst eo
  exact ⟨p, vs, e, h1, r, hz, eP⟩
theorem FJ.lr [Rp α] {xs : List α} (h : FJ X es e xs) : LR X es e xs := .mk fun f σ F H S Q q => h f σ F H S Q fun v F' H' t r => by
  have hz := repLen r
  obtain ⟨p, vs, ev, h1, h2, rr⟩ := repL t.e r
  subst ev
  exact q p vs F' H' t h1 rr hz
theorem NJ.lr [Rp α] {xs : List α} (h : NJ X es e xs) : LR X es e xs := .mk fun f σ F H S Q q => h f σ F H S Q fun v F' H' P t r hn hp => by
  obtain ⟨p, vs, ev, h1, rr, hz, _⟩ := lst_of r
  subst ev
  exact q p vs F' H' t h1 rr hz
theorem RJ.lr [Sc α] {xs : List α} (h : RJ X es e xs) : LR X es e xs := .mk fun f σ F H S Q q => h f σ F H S Q fun v F' H' t r => by
  have hz := repLen r
  obtain ⟨p, vs, ev, h1, h2, rr⟩ := repL (ovl_sub t.e) r
  subst ev
  exact q p vs F' H' t h1 (by rw [scMap rr]; exact mapSc xs (okSc rr)) hz
/-! displays -/
theorem la_nil [Rp α] : LA X es [] ([] : List α) := .mk fun f σ F H S Q q => paR pa_nil (q [] F H (St0.refl S.sub) .nil)
theorem la_cons [Rp α] {x : α} {xs : List α} (h : FJ X es a x) (hr : LA X es args xs) (hs : starEach (a :: args) X.env = (false, eval a X.env) :: starEach args X.env := by rfl) : LA X es (a :: args) (x :: xs) := .mk fun f σ F H S Q q =>
  paR (pa_cons peW paW hs) (h f σ F H S _ fun v F1 H1 t1 r1 => hr f σ F1 H1 (S.step t1) _ fun vs F2 H2 t2 r2 => q _ F2 H2 (t1.trans t2) (.cons (Rp.mono t2.f r1) r2))
theorem xla_nil [Rp α] : XLA X es [] ([] : List α) es := .mk fun f σ F H S Q q => paR pa_nil (q [] F H S (Inc.refl _) .nil)
theorem xla_cons [Rp α] {x : α} {xs : List α} (h : XJ X es a x es1) (hr : XLA X es1 args xs es2) (hs : starEach (a :: args) X.env = (false, eval a X.env) :: starEach args X.env := by rfl) : XLA X es (a :: args) (x :: xs) es2 := .mk fun f σ F H S Q q =>
  paR (pa_cons peW paW hs) (h f σ F H S _ fun v F1 H1 S1 i1 r1 => hr f σ F1 H1 S1 _ fun vs F2 H2 S2 i2 r2 => q _ F2 H2 S2 (i1.trans i2) (.cons (Rp.mono i2 r1) r2))
theorem newL {K : PySem.W.Frag} {F H : Hp} {p : Addr} [Rp α] {vs : List V} {xs : List α} (s : Sub F H) (hp : H p = none) (hz : xs.length ≤ big) (r : Paired (Rp.rep K F) vs xs) : Ow.own K F (upd H p (.lst vs)) (.ref p) xs [p] :=
  ⟨p, _, rfl, rfl, upd_same, sub_none s hp, hz, vs, rfl, r⟩
theorem n_disp [Rp α] {xs : List α} (h : LA X es args xs) (hz : xs.length ≤ big := by exact Nat.le_of_ble_eq_true rfl) : NJ X es (.List args pos) xs := .mk fun f σ F H S Q q =>
  peR (pe_lst paW) (h f σ F H S _ fun vs F1 H1 t1 r1 => ⟨by rw [pairedLen r1]; exact big_line hz, fun p hp => q _ F1 _ [p] (t1.trans (St0.new t1.e hp)) (newL t1.e hp hz r1) (by simp) fun z hz => by
    have e : z = p := by simpa using hz
    rw [e]; exact t1.back hp⟩)
theorem y_disp [Rp α] {xs : List α} (h : XLA X es args xs es1) (hz : xs.length ≤ big := by exact Nat.le_of_ble_eq_true rfl) : YJ X es (.List args pos) xs es1 := .mk fun f σ F H S Q q =>
  peR (pe_lst paW) (h f σ F H S _ fun vs F1 H1 S1 i1 r1 => ⟨by rw [pairedLen r1]; exact big_line hz, fun p hp => by
    obtain ⟨Ps, q1⟩ := S1.env
    have t := St0.new (o := .lst vs) S1.sub hp
    refine q _ F1 _ [p] Ps (S1.st.then0 t) (q1.step t) i1 (newL S1.sub hp hz r1) (by simp) (fun z hz => ?_) fun j hj z hz k => ?_
    · have e : z = p := by simpa using hz
      rw [e]; exact S1.st.back hp
    · have e : z = p := by simpa using hz
      rw [e] at k
      exact (q1.out hj p k).1 hp⟩)
theorem newC {F H : Hp} {p : Addr} {o : HO} (s : Sub F H) (hp : H p = none) : St0 F H (upd F p o) (upd H p o) := by
  have hf := sub_none s hp
  refine ⟨Inc.new hf, fun a u _ e => Inc.new hp a u e, fun a e => ?_, fun a u e => ?_, fun a e1 e2 => ?_, fun a ks e => Inc.new hp a _ e⟩
  · by_cases q : a = p
    · subst q; exact absurd hp e
    · show upd H p o a ≠ none
      rw [upd_ne q]; exact e
  · by_cases q : a = p
    · subst q; rw [upd_same] at e; cases e; exact .inl upd_same
    · rw [upd_ne q] at e
      exact (s a u e).inc (Inc.new hp)
  · by_cases q : a = p
    · subst q; exact absurd hp e1
    · rw [upd_ne q]; exact .inl e2
theorem f_tup2 {x1} [Rp α] [Rp β] {x : α} {y : β} (ha : FJ X es a x) (hb : FJ X es b y) (s1 : starEach [a, b] X.env = (false, eval a X.env) :: starEach [b] X.env := by rfl) (s2 : starEach [b] X.env = (false, eval b X.env) :: starEach [] X.env := by rfl) : FJ X es (.Tuple [a, b] x1 pos) (x, y) := .mk fun f σ F H S Q q =>
  peR (pe_tup (pa_cons peW (pa_cons peW pa_nil s2) s1)) (ha f σ F H S _ fun v F1 H1 t1 r1 => hb f σ F1 H1 (S.step t1) _ fun w F2 H2 t2 r2 => ⟨show 2 ≤ sizeLine by decide, fun p hp => by
    have t3 := newC (o := .tup [v, w]) t2.e hp
    exact q _ _ _ ((t1.trans t2).trans t3) ⟨p, _, rfl, upd_same, v, w, rfl, Rp.mono (t2.f.trans t3.f) r1, Rp.mono t3.f r2⟩⟩)
/-! list(xs), slices, + -/
def cutX {α : Type} (xs : List α) (lo hi : Option Int) : List α := (xs.drop (HT.sIx xs.length 0 lo)).take (HT.sIx xs.length xs.length hi - HT.sIx xs.length 0 lo)
theorem pairedDrop {δ : Type} {R : γ → δ → Prop} : ∀ (n : Nat) {xs : List γ} {ys : List δ}, Paired R xs ys → Paired R (xs.drop n) (ys.drop n)
  | 0, _, _, h => h
  | _ + 1, _, _, .nil => .nil
  | n + 1, _, _, .cons _ t => pairedDrop n t
theorem pairedTake {δ : Type} {R : γ → δ → Prop} : ∀ (n : Nat) {xs : List γ} {ys : List δ}, Paired R xs ys → Paired R (xs.take n) (ys.take n)
  | 0, _, _, _ => .nil
  | _ + 1, _, _, .nil => .nil
  | n + 1, _, _, .cons r t => .cons r (pairedTake n t)
theorem pairedApp {δ : Type} {R : γ → δ → Prop} : ∀ {xs us : List γ} {ys ws : List δ}, Paired R xs ys → Paired R us ws → Paired R (xs ++ us) (ys ++ ws)
  | _, _, _, _, .nil, h => h
  | _, _, _, _, .cons r t, h => .cons r (pairedApp t h)
theorem pairedCut {R : V → α → Prop} {vs : List V} {xs : List α} {lo hi : Option Int} (h : Paired R vs xs) : Paired R (cutV vs lo hi) (cutX xs lo hi) := by
  unfold cutV cutX
  rw [pairedLen h]
  exact pairedTake _ (pairedDrop _ h)
theorem cutX_len (xs : List α) (lo hi : Option Int) : (cutX xs lo hi).length ≤ xs.length := by
  unfold cutX
  rw [List.length_take, List.length_drop]
  omega
/-- a part of a slice -/
inductive OJ (X : Cx) (es : List En) : Option Expr → Option Int → Prop where
  | no : OJ X es none none
  | some {e : Expr} {i : Int} (h : RJ X es e i) : OJ X es (some e) (some i)
def tO (X : Cx) : Option Expr → TO
  | none => tNoPart
  | some e => tPart (wpE X e)
theorem poO {o : Option Expr} : PO X o (tO X o) := by
  cases o with
  | none => exact po_none
  | some e => exact po_some peW
theorem OJ.run {o : Option Expr} {i : Option Int} (h : OJ X es o i) {f : Fr} {σ : L2.St} {F H : Hp} (S : Sw X.K f es σ F H) {Q : Option Int → Hp → Prop} (q : ∀ F' H', St0 F H F' H' → Q i H') : tO X o σ H Q := by
  cases h with
  | no => exact q F H (St0.refl S.sub)
  | some h => exact h f σ F H S _ fun v F1 H1 t1 r1 => ⟨_, r1.1, q F1 H1 t1⟩
theorem n_slice {p2 : Pos} {lo hi : Option Expr} {l u : Option Int} [Rp α] {xs : List α} (h : LR X es a xs) (hl : OJ X es lo l) (hh : OJ X es hi u) : NJ X es (.Subscript a (.Slice lo hi none p2) pos) (cutX xs l u) := .mk fun f σ F H S Q q =>
  peR (pe_slice sl_list peW poO poO) (h f σ F H S _ fun w vs F1 H1 t1 h1 r1 hz => hl.run (S.step t1) fun F2 H2 t2 => hh.run ((S.step t1).step t2) fun F3 H3 t3 => by
    have t := t2.trans t3
    exact ⟨w, vs, rfl, .inl (.inl (t.inc _ _ h1)), fun p hp => q _ F3 _ [p] ((t1.trans t).trans (St0.new t3.e hp)) (newL t3.e hp (Nat.le_trans (cutX_len _ _ _) hz) (pairedM t.f (pairedCut r1))) (by simp) fun z hz => by
      have e : z = p := by simpa using hz
      rw [e]; exact (t1.trans t).back hp⟩)
/-! sums, all, any, least, greatest -/
theorem r_onL {id : String} {n : Str} {r : List V → Hp → VK → Prop} [Rp α] [Sc β] {xs : List α} {y : β} (hc : CallR X (.builtin id) r) (hg : Gl X n) (hm : X.mg n = none) (hv : bootBuiltins n = some (.builtin id))
    (hr : ∀ (F H : Hp) (p : Addr) (vs : List V) (Q : VK), H p = some (.lst vs) → Paired (Rp.rep X.K F) vs xs → (Sc.ok y → Q (Sc.toV y) H) → r [.ref p] H Q) (h : LR X es a xs) (hn : n ≠ "__name__" := by decide) (hdb : (n == ("__debug__" : Str)) = false := by decide) (s1 : starEach [a] X.env = (false, eval a X.env) :: starEach [] X.env := by rfl) (hz : Sc.ok y := by trivial) {p : Pos} : RJ X es (.Call (.Name n p) [a] [] pos) y := .mk fun f σ F H S Q q =>
  peR (pe_callB hc hg hm hv (pa_cons peW pa_nil s1) hn hdb s1) (h f σ F H S _ fun l vs F1 H1 t1 h1 r1 _ => hr F1 H1 l vs Q h1 r1 fun ok => q _ F1 H1 t1 ⟨rfl, hz⟩)
theorem r_all {xs : List Bool} (hk : X.calm = true) (hg : Gl X "all") (hm : X.mg "all" = none) (h : LR X es a xs) (s1 : starEach [a] X.env = (false, eval a X.env) :: starEach [] X.env := by rfl) {p : Pos} : RJ X es (.Call (.Name "all" p) [a] [] pos) (xs.all id) :=
  r_onL (α := Bool) (β := Bool) (cr_all hk) hg hm (by decide +kernel) (by intro F H p vs Q h1 r q; exact ⟨p, xs, rfl, .inl (.inl (by rw [h1, scMap r]; rfl)), q True.intro⟩) h (by decide) (by decide) s1 True.intro
theorem r_any {xs : List Bool} (hk : X.calm = true) (hg : Gl X "any") (hm : X.mg "any" = none) (h : LR X es a xs) (s1 : starEach [a] X.env = (false, eval a X.env) :: starEach [] X.env := by rfl) {p : Pos} : RJ X es (.Call (.Name "any" p) [a] [] pos) (xs.any id) :=
  r_onL (α := Bool) (β := Bool) (cr_any hk) hg hm (by decide +kernel) (by intro F H p vs Q h1 r q; exact ⟨p, xs, rfl, .inl (.inl (by rw [h1, scMap r]; rfl)), q True.intro⟩) h (by decide) (by decide) s1 True.intro
/-- the greatest, the least of some ints -/
def maxI : List Int → Int
  | [] => 0
  | x :: xs => xs.foldl (fun a b => if b > a then b else a) x
def minI : List Int → Int
  | [] => 0
  | x :: xs => xs.foldl (fun a b => if b < a then b else a) x
theorem minF_mem : ∀ (xs : List Int) (x : Int), (xs.foldl (fun a b => if b < a then b else a) x) ∈ x :: xs ∧ ∀ y ∈ x :: xs, xs.foldl (fun a b => if b < a then b else a) x ≤ y
  | [], x => ⟨by simp, fun y h => by simp at h; simp [h]⟩
  | z :: zs, x => by
    obtain ⟨h1, h2⟩ := minF_mem zs (if z < x then z else x)
    rw [List.foldl_cons]
    have hz : (if z < x then z else x) ≤ z := by split <;> omega
    have hx : (if z < x then z else x) ≤ x := by split <;> omega
    have hm := h2 _ List.mem_cons_self
    refine ⟨?_, fun y hy => ?_⟩
    · rcases List.mem_cons.mp h1 with e | e
      · rw [e]
        by_cases c : z < x
        · rw [if_pos c]; simp
        · rw [if_neg c]; simp
      · exact List.mem_cons_of_mem _ (List.mem_cons_of_mem _ e)
    · rcases List.mem_cons.mp hy with e | e
      · rw [e]; omega
      · rcases List.mem_cons.mp e with e | e
        · rw [e]; omega
        · exact h2 y (List.mem_cons_of_mem _ e)
theorem minI_mem {xs : List Int} (h : 0 < xs.length) : minI xs ∈ xs ∧ ∀ y ∈ xs, minI xs ≤ y := by
  cases xs with
  | nil => simp at h
  | cons x xs => exact minF_mem xs x
theorem r_minL {xs : List Int} (hk : X.calm = true) (hg : Gl X "min") (hm : X.mg "min" = none) (hl : 0 < xs.length) (h : LR X es a xs) (s1 : starEach [a] X.env = (false, eval a X.env) :: starEach [] X.env := by rfl) {p : Pos} : RJ X es (.Call (.Name "min" p) [a] [] pos) (minI xs) :=
  r_onL (α := Int) (β := Int) (cr_min hk) hg hm (by decide +kernel) (by
    intro F H p vs Q h1 r q
    refine ⟨p, xs, rfl, .inl (.inl (by rw [h1, scMap r]; rfl)), hl, fun m m1 m2 => ?_⟩
    obtain ⟨k1, k2⟩ := minI_mem hl
    have e : m = minI xs := Int.le_antisymm (m2 _ k1) (k2 m m1)
    rw [e]; exact q True.intro) h (by decide) (by decide) s1 True.intro
/-! texts -/
theorem r_sign {c : Nat} {z : Str} (ha : RJ X es a (sgn c)) (hb : RJ X es b z) (hm : behindInMarks .In b = false := by rfl) : RJ X es (.Compare a [.In] [b] pos) (decide (c ∈ z.cps.toList)) :=
  r_cmp op_in_sign (fun _ _ q => ⟨c, z, rfl, rfl, q⟩) True.intro ha hb hm
/-! == of data -/
class Dat (α : Type) [Rp α] [DecidableEq α] where
  d : α → PyData
  dp : ∀ {K : PySem.W.Frag} {F H : Hp} {v : V} {x : α}, Sub F H → Rp.rep K F v x → Dp K H v (d x)
  lay : ∀ {K : PySem.W.Frag} {F : Hp} {v : V} {x : α}, Rp.rep K F v x → (d x).canLay0 = true
  eq : ∀ x y : α, PyData.eqv (d x) (d y) = decide (x = y)
/-- data that is at most n deep -/
class DatN (α : Type) [Rp α] [DecidableEq α] (n : outParam Nat) extends Dat α where
  dep : ∀ x : α, (d x).depth ≤ n
theorem DatN.sh {α : Type} [Rp α] [DecidableEq α] {n : Nat} [DatN α n] (hn : n ≤ 64) {K : PySem.W.Frag} {F : Hp} {v : V} {x : α} (r : Rp.rep K F v x) : SeqAt.shaped (Dat.d x) = true := by
  show ((Dat.d x).canLay0 && decide ((Dat.d x).depth ≤ 64)) = true
  rw [Dat.lay r]
  exact decide_eq_true (Nat.le_trans (DatN.dep x) hn)
theorem r_eqD [Rp α] [DecidableEq α] {n : Nat} [DatN α n] {x y : α} (hu : X.A.units + 64 < cLine) (ha : RJ X es a x) (hb : RJ X es b y) (hn : n ≤ 64 := by decide) : RJ X es (.Compare a [.Eq] [b] pos) (decide (x = y)) := .mk fun f σ F H S Q q =>
  peR (pe_cmpR (op_eqD hu) peW peW (nomark _)) (ha f σ F H S _ fun v F1 H1 t1 r1 => hb f σ F1 H1 (S.step t1) _ fun w F2 H2 t2 r2 =>
    ⟨Dat.d x, Dat.d y, Dat.dp (ovl_sub t2.e) (Rp.mono (ovl_step t2) r1), Dat.dp (ovl_sub t2.e) r2, DatN.sh hn r1, DatN.sh hn r2, by rw [Dat.eq]; exact q _ F2 H2 (t1.trans t2) ⟨rfl, True.intro⟩⟩)
end

/-! data -/
instance : Dat Int := ⟨.int, fun _ r => by rw [r.1]; exact .int _, fun {_ _ _ x} _ => rfl, fun x y => by show (x == y) = _; exact Bool.beq_eq_decide_eq x y⟩
instance : Dat Bool := ⟨.bool, fun _ r => by rw [r.1]; exact .bl _, fun {_ _ _ x} _ => rfl, fun x y => by show (x == y) = _; exact Bool.beq_eq_decide_eq x y⟩
instance : Dat Str := ⟨.str, fun _ r => by rw [r.1]; exact .str _, fun {_ _ _ x} r => by
  show PyData.strOk x = true
  have h : PyData.strOk x = true := by
    unfold PyData.strOk
    rw [← Array.all_toList]
    exact List.all_eq_true.mpr fun c hc => decide_eq_true (r.2.2 c hc)
  exact h, fun x y => by show (x == y) = _; exact Bool.beq_eq_decide_eq x y⟩
instance : Dat Unit := ⟨fun _ => .none, fun _ r => by rw [r.1]; exact .non, fun _ => rfl, fun x y => rfl⟩
instance : DatN Int 0 := ⟨fun _ => Nat.le_refl _⟩
instance : DatN Bool 0 := ⟨fun _ => Nat.le_refl _⟩
instance : DatN Str 0 := ⟨fun _ => Nat.le_refl _⟩
instance : DatN Unit 0 := ⟨fun _ => Nat.le_refl _⟩
theorem depAll {ds : List PyData} {n : Nat} (h : ∀ d ∈ ds, d.depth ≤ n) : PyData.depthAll ds ≤ n := by
  induction ds with
  | nil => exact Nat.zero_le _
  | cons d ds ih =>
    show max d.depth (PyData.depthAll ds) ≤ n
    exact Nat.max_le.mpr ⟨h d List.mem_cons_self, ih fun e he => h e (List.mem_cons_of_mem _ he)⟩
theorem layAll {ds : List PyData} (h : ∀ d ∈ ds, d.canLay0 = true) : PyData.canLayAll0 ds = true := by
  induction ds with
  | nil => rfl
  | cons d ds ih =>
    show (d.canLay0 && PyData.canLayAll0 ds) = true
    rw [h d List.mem_cons_self, ih fun e he => h e (List.mem_cons_of_mem _ he)]; rfl
theorem dpAll {α : Type} [Rp α] [DecidableEq α] [Dat α] {K : PySem.W.Frag} {F H : Hp} (s : Sub F H) : ∀ {vs : List V} {xs : List α}, Paired (Rp.rep K F) vs xs → DpAll K H vs (xs.map Dat.d)
  | _, _, .nil => .nil
  | _, _, .cons r t => .cons (Dat.dp s r) (dpAll s t)
theorem layR {α : Type} [Rp α] [DecidableEq α] [Dat α] {K : PySem.W.Frag} {F : Hp} : ∀ {vs : List V} {xs : List α}, Paired (Rp.rep K F) vs xs → ∀ d ∈ xs.map Dat.d, d.canLay0 = true
  | _, _, .nil, d, h => by cases h
  | _, _, .cons r t, d, h => by
    rcases List.mem_cons.mp h with e | e
    · rw [e]; exact Dat.lay r
    · exact layR t d e
theorem eqvAll {α : Type} [Rp α] [DecidableEq α] [Dat α] : ∀ xs ys : List α, PyData.eqvAll (xs.map Dat.d) (ys.map Dat.d) = decide (xs = ys)
  | [], [] => rfl
  | [], _ :: _ => rfl
  | _ :: _, [] => rfl
  | x :: xs, y :: ys => by
    show (PyData.eqv (Dat.d x) (Dat.d y) && PyData.eqvAll (xs.map Dat.d) (ys.map Dat.d)) = _
    rw [Dat.eq, eqvAll xs ys, Bool.eq_iff_iff]
    simp
instance datList {α : Type} [Rp α] [DecidableEq α] {n : Nat} [DatN α n] : DatN (List α) (n + 1) where
  d xs := .list (xs.map Dat.d)
  dp {K F H v xs} s r := by
    obtain ⟨p, vs, e, h1, h2, rr⟩ := repL s r
    rw [e]
    exact .lst (.inl (.inl h1)) (dpAll s rr)
  lay {K F v xs} r := by
    obtain ⟨p, o, e, h1, hz, vs, eo, rr⟩ := r
    exact layAll (layR rr)
  eq xs ys := eqvAll xs ys
  dep xs := by
    have h2 : PyData.depthAll (xs.map Dat.d) ≤ n := depAll fun d hd => by
      obtain ⟨x, _, rfl⟩ := List.mem_map.mp hd
      exact DatN.dep x
    exact Nat.add_le_add_right h2 1
instance datPair {α β : Type} [Rp α] [DecidableEq α] [Rp β] [DecidableEq β] {n m : Nat} [DatN α n] [DatN β m] : DatN (α × β) (max n m + 1) where
  d x := .tuple [Dat.d x.1, Dat.d x.2]
  dp {K F H v x} s r := by
    obtain ⟨p, o, e, h1, u, w, eo, r1, r2⟩ := r
    subst eo
    rw [e]
    exact .tup (.inl (.inl ((s p _ h1).nd fun z => z))) (.cons (Dat.dp s r1) (.cons (Dat.dp s r2) .nil))
  lay {K F v x} r := by
    obtain ⟨p, o, e, h1, u, w, eo, r1, r2⟩ := r
    show ((Dat.d x.1).canLay0 && ((Dat.d x.2).canLay0 && true)) = true
    rw [Dat.lay r1, Dat.lay r2]; rfl
  eq x y := by
    show (PyData.eqv (Dat.d x.1) (Dat.d y.1) && (PyData.eqv (Dat.d x.2) (Dat.d y.2) && true)) = _
    rw [Dat.eq, Dat.eq, Bool.eq_iff_iff]
    simp [Prod.ext_iff]
  dep x := by
    have b1 := DatN.dep x.1
    have b2 := DatN.dep x.2
    show max (Dat.d x.1).depth (max (Dat.d x.2).depth 0) + 1 ≤ max n m + 1
    omega
end Ly
namespace Ly
open PySem PySem.Spec PyProof.Rows L2 TL
/-! comprehensions -/
abbrev blkX (X : Cx) (scope : Scope) (s : Shared) (H : Hp) (C : Addr) (cl : List (Str × Addr)) (fp : List Addr) : Cx := X.blk s H scope (compEnvC scope cl C X.env) fp
/-- the target's places, behind which the slots are as they were -/
def CT (X : Cx) (tg : Expr) (vs : List Nat) (es : List En) {α : Type} [Rp α] (x : α) (es' : List En) : Prop := ∀ (f : Fr) (σ : L2.St) (F H : Hp) (v : V), Sw X.K f es σ F H → Rp.rep X.K F v x → ∀ Q : L2.St → Hp → Prop, (∀ σ' F' H', Sw X.K f es' σ' F' H' → St0 F H F' H' → wipe σ' vs = wipe σ vs → Q σ' H') → wpG X tg v σ H Q
/-- the tests -/
def wpPT (X : Cx) (ifs : List Expr) : TT := fun σ H Q => ∀ (pins : List (Addr × Obj)) (s : Shared), Inv X pins σ H s → wpAny (model X.prog X.w) X.A (forIn ifs true fun c r => if r = true then do let ok ← isTrue c X.env (eval c X.env); pure (ForInStep.yield ok) else pure (ForInStep.yield r)) (TP X pins σ Q) X.xe s
structure IfJ (X : Cx) (es : List En) (ifs : List Expr) (b : Bool) : Prop where
  run : ∀ (f : Fr) (σ : L2.St) (F H : Hp), Sw X.K f es σ F H → ∀ Q : Bool → Hp → Prop, (∀ F' H', St0 F H F' H' → Q b H') → wpPT X ifs σ H Q
instance {X : Cx} {es : List En} {ifs : List Expr} {b : Bool} : CoeFun (IfJ X es ifs b) (fun _ => ∀ (f : Fr) (σ : L2.St) (F H : Hp), Sw X.K f es σ F H → ∀ Q : Bool → Hp → Prop, (∀ F' H', St0 F H F' H' → Q b H') → wpPT X ifs σ H Q) := ⟨IfJ.run⟩
section
variable {X : Cx} {es es1 es2 : List En} {a b c e elt tg iter : Expr} {ifs : List Expr} {args : List Expr} {pos : Pos} {α β γ : Type} {i : Nat} {scope : Scope}
theorem if_nil : IfJ X es [] true := .mk fun f σ F H S Q q pins s I => pts_nil.run pins s σ H Q I (q F H (St0.refl S.sub))
theorem if_one {k : Bool} (h : TJ X es c k) : IfJ X es [c] k := .mk fun f σ F H S Q q pins s I => (pts_one ptW).run pins s σ H Q I (h f σ F H S Q q)
/-- the slots at vs are forgotten -/
def wpd : List Nat → List En → List En
  | [], es => es
  | v :: vs, es => (wpd vs es).set v .un
theorem Sw.unset {K : PySem.W.Frag} {f : Fr} {es : List En} {σ : L2.St} {F H : Hp} (v : Nat) (s : Sw K f es σ F H) (na : noAl v es) : Sw K f (es.set v .un) (σ.set v none) F H := by
  obtain ⟨Ps, q⟩ := s.env
  refine ⟨s.st, fun j => if j = v then [] else Ps j, by simp [q.len], fun j e hj => ?_, fun j hj => ?_, fun j k p h1 h2 p1 p2 => ?_, fun j p h1 p1 => ?_, fun j p α r x hj p1 => ?_, fun j k α r x hj => ?_⟩
  · by_cases z : j = v
    · subst z
      have hl := get_lt hj
      rw [List.length_set] at hl
      rw [List.getElem?_set_self hl] at hj
      cases hj
      rw [if_pos rfl]; rfl
    · rw [List.getElem?_set_ne (Ne.symm z)] at hj
      rw [if_neg z, sl_ne (Ne.symm z)]; exact q.ok j e hj
  · by_cases z : j = v
    · rw [if_pos z]; exact List.nodup_nil
    · rw [if_neg z]; exact q.nd j (by simpa using hj)
  · rw [List.length_set] at h1 h2
    by_cases y : j = v
    · rw [if_pos y] at p1; cases p1
    · rw [if_neg y] at p1
      by_cases y2 : k = v
      · rw [if_pos y2] at p2; cases p2
      · rw [if_neg y2] at p2; exact q.dj j k p h1 h2 p1 p2
  · rw [List.length_set] at h1
    by_cases y : j = v
    · rw [if_pos y] at p1; cases p1
    · rw [if_neg y] at p1; exact q.fr j p h1 p1
  · by_cases y : j = v
    · rw [if_pos y] at p1; cases p1
    · rw [if_neg y] at p1
      rw [List.getElem?_set_ne (Ne.symm y)] at hj
      exact q.nw j p α r x hj p1
  · by_cases y : j = v
    · subst y
      have hl := get_lt hj
      rw [List.length_set] at hl
      rw [List.getElem?_set_self hl] at hj
      cases hj
    · rw [List.getElem?_set_ne (Ne.symm y)] at hj
      obtain ⟨hk, w, Q, ew, hQ, o⟩ := q.al j k α r x hj
      have hkv : k ≠ v := fun z => na j α r x (z ▸ hj)
      exact ⟨by rw [List.length_set]; exact hk, w, Q, by rw [sl_ne (Ne.symm y)]; exact ew, fun p hp => by rw [if_neg hkv]; exact hQ p hp, o⟩
def alFrees : List Nat → List En → Bool
  | [], _ => true
  | v :: vs, es => alFrees vs es && alFree v (wpd vs es)
theorem Sw.wipe {K : PySem.W.Frag} {f : Fr} {F H : Hp} : ∀ (vs : List Nat) {es : List En} {σ : L2.St}, Sw K f es σ F H → alFrees vs es = true → Sw K f (wpd vs es) (L2.wipe σ vs) F H
  | [], _, _, s, _ => s
  | v :: vs, es, σ, s, h => by
    obtain ⟨h1, h2⟩ := Bool.and_eq_true_iff.mp h
    exact (Sw.wipe vs s h1).unset v (noAl_of h2)
theorem wipe_comm {σ : L2.St} {vs : List Nat} {j : Nat} {v : Option V} (h : j ∉ vs) : L2.wipe (σ.set j v) vs = (L2.wipe σ vs).set j v := by
  induction vs with
  | nil => rfl
  | cons u us ih =>
    have h1 : j ≠ u := fun e => h (e ▸ List.mem_cons_self)
    have h2 : j ∉ us := fun e => h (List.mem_cons_of_mem _ e)
    show (L2.wipe (σ.set j v) us).set u none = ((L2.wipe σ us).set u none).set j v
    rw [ih h2, List.set_comm _ _ h1]
theorem wipe_set {σ : L2.St} {vs : List Nat} {j : Nat} {v : Option V} (h : j ∈ vs) : L2.wipe (σ.set j v) vs = L2.wipe σ vs := by
  induction vs with
  | nil => cases h
  | cons u us ih =>
    show (L2.wipe (σ.set j v) us).set u none = (L2.wipe σ us).set u none
    by_cases hj : j ∈ us
    · rw [ih hj]
    · rcases List.mem_cons.mp h with e | e
      · rw [wipe_comm hj, e, List.set_set]
      · exact absurd e hj
theorem wipe_wipes {σ : L2.St} {us : List Nat} : ∀ {vs : List Nat}, (∀ v ∈ vs, v ∈ us) → L2.wipe (L2.wipe σ vs) us = L2.wipe σ us
  | [], _ => rfl
  | v :: vs, h => by
    show L2.wipe ((L2.wipe σ vs).set v none) us = L2.wipe σ us
    rw [wipe_set (h v List.mem_cons_self), wipe_wipes fun x hx => h x (List.mem_cons_of_mem _ hx)]
theorem wipe_wipe {σ : L2.St} {vs : List Nat} : L2.wipe (L2.wipe σ vs) vs = L2.wipe σ vs := wipe_wipes fun _ h => h
theorem ct_name {vs : List Nat} [Rp α] {x : α} (hg : PG X tg (gName i)) (hv : i ∈ vs) (hi : i < es.length) (ha : alFree i es = true := by rfl) : CT X tg vs es x (es.set i (.fz x)) := fun f σ F H v S r Q q =>
  pgR hg (q _ F H (S.setF hi r (noAl_of ha)) (St0.refl S.sub) (wipe_set hv))
/-- what may be walked while nothing changes -/
def YlH (K : PySem.W.Frag) (J : It) (F0 H0 : Hp) [Rp α] (xs : List α) : Prop := xs.length ≤ big ∧ ∀ (i : Nat) (F H : Hp), Inc F0 F → Inc H0 H → Sub F H → (i = xs.length → J.stop i H) ∧ ∀ x, xs[i]? = some x → J.go i H ∧ ∀ v H', J.yld i H v H' → ∃ F', St0 F H F' H' ∧ Rp.rep K F' v x
def IH (X : Cx) (tg : Expr) (es : List En) (iter : Expr) [Rp α] (xs : List α) : Prop := ∀ (f : Fr) (σ : L2.St) (F H : Hp), Sw X.K f es σ F H → ∀ R : It → Hp → Prop, (∀ J F' H', St0 F H F' H' → YlH X.K J F' H' xs → R J H') → wpI X tg iter σ H R
theorem h_list [Rp α] {xs : List α} (h : LR X es iter xs) : IH X tg es iter xs := fun f σ F H S R q =>
  piR (pi_list peW) (h f σ F H S _ fun p vs F1 H1 t1 h1 rr hz => ⟨p, rfl, ⟨vs, .inl (.inl h1)⟩, q _ F1 H1 t1 ⟨hz, fun i F2 H2 i2 j2 s2 => by
    have hH2 : H2 p = some (.lst vs) := j2 p _ h1
    have rr2 : Paired (Rp.rep X.K F2) vs xs := pairedM i2 rr
    refine ⟨fun ei => ⟨vs, .inl (.inl hH2), by rw [pairedLen rr2]; omega⟩, fun x hx => ?_⟩
    obtain ⟨w, hw, rw_⟩ := pairedGet rr2 hx
    refine ⟨⟨vs, w, .inl (.inl hH2), hw⟩, fun v' H' y => ?_⟩
    obtain ⟨eH, y⟩ := y
    subst eH
    have ev : vs[i]? = some v' := y vs (.inl (.inl hH2))
    rw [hw] at ev
    cases ev
    exact ⟨F2, St0.refl s2, rw_⟩⟩⟩)
theorem signs_at {z : Str} {i : Nat} {x : Str} (h : (signsOf z)[i]? = some x) : ∃ c, z.cps.toList[i]? = some c ∧ x = sgn c := by
  unfold signsOf at h
  rw [List.getElem?_map] at h
  cases q : z.cps.toList[i]? with
  | none => rw [q] at h; cases h
  | some c => rw [q] at h; exact ⟨c, rfl, (Option.some.inj h).symm⟩
/-- the loop of a comprehension: what stands in the new list D behind i turns -/
def given (p : α → Bool) (g : α → β) (xs : List α) : List β := (xs.filter p).map g
theorem given_snoc {p : α → Bool} {g : α → β} {xs : List α} {x : α} : given p g (xs ++ [x]) = given p g xs ++ (bif p x then [g x] else []) := by
  unfold given
  rw [List.filter_append, List.map_append]
  cases h : p x with
  | true => rw [List.filter_cons, if_pos h]; rfl
  | false => rw [List.filter_cons, if_neg (by rw [h]; decide)]; rfl
theorem given_len {p : α → Bool} {g : α → β} (xs : List α) : (given p g xs).length ≤ xs.length := by
  unfold given
  rw [List.length_map]
  exact List.length_filter_le _ _
variable {own : List (Str × Nat)}
/-- the reading of [g x for x in xs if p x] -/
abbrev rdLc (X : Cx) (scope : Scope) (tg iter elt : Expr) (ifs : List Expr) (vs : List Nat) : TE := tLc (wpI X tg iter) (fun v σ H Q => ∀ s H0 C cl fp, wpG (blkX X scope s H0 C cl fp) tg v σ H Q) (fun σ H Q => ∀ s H0 C cl fp, wpPT (blkX X scope s H0 C cl fp) ifs σ H Q) (fun σ H Q => ∀ s H0 C cl fp, wpE (blkX X scope s H0 C cl fp) elt σ H Q) vs
theorem pe_lcW (hk : X.calm = true) (hN : X.N.Nodup) (ok : BlkOk X.N X.env.scope scope own) (hs : ∀ x, foldedSetIterable iter X.env x = pure x := by intro _; rfl) : PE X (.ListComp elt [⟨tg, iter, ifs, 0⟩] scope pos) (rdLc X scope tg iter elt ifs (own.map (·.2))) :=
  pe_lc hk hN piW ok (fun s H0 C cl fp => ⟨fun pins s' σ' H' v u Q' I r h => h s H0 C cl fp pins s' u I r⟩) (fun s H0 C cl fp => ⟨fun pins s' σ' H' Q' I h => h s H0 C cl fp pins s' I⟩) (fun s H0 C cl fp => ⟨fun pins s' σ' H' Q' I h => h s H0 C cl fp pins s' I⟩) hs
theorem ps_lcW {y : Str} {py spos : Pos} (hk : X.calm = true) (hN : X.N.Nodup) (hy : X.N[i]? = some y) (hyl : X.env.scope.names.lookup y = some .local) (hsw : swapsWith (.ListComp elt [⟨tg, iter, ifs, 0⟩] scope pos) (some (.Name y py)) spos.line X.env = pure true) (ok : BlkOk X.N X.env.scope scope own) (hs : ∀ x, foldedSetIterable iter X.env x = pure x := by intro _; rfl) :
    PS X (.Assign [.Name y py] (.ListComp elt [⟨tg, iter, ifs, 0⟩] scope pos) spos) (tAsg (rdLc X scope tg iter elt ifs (own.map (·.2))) (gName i)) :=
  ps_setLc hk hN hy hyl hsw piW ok (fun s H0 C cl fp => ⟨fun pins s' σ' H' v u Q' I r h => h s H0 C cl fp pins s' u I r⟩) (fun s H0 C cl fp => ⟨fun pins s' σ' H' Q' I h => h s H0 C cl fp pins s' I⟩) (fun s H0 C cl fp => ⟨fun pins s' σ' H' Q' I h => h s H0 C cl fp pins s' I⟩) hs
/-- a reading that gives a new object -/
structure NRd (K : PySem.W.Frag) (es : List En) (t : TE) [Ow α] (x : α) : Prop where
  run : ∀ (f : Fr) (σ : L2.St) (F H : Hp), Sw K f es σ F H → ∀ Q : VK, (∀ v F' H' P, St0 F H F' H' → Ow.own K F' H' v x P → P.Nodup → (∀ p ∈ P, H p = none) → Q v H') → t σ H Q
instance {K : PySem.W.Frag} {es : List En} {t : TE} [Ow α] {x : α} : CoeFun (NRd K es t x) (fun _ => ∀ (f : Fr) (σ : L2.St) (F H : Hp), Sw K f es σ F H → ∀ Q : VK, (∀ v F' H' P, St0 F H F' H' → Ow.own K F' H' v x P → P.Nodup → (∀ p ∈ P, H p = none) → Q v H') → t σ H Q) := ⟨NRd.run⟩
theorem NRd.nj [Ow α] {t : TE} {x : α} (h : NRd X.K es t x) (hp : PE X e t) : NJ X es e x := .mk fun f σ F H S Q q => peR hp (h f σ F H S Q q)
theorem s_asgRdF [Ow α] {t : TE} {x : α} {st : Stmt} (hst : PS X st (tAsg t (gName i))) (h : NRd X.K es t x) (he : es.set i (@En.fz α Ow.rp x) = es1 := by rfl) (hi : i < es.length := by exact Nat.le_of_ble_eq_true rfl) (ha : alFree i es = true := by rfl) : E1 X es st es1 := .mk fun f σ F H D S q =>
  psR hst (h f σ F H S _ fun v F1 H1 P t r hn hp => by
    subst he
    have t2 := t.freeze (P := P) fun p z => ⟨(Ow.out r p z).2, hp p z⟩
    exact q _ (fzP F1 H1 P) H1 ((S.step t2).setF hi (Ow.fzn r) (noAl_of ha)))
/-- the loop of a comprehension, the walk begun -/
theorem lc_loop {vs : List Nat} [Rp α] [Rp β] {xs : List α} {p : α → Bool} {g : α → β} {est : α → List En} {f : Fr} {σ : L2.St} {F1 H1 : Hp} (S : Sw X.K f es σ F1 H1) {J : It} {Q : VK} (yl : YlH X.K J F1 H1 xs) (hal : alFrees vs es = true)
    (ht : ∀ (s : Shared) (H : Hp) (C : Addr) (cl : List (Str × Addr)) (fp : List Addr) x, CT (blkX X scope s H C cl fp) tg vs (wpd vs es) x (est x))
    (hp : ∀ (s : Shared) (H : Hp) (C : Addr) (cl : List (Str × Addr)) (fp : List Addr) x, x ∈ xs → IfJ (blkX X scope s H C cl fp) (est x) ifs (p x))
    (he : ∀ (s : Shared) (H : Hp) (C : Addr) (cl : List (Str × Addr)) (fp : List Addr) x, x ∈ xs → p x = true → FJ (blkX X scope s H C cl fp) (est x) elt (g x))
    (q : ∀ v F' H' P, St0 F1 H1 F' H' → Ow.own X.K F' H' v (given p g xs) P → P.Nodup → (∀ p ∈ P, H1 p = none) → Q v H') : tLc (fun _ _ R => R J H1) (fun v σ H Q => ∀ s H0 C cl fp, wpG (blkX X scope s H0 C cl fp) tg v σ H Q) (fun σ H Q => ∀ s H0 C cl fp, wpPT (blkX X scope s H0 C cl fp) ifs σ H Q) (fun σ H Q => ∀ s H0 C cl fp, wpE (blkX X scope s H0 C cl fp) elt σ H Q) vs σ H1 Q := by
  intro D hD
  have t1 := St0.refl S.sub
  obtain ⟨hz, yl⟩ := yl
  have S1 := S.step t1
  have hDF : F1 D = none := sub_none t1.e hD
  -- the word
  refine ⟨fun i m H' => m = xs.length - i ∧ i ≤ xs.length ∧ ∃ F' ws, St0 F1 H1 F' H' ∧ H' D = some (.lst ws) ∧ F' D = none ∧ Paired (Rp.rep X.K F') ws (given p g (xs.take i)), ⟨xs.length, by omega, Nat.zero_le _, F1, [], St0.new t1.e hD, upd_same, hDF, .nil⟩, ?_⟩
  rintro i m H' ⟨em, hil, F', ws, t2, hDl, hDn, rr⟩
  by_cases hlt : i < xs.length
  · have hx : xs[i]? = some xs[i] := List.getElem?_eq_getElem hlt
    obtain ⟨go, yd⟩ := (yl i F' H' t2.f t2.inc t2.e).2 _ hx
    have hmem : xs[i] ∈ xs := List.getElem_mem hlt
    have tk : xs.take (i + 1) = xs.take i ++ [xs[i]] := by rw [List.take_add_one, hx]; rfl
    have lw : ws.length < sizeLine := by
      rw [pairedLen rr]
      exact big_lt (Nat.le_trans (given_len _) (Nat.le_trans (List.length_take_le _ _) (Nat.le_trans hil hz)))
    refine .inr ⟨go, fun H2 => ∃ F2 ws2, St0 F1 H1 F2 H2 ∧ H2 D = some (.lst ws2) ∧ F2 D = none ∧ Paired (Rp.rep X.K F2) ws2 (given p g (xs.take (i + 1))), fun H2 ⟨F2, ws2, h1, h2, h3, h4⟩ => ⟨m - 1, by omega, by omega, hlt, F2, ws2, h1, h2, h3, h4⟩, fun v H2 yv => ?_⟩
    obtain ⟨F2, t3, r3⟩ := yd v H2 yv
    have t13 := t2.trans t3
    have hD3 : F2 D = none := t3.nz hDl nskL hDn
    intro s H0 C cl fp
    refine ht s H0 C cl fp xs[i] (f.at F1) _ F2 H2 v ((S1.root.step t13).wipe vs hal) r3 _ fun σ4 F4 H4 S4 t4 hw => ⟨hw.trans (by rw [wipe_wipe]), ?_⟩
    intro s' H0' C' cl' fp'
    refine hp s' H0' C' cl' fp' xs[i] hmem _ σ4 F4 H4 S4 _ fun F5 H5 t5 => ?_
    have t15 := (t13.trans t4).trans t5
    have hD5 : H5 D = some (.lst ws) := t5.inc _ _ (t4.inc _ _ (t3.inc _ _ hDl))
    have nD5 : F5 D = none := t5.nz (t4.inc _ _ (t3.inc _ _ hDl)) nskL (t4.nz (t3.inc _ _ hDl) nskL hD3)
    have f15 := (t3.f.trans t4.f).trans t5.f
    cases hpx : p xs[i] with
    | false =>
      show ∃ F2 ws2, _
      exact ⟨F5, ws, t15, hD5, nD5, by rw [tk, given_snoc, hpx]; simpa using pairedM f15 rr⟩
    | true =>
      show ∀ s H0 C cl fp, wpE (blkX X scope s H0 C cl fp) elt σ4 H5 _
      intro s2 H02 C2 cl2 fp2
      refine he s2 H02 C2 cl2 fp2 xs[i] hmem hpx _ σ4 F5 H5 (S4.step t5) _ fun y F6 H6 t6 r6 => ?_
      have hD6 : H6 D = some (.lst ws) := t6.inc _ _ hD5
      have nD6 : F6 D = none := t6.nz hD5 nskL nD5
      have t16 := t15.trans t6
      have h1D : H1 D = none := hD
      refine ⟨ws, hD6, lw, F6, ws ++ [y], ⟨t16.f, fun b o hn e => ?_, fun b e => ?_, fun b o e => ?_, (fun b e1 e2 => (t16.n b e1 e2).imp id fun ⟨ks, z⟩ => ⟨ks, by rw [upd_ne fun c => e1 (by rw [c]; exact h1D)]; exact z⟩), (fun b ks e => by rw [upd_ne fun c => by rw [c, show (⟨no, F1, H1⟩ : Fr).H D = none from h1D] at e; cases e]; exact t16.k b ks e)⟩, upd_same, nD6, ?_⟩
      · have nb : b ≠ D := fun z => by
          have e' : H1 b = some o := e
          rw [z, h1D] at e'; cases e'
        rw [upd_ne nb]; exact t16.inc b o e
      · by_cases z : b = D
        · subst z; rw [upd_same]; intro k; cases k
        · rw [upd_ne z]; exact t16.t b e
      · have nb : b ≠ D := fun z => by rw [z, nD6] at e; cases e
        have r := t16.e b o e
        rcases r with r | ⟨d, ob, r⟩ | ⟨vs, e3, r⟩
        · exact .inl (by rw [upd_ne nb]; exact r)
        · exact .inr (.inl ⟨d, ob, by rw [upd_ne nb]; exact r⟩)
        · exact .inr (.inr ⟨vs, e3, by rw [upd_ne nb]; exact r⟩)
      · rw [tk, given_snoc, hpx]
        exact pairedApp (pairedM (f15.trans t6.f) rr) (.cons r6 .nil)
  · have ei : i = xs.length := by omega
    have ex : xs.take i = xs := List.take_of_length_le (by omega)
    rw [ex] at rr
    refine .inl ⟨(yl i F' H' t2.f t2.inc t2.e).1 ei, q _ F' H' [D] (t1.trans t2) ⟨D, _, rfl, rfl, hDl, hDn, Nat.le_trans (given_len _) hz, ws, rfl, rr⟩ (by simp) fun z hz => ?_⟩
    have e : z = D := by simpa using hz
    rw [e]; exact t1.back hD
/-- [g x for x in xs if p x], from one state on -/
theorem lc_core {vs : List Nat} [Rp α] [Rp β] {xs : List α} {p : α → Bool} {g : α → β} {est : α → List En} {f : Fr} {σ : L2.St} {F H : Hp} (S : Sw X.K f es σ F H) {Q : VK}
    (hi : ∀ R : It → Hp → Prop, (∀ J F' H', St0 F H F' H' → YlH X.K J F' H' xs → R J H') → wpI X tg iter σ H R) (hal : alFrees vs es = true)
    (ht : ∀ (s : Shared) (H : Hp) (C : Addr) (cl : List (Str × Addr)) (fp : List Addr) x, CT (blkX X scope s H C cl fp) tg vs (wpd vs es) x (est x))
    (hp : ∀ (s : Shared) (H : Hp) (C : Addr) (cl : List (Str × Addr)) (fp : List Addr) x, x ∈ xs → IfJ (blkX X scope s H C cl fp) (est x) ifs (p x))
    (he : ∀ (s : Shared) (H : Hp) (C : Addr) (cl : List (Str × Addr)) (fp : List Addr) x, x ∈ xs → p x = true → FJ (blkX X scope s H C cl fp) (est x) elt (g x))
    (q : ∀ v F' H' P, St0 F H F' H' → Ow.own X.K F' H' v (given p g xs) P → P.Nodup → (∀ p ∈ P, H p = none) → Q v H') : rdLc X scope tg iter elt ifs vs σ H Q := by
  exact hi _ fun J F1 H1 t1 yl => lc_loop (S.step t1) yl hal ht hp he fun v F' H' P t o hn hp' => q v F' H' P (t1.trans t) o hn fun z hz => t1.back (hp' z hz)
/-- [g x for x in xs if p x] -/
theorem rd_lc {vs : List Nat} [Rp α] [Rp β] {xs : List α} {p : α → Bool} {g : α → β} {est : α → List En} (hi : IH X tg es iter xs) (hal : alFrees vs es = true := by rfl)
    (ht : ∀ (s : Shared) (H : Hp) (C : Addr) (cl : List (Str × Addr)) (fp : List Addr) x, CT (blkX X scope s H C cl fp) tg vs (wpd vs es) x (est x))
    (hp : ∀ (s : Shared) (H : Hp) (C : Addr) (cl : List (Str × Addr)) (fp : List Addr) x, x ∈ xs → IfJ (blkX X scope s H C cl fp) (est x) ifs (p x))
    (he : ∀ (s : Shared) (H : Hp) (C : Addr) (cl : List (Str × Addr)) (fp : List Addr) x, x ∈ xs → p x = true → FJ (blkX X scope s H C cl fp) (est x) elt (g x)) : NRd X.K es (rdLc X scope tg iter elt ifs vs) (given p g xs) := .mk fun f σ F H S Q q =>
  lc_core S (fun R k => hi f σ F H S R k) hal ht hp he q
end
end Ly
namespace Ly
open PySem PySem.Spec PyProof.Rows L2 TL
/-- two ints in a list -/
structure Pu where
  a : Int
  b : Int
def puO (p : Pu) : HO := .lst [.int p.a, .int p.b]
instance clPu : Cl Pu where
  cell _ _ o p := o = puO p
  mono _ h := h
instance clmPu : Clm Pu := ⟨fun h ks e => by
  have h2 : _ = puO _ := h
  rw [h2] at e; cases e⟩
/-- the script -/
structure Scr where
  ns : List Int
instance rpScr : Rp Scr where
  rep K H v s := ∃ a, v = .ref a ∧ SqL K H a (s.ns.map V.int)
  mono {K H H' v s} i h := by
    obtain ⟨a, e, h⟩ := h
    refine ⟨a, e, ?_⟩
    rcases h with (h | ⟨o, h⟩) | h
    · exact .inl (.inl (i _ _ h))
    · exact .inl (.inr ⟨o, i _ _ h⟩)
    · exact .inr h
theorem scr_of {K : PySem.W.Frag} {F H : Hp} {v : V} {s : Scr} (sb : Sub F H) (r : Rp.rep K F v s) : ∃ a, v = .ref a ∧ SqL K H a (s.ns.map V.int) := by
  obtain ⟨a, e, h⟩ := r
  refine ⟨a, e, ?_⟩
  rcases h with (h | ⟨o, h⟩) | h
  · exact .inl (.inl ((sb a _ h).nd fun z => z))
  · rcases sb a _ h with h | ⟨z, _⟩ | ⟨vs, e3, h⟩
    · exact .inl (.inr ⟨o, h⟩)
    · exact z.elim
    · injection e3 with _ e3
      injection e3 with e3
      exact .inl (.inl (by rw [e3]; exact h))
  · exact .inr h
section
variable {X : Cx} {es es1 es2 : List En} {a b c e elt tg iter : Expr} {ifs : List Expr} {args : List Expr} {pos : Pos} {α β γ : Type} {i : Nat} {st : Stmt}
theorem atI_map {f : α → β} {xs : List α} {i : Int} {x : α} (h : atI xs i = some x) : atI (xs.map f) i = some (f x) := by
  unfold atI at h ⊢
  rw [List.length_map]
  cases q : ixN xs.length i with
  | none => rw [q] at h; cases h
  | some j =>
    rw [q] at h
    show (xs.map f)[j]? = some (f x)
    rw [List.getElem?_map, show xs[j]? = some x from h]; rfl
theorem r_ixScr {s : Scr} {i : Int} (ho : okI s.ns i) (ha : RJ X es a s) (hb : RJ X es b i) (hs : PlainIx b := by exact fun _ _ => rfl) : RJ X es (.Subscript a b pos) (getI s.ns i) := .mk fun f σ F H S Q q =>
  peR (pe_ix ix_list peW peW hs) (ha f σ F H S _ fun v F1 H1 t1 r1 => hb f σ F1 H1 (S.step t1) _ fun w F2 H2 t2 r2 => by
    obtain ⟨p, e, hp⟩ := scr_of (ovl_sub t2.e) (Rp.mono (ovl_step t2) r1)
    exact ⟨p, _, i, _, e, r2.1, hp, atI_map (getI_ok ho), q _ F2 H2 (t1.trans t2) ⟨rfl, True.intro⟩⟩)
theorem r_lenScr {s : Scr} (hg : Gl X "len") (hm : X.mg "len" = none) (ha : RJ X es a s) (s1 : starEach [a] X.env = (false, eval a X.env) :: starEach [] X.env := by rfl) {p : Pos} : RJ X es (.Call (.Name "len" p) [a] [] pos) (s.ns.length : Int) :=
  r_call1 (α := Scr) (β := Int) call_len_seq hg hm (by decide +kernel) (by
    intro F H v Q sb r q
    obtain ⟨p, e, hp⟩ := scr_of (ovl_sub sb) r
    subst e
    refine ⟨p, _, rfl, .inl hp, ?_⟩
    rw [List.length_map]
    exact q _ F H (St0.refl sb) ⟨rfl, True.intro⟩) ha (by decide) (by decide) s1
theorem r_pu0 {p : Pu} {j} {p2 : Pos} (ha : RJ X es a p) : RJ X es (.Subscript a (.Constant (.int 0) j p2) pos) p.a := .mk fun f σ F H S Q q =>
  peR (pe_ix ix_list peW pe_int (fun _ _ => rfl)) (ha f σ F H S _ fun v F1 H1 t1 r1 => by
    obtain ⟨l, o, e, h1, h2⟩ := r1
    have h2' : o = puO p := h2
    subst h2'
    exact ⟨l, _, 0, .int p.a, e, rfl, .inl (.inl ((ovl_sub t1.e _ _ h1).nd fun z => z)), rfl, q _ F1 H1 t1 ⟨rfl, True.intro⟩⟩)
theorem r_pu1 {p : Pu} {j} {p2 : Pos} (ha : RJ X es a p) : RJ X es (.Subscript a (.Constant (.int 1) j p2) pos) p.b := .mk fun f σ F H S Q q =>
  peR (pe_ix ix_list peW pe_int (fun _ _ => rfl)) (ha f σ F H S _ fun v F1 H1 t1 r1 => by
    obtain ⟨l, o, e, h1, h2⟩ := r1
    have h2' : o = puO p := h2
    subst h2'
    exact ⟨l, _, 1, .int p.b, e, rfl, .inl (.inl ((ovl_sub t1.e _ _ h1).nd fun z => z)), rfl, q _ F1 H1 t1 ⟨rfl, True.intro⟩⟩)
theorem n_pu {x y : Int} (ha : RJ X es a x) (hb : RJ X es b y) (s1 : starEach [a, b] X.env = (false, eval a X.env) :: starEach [b] X.env := by rfl) (s2 : starEach [b] X.env = (false, eval b X.env) :: starEach [] X.env := by rfl) : NJ X es (.List [a, b] pos) (Pu.mk x y) := .mk fun f σ F H S Q q =>
  peR (pe_lst (pa_cons peW (pa_cons peW pa_nil s2) s1)) (ha f σ F H S _ fun v F1 H1 t1 r1 => hb f σ F1 H1 (S.step t1) _ fun w F2 H2 t2 r2 => ⟨show 2 ≤ sizeLine by decide, fun p hp =>
    q _ F2 _ [p] ((t1.trans t2).trans (St0.new t2.e hp)) ⟨p, _, rfl, rfl, upd_same, sub_none t2.e hp, by rw [r1.1, r2.1]; rfl⟩ (by simp) fun z hz => by
      have e : z = p := by simpa using hz
      rw [e]; exact (t1.trans t2).back hp⟩)
/-! one object changed -/
theorem Sw.cell {K : PySem.W.Frag} {f : Fr} {es : List En} {σ : L2.St} {F H : Hp} {i : Nat} {e1 e2 : En} [r : Cl α] [Clm α] {x y : α} (s : Sw K f es σ F H) (hi : es[i]? = some e1) (hl : Lent owCl x y e1 e2) (ha : alFree i es = true) :
    ∃ l o, sl σ i = some (.ref l) ∧ H l = some o ∧ F l = none ∧ Cl.cell K F o x ∧ ∀ o', Cl.cell K F o' y → Sw K f (es.set i e2) σ F (upd H l o') := by
  obtain ⟨Ps, q⟩ := s.env
  have ok := q.ok i e1 hi
  have own1 : ∃ v, sl σ i = some v ∧ Ow.own K F H v x (Ps i) := by
    cases hl with
    | ow => exact ok
    | «at» c => exact ⟨_, ok.1, ok.2⟩
    | ad c =>
      obtain ⟨v, ev, e3, o⟩ := ok
      subst e3
      exact ⟨_, ev, o⟩
  obtain ⟨v, ev, l, o, el, eP, h1, h2, c⟩ := own1
  subst el
  refine ⟨l, o, ev, h1, h2, c, fun o' c' => ?_⟩
  refine Sw.mutE s.st q hi eP (fun p hp => ?_) (fun p hp _ => ?_) (e' := e2) (P' := [l]) ?_ (by simp) (fun p hp => .inl (by rw [← eP]; rw [eP]; exact hp)) (noAl_of ha) ?_ ?_
  · by_cases z : p = l
    · subst z; exact nn upd_same
    · rw [upd_ne z]; exact hp
  · exact upd_ne fun z => hp (by rw [z]; simp)
  · cases hl with
    | ow => exact ⟨_, ev, l, o', rfl, rfl, upd_same, h2, c'⟩
    | «at» c =>
      have ec := ok.1
      rw [ev] at ec
      cases ec
      exact ⟨ev, l, o', rfl, rfl, upd_same, h2, c'⟩
    | ad c =>
      obtain ⟨v, ev2, e3, o⟩ := ok
      subst e3
      rw [ev] at ev2
      cases ev2
      exact ⟨_, ev, rfl, _, o', rfl, rfl, upd_same, h2, c'⟩
  · intro α' r' x' ee
    cases hl with
    | ow => exact ⟨_, _, _, rfl⟩
    | «at» c => cases ee
    | ad c => exact ⟨_, _, _, rfl⟩
  · intro j α' r' x' ee
    cases hl <;> cases ee
theorem s_setPu0 {e1 e2 : En} {p : Pu} {x : Int} (hst : PS X st (tAsg (wpE X e) (gSub (tVar i) (tC (.int 0)) rSetL))) (h : XJ X es e x es1) (hi : es1[i]? = some e1) (hl : Lent owCl p (Pu.mk x p.b) e1 e2) (hes : es1.set i e2 = es2 := by rfl) (ha : alFree i es1 = true := by rfl) : E1 X es st es2 := .mk fun f σ F H D S q =>
  psR hst (h f σ F H S _ fun v F1 H1 S1 i1 r1 => by
    obtain ⟨l, o, ev, h1, h2, c, go⟩ := S1.cell hi hl ha
    have c' : o = puO p := c
    subst c' hes
    exact ⟨.ref l, sl_of ev, l, _, 0, 0, rfl, rfl, h1, rfl, q _ F1 _ (go _ (by rw [r1.1]; rfl))⟩)
theorem s_setPu1 {e1 e2 : En} {p : Pu} {x : Int} (hst : PS X st (tAsg (wpE X e) (gSub (tVar i) (tC (.int 1)) rSetL))) (h : XJ X es e x es1) (hi : es1[i]? = some e1) (hl : Lent owCl p (Pu.mk p.a x) e1 e2) (hes : es1.set i e2 = es2 := by rfl) (ha : alFree i es1 = true := by rfl) : E1 X es st es2 := .mk fun f σ F H D S q =>
  psR hst (h f σ F H S _ fun v F1 H1 S1 i1 r1 => by
    obtain ⟨l, o, ev, h1, h2, c, go⟩ := S1.cell hi hl ha
    have c' : o = puO p := c
    subst c' hes
    exact ⟨.ref l, sl_of ev, l, _, 1, 1, rfl, rfl, h1, rfl, q _ F1 _ (go _ (by rw [r1.1]; rfl))⟩)
/-- the slot i holds some list of its own -/
def OwL (α : Type) [Rp α] (es : List En) (i : Nat) : Prop := ∃ (xs : List α) (e : En), es[i]? = some e ∧ Lent owCl xs xs e e
theorem OwL.is [Rp α] {K : PySem.W.Frag} {f : Fr} {es : List En} {σ : L2.St} {F H : Hp} (h : OwL α es i) (s : Sw K f es σ F H) : ∃ l vs, sl σ i = some (.ref l) ∧ H l = some (.lst vs) := by
  obtain ⟨xs, e, hi, hl⟩ := h
  obtain ⟨Ps, q⟩ := s.env
  have ok := q.ok i e hi
  have own1 : ∃ v, sl σ i = some v ∧ Ow.own K F H v xs (Ps i) := by
    cases hl with
    | ow => exact ok
    | «at» c => exact ⟨_, ok.1, ok.2⟩
    | ad c =>
      obtain ⟨v, ev, e3, o⟩ := ok
      subst e3
      exact ⟨_, ev, o⟩
  obtain ⟨v, ev, o⟩ := own1
  obtain ⟨p, vs, e2, h1, _⟩ := lst_of o
  exact ⟨p, vs, by rw [ev, e2], h1⟩
/-- xs.append(e) -/
theorem s_app [Rp α] {e1 e2 : En} {xs : List α} {x : α} (hst : PS X st (tDrop (tBM X.K "list" rAppend (tVar i) (tCons (wpE X e) tNil)))) (h : XJ X es e x es1) (h0 : OwL α es i) (hi : es1[i]? = some e1) (hl : Lent owCl xs (xs ++ [x]) e1 e2) (hz : xs.length < big) (hes : es1.set i e2 = es2 := by rfl) (ha : alFree i es1 = true := by rfl) : E1 X es st es2 := .mk fun f σ F H D S q =>
  psR hst (by
    obtain ⟨l0, vs0, ev0, hl0⟩ := h0.is S
    refine ⟨.ref l0, sl_of ev0, .inl ⟨rfl, vs0, .inl (.inl hl0)⟩, h f σ F H S _ fun v F1 H1 S1 i1 r1 => ?_⟩
    obtain ⟨l, o, ev, h1, h2, ⟨hz2, vs, eo, rr⟩, go⟩ := S1.cell hi hl ha
    subst eo hes
    rw [ev0] at ev
    cases ev
    exact ⟨l0, vs, v, rfl, rfl, h1, by rw [pairedLen rr]; exact big_lt (Nat.le_of_lt hz), q _ F1 _ (go _ ⟨by rw [List.length_append]; exact hz, _, rfl, pairedApp rr (.cons r1 .nil)⟩)⟩)
/-- xs.extend(ys) -/
theorem s_ext [Rp α] {e1 e2 : En} {xs ys : List α} (hst : PS X st (tDrop (tBM X.K "list" rExtend (tVar i) (tCons (wpE X e) tNil)))) (h : LR X es e ys) (h0 : OwL α es i) (hi : es[i]? = some e1) (hl : Lent owCl xs (xs ++ ys) e1 e2) (hz : (xs ++ ys).length ≤ big) (hes : es.set i e2 = es2 := by rfl) (ha : alFree i es = true := by rfl) : E1 X es st es2 := .mk fun f σ F H D S q =>
  psR hst (by
    obtain ⟨l0, vs0, ev0, hl0⟩ := h0.is S
    refine ⟨.ref l0, sl_of ev0, .inl ⟨rfl, vs0, .inl (.inl hl0)⟩, h f σ F H S _ fun p ws F1 H1 t1 hp rp hzp => ?_⟩
    obtain ⟨l, o, ev, h1, h2, ⟨hz2, vs, eo, rr⟩, go⟩ := (S.step t1).cell hi hl ha
    subst eo hes
    rw [ev0] at ev
    cases ev
    exact ⟨l0, p, vs, ws, rfl, rfl, h1, hp, by rw [pairedLen rr, pairedLen rp, ← List.length_append]; exact big_line hz, q _ F1 _ (go _ ⟨hz, _, rfl, pairedApp rr rp⟩)⟩)
/-- xs.insert(k, e) -/
def rInsert : V → List V → Hp → VK → Prop := fun x vs H Q => ∃ (l : Addr) (xs : List V) (i : Int) (y : V), x = .ref l ∧ vs = [.int i, y] ∧ H l = some (.lst xs) ∧ xs.length < sizeLine ∧ 0 ≤ i ∧ i < 2 ^ 63 ∧ Q .non (upd H l (.lst (xs.take i.toNat ++ [y] ++ xs.drop i.toNat)))
def insI (xs : List α) (k : Int) (x : α) : List α := xs.take k.toNat ++ [x] ++ xs.drop k.toNat
theorem pairedRev {δ : Type} {R : γ → δ → Prop} : ∀ {xs : List γ} {ys : List δ}, Paired R xs ys → Paired R xs.reverse ys.reverse
  | _, _, .nil => .nil
  | _, _, .cons r t => by
    rw [List.reverse_cons, List.reverse_cons]
    exact pairedApp (pairedRev t) (.cons r .nil)
/-! signs of a text, walked -/
theorem h_str {z : Str} (h : RJ X es iter z) : IH X tg es iter (signsOf z) := fun f σ F H S R q =>
  piR (pi_str peW) (h f σ F H S _ fun v F1 H1 t1 r => ⟨z, r.1, q _ F1 H1 t1 ⟨by
    unfold signsOf
    rw [List.length_map]
    exact Nat.le_trans r.2.1 (by decide), fun i F2 H2 i2 _ s2 => by
    have hsz : z.cps.size = z.cps.toList.length := by simp
    refine ⟨fun ei => ?_, fun x hx => ?_⟩
    · unfold signsOf at ei
      rw [List.length_map] at ei
      show z.cps.size ≤ i
      omega
    · obtain ⟨c, hc, ex⟩ := signs_at hx
      have hl := get_lt hc
      refine ⟨show i < z.cps.size by omega, fun v H' y => ?_⟩
      obtain ⟨eH, d, hd, ev⟩ := y
      subst eH
      have hd' : z.cps.toList[i]? = some d := by rw [Array.getElem?_toList]; exact hd
      rw [hc] at hd'
      cases hd'
      refine ⟨F2, St0.refl s2, ?_⟩
      rw [ev, ex]
      exact ⟨rfl, sOk_sgn r.2 (List.mem_of_getElem? hc)⟩⟩⟩)
end
end Ly
namespace Ly
open PySem PySem.Spec PyProof.Rows L2 TL
/-- a value, named -/
def pipe {α β : Sort _} (x : α) (f : α → β) : β := f x
theorem es_gen {X : Cx} {rest : List Stmt} {α γ : Type} {x : α} {m : α → γ} {k : γ → Out} (esf : α → List En) (h : ∀ y, y = x → ES X (esf y) rest (k (m y))) : ES X (esf x) rest (k (pipe x m)) := h x rfl
theorem ok_gen {α : Type} {x y : α} {o : α → Prop} (h : pipe x o) (e : y = x) : o y := by subst e; exact h
/-- a test's two sides -/
def okIf (b : Bool) (p q : Prop) : Prop := (b = true → p) ∧ (b = false → q)
/-- a def that may be called by its name -/
structure Df (P : Program) (w : World) (K : PySem.W.Frag) (mg : Str → Option Value) (base : Heap) (k : Nat) (n : Str) (ps : List Str) (sp : Sp) where
  f : Addr
  fd : FuncData
  ok : FnOk P w K mg base CX0 k f fd ps sp
  mg : mg n = some (.ref f)
  kp : PySem.W.keepIn K (.ref f) = true
  bd : Binds K fd ps []
theorem Df.mk' {P : Program} {w : World} {K : PySem.W.Frag} {mg : Str → Option Value} {base : Heap} {k : Nat} {n : Str} {ps : List Str} {sp : Sp} {x qual : Str} {params : Arguments} {body : List Stmt} {scope : Scope} {f : Addr} {fd : FuncData}
    (F : FunD K x qual params body scope [] [] f fd) (ok : FnOk P w K mg base CX0 k f fd ps sp) (hm : mg n = some (.ref f))
    (h : ∀ (dV kV doc pm : Value) (an : Option Addr) (cdv ct : Value) (us : List Value), dV = .none → us.length = ps.length → bindArgs (PySem.W.fnOf x qual params body scope dV kV doc pm an cdv ct) ⟨us, []⟩ = pure (ps.zip us)) : Nonempty (Df P w K mg base k n ps sp) := by
  obtain ⟨oc, od, dV, kV, doc, pm, an, cdv, ct, osl, rfl, lk, hcd, hd, _⟩ := F.ex
  have ed : dV = .none := by
    rcases hd with ⟨_, e⟩ | ⟨e, _⟩
    · exact e
    · exact absurd rfl e
  exact ⟨⟨f, _, ok, hm, F.kp, .all (h dV kV doc pm an cdv ct · ed)⟩⟩
section
variable {X : Cx} {es es1 es2 as : List En} {a e : Expr} {args : List Expr} {pos : Pos} {α : Type}
variable {j k : Nat} {ps : List Str} {n : Str} {p : Pos} {G : List En → En → Prop}
theorem fD (D : Df X.prog X.w X.K X.mg X.base j n ps (spP X.K G)) (hr : Room j X.A) [Rp α] {x : α} (ha : AJ X es (a :: args) as) (hG : G as (.fz x)) (hg : Gl X n := by rfl) (hdb : (n == ("__debug__" : Str)) = false := by decide) (he : starEach (a :: args) X.env = (false, eval a X.env) :: starEach args X.env := by rfl) (hpl : (backTo pos (starEach args X.env)).any (·.1) = false := by rfl) :
    FJ X es (.Call (.Name n p) (a :: args) [] pos) x := f_call D.ok hr D.mg D.kp D.bd pass0 hg ha hG hdb he hpl
theorem nD (D : Df X.prog X.w X.K X.mg X.base j n ps (spP X.K G)) (hr : Room j X.A) [Ow α] {x : α} (ha : AJ X es (a :: args) as) (hG : G as (.ow x)) (hg : Gl X n := by rfl) (hdb : (n == ("__debug__" : Str)) = false := by decide) (he : starEach (a :: args) X.env = (false, eval a X.env) :: starEach args X.env := by rfl) (hpl : (backTo pos (starEach args X.env)).any (·.1) = false := by rfl) :
    NJ X es (.Call (.Name n p) (a :: args) [] pos) x := n_call D.ok hr D.mg D.kp D.bd pass0 hg ha hG hdb he hpl
theorem rD (D : Df X.prog X.w X.K X.mg X.base j n ps (spP X.K G)) (hr : Room j X.A) [Sc α] {x : α} (ha : BJ X es (a :: args) as) (hG : G as (.fz x)) (hg : Gl X n := by rfl) (hdb : (n == ("__debug__" : Str)) = false := by decide) (he : starEach (a :: args) X.env = (false, eval a X.env) :: starEach args X.env := by rfl) (hpl : (backTo pos (starEach args X.env)).any (·.1) = false := by rfl) :
    RJ X es (.Call (.Name n p) (a :: args) [] pos) x := r_call D.ok hr D.mg D.kp D.bd pass0 hg ha hG hdb he hpl
theorem lentRef {π : Type} [r : Ow π] [OwR π] {p q : π} {e1 e2 : En} {es : List En} {i : Nat} (hl : Lent r p q e1 e2) (h : es[i]? = some e1) : ∃ e0, es[i]? = some e0 ∧ ∀ (K : PySem.W.Frag) (F H : Hp) s P, EnOk K F H s P e0 → ∃ a, s = some (.ref a) := by
  refine ⟨e1, h, fun K F H s P ok => ?_⟩
  cases hl with
  | ow =>
    obtain ⟨v, ev, o⟩ := ok
    obtain ⟨a, ea⟩ := OwR.ref o
    exact ⟨a, by rw [ev, ea]⟩
  | «at» c => exact ⟨c, ok.1⟩
  | ad c =>
    obtain ⟨v, ev, e3, o⟩ := ok
    exact ⟨c, by rw [ev, e3]⟩
variable {π : Type} [r : Ow π] [OwR π] {p0 p1 p2 : π} {GU : π → List En → π → En → Prop} {i : Nat} {e0 e1 e2 e3 : En}
/-- a call that is lent the slot i: p0 there ahead of the arguments, p1 behind them, p2 behind the call -/
theorem xU (D : Df X.prog X.w X.K X.mg X.base j n ps (spU X.K GU)) (hr : Room j X.A) [Rp α] {x : α} (hv : PE X a (tVar i)) (ha : XA X es args as es1) (l0 : Lent r p0 p0 e0 e0) (h0 : es[i]? = some e0) (hl : Lent r p1 p2 e1 e2) (hi : es1[i]? = some e1) (hG : GU p1 as p2 (.fz x)) (hes : es1.set i e2 = es2 := by rfl) (hal : alFree i es1 = true := by rfl)
    (hg : Gl X n := by rfl) (hdb : (n == ("__debug__" : Str)) = false := by decide) (he : starEach (a :: args) X.env = (false, eval a X.env) :: starEach args X.env := by rfl) (hpl : (backTo pos (starEach args X.env)).any (·.1) = false := by rfl) :
    XJ X es (.Call (.Name n p) (a :: args) [] pos) x es2 := x_callU D.ok hr D.mg D.kp D.bd pass0 hg hv ha hi hl hG hes hal (lentRef l0 h0) hdb he hpl
theorem yU (D : Df X.prog X.w X.K X.mg X.base j n ps (spU X.K GU)) (hr : Room j X.A) [Ow α] {x : α} (hv : PE X a (tVar i)) (ha : XA X es args as es1) (l0 : Lent r p0 p0 e0 e0) (h0 : es[i]? = some e0) (hl : Lent r p1 p2 e1 e2) (hi : es1[i]? = some e1) (hG : GU p1 as p2 (.ow x)) (hes : es1.set i e2 = es2 := by rfl) (hal : alFree i es1 = true := by rfl)
    (hg : Gl X n := by rfl) (hdb : (n == ("__debug__" : Str)) = false := by decide) (he : starEach (a :: args) X.env = (false, eval a X.env) :: starEach args X.env := by rfl) (hpl : (backTo pos (starEach args X.env)).any (·.1) = false := by rfl) :
    YJ X es (.Call (.Name n p) (a :: args) [] pos) x es2 := y_callU D.ok hr D.mg D.kp D.bd pass0 hg hv ha hi hl hG hes hal (lentRef l0 h0) hdb he hpl
/-- a module's int, text -/
theorem r_gint {z : Int} (h : ∃ t, X.mg n = some (.int z t)) (hg : Gl X n := by rfl) (hd : (n == ("__debug__" : Str)) = false := by decide) : RJ X es (.Name n p) z := by
  obtain ⟨t, e⟩ := h
  exact r_con (pe_glob hg e ⟨t, rfl⟩ hd) True.intro
theorem r_gstr {z : Str} (h : ∃ t, X.mg n = some (.str z t)) (hz : sOk z := by decide) (hg : Gl X n := by rfl) (hd : (n == ("__debug__" : Str)) = false := by decide) : RJ X es (.Name n p) z := by
  obtain ⟨t, e⟩ := h
  exact r_con (pe_glob hg e ⟨t, rfl⟩ hd) hz

/-- z * n for n 0 or 1 -/
def srep (z : Str) (n : Int) : Str := if n < 1 then Str.empty else z
/-! isinstance of a thing whose kind is known -/
theorem r_isiStr {z : Str} {p2 : Pos} (hg : Gl X "isinstance") (hm : X.mg "isinstance" = none) (hg2 : Gl X "str") (hm2 : X.mg "str" = none) (h : RJ X es a z)
    (s1 : starEach [a, .Name "str" p2] X.env = (false, eval a X.env) :: starEach [.Name "str" p2] X.env := by rfl) (s3 : (backTo pos (starEach [.Name "str" p2] X.env)).any (·.1) = false := by rfl) : RJ X es (.Call (.Name "isinstance" p) [a, .Name "str" p2] [] pos) true := .mk fun f σ F H S Q q =>
  peR (pe_callB call_isi hg hm (by decide +kernel) (pa_cons peW (pa_cons (pe_bltn (v := .ty "str") hg2 hm2 (by decide +kernel) rfl) pa_nil) s1) (by decide) (by decide) s1 s3) (h f σ F H S _ fun v F1 H1 t1 r1 =>
    ⟨v, .ty "str", .type "str", .type "str", true, rfl, .ty _, .base (by rw [show v = V.str z from r1.1]; exact .str z), kit_ty (by decide +kernel), q _ F1 H1 t1 ⟨rfl, True.intro⟩⟩)
theorem r_isiInt {z : Int} {p2 : Pos} (hg : Gl X "isinstance") (hm : X.mg "isinstance" = none) (hg2 : Gl X "int") (hm2 : X.mg "int" = none) (h : RJ X es a z)
    (s1 : starEach [a, .Name "int" p2] X.env = (false, eval a X.env) :: starEach [.Name "int" p2] X.env := by rfl) (s3 : (backTo pos (starEach [.Name "int" p2] X.env)).any (·.1) = false := by rfl) : RJ X es (.Call (.Name "isinstance" p) [a, .Name "int" p2] [] pos) true := .mk fun f σ F H S Q q =>
  peR (pe_callB call_isi hg hm (by decide +kernel) (pa_cons peW (pa_cons (pe_bltn (v := .ty "int") hg2 hm2 (by decide +kernel) rfl) pa_nil) s1) (by decide) (by decide) s1 s3) (h f σ F H S _ fun v F1 H1 t1 r1 =>
    ⟨v, .ty "int", .type "int", .type "int", true, rfl, .ty _, .base (by rw [show v = V.int z from r1.1]; exact .int z), kit_ty (by decide +kernel), q _ F1 H1 t1 ⟨rfl, True.intro⟩⟩)
theorem r_isiBoolI {z : Int} {p2 : Pos} (hg : Gl X "isinstance") (hm : X.mg "isinstance" = none) (hg2 : Gl X "bool") (hm2 : X.mg "bool" = none) (h : RJ X es a z)
    (s1 : starEach [a, .Name "bool" p2] X.env = (false, eval a X.env) :: starEach [.Name "bool" p2] X.env := by rfl) (s3 : (backTo pos (starEach [.Name "bool" p2] X.env)).any (·.1) = false := by rfl) : RJ X es (.Call (.Name "isinstance" p) [a, .Name "bool" p2] [] pos) false := .mk fun f σ F H S Q q =>
  peR (pe_callB call_isi hg hm (by decide +kernel) (pa_cons peW (pa_cons (pe_bltn (v := .ty "bool") hg2 hm2 (by decide +kernel) rfl) pa_nil) s1) (by decide) (by decide) s1 s3) (h f σ F H S _ fun v F1 H1 t1 r1 =>
    ⟨v, .ty "bool", .type "int", .type "bool", false, rfl, .ty _, .base (by rw [show v = V.int z from r1.1]; exact .int z), kit_ty (by decide +kernel), q _ F1 H1 t1 ⟨rfl, True.intro⟩⟩)
theorem r_isiList {β : Type} [Rp β] {xs : List β} {p2 : Pos} (hg : Gl X "isinstance") (hm : X.mg "isinstance" = none) (hg2 : Gl X "list") (hm2 : X.mg "list" = none) (h : RJ X es a xs)
    (s1 : starEach [a, .Name "list" p2] X.env = (false, eval a X.env) :: starEach [.Name "list" p2] X.env := by rfl) (s3 : (backTo pos (starEach [.Name "list" p2] X.env)).any (·.1) = false := by rfl) : RJ X es (.Call (.Name "isinstance" p) [a, .Name "list" p2] [] pos) true := .mk fun f σ F H S Q q =>
  peR (pe_callB call_isi hg hm (by decide +kernel) (pa_cons peW (pa_cons (pe_bltn (v := .ty "list") hg2 hm2 (by decide +kernel) rfl) pa_nil) s1) (by decide) (by decide) s1 s3) (h f σ F H S _ fun v F1 H1 t1 r1 => by
    obtain ⟨l, vs, e, h1, _⟩ := repL (ovl_sub t1.e) r1
    subst e
    exact ⟨_, .ty "list", .type "list", .type "list", true, rfl, .ty _, .base (.lst h1), kit_ty (by decide +kernel), q _ F1 H1 t1 ⟨rfl, True.intro⟩⟩)
/-- x op= e of an int -/
theorem s_aug {i : Nat} {st : Stmt} {g : Int → Int → Int} {x y : Int} (hst : PS X st (tAug i (wpE X e) (ipI g))) (h : XJ X es e y es1) (hx : es[i]? = some (.fz x)) (hx1 : es1[i]? = some (.fz x)) (he : es1.set i (.fz (g x y)) = es2 := by rfl) (ha : alFree i es1 = true := by rfl) : E1 X es st es2 := .mk fun f σ F H D S q =>
  psR hst (by
    obtain ⟨v, ev, r⟩ := S.fz hx
    refine ⟨v, ev, h f σ F H S _ fun w F1 H1 S1 i1 r1 => ⟨x, y, r.1, r1.1, ?_⟩⟩
    subst he
    exact q _ F1 H1 (S1.setF (get_lt hx1) ⟨rfl, True.intro⟩ (noAl_of ha)))
end
end Ly
namespace Ly
open PySem PySem.Spec PyProof.Rows L2 TL
section
variable {X : Cx} {es es1 es2 as : List En} {a e : Expr} {args : List Expr} {pos : Pos} {α : Type}
variable {j k : Nat} {ps : List Str} {n : Str} {p : Pos}
variable {π : Type} [r : Ow π] [OwR π] {p0 p1 p2 : π} {GU : π → List En → π → En → Prop} {i : Nat}
/-- a thing made for the call alone is lent -/
theorem fUt (D : Df X.prog X.w X.K X.mg X.base j n ps (spU X.K GU)) (hr : Room j X.A) [Rp α] {x : α} (h0 : NJ X es a p0) (ha : AJ X es args as) (hG : GU p0 as p1 (.fz x)) (hg : Gl X n := by rfl) (hdb : (n == ("__debug__" : Str)) = false := by decide) (he : starEach (a :: args) X.env = (false, eval a X.env) :: starEach args X.env := by rfl) (hpl : (backTo pos (starEach args X.env)).any (·.1) = false := by rfl) :
    FJ X es (.Call (.Name n p) (a :: args) [] pos) x := .mk fun f σ F H S Q q =>
  peR (pe_call D.ok hr hg D.mg D.kp D.bd .nil pass0 (pa_cons peW paW he) hdb he hpl) (h0 f σ F H S _ fun v F1 H1 P t1 o1 hn hp => ha f σ F1 H1 (S.step t1) _ fun vs F2 H2 t2 r2 => by
    show spU X.K GU (v :: vs ++ []) H2 Q _
    rw [List.append_nil]
    obtain ⟨b, rfl⟩ := OwR.ref o1
    refine ⟨b, vs, p0, as, p1, _, F2, P, rfl, hG, t2.e, ownStep o1 t2, hn, r2, fun w F3 H3 P' t3 o3 hn' hf r3 => ?_⟩
    exact q w F3 H3 (Stp.trans (St0.trans t1 t2) t3 fun y hy => .inl (hp y hy)) r3)
theorem nUt (D : Df X.prog X.w X.K X.mg X.base j n ps (spU X.K GU)) (hr : Room j X.A) [Ow α] {x : α} (h0 : NJ X es a p0) (ha : AJ X es args as) (hG : GU p0 as p1 (.ow x)) (hg : Gl X n := by rfl) (hdb : (n == ("__debug__" : Str)) = false := by decide) (he : starEach (a :: args) X.env = (false, eval a X.env) :: starEach args X.env := by rfl) (hpl : (backTo pos (starEach args X.env)).any (·.1) = false := by rfl) :
    NJ X es (.Call (.Name n p) (a :: args) [] pos) x := .mk fun f σ F H S Q q =>
  peR (pe_call D.ok hr hg D.mg D.kp D.bd .nil pass0 (pa_cons peW paW he) hdb he hpl) (h0 f σ F H S _ fun v F1 H1 P t1 o1 hn hp => ha f σ F1 H1 (S.step t1) _ fun vs F2 H2 t2 r2 => by
    show spU X.K GU (v :: vs ++ []) H2 Q _
    rw [List.append_nil]
    obtain ⟨b, rfl⟩ := OwR.ref o1
    refine ⟨b, vs, p0, as, p1, _, F2, P, rfl, hG, t2.e, ownStep o1 t2, hn, r2, fun w F3 H3 P' PR t3 o3 hn' hf oR hnR hfR hdR => ?_⟩
    exact q w F3 H3 PR (Stp.trans (St0.trans t1 t2) t3 fun y hy => .inl (hp y hy)) oR hnR fun z hz => t1.back (t2.back (hfR z hz)))
/-! a sign of a text -/
def sgnOf (z : Str) : Nat := z.cps[0]?.getD 0
theorem sgnOf_sgn (c : Nat) : sgnOf (sgn c) = c := rfl
theorem isSgn {z : Str} {c : Nat} (h : z = sgn c) (hr : RJ X es e z) : RJ X es e (sgn c) := h ▸ hr

/-! comparisons as tests -/
theorem t_cmpG {op : CmpOp} {r : R2} {β : Type} [Sc α] [Sc β] {x : α} {y : β} {z : Bool} {b : Expr} (ho : OpR X (compareOp op) r) (hr : ∀ (H : Hp) (Q : VK), Q (.bl z) H → r (Sc.toV x) (Sc.toV y) H Q) (ha : RJ X es a x) (hb : RJ X es b y) (hm : behindInMarks op b = false := by first | exact nomark _ | rfl) : TJ X es (.Compare a [op] [b] pos) z := .mk fun f σ F H S Q q =>
  ptR (pt_cmpR ho peW peW hm) (ha f σ F H S _ fun v F1 H1 t1 r1 => hb f σ F1 H1 (S.step t1) _ fun w F2 H2 t2 r2 => by
    have e1 : v = Sc.toV x := r1.1
    have e2 : w = Sc.toV y := r2.1
    subst e1 e2
    exact hr H2 _ ⟨z, rfl, q F2 H2 (t1.trans t2)⟩)
theorem xt_cmpG {op : CmpOp} {r : R2} {β : Type} [Sc α] [Sc β] {x : α} {y : β} {z : Bool} {b : Expr} (ho : OpR X (compareOp op) r) (hr : ∀ (H : Hp) (Q : VK), Q (.bl z) H → r (Sc.toV x) (Sc.toV y) H Q) (ha : XJ X es a x es1) (hb : XJ X es1 b y es2) (hm : behindInMarks op b = false := by first | exact nomark _ | rfl) : XT X es (.Compare a [op] [b] pos) z es2 := .mk fun f σ F H S Q q =>
  ptR (pt_cmpR ho peW peW hm) (ha f σ F H S _ fun v F1 H1 S1 i1 r1 => hb f σ F1 H1 S1 _ fun w F2 H2 S2 i2 r2 => by
    have e1 : v = Sc.toV x := r1.1
    have e2 : w = Sc.toV y := r2.1
    subst e1 e2
    exact hr H2 _ ⟨z, rfl, q F2 H2 S2 (i1.trans i2)⟩)
theorem t_lt {x y : Int} {b : Expr} (ha : RJ X es a x) (hb : RJ X es b y) : TJ X es (.Compare a [.Lt] [b] pos) (decide (x < y)) := t_cmpG op_lt (fun _ _ q => ⟨x, y, rfl, rfl, q⟩) ha hb
theorem t_le {x y : Int} {b : Expr} (ha : RJ X es a x) (hb : RJ X es b y) : TJ X es (.Compare a [.LtE] [b] pos) (decide (x ≤ y)) := t_cmpG op_le (fun _ _ q => ⟨x, y, rfl, rfl, q⟩) ha hb
theorem t_gt {x y : Int} {b : Expr} (ha : RJ X es a x) (hb : RJ X es b y) : TJ X es (.Compare a [.Gt] [b] pos) (decide (x > y)) := t_cmpG op_gt (fun _ _ q => ⟨x, y, rfl, rfl, q⟩) ha hb
theorem t_eq [Sc α] [DecidableEq α] [ScE α] {x y : α} {b : Expr} (ha : RJ X es a x) (hb : RJ X es b y) : TJ X es (.Compare a [.Eq] [b] pos) (decide (x = y)) := t_cmpG op_eq (fun _ Q q => ⟨ScE.sc x y, by rw [ScE.dec]; exact q⟩) ha hb
theorem xt_eq [Sc α] [DecidableEq α] [ScE α] {x y : α} {b : Expr} (ha : XJ X es a x es1) (hb : XJ X es1 b y es2) : XT X es (.Compare a [.Eq] [b] pos) (decide (x = y)) es2 := xt_cmpG op_eq (fun _ Q q => ⟨ScE.sc x y, by rw [ScE.dec]; exact q⟩) ha hb
theorem t_ne [Sc α] [DecidableEq α] [ScE α] {x y : α} {b : Expr} (ha : RJ X es a x) (hb : RJ X es b y) : TJ X es (.Compare a [.NotEq] [b] pos) (!decide (x = y)) := t_cmpG op_ne (fun _ Q q => ⟨ScE.sc x y, by rw [ScE.dec]; exact q⟩) ha hb
theorem t_in [Sc α] [DecidableEq α] [Fl1 α] {x : α} {xs : List α} {b : Expr} (ha : RJ X es a x) (hb : RJ X es b xs) (hm : behindInMarks .In b = false := by rfl) : TJ X es (.Compare a [.In] [b] pos) (decide (x ∈ xs)) := .mk fun f σ F H S Q q =>
  ptR (pt_cmpR op_in_seq peW peW hm) (ha f σ F H S _ fun v F1 H1 t1 r1 => hb f σ F1 H1 (S.step t1) _ fun w F2 H2 t2 r2 => by
    have e1 : v = Sc.toV x := r1.1
    subst e1
    obtain ⟨p, vs, e, h, _, rr⟩ := repL (ovl_sub t2.sub) r2
    rw [scMap rr] at h
    refine ⟨p, _, e, .inl (.inl (.inl h)), Fl1.flat x, by simp [Fl1.flat], (inV (Sc.toV x) (xs.map Sc.toV)), rfl, ?_⟩
    rw [inV_eq]
    exact q F2 H2 (t1.trans t2))
theorem t_nin [Sc α] [DecidableEq α] [Fl1 α] {x : α} {xs : List α} {b : Expr} (ha : RJ X es a x) (hb : RJ X es b xs) (hm : behindInMarks .NotIn b = false := by rfl) : TJ X es (.Compare a [.NotIn] [b] pos) (!decide (x ∈ xs)) := .mk fun f σ F H S Q q =>
  ptR (pt_cmpR op_notIn_seq peW peW hm) (ha f σ F H S _ fun v F1 H1 t1 r1 => hb f σ F1 H1 (S.step t1) _ fun w F2 H2 t2 r2 => by
    have e1 : v = Sc.toV x := r1.1
    subst e1
    obtain ⟨p, vs, e, h, _, rr⟩ := repL (ovl_sub t2.sub) r2
    rw [scMap rr] at h
    refine ⟨p, _, e, .inl (.inl (.inl h)), Fl1.flat x, by simp [Fl1.flat], (!inV (Sc.toV x) (xs.map Sc.toV)), rfl, ?_⟩
    rw [inV_eq]
    exact q F2 H2 (t1.trans t2))
theorem t_eqD [Rp α] [DecidableEq α] {m : Nat} [DatN α m] {x y : α} {b : Expr} (hu : X.A.units + 64 < cLine) (ha : RJ X es a x) (hb : RJ X es b y) (hn : m ≤ 64 := by decide) : TJ X es (.Compare a [.Eq] [b] pos) (decide (x = y)) := .mk fun f σ F H S Q q =>
  ptR (pt_cmpR (op_eqD hu) peW peW (nomark _)) (ha f σ F H S _ fun v F1 H1 t1 r1 => hb f σ F1 H1 (S.step t1) _ fun w F2 H2 t2 r2 =>
    ⟨Dat.d x, Dat.d y, Dat.dp (ovl_sub t2.e) (Rp.mono (ovl_step t2) r1), Dat.dp (ovl_sub t2.e) r2, DatN.sh hn r1, DatN.sh hn r2, _, rfl, by rw [Dat.eq]; exact q F2 H2 (t1.trans t2)⟩)
theorem t_ltle {x y z : Int} {b c : Expr} (ha : RJ X es a x) (hb : RJ X es b y) (hc : RJ X es c z) (hm : lastMarks [CmpOp.LtE, CmpOp.LtE] [b, c] = false := by rfl) : TJ X es (.Compare a [.LtE, .LtE] [b, c] pos) (decide (x ≤ y) && decide (y ≤ z)) := .mk fun f σ F H S Q k =>
  ptR (pt_chain op_le op_le peW peW peW hm) (ha f σ F H S _ fun v1 F1 H1 t1 r1 => hb f σ F1 H1 (S.step t1) _ fun v2 F2 H2 t2 r2 => by
    have e1 : v1 = V.int x := r1.1
    have e2 : v2 = V.int y := r2.1
    subst e1 e2
    refine ⟨x, y, rfl, rfl, decide (x ≤ y), rfl, ?_⟩
    revert k
    cases decide (x ≤ y) with
    | false => exact fun k => ⟨_, rfl, k F2 H2 (t1.trans t2)⟩
    | true =>
      intro k
      refine hc f σ F2 H2 ((S.step t1).step t2) _ fun v3 F3 H3 t3 r3 => ?_
      have e3 : v3 = V.int z := r3.1
      subst e3
      exact ⟨y, z, rfl, rfl, _, rfl, k F3 H3 ((t1.trans t2).trans t3)⟩)
end
end Ly
namespace Ly
open PySem PySem.Spec PyProof.Rows L2 TL
/-! a list whose items are own, each -/
inductive OwnAll {α : Type} [Ow α] (K : PySem.W.Frag) (F H : Hp) : List V → List α → List (List Addr) → Prop where
  | nil : OwnAll K F H [] [] []
  | cons {v : V} {x : α} {P : List Addr} {vs : List V} {xs : List α} {Ps : List (List Addr)} : Ow.own K F H v x P → OwnAll K F H vs xs Ps → OwnAll K F H (v :: vs) (x :: xs) (P :: Ps)
section
variable {α : Type} [Ow α] {K : PySem.W.Frag} {F F' H H' : Hp}
theorem OwnAll.mono (i : Inc F F') : ∀ {vs : List V} {xs : List α} {Ps : List (List Addr)}, (∀ p ∈ Ps.flatten, H' p = H p) → (∀ p ∈ Ps.flatten, F' p = none) → OwnAll K F H vs xs Ps → OwnAll K F' H' vs xs Ps
  | _, _, _, _, _, .nil => .nil
  | _, _, _, h, hf, .cons r t => .cons (Ow.mono i (fun p hp => h p (by simp [hp])) (fun p hp => hf p (by simp [hp])) r) (t.mono i (fun p hp => h p (by rw [List.flatten_cons]; exact List.mem_append_right _ hp)) fun p hp => hf p (by rw [List.flatten_cons]; exact List.mem_append_right _ hp))
theorem OwnAll.out : ∀ {vs : List V} {xs : List α} {Ps : List (List Addr)}, OwnAll K F H vs xs Ps → ∀ p ∈ Ps.flatten, H p ≠ none ∧ F p = none
  | _, _, _, .nil, p, hp => by cases hp
  | _, _, _, .cons r t, p, hp => by
    rw [List.flatten_cons] at hp
    rcases List.mem_append.mp hp with h | h
    · exact Ow.out r p h
    · exact t.out p h
theorem OwnAll.nt : ∀ {vs : List V} {xs : List α} {Ps : List (List Addr)}, OwnAll K F H vs xs Ps → ∀ p ∈ Ps.flatten, ∀ ks, H p ≠ some (sk ks)
  | _, _, _, .nil, p, hp => by cases hp
  | _, _, _, .cons r t, p, hp => by
    rw [List.flatten_cons] at hp
    rcases List.mem_append.mp hp with h | h
    · exact Ow.nt r p h
    · exact t.nt p h
theorem fzP_sub {P Q : List Addr} (h : ∀ p ∈ P, p ∈ Q) (hf : ∀ p ∈ Q, F p = none) : Inc (fzP F H P) (fzP F H Q) := fun a o e => by
  by_cases q : a ∈ P
  · rw [fzP_in q] at e; rw [fzP_in (h a q)]; exact e
  · rw [fzP_out q] at e
    by_cases q2 : a ∈ Q
    · rw [hf a q2] at e; cases e
    · rw [fzP_out q2]; exact e
theorem OwnAll.rep {Q : List Addr} (hf : ∀ p ∈ Q, F p = none) : ∀ {vs : List V} {xs : List α} {Ps : List (List Addr)}, (∀ p ∈ Ps.flatten, p ∈ Q) → OwnAll K F H vs xs Ps → Paired (@Rp.rep α Ow.rp K (fzP F H Q)) vs xs
  | _, _, _, _, .nil => .nil
  | _, _, _, hQ, .cons r t => .cons (@Rp.mono α Ow.rp _ _ _ _ _ (fzP_sub (fun p hp => hQ p (by simp [hp])) hf) (Ow.fzn r)) (t.rep hf fun p hp => hQ p (by rw [List.flatten_cons]; exact List.mem_append_right _ hp))
theorem OwnAll.len : ∀ {vs : List V} {xs : List α} {Ps : List (List Addr)}, OwnAll K F H vs xs Ps → vs.length = xs.length
  | _, _, _, .nil => rfl
  | _, _, _, .cons r t => by simp [t.len]
theorem OwnAll.app : ∀ {vs ws : List V} {xs ys : List α} {Ps Qs : List (List Addr)}, OwnAll K F H vs xs Ps → OwnAll K F H ws ys Qs → OwnAll K F H (vs ++ ws) (xs ++ ys) (Ps ++ Qs)
  | _, _, _, _, _, _, .nil, t => t
  | _, _, _, _, _, _, .cons r t, u => .cons r (t.app u)
theorem OwnAll.cut : ∀ {xs ys : List α} {vs : List V} {Ps : List (List Addr)}, OwnAll K F H vs (xs ++ ys) Ps → ∃ v1 v2 P1 P2, vs = v1 ++ v2 ∧ Ps = P1 ++ P2 ∧ OwnAll K F H v1 xs P1 ∧ OwnAll K F H v2 ys P2
  | [], ys, vs, Ps, h => ⟨[], vs, [], Ps, rfl, rfl, .nil, h⟩
  | x :: xs, ys, _, _, .cons r t => by
    obtain ⟨v1, v2, P1, P2, e1, e2, h1, h2⟩ := t.cut
    exact ⟨_ :: v1, v2, _ :: P1, P2, by rw [e1]; rfl, by rw [e2]; rfl, .cons r h1, h2⟩
end
structure Dl (α : Type) where
  l : List α
instance owDl {α : Type} [r : Ow α] : Ow (Dl α) where
  rp := ⟨fun K H v x => @Rp.rep (List α) (@rpCl _ (@clList α Ow.rp)) K H v x.l, fun i h => @Rp.mono (List α) (@rpCl _ (@clList α Ow.rp)) _ _ _ _ _ i h⟩
  own K F H v x P := ∃ a vs Ps, v = .ref a ∧ P = a :: Ps.flatten ∧ H a = some (.lst vs) ∧ F a = none ∧ x.l.length ≤ big ∧ OwnAll K F H vs x.l Ps
  mono {K F F' H H' v x P} i h hf r := by
    obtain ⟨a, vs, Ps, e, rfl, h1, h2, hz, o⟩ := r
    exact ⟨a, vs, Ps, e, rfl, (h a (by simp)).trans h1, hf a (by simp), hz, o.mono i (fun p hp => h p (List.mem_cons_of_mem _ hp)) fun p hp => hf p (List.mem_cons_of_mem _ hp)⟩
  out {K F H v x P} r p hp := by
    obtain ⟨a, vs, Ps, e, rfl, h1, h2, hz, o⟩ := r
    rcases List.mem_cons.mp hp with h | h
    · rw [h]; exact ⟨nn h1, h2⟩
    · exact o.out p h
  fzn {K F H v x P} r := by
    obtain ⟨a, vs, Ps, e, rfl, h1, h2, hz, o⟩ := r
    have hf : ∀ p ∈ a :: Ps.flatten, F p = none := fun p hp => by
      rcases List.mem_cons.mp hp with h | h
      · rw [h]; exact h2
      · exact (o.out p h).2
    exact ⟨a, _, e, (fzP_in (by simp)).trans h1, hz, vs, rfl, o.rep hf fun p hp => List.mem_cons_of_mem _ hp⟩
  nt {K F H v x P} r p hp ks := by
    obtain ⟨a, vs, Ps, e, rfl, h1, h2, hz, o⟩ := r
    rcases List.mem_cons.mp hp with h | h
    · rw [h, h1]; exact fun z => nskL ks (Option.some.inj z)
    · exact o.nt p h ks
/-- such a list, one of its items (at a) taken out -/
structure Hol (α : Type) where
  pre : List α
  suf : List α
  a : Addr
instance owHol {α : Type} [r : Ow α] : Ow (Hol α) where
  rp := ⟨fun _ _ _ _ => True, fun _ h => h⟩
  own K F H v x P := ∃ q v1 v2 P1 P2, v = .ref q ∧ P = q :: (P1.flatten ++ P2.flatten) ∧ H q = some (.lst (v1 ++ .ref x.a :: v2)) ∧ F q = none ∧ x.pre.length + 1 + x.suf.length ≤ big ∧ OwnAll K F H v1 x.pre P1 ∧ OwnAll K F H v2 x.suf P2
  mono {K F F' H H' v x P} i h hf r := by
    obtain ⟨a, v1, v2, P1, P2, e, rfl, h1, h2, hz, o1, o2⟩ := r
    exact ⟨a, v1, v2, P1, P2, e, rfl, (h a (by simp)).trans h1, hf a (by simp), hz, o1.mono i (fun p hp => h p (List.mem_cons_of_mem _ (List.mem_append_left _ hp))) (fun p hp => hf p (List.mem_cons_of_mem _ (List.mem_append_left _ hp))),
      o2.mono i (fun p hp => h p (List.mem_cons_of_mem _ (List.mem_append_right _ hp))) fun p hp => hf p (List.mem_cons_of_mem _ (List.mem_append_right _ hp))⟩
  out {K F H v x P} r p hp := by
    obtain ⟨a, v1, v2, P1, P2, e, rfl, h1, h2, hz, o1, o2⟩ := r
    rcases List.mem_cons.mp hp with h | h
    · rw [h]; exact ⟨nn h1, h2⟩
    · rcases List.mem_append.mp h with h | h
      · exact o1.out p h
      · exact o2.out p h
  fzn _ := True.intro
  nt {K F H v x P} r p hp ks := by
    obtain ⟨a, v1, v2, P1, P2, e, rfl, h1, h2, hz, o1, o2⟩ := r
    rcases List.mem_cons.mp hp with h | h
    · rw [h, h1]; exact fun z => nskL ks (Option.some.inj z)
    · rcases List.mem_append.mp h with h | h
      · exact o1.nt p h ks
      · exact o2.nt p h ks
section
variable {K : PySem.W.Frag} {f : Fr} {es : List En} {σ : L2.St} {F H : Hp} {Ps : Nat → List Addr} {α : Type} {i j : Nat}
/-- what two slots own is dealt anew -/
theorem EnvP.two {ei ej : En} {Pi Pj : List Addr} {v : Option V} (q : EnvP K f es σ F H Ps) (hij : i ≠ j) (hi : i < es.length) (hj : j < es.length) (oi : EnOk K F H (sl σ i) Pi ei) (oj : EnOk K F H (sl (σ.set j v) j) Pj ej)
    (ni : Pi.Nodup) (nj : Pj.Nodup) (dj : ∀ p ∈ Pi, p ∉ Pj) (hi2 : ∀ p ∈ Pi, p ∈ Ps i ∨ p ∈ Ps j) (hj2 : ∀ p ∈ Pj, p ∈ Ps i ∨ p ∈ Ps j) (nw : ∀ p, p ∈ Pi ∨ p ∈ Pj → f.H p = none) (ai : noAl i es) (aj : noAl j es)
    (zi : ∀ k (α : Type) (r : Ow α) (x : α), ei ≠ .alI k r x) (zj : ∀ k (α : Type) (r : Ow α) (x : α), ej ≠ .alI k r x) : EnvP K f ((es.set i ei).set j ej) (σ.set j v) F H (fun k => if k = j then Pj else if k = i then Pi else Ps k) := by
  have cov : ∀ k p, k < es.length → p ∈ (if k = j then Pj else if k = i then Pi else Ps k) → (k = i ∨ k = j) ∧ (p ∈ Ps i ∨ p ∈ Ps j) ∨ (k ≠ i ∧ k ≠ j ∧ p ∈ Ps k) := fun k p hk hp => by
    by_cases z : k = j
    · rw [if_pos z] at hp; exact .inl ⟨.inr z, hj2 p hp⟩
    · rw [if_neg z] at hp
      by_cases z2 : k = i
      · rw [if_pos z2] at hp; exact .inl ⟨.inl z2, hi2 p hp⟩
      · rw [if_neg z2] at hp; exact .inr ⟨z2, z, hp⟩
  have get : ∀ k e, ((es.set i ei).set j ej)[k]? = some e → (k = j ∧ e = ej) ∨ (k ≠ j ∧ k = i ∧ e = ei) ∨ (k ≠ j ∧ k ≠ i ∧ es[k]? = some e) := fun k e hk => by
    by_cases z : k = j
    · subst z
      rw [List.getElem?_set_self (by simpa using hj)] at hk
      exact .inl ⟨rfl, (Option.some.inj hk).symm⟩
    · rw [List.getElem?_set_ne (Ne.symm z)] at hk
      by_cases z2 : k = i
      · subst z2
        rw [List.getElem?_set_self hi] at hk
        exact .inr (.inl ⟨z, rfl, (Option.some.inj hk).symm⟩)
      · rw [List.getElem?_set_ne (Ne.symm z2)] at hk
        exact .inr (.inr ⟨z, z2, hk⟩)
  refine ⟨by simp [q.len], fun k e hk => ?_, fun k hk => ?_, fun k l p hk hl p1 p2 => ?_, fun k p hk hp => ?_, fun k p β r x hk hp => ?_, fun k l β r x hk => ?_⟩
  · rcases get k e hk with ⟨z, ee⟩ | ⟨z1, z2, ee⟩ | ⟨z1, z2, ee⟩
    · subst z ee; rw [if_pos rfl]; exact oj
    · subst z2 ee; rw [if_neg z1, if_pos rfl, sl_ne (Ne.symm z1)]; exact oi
    · rw [if_neg z1, if_neg z2, sl_ne (Ne.symm z1)]; exact q.ok k e ee
  · by_cases z : k = j
    · rw [if_pos z]; exact nj
    · rw [if_neg z]
      by_cases z2 : k = i
      · rw [if_pos z2]; exact ni
      · rw [if_neg z2]; exact q.nd k (by simpa using hk)
  · have hk' : k < es.length := by simpa using hk
    have hl' : l < es.length := by simpa using hl
    have both : ∀ k l, k < es.length → l < es.length → p ∈ (if k = j then Pj else if k = i then Pi else Ps k) → p ∈ (if l = j then Pj else if l = i then Pi else Ps l) → (k = i ∨ k = j) → ¬ (l = i ∨ l = j) → False := fun k l hk hl p1 p2 c1 c2 => by
      rcases cov k p hk p1 with ⟨_, c⟩ | ⟨y1, y2, _⟩
      · rcases cov l p hl p2 with ⟨y, _⟩ | ⟨y1, y2, y⟩
        · exact c2 y
        · rcases c with c | c
          · exact y1 (q.dj l i p hl hi y c)
          · exact y2 (q.dj l j p hl hj y c)
      · rcases c1 with c1 | c1
        · exact y1 c1
        · exact y2 c1
    by_cases c1 : k = i ∨ k = j
    · by_cases c2 : l = i ∨ l = j
      · by_cases z : k = j
        · by_cases z2 : l = j
          · rw [z, z2]
          · rw [if_pos z] at p1
            rw [if_neg z2, if_pos (c2.resolve_right z2)] at p2
            exact absurd p1 (dj p p2)
        · rw [if_neg z, if_pos (c1.resolve_right z)] at p1
          by_cases z2 : l = j
          · rw [if_pos z2] at p2; exact absurd p2 (dj p p1)
          · rw [c1.resolve_right z, c2.resolve_right z2]
      · exact (both k l hk' hl' p1 p2 c1 c2).elim
    · by_cases c2 : l = i ∨ l = j
      · exact (both l k hl' hk' p2 p1 c2 c1).elim
      · have k1 : k ≠ j := fun z => c1 (.inr z)
        have k2 : k ≠ i := fun z => c1 (.inl z)
        have l1 : l ≠ j := fun z => c2 (.inr z)
        have l2 : l ≠ i := fun z => c2 (.inl z)
        rw [if_neg k1, if_neg k2] at p1
        rw [if_neg l1, if_neg l2] at p2
        exact q.dj k l p hk' hl' p1 p2
  · rcases cov k p (by simpa using hk) hp with ⟨c, c2⟩ | ⟨c1, c2, c3⟩
    · refine .inl (nw p ?_)
      by_cases z : k = j
      · rw [if_pos z] at hp; exact .inr hp
      · rw [if_neg z, if_pos (c.resolve_right z)] at hp; exact .inl hp
    · exact q.fr k p (by simpa using hk) c3
  · by_cases z : k = j
    · rw [if_pos z] at hp; exact nw p (.inr hp)
    · rw [if_neg z] at hp
      by_cases z2 : k = i
      · rw [if_pos z2] at hp; exact nw p (.inl hp)
      · rw [if_neg z2] at hp
        rcases get k _ hk with ⟨y, _⟩ | ⟨_, y, _⟩ | ⟨_, _, y⟩
        · exact absurd y z
        · exact absurd y z2
        · exact q.nw k p β r x y hp
  · rcases get k _ hk with ⟨y, ee⟩ | ⟨_, y, ee⟩ | ⟨z1, z2, y⟩
    · exact absurd ee.symm (zj l β r x)
    · exact absurd ee.symm (zi l β r x)
    · obtain ⟨hl, w, Q, ew, hQ, o⟩ := q.al k l β r x y
      have li : l ≠ i := fun z => ai k β r x (z ▸ y)
      have lj : l ≠ j := fun z => aj k β r x (z ▸ y)
      exact ⟨by simpa using hl, w, Q, by rw [sl_ne (Ne.symm z1)]; exact ew, fun p hp => by rw [if_neg lj, if_neg li]; exact hQ p hp, o⟩

/-- an item is taken out of the list at i, into the slot j -/
theorem Sw.split [r : Ow α] [OwR α] {pre suf : List α} {x : α} (s : Sw K f es σ F H) {qa : Addr} (hi : es[i]? = some (.ow (Adr.mk qa (Dl.mk (pre ++ x :: suf))))) (hij : i ≠ j) (hj : es[j]? = some .un) (ai : noAl i es) (aj : noAl j es) :
    ∃ vs, sl σ i = some (.ref qa) ∧ H qa = some (.lst vs) ∧ vs.length = (pre ++ x :: suf).length ∧ ∀ v, vs[pre.length]? = some v → ∃ a, v = .ref a ∧ Sw K f ((es.set i (.ow (Adr.mk qa (Hol.mk pre suf a)))).set j (.ow (Adr.mk a x))) (σ.set j (some v)) F H := by
  obtain ⟨Ps, q⟩ := s.env
  obtain ⟨v0, ev0, e0, l, vs, Qs, e, eP, h1, h2, hz, o⟩ := q.ok i _ hi
  subst e0
  obtain rfl : qa = l := by injection e
  have hz : (pre ++ x :: suf).length ≤ big := hz
  have o : OwnAll K F H vs (pre ++ x :: suf) Qs := o
  refine ⟨vs, ev0, h1, o.len, fun v hv => ?_⟩
  obtain ⟨v1, v2, P1, P2, e1, e2, o1, o2⟩ := o.cut
  cases o2 with
  | @cons vx _ Px v3 _ P3 ox o3 =>
  have lv := o1.len
  have evx : v = vx := by
    rw [e1, ← lv, List.getElem?_append_right (Nat.le_refl _), Nat.sub_self] at hv
    exact (Option.some.inj hv).symm
  subst evx
  obtain ⟨a, ea⟩ := OwR.ref ox
  subst ea
  have hil := get_lt hi
  have hjl := get_lt hj
  have nd := q.nd i hil
  rw [eP, e2] at nd
  have nd2 : (qa :: (P1.flatten ++ (Px ++ P3.flatten))).Nodup := by simpa using nd
  have nd3 := List.nodup_cons.mp nd2
  have nd4 := List.nodup_append.mp nd3.2
  have nd5 := List.nodup_append.mp nd4.2.1
  have cov : ∀ p, p = qa ∨ p ∈ P1.flatten ∨ p ∈ Px ∨ p ∈ P3.flatten → p ∈ Ps i := fun p hp => by
    rw [eP, e2]
    rcases hp with h | h | h | h <;> simp [h]
  have jl : j < σ.length := by rw [← q.len]; exact hjl
  refine ⟨a, rfl, s.st, _, q.two (Pi := qa :: (P1.flatten ++ P3.flatten)) (Pj := Px) hij hil hjl ⟨_, ev0, rfl, qa, v1, v3, P1, P3, rfl, rfl, by rw [h1, e1], h2, ?_, o1, o3⟩ ⟨_, sl_set jl, rfl, ox⟩ ?_ nd5.1 ?_ ?_ ?_ ?_ ai aj (fun _ _ _ _ z => by cases z) (fun _ _ _ _ z => by cases z)⟩
  · show pre.length + 1 + suf.length ≤ big
    rw [List.length_append, List.length_cons] at hz
    omega
  · refine List.nodup_cons.mpr ⟨fun h => nd3.1 ?_, List.nodup_append.mpr ⟨nd4.1, nd5.2.1, fun p h1 q h2 => nd4.2.2 p h1 q (List.mem_append_right _ h2)⟩⟩
    rcases List.mem_append.mp h with h | h
    · exact List.mem_append_left _ h
    · exact List.mem_append_right _ (List.mem_append_right _ h)
  · intro p hp hx
    rcases List.mem_cons.mp hp with h | h
    · subst h; exact nd3.1 (List.mem_append_right _ (List.mem_append_left _ hx))
    · rcases List.mem_append.mp h with h | h
      · exact nd4.2.2 p h p (List.mem_append_left _ hx) rfl
      · exact nd5.2.2 p hx p h rfl
  · intro p hp
    rcases List.mem_cons.mp hp with h | h
    · exact .inl (cov p (.inl h))
    · rcases List.mem_append.mp h with h | h
      · exact .inl (cov p (.inr (.inl h)))
      · exact .inl (cov p (.inr (.inr (.inr h))))
  · exact fun p hp => .inl (cov p (.inr (.inr (.inl hp))))
  · intro p hp
    refine q.nw i p _ _ _ hi (cov p ?_)
    rcases hp with hp | hp
    · rcases List.mem_cons.mp hp with h | h
      · exact .inl h
      · rcases List.mem_append.mp h with h | h
        · exact .inr (.inl h)
        · exact .inr (.inr (.inr h))
    · exact .inr (.inr (.inl hp))
/-- and put back -/
theorem Sw.join [r : Ow α] {pre suf : List α} {x : α} {a : Addr} (s : Sw K f es σ F H) {qa : Addr} (hi : es[i]? = some (.ow (Adr.mk qa (Hol.mk pre suf a)))) (hij : i ≠ j) (hj : es[j]? = some (.ow (Adr.mk a x))) (ai : noAl i es) (aj : noAl j es) :
    Sw K f ((es.set i (.ow (Adr.mk qa (Dl.mk (pre ++ x :: suf))))).set j .un) σ F H := by
  obtain ⟨Ps, q⟩ := s.env
  obtain ⟨v0, ev0, e0, l, v1, v2, P1, P2, e, eP, h1, h2, hz, o1, o2⟩ := q.ok i _ hi
  obtain ⟨vj, evj, e3, ox⟩ := q.ok j _ hj
  subst e0 e3
  obtain rfl : qa = l := by injection e
  have hil := get_lt hi
  have hjl := get_lt hj
  have nd := q.nd i hil
  have ndj := q.nd j hjl
  have dj : ∀ p, p ∈ Ps i → p ∉ Ps j := fun p h1 h2 => hij (q.dj i j p hil hjl h1 h2)
  rw [eP] at nd dj
  have nd3 := List.nodup_cons.mp nd
  have nd4 := List.nodup_append.mp nd3.2
  have jl : j < σ.length := by rw [← q.len]; exact hjl
  have eσ : σ.set j (σ[j]'jl) = σ := List.set_getElem_self jl
  have z := q.two (Pi := qa :: (P1 ++ Ps j :: P2).flatten) (Pj := []) (ei := .ow (Adr.mk qa (Dl.mk (pre ++ x :: suf)))) (ej := .un) (v := σ[j]'jl) hij hil hjl ⟨_, ev0, rfl, qa, v1 ++ .ref a :: v2, P1 ++ Ps j :: P2, rfl, rfl, h1, h2, by
    show (pre ++ x :: suf).length ≤ big
    rw [List.length_append, List.length_cons]
    have hz : pre.length + 1 + suf.length ≤ big := hz
    omega, o1.app (.cons ox o2)⟩ rfl ?_ List.nodup_nil (fun p _ h => by cases h) ?_ (fun p h => by cases h) ?_ ai aj (fun _ _ _ _ z => by cases z) (fun _ _ _ _ z => by cases z)
  · rw [eσ] at z
    exact ⟨s.st, _, z⟩
  · rw [List.flatten_append, List.flatten_cons]
    refine List.nodup_cons.mpr ⟨fun h => ?_, List.nodup_append.mpr ⟨nd4.1, List.nodup_append.mpr ⟨ndj, nd4.2.1, fun p h1 q' h2 e => ?_⟩, fun p h1 q' h2 e => ?_⟩⟩
    · rcases List.mem_append.mp h with h | h
      · exact nd3.1 (List.mem_append_left _ h)
      · rcases List.mem_append.mp h with h | h
        · exact dj qa (by simp) h
        · exact nd3.1 (List.mem_append_right _ h)
    · subst e
      exact dj p (List.mem_cons_of_mem _ (List.mem_append_right _ h2)) h1
    · subst e
      rcases List.mem_append.mp h2 with h | h
      · exact dj p (List.mem_cons_of_mem _ (List.mem_append_left _ h1)) h
      · exact nd4.2.2 p h1 p h rfl
  · intro p hp
    rcases List.mem_cons.mp hp with h | h
    · exact .inl (by rw [eP, h]; simp)
    · rw [List.flatten_append, List.flatten_cons] at h
      rcases List.mem_append.mp h with h | h
      · exact .inl (by rw [eP]; exact List.mem_cons_of_mem _ (List.mem_append_left _ h))
      · rcases List.mem_append.mp h with h | h
        · exact .inr h
        · exact .inl (by rw [eP]; exact List.mem_cons_of_mem _ (List.mem_append_right _ h))
  · intro p hp
    rcases hp with hp | hp
    · rcases List.mem_cons.mp hp with h | h
      · exact q.nw i p _ _ _ hi (by rw [eP, h]; simp)
      · rw [List.flatten_append, List.flatten_cons] at h
        rcases List.mem_append.mp h with h | h
        · exact q.nw i p _ _ _ hi (by rw [eP]; exact List.mem_cons_of_mem _ (List.mem_append_left _ h))
        · rcases List.mem_append.mp h with h | h
          · exact q.nw j p _ _ _ hj h
          · exact q.nw i p _ _ _ hi (by rw [eP]; exact List.mem_cons_of_mem _ (List.mem_append_right _ h))
    · cases hp
end
section
variable {K : PySem.W.Frag} {f : Fr} {es : List En} {σ : L2.St} {F H : Hp} {α : Type} {i : Nat}
/-- the same thing, told otherwise -/
theorem Sw.re1 {e1 e2 : En} (s : Sw K f es σ F H) (hi : es[i]? = some e1) (h : ∀ P, EnOk K F H (sl σ i) P e1 → EnOk K F H (sl σ i) P e2) (ai : noAl i es)
    (hw : ∀ (α : Type) (r : Ow α) (x : α), e2 = .owI r x → ∃ (β : Type) (r : Ow β) (y : β), e1 = .owI r y) (hae : ∀ j (α : Type) (r : Ow α) (x : α), e2 ≠ .alI j r x) : Sw K f (es.set i e2) σ F H := by
  obtain ⟨Ps, q⟩ := s.env
  have hil := get_lt hi
  exact Sw.mutE s.st q hi rfl (fun _ h => h) (fun _ _ _ => rfl) (h _ (q.ok i e1 hi)) (q.nd i hil) (fun p hp => .inl hp) ai hw hae
end
theorem set_of_get.{u} {α : Type u} {l : List α} {i : Nat} {x : α} (h : l[i]? = some x) : l.set i x = l := by
  obtain ⟨hl, e⟩ := List.getElem?_eq_some_iff.mp h
  subst e
  exact List.set_getElem_self hl
instance owrDl {α : Type} [Ow α] : OwR (Dl α) := ⟨fun h => let ⟨a, _, _, e, _⟩ := h; ⟨a, e⟩⟩
section
variable {X : Cx} {es es1 es2 es3 : List En} {a b c e elt tg iter : Expr} {st : Stmt} {rest body : List Stmt} {ifs : List Expr} {args : List Expr} {pos : Pos} {α β γ : Type} {i j : Nat} {scope : Scope}
theorem Sw.dlf [r : Ow α] {K : PySem.W.Frag} {f : Fr} {σ : L2.St} {F H : Hp} {l : List α} (s : Sw K f (es.set i (@En.fz (Dl α) Ow.rp (Dl.mk l))) σ F H) (hi : i < es.length) (ha : noAl i es) : Sw K f (es.set i (@En.fz (List α) (@rpCl _ (@clList α Ow.rp)) l)) σ F H := by
  have z := s.re1 (e2 := @En.fz (List α) (@rpCl _ (@clList α Ow.rp)) l) (List.getElem?_set_self hi) (fun P ok => ok) (fun k β r x hk => by
    by_cases y : k = i
    · subst y
      rw [List.getElem?_set_self hi] at hk
      cases hk
    · rw [List.getElem?_set_ne (Ne.symm y)] at hk
      exact ha k β r x hk) (fun _ _ _ z => by cases z) fun _ _ _ _ z => by cases z
  rw [List.set_set] at z
  exact z
theorem NJ.dlf [r : Ow α] {l : List α} (h : NJ X es e (Dl.mk l)) : @FJ X es e (List α) (@rpCl _ (@clList α Ow.rp)) l := ⟨(show @FJ X es e (Dl α) Ow.rp (Dl.mk l) from NJ.frz h).run⟩
theorem YJ.dlf [r : Ow α] {l : List α} (h : YJ X es e (Dl.mk l) es1) : @XJ X es e (List α) (@rpCl _ (@clList α Ow.rp)) l es1 := ⟨(show @XJ X es e (Dl α) Ow.rp (Dl.mk l) es1 from YJ.frz h).run⟩
theorem OwnAll.stp [r : Ow α] {K : PySem.W.Frag} {F H F' H' : Hp} {vs : List V} {xs : List α} {Ps : List (List Addr)} (o : OwnAll K F H vs xs Ps) (t : St0 F H F' H') : OwnAll K F' H' vs xs Ps := by
  refine o.mono t.f (fun p hp => ?_) fun p hp => by
    cases z : H p with
    | none => exact absurd z (o.out p hp).1
    | some u => exact t.nz z (fun ks e => o.nt p hp ks (by rw [z, e])) (o.out p hp).2
  cases z : H p with
  | none => exact absurd z (o.out p hp).1
  | some u => exact t.inc p u z
end
end Ly
namespace Ly
open PySem PySem.Spec PyProof.Rows L2 TL
/-! plain things, for the laws -/
section
variable {α β γ ρ : Type}
theorem pipe_eq {α β : Sort _} (x : α) (f : α → β) : pipe x f = f x := rfl
/-- what holds at each turn of a loop -/
theorem fold_inv {g : β → α → β} (I : Nat → β → Prop) : ∀ {xs : List α} {y : β} {n : Nat}, I n y → (∀ k y x, x ∈ xs → k < n + xs.length → I k y → I (k + 1) (g y x)) → I (n + xs.length) (xs.foldl g y)
  | [], y, n, h, _ => h
  | x :: xs, y, n, h, hs => by
    have z := fold_inv I (xs := xs) (y := g y x) (n := n + 1) (hs n y x List.mem_cons_self (by simp) h) (fun k y' x' hx hk => hs k y' x' (List.mem_cons_of_mem _ hx) (by rw [List.length_cons]; omega))
    rw [List.length_cons, show n + (xs.length + 1) = n + 1 + xs.length by omega]
    exact z
theorem atF_inv {g : β → α → β} (I : Nat → β → Prop) {xs : List α} {y0 y : β} {x : α} (h : AtF g xs y0 y x) (h0 : I 0 y0) (hs : ∀ k y x, x ∈ xs → k < xs.length → I k y → I (k + 1) (g y x)) : x ∈ xs ∧ ∃ k, k < xs.length ∧ xs[k]? = some x ∧ I k y := by
  obtain ⟨pre, post, e, ey⟩ := h
  subst e
  refine ⟨by simp, pre.length, by simp, by simp, ?_⟩
  have z := fold_inv I (g := g) (xs := pre) (y := y0) (n := 0) h0 fun k y x hx hk => hs k y x (by simp [hx]) (by simp at hk ⊢; omega)
  rw [ey, Nat.zero_add] at z
  exact z
theorem atF_inv0 {g : β → α → β} (I : β → Prop) {xs : List α} {y0 y : β} {x : α} (h : AtF g xs y0 y x) (h0 : I y0) (hs : ∀ y x, x ∈ xs → I y → I (g y x)) : x ∈ xs ∧ I y := by
  obtain ⟨h1, k, _, _, h2⟩ := atF_inv (fun _ y => I y) h h0 fun _ y x hx _ => hs y x hx
  exact ⟨h1, h2⟩
theorem at_inv {g : β → α → Fl β ρ} (I : Nat → β → Prop) : ∀ {pre : List α} {y0 y : β} {n : Nat}, forFl g pre y0 = .nx y → I n y0 → (∀ k y x z, x ∈ pre → I k y → g y x = .nx z → I (k + 1) z) → I (n + pre.length) y
  | [], y0, y, n, e, h, _ => by
    have e : y0 = y := by injection e
    subst e; exact h
  | x :: pre, y0, y, n, e, h, hs => by
    have e' : (match g y0 x with | .nx z => forFl g pre z | .rt r => .rt r | .bk z => .bk z) = Fl.nx y := e
    cases q : g y0 x with
    | nx w =>
      rw [q] at e'
      have z := at_inv I (pre := pre) (n := n + 1) e' (hs n y0 x w List.mem_cons_self h q) fun k y x z hx => hs k y x z (List.mem_cons_of_mem _ hx)
      rw [List.length_cons, show n + (pre.length + 1) = n + 1 + pre.length by omega]
      exact z
    | rt r => rw [q] at e'; cases e'
    | bk w => rw [q] at e'; cases e'
theorem at_at {g : β → α → Fl β ρ} (I : Nat → β → Prop) {xs : List α} {y0 y : β} {x : α} (h : At g xs y0 y x) (h0 : I 0 y0) (hs : ∀ k y x z, x ∈ xs → k < xs.length → I k y → g y x = .nx z → I (k + 1) z) : x ∈ xs ∧ ∃ k, k < xs.length ∧ xs[k]? = some x ∧ I k y := by
  obtain ⟨pre, post, e, ey⟩ := h
  subst e
  refine ⟨by simp, pre.length, by simp, by simp, ?_⟩
  have z := at_inv (fun k y => k ≤ pre.length → I k y) (n := 0) ey (fun _ => h0) fun k y x z hx hk hg hl => hs k y x z (by simp [hx]) (by simp; omega) (hk (by omega)) hg
  rw [Nat.zero_add] at z
  exact z (Nat.le_refl _)
/-- a loop whose turns all go on -/
theorem forFl_nx {g : β → α → Fl β ρ} (h : β → α → β) (I : β → Prop) : ∀ {xs : List α} {y : β}, I y → (∀ y x, x ∈ xs → I y → g y x = .nx (h y x) ∧ I (h y x)) → forFl g xs y = .nx (xs.foldl h y)
  | [], _, _, _ => rfl
  | x :: xs, y, hy, hs => by
    obtain ⟨e, hi⟩ := hs y x List.mem_cons_self hy
    show (match g y x with | .nx z => forFl g xs z | .rt r => .rt r | .bk z => .bk z) = _
    rw [e]
    exact forFl_nx h I hi fun y x hx => hs y x (List.mem_cons_of_mem _ hx)
theorem forFl_unit {g : Unit → α → Fl Unit ρ} {xs : List α} (h : ∀ x ∈ xs, g () x = .nx ()) : forFl g xs () = .nx () :=
  forFl_nx (fun _ _ => ()) (fun _ => True) trivial fun _ x hx _ => ⟨h x hx, trivial⟩
/-! places -/
theorem ixN_nat {n k : Nat} (h : k < n) : ixN n (k : Int) = some k := by
  unfold ixN
  rw [if_pos (Int.natCast_nonneg k), if_pos (by omega), Int.toNat_natCast]
theorem atI_nat {xs : List α} {k : Nat} (h : k < xs.length) : atI xs (k : Int) = some (xs[k]'h) := by
  unfold atI
  rw [ixN_nat h]
  exact List.getElem?_eq_getElem h
theorem okI_nat {xs : List α} {k : Nat} (h : k < xs.length) : okI xs (k : Int) := by
  unfold okI; rw [atI_nat h]; rfl
theorem okI_of {xs : List α} {i : Int} (h0 : 0 ≤ i) (h1 : i < xs.length) : okI xs i := by
  obtain ⟨k, rfl⟩ := Int.eq_ofNat_of_zero_le h0
  exact okI_nat (by omega)
theorem getI_nat [Inhabited α] {xs : List α} {k : Nat} (h : k < xs.length) : getI xs (k : Int) = xs[k]'h := by
  unfold getI; rw [atI_nat h]; rfl
theorem getI_mem [Inhabited α] {xs : List α} {i : Int} (h : okI xs i) : getI xs i ∈ xs := by
  have e := getI_ok h
  unfold atI at e
  cases q : ixN xs.length i with
  | none => rw [q] at e; cases e
  | some j => rw [q] at e; exact List.mem_of_getElem? e
theorem okC_of {z : Str} {i : Int} (h0 : 0 ≤ i) (h1 : i < z.length) : okC z i := by
  refine okI_of (xs := z.cps.toList) h0 ?_
  have e : z.length = z.cps.toList.length := by simp [Str.length]
  rw [← e]; exact h1
theorem chI_of {z : Str} {i : Int} (h : okC z i) : ∃ c ∈ z.cps.toList, chI z i = sgn c := by
  unfold okC at h
  unfold chI
  cases e : atI z.cps.toList i with
  | none => rw [e] at h; cases h
  | some c =>
    refine ⟨c, ?_, rfl⟩
    unfold atI at e
    cases q : ixN z.cps.toList.length i with
    | none => rw [q] at e; cases e
    | some j => rw [q] at e; exact List.mem_of_getElem? e
theorem rangeL_len (lo hi : Int) : (rangeL lo hi).length = (hi - lo).toNat := upFrom_len _ _
theorem mem_rangeL {lo hi x : Int} : x ∈ rangeL lo hi ↔ lo ≤ x ∧ x < hi := by
  unfold rangeL upFrom
  rw [List.mem_map]
  constructor
  · rintro ⟨i, hi, rfl⟩
    rw [List.mem_range] at hi
    omega
  · rintro ⟨h1, h2⟩
    exact ⟨(x - lo).toNat, by rw [List.mem_range]; omega, by omega⟩
theorem cut_to {xs : List α} {k : Nat} : cutX xs none (some (k : Int)) = xs.take k := by
  unfold cutX
  rw [HT.sIx_nat]
  show (xs.drop 0).take (min k xs.length - 0) = xs.take k
  rw [List.drop_zero, Nat.sub_zero, ← List.take_eq_take_min]
theorem given_all {g : α → β} {xs : List α} : given (fun _ => true) g xs = xs.map g := by
  unfold given
  rw [List.filter_eq_self.mpr fun _ _ => rfl]
theorem all_id {xs : List Bool} : xs.all id = true ↔ ∀ b ∈ xs, b = true := by rw [List.all_eq_true]; rfl
end
/-! texts -/
theorem strlen (z : Str) : z.length = (tl z).length := len_tl z
theorem len_app (z w : Str) : (z ++ w).length = z.length + w.length := str_len z w
theorem tl_sgn (c : Nat) : tl (sgn c) = [c] := rfl
/-- parts that the separator does not begin in, whatever follows -/
def frees (S p : List Nat) : Prop := ∀ rest i, i < p.length → pre S ((p ++ rest).drop i) = false
/-- each sign s of p is followed, in p, by another sign than t -/
def follows (s t : Nat) (p : List Nat) : Prop := ∀ i : Nat, p[i]? = some s → ∃ d, p[i + 1]? = some d ∧ d ≠ t
/-! the drawing of numbers -/
/-- what is taken of a purse -/
def takeV (p : Pu) (n : Int) : Int × Pu := bif decide (p.a > 0) then (p.a % n, Pu.mk (p.a / n) p.b) else
  let b := (p.b * 39373 + 7919) % 2147483629
  (b * b % 2147483563 / 11 % n, Pu.mk p.a b)
theorem takeV_lt (p : Pu) {n : Int} (h : 0 < n) : 0 ≤ (takeV p n).1 ∧ (takeV p n).1 < n := by
  unfold takeV
  cases decide (p.a > 0) with
  | true => exact ⟨Int.emod_nonneg _ (by omega), Int.emod_lt_of_pos _ h⟩
  | false => exact ⟨Int.emod_nonneg _ (by omega), Int.emod_lt_of_pos _ h⟩
theorem mul_small {x : Int} (h0 : 0 ≤ x) (h1 : x < 2 ^ 64) : CMul x x := .inl ⟨by omega, h1⟩
theorem mod_small (x : Int) {n : Int} (h : 0 < n) (h2 : n ≤ 2 ^ 64) : CMul (x % n) (x % n) := mul_small (Int.emod_nonneg _ (by omega)) (Int.lt_of_lt_of_le (Int.emod_lt_of_pos _ h) h2)
theorem divW_of {x n : Int} (h : 0 < n) (h2 : n < 2 ^ 250) : CDivW x n := by
  refine ⟨h, ?_⟩
  have h3 : n.natAbs < 2 ^ 250 := by omega
  have h4 : n.natAbs ≠ 0 := by omega
  have h5 := (Nat.log2_lt h4).mpr h3
  omega
end Ly
namespace Ly
open PySem PySem.Spec PyProof.Rows L2 TL
/-! a thing locked while it is walked -/
def Fr.lk (f : Fr) (d : Addr) (od : Obj) (u : HO) (F : Hp) : Fr := ⟨fun a => f.io a ∧ a ≠ d, F, fun a => if a = d then some (.frz od u) else f.H a⟩
section
variable {K : PySem.W.Frag} {f : Fr} {es es' : List En} {σ σ' : L2.St} {F F' H H' : Hp} {d : Addr} {od : Obj} {u : HO} {Ps : Nat → List Addr}
theorem lkH_same : (f.lk d od u F).H d = some (.frz od u) := if_pos rfl
theorem lkH_ne {a : Addr} (h : a ≠ d) : (f.lk d od u F).H a = f.H a := if_neg h
theorem nroot {F H F' H' : Hp} (e : Sub F H) (i : Inc F F') (e2 : Sub F' H') {a : Addr} {ks : List L2.Key} (z : H a = some (sk ks)) (h : F a ≠ none) : H' a = some (sk ks) := by
  cases q : F a with
  | none => exact absurd q h
  | some u =>
    have e3 : u = sk ks := by
      rcases e a u q with w | ⟨_, ob, w⟩ | ⟨_, _, w⟩
      · rw [z] at w; exact (Option.some.inj w).symm
      · rw [z] at w; cases w
      · rw [z] at w; cases w
    subst e3
    exact (e2 a _ (i a _ q)).nd fun d => d
theorem Stp.lock (s : Stp f F H) (hd : dictO u) (hF : F d = some u) : Stp (f.lk d od u F) F (upd H d (.frz od u)) where
  f := Inc.refl _
  h a o hio e := by
    by_cases z : a = d
    · subst z
      rw [lkH_same] at e
      rw [upd_same]; exact e
    · rw [lkH_ne z] at e
      rw [upd_ne z]
      exact s.h a o (fun k => hio ⟨k, z⟩) e
  t a e := by
    by_cases z : a = d
    · subst z; exact nn upd_same
    · rw [lkH_ne z] at e
      rw [upd_ne z]; exact s.t a e
  e a o e := by
    by_cases z : a = d
    · subst z
      rw [hF] at e
      cases e
      exact .inr (.inl ⟨hd, od, upd_same⟩)
    · rcases s.e a o e with r | ⟨k, ob, r⟩ | ⟨vs, e3, r⟩
      · exact .inl (by rw [upd_ne z]; exact r)
      · exact .inr (.inl ⟨k, ob, by rw [upd_ne z]; exact r⟩)
      · exact .inr (.inr ⟨vs, e3, by rw [upd_ne z]; exact r⟩)
  n _ _ h := .inl h
  k a ks e := by
    by_cases z : a = d
    · subst z; rw [lkH_same] at e; cases e
    · rw [lkH_ne z] at e
      rw [upd_ne z]; exact s.k a ks e
/-- it is locked already -/
theorem Stp.lock' (s : Stp f F H) (hF : F d = some u) (hH : H d = some (.frz od u)) : Stp (f.lk d od u F) F H where
  f := Inc.refl _
  h a o hio e := by
    by_cases z : a = d
    · subst z
      rw [lkH_same] at e
      rw [hH]; exact e
    · rw [lkH_ne z] at e
      exact s.h a o (fun k => hio ⟨k, z⟩) e
  t a e := by
    by_cases z : a = d
    · subst z; exact nn hH
    · rw [lkH_ne z] at e; exact s.t a e
  e := s.e
  n _ _ h := .inl h
  k a ks e := by
    by_cases z : a = d
    · subst z; rw [lkH_same] at e; cases e
    · rw [lkH_ne z] at e
      exact s.k a ks e
theorem EnvP.lkfr (q : EnvP K f es σ F H Ps) (hF : F d ≠ none) : EnvP K (f.lk d od u F) es σ F H Ps := by
  have ne : ∀ (i : Nat) p, i < es.length → p ∈ Ps i → p ≠ d := fun i p hi hp z => hF (z ▸ (q.out hi p hp).2)
  refine ⟨q.len, q.ok, q.nd, q.dj, fun i p hi hp => ?_, fun i p α r x hi hp => ?_, q.al⟩
  · have z := ne i p hi hp
    rcases q.fr i p hi hp with w | w
    · exact .inl (by rw [lkH_ne z]; exact w)
    · exact .inr ⟨w, z⟩
  · rw [lkH_ne (ne i p (get_lt hi) hp)]; exact q.nw i p α r x hi hp
/-- the heap changes where nothing is own -/
theorem EnvP.off (q : EnvP K f es σ F H Ps) (hF : F d ≠ none) (h : ∀ a, a ≠ d → H' a = H a) : EnvP K f es σ F H' Ps := by
  have ne : ∀ (i : Nat) p, i < es.length → p ∈ Ps i → p ≠ d := fun i p hi hp z => hF (z ▸ (q.out hi p hp).2)
  refine ⟨q.len, fun i e hi => ?_, q.nd, q.dj, q.fr, q.nw, fun i j α r x hi => ?_⟩
  · exact (q.ok i e hi).but (Inc.refl _) (fun p hp => h p (ne i p (get_lt hi) hp)) fun p hp => ((q.ok i e hi).out p hp).2
  · obtain ⟨hj, v, Q, ev, hQ, o⟩ := q.al i j α r x hi
    exact ⟨hj, v, Q, ev, hQ, Ow.mono (Inc.refl _) (fun p hp => h p (ne j p hj (hQ p hp))) (fun p hp => (q.out hj p (hQ p hp)).2) o⟩
theorem Sw.lock (s : Sw K f es σ F H) (hd : dictO u) (hF : F d = some u) : Sw K (f.lk d od u F) es σ F (upd H d (.frz od u)) :=
  let ⟨Ps, q⟩ := s.env
  ⟨s.st.lock hd hF, Ps, (q.off (nn hF) fun a z => upd_ne z).lkfr (nn hF)⟩
theorem Sw.lock' (s : Sw K f es σ F H) (hF : F d = some u) (hH : H d = some (.frz od u)) : Sw K (f.lk d od u F) es σ F H :=
  let ⟨Ps, q⟩ := s.env
  ⟨s.st.lock' hF hH, Ps, q.lkfr (nn hF)⟩
theorem Stp.locked (t : Stp (f.lk d od u F) F' H') : H' d = some (.frz od u) := t.h d _ (fun z => z.2 rfl) lkH_same
theorem Stp.unlock (s : Stp f F H) (hF : F d = some u) (hH : H d = some u) (t : Stp (f.lk d od u F) F' H') : Stp f F' (upd H' d u) where
  f := s.f.trans t.f
  h a o hio e := by
    by_cases z : a = d
    · subst z
      have e2 := s.h a o hio e
      rw [hH] at e2
      rw [upd_same]; exact e2
    · rw [upd_ne z]
      exact t.h a o (fun k => hio k.1) (by rw [lkH_ne z]; exact e)
  t a e := by
    by_cases z : a = d
    · subst z; exact nn upd_same
    · rw [upd_ne z]; exact t.t a (by rw [lkH_ne z]; exact e)
  e a o e := by
    by_cases z : a = d
    · subst z
      have e2 := t.f a u hF
      rw [e] at e2
      exact .inl (by rw [upd_same]; exact e2.symm)
    · rcases t.e a o e with r | ⟨k, ob, r⟩ | ⟨vs, e3, r⟩
      · exact .inl (by rw [upd_ne z]; exact r)
      · exact .inr (.inl ⟨k, ob, by rw [upd_ne z]; exact r⟩)
      · exact .inr (.inr ⟨vs, e3, by rw [upd_ne z]; exact r⟩)
  n a h1 h2 := by
    by_cases z : a = d
    · subst z
      rcases s.n a h1 h2 with h3 | ⟨ks, h3⟩
      · rw [hF] at h3; cases h3
      · rw [hH] at h3
        exact .inr ⟨ks, by rw [upd_same]; exact h3⟩
    · rw [upd_ne z]
      have tn := t.n a (by rw [lkH_ne z]; exact h1)
      rcases s.n a h1 h2 with h3 | ⟨ks, h3⟩
      · exact tn h3
      · cases q : F a with
        | none => exact tn q
        | some v => exact .inr ⟨ks, nroot s.e t.f t.e h3 (nn q)⟩
  k a ks e := by
    by_cases z : a = d
    · subst z
      have e2 := s.k a ks e
      rw [hH] at e2
      rw [upd_same]; exact e2
    · rw [upd_ne z]; exact t.k a ks (by rw [lkH_ne z]; exact e)
theorem Stp.unlock' (s : Stp f F H) (hF : F d = some u) (hH : H d = some (.frz od u)) (t : Stp (f.lk d od u F) F' H') : Stp f F' H' where
  f := s.f.trans t.f
  h a o hio e := by
    by_cases z : a = d
    · subst z
      have e2 := s.h a o hio e
      rw [hH] at e2
      rw [t.locked]; exact e2
    · exact t.h a o (fun k => hio k.1) (by rw [lkH_ne z]; exact e)
  t a e := by
    by_cases z : a = d
    · subst z; exact nn t.locked
    · exact t.t a (by rw [lkH_ne z]; exact e)
  e := t.e
  n a h1 h2 := by
    by_cases z : a = d
    · subst z
      rcases s.n a h1 h2 with h3 | ⟨ks, h3⟩
      · rw [hF] at h3; cases h3
      · rw [hH] at h3; cases h3
    · have tn := t.n a (by rw [lkH_ne z]; exact h1)
      rcases s.n a h1 h2 with h3 | ⟨ks, h3⟩
      · exact tn h3
      · cases q : F a with
        | none => exact tn q
        | some v => exact .inr ⟨ks, nroot s.e t.f t.e h3 (nn q)⟩
  k a ks e := by
    by_cases z : a = d
    · subst z
      have e2 := s.k a ks e
      rw [hH] at e2; cases e2
    · exact t.k a ks (by rw [lkH_ne z]; exact e)
theorem EnvP.unfr (q : EnvP K (f.lk d od u F) es σ F' H' Ps) : EnvP K f es σ F' H' Ps := by
  refine ⟨q.len, q.ok, q.nd, q.dj, fun i p hi hp => ?_, fun i p α r x hi hp => ?_, q.al⟩
  · rcases q.fr i p hi hp with w | w
    · have z : p ≠ d := fun z => by subst z; rw [lkH_same] at w; cases w
      exact .inl (by rw [lkH_ne z] at w; exact w)
    · exact .inr w.1
  · have w := q.nw i p α r x hi hp
    have z : p ≠ d := fun z => by subst z; rw [lkH_same] at w; cases w
    rw [lkH_ne z] at w; exact w
theorem Sw.unlock (s : Stp f F H) (hF : F d = some u) (hH : H d = some u) (t : Sw K (f.lk d od u F) es' σ' F' H') : Sw K f es' σ' F' (upd H' d u) :=
  let ⟨Ps, q⟩ := t.env
  ⟨s.unlock hF hH t.st, Ps, (q.off (nn (t.st.f d u hF)) fun a z => upd_ne z).unfr⟩
theorem Sw.unlock' (s : Stp f F H) (hF : F d = some u) (hH : H d = some (.frz od u)) (t : Sw K (f.lk d od u F) es' σ' F' H') : Sw K f es' σ' F' H' :=
  let ⟨Ps, q⟩ := t.env
  ⟨s.unlock' hF hH t.st, Ps, q.unfr⟩
theorem own_off {α : Type} [Ow α] {v : V} {x : α} {P : List Addr} (o : Ow.own K F' H' v x P) (hF : F' d ≠ none) : Ow.own K F' (upd H' d u) v x P :=
  Ow.mono (Inc.refl _) (fun p hp => upd_ne fun z => hF (z ▸ (Ow.out o p hp).2)) (fun p hp => (Ow.out o p hp).2) o
theorem lk_free {p : Addr} (h : (f.lk d od u F).H p = none) : f.H p = none := by
  have z : p ≠ d := fun z => by subst z; rw [lkH_same] at h; cases h
  rw [lkH_ne z] at h; exact h
theorem lk_fr {p : Addr} (h : (f.lk d od u F).free p) : f.free p := by
  rcases h with w | w
  · exact .inl (lk_free w)
  · exact .inr w.1
/-- the ends behind the lock -/
def lkD (d : Addr) (od : Obj) (u : HO) (D : Ends) : Ends := ⟨fun σ' H' => H' d = some (.frz od u) ∧ D.nx σ' (upd H' d u), fun v H' => H' d = some (.frz od u) ∧ D.rt v (upd H' d u), fun σ' H' => H' d = some (.frz od u) ∧ D.bk σ' (upd H' d u), fun σ' H' => H' d = some (.frz od u) ∧ D.ct σ' (upd H' d u)⟩
/-- a wish about exceptions, behind the lock -/
def lkW (d : Addr) (od : Obj) (u : HO) (W : L2.WX) : L2.WX := fun c d' σ H' => H' d = some (.frz od u) ∧ W c d' σ (upd H' d u)
theorem RetK.lock {R : VK} (s : Stp f F H) (hF : F d = some u) (hH : H d = some u) {e : En} (h : RetK K f R e) : RetK K (f.lk d od u F) (fun v H' => H' d = some (.frz od u) ∧ R v (upd H' d u)) e := by
  cases e with
  | fzI _ x => exact fun v F' H' st r => ⟨st.locked, h v F' _ (s.unlock hF hH st) r⟩
  | owI _ x => exact fun v F' H' P st r hn hp => ⟨st.locked, h v F' _ P (s.unlock hF hH st) (own_off r (nn (st.f d u hF))) hn fun p hp' => lk_free (hp p hp')⟩
  | un => exact h
  | atI _ _ _ => exact h
  | alI _ _ _ => exact h
theorem RetU.lock {R : VK} (s : Stp f F H) (hF : F d = some u) (hH : H d = some u) {a : Addr} {α : Type} {r : Ow α} {p : α} {e : En} (h : RetU K f R a r p e) : RetU K (f.lk d od u F) (fun v H' => H' d = some (.frz od u) ∧ R v (upd H' d u)) a r p e := by
  cases e with
  | fzI _ x => exact fun v F' H' P st o hn hf r => ⟨st.locked, h v F' _ P (s.unlock hF hH st) (own_off o (nn (st.f d u hF))) hn (fun q hq => lk_fr (hf q hq)) r⟩
  | owI _ x => exact fun v F' H' P P' st o hn hf r a b c => ⟨st.locked, h v F' _ P P' (s.unlock hF hH st) (own_off o (nn (st.f d u hF))) hn (fun q hq => lk_fr (hf q hq)) (own_off r (nn (st.f d u hF))) a (fun q hq => lk_free (b q hq)) c⟩
  | un => exact h
  | atI _ _ _ => exact h
  | alI _ _ _ => exact h
theorem OutK.lock {X : Cx} {D : Ends} {out : Out} (s : Stp f F H) (hF : F d = some u) (hH : H d = some u) (hx : ∀ W, L2.Takes X W → L2.Takes X (lkW d od u W)) (h : OutK X f D out) : OutK X (f.lk d od u F) (lkD d od u D) out := by
  cases out with
  | nx es => exact fun σ F' H' t => ⟨t.st.locked, h σ F' _ (Sw.unlock s hF hH t)⟩
  | bk es => exact fun σ F' H' t => ⟨t.st.locked, h σ F' _ (Sw.unlock s hF hH t)⟩
  | en => exact fun σ F' H' t => ⟨t.locked, h σ F' _ (s.unlock hF hH t)⟩
  | rt e => exact RetK.lock s hF hH h
  | eu a r p => exact fun σ F' H' P t o hn hf => ⟨t.locked, h σ F' _ P (s.unlock hF hH t) (own_off o (nn (t.f d u hF))) hn fun q hq => lk_fr (hf q hq)⟩
  | ru a r p e => exact RetU.lock s hF hH h
  | xc x =>
    obtain ⟨W, t, k⟩ := h
    exact ⟨_, hx W t, fun σ F' H' d' st q => ⟨st.locked, k σ F' _ d' (s.unlock hF hH st) q⟩⟩
  | xu a r p x =>
    obtain ⟨W, t, k⟩ := h
    exact ⟨_, hx W t, fun σ F' H' d' P st q o hn hf => ⟨st.locked, k σ F' _ d' P (s.unlock hF hH st) q (own_off o (nn (st.f d u hF))) hn fun q hq => lk_fr (hf q hq)⟩⟩
  | xs es x =>
    obtain ⟨W, t, k⟩ := h
    exact ⟨_, hx W t, fun σ F' H' d' st q => ⟨st.st.locked, k σ F' _ d' (Sw.unlock s hF hH st) q⟩⟩
theorem RetK.lock' {R : VK} (s : Stp f F H) (hF : F d = some u) (hH : H d = some (.frz od u)) {e : En} (h : RetK K f R e) : RetK K (f.lk d od u F) R e := by
  cases e with
  | fzI _ x => exact fun v F' H' st r => h v F' _ (s.unlock' hF hH st) r
  | owI _ x => exact fun v F' H' P st r hn hp => h v F' _ P (s.unlock' hF hH st) r hn fun p hp' => lk_free (hp p hp')
  | un => exact h
  | atI _ _ _ => exact h
  | alI _ _ _ => exact h
theorem RetU.lock' {R : VK} (s : Stp f F H) (hF : F d = some u) (hH : H d = some (.frz od u)) {a : Addr} {α : Type} {r : Ow α} {p : α} {e : En} (h : RetU K f R a r p e) : RetU K (f.lk d od u F) R a r p e := by
  cases e with
  | fzI _ x => exact fun v F' H' P st o hn hf r => h v F' _ P (s.unlock' hF hH st) o hn (fun q hq => lk_fr (hf q hq)) r
  | owI _ x => exact fun v F' H' P P' st o hn hf r a b c => h v F' _ P P' (s.unlock' hF hH st) o hn (fun q hq => lk_fr (hf q hq)) r a (fun q hq => lk_free (b q hq)) c
  | un => exact h
  | atI _ _ _ => exact h
  | alI _ _ _ => exact h
theorem OutK.lock' {X : Cx} {D : Ends} {out : Out} (s : Stp f F H) (hF : F d = some u) (hH : H d = some (.frz od u)) (h : OutK X f D out) : OutK X (f.lk d od u F) D out := by
  cases out with
  | nx es => exact fun σ F' H' t => h σ F' _ (Sw.unlock' s hF hH t)
  | bk es => exact fun σ F' H' t => h σ F' _ (Sw.unlock' s hF hH t)
  | en => exact fun σ F' H' t => h σ F' _ (s.unlock' hF hH t)
  | rt e => exact RetK.lock' s hF hH h
  | eu a r p => exact fun σ F' H' P t o hn hf => h σ F' _ P (s.unlock' hF hH t) o hn fun q hq => lk_fr (hf q hq)
  | ru a r p e => exact RetU.lock' s hF hH h
  | xc x =>
    obtain ⟨W, t, k⟩ := h
    exact ⟨W, t, fun σ F' H' d st q => k σ F' H' d (s.unlock' hF hH st) q⟩
  | xu a r p x =>
    obtain ⟨W, t, k⟩ := h
    exact ⟨W, t, fun σ F' H' d P st q o hn hf => k σ F' H' d P (s.unlock' hF hH st) q o hn fun q hq => lk_fr (hf q hq)⟩
  | xs es x =>
    obtain ⟨W, t, k⟩ := h
    exact ⟨W, t, fun σ F' H' d st q => k σ F' H' d (Sw.unlock' s hF hH st) q⟩
/-- the same thing, locked for one expression -/
theorem St0.unlock (hF : F d = some u) (hH : H d = some u) (t : St0 F (upd H d (.frz od u)) F' H') : H' d = some (.frz od u) ∧ St0 F H F' (upd H' d u) := by
  have ne : ∀ {a : Addr} {o : HO}, a ≠ d → H a = some o → H' a = some o := fun {a o} z e => t.inc a o (by rw [upd_ne z]; exact e)
  refine ⟨t.inc d _ upd_same, t.f, fun a o _ e => ?_, fun a e => ?_, fun a o e => ?_, fun a h1 h2 => ?_, fun a ks e => ?_⟩
  · have e : H a = some o := e
    by_cases z : a = d
    · subst z; rw [hH] at e; rw [upd_same]; exact e
    · rw [upd_ne z]; exact ne z e
  · have e : H a ≠ none := e
    by_cases z : a = d
    · subst z; exact nn upd_same
    · rw [upd_ne z]
      cases q : H a with
      | none => exact absurd q e
      | some o => exact nn (ne z q)
  · by_cases z : a = d
    · subst z
      have e2 := t.f a u hF
      rw [e] at e2
      exact .inl (by rw [upd_same]; exact e2.symm)
    · rcases t.e a o e with r | ⟨k, ob, r⟩ | ⟨vs, e3, r⟩
      · exact .inl (by rw [upd_ne z]; exact r)
      · exact .inr (.inl ⟨k, ob, by rw [upd_ne z]; exact r⟩)
      · exact .inr (.inr ⟨vs, e3, by rw [upd_ne z]; exact r⟩)
  · have z : a ≠ d := fun z => by
      have h2 : F a = none := h2
      rw [z, hF] at h2; cases h2
    rw [upd_ne z]
    refine t.n a ?_ h2
    show upd H d (.frz od u) a ≠ none
    rw [upd_ne z]; exact h1
  · have e : H a = some (sk ks) := e
    by_cases z : a = d
    · subst z; rw [hH] at e; rw [upd_same]; exact e
    · rw [upd_ne z]; exact ne z e
end
/-- an exception leaves the lock -/
theorem takes_lock {X : Cx} {d : Addr} {od : Obj} {u : HO} (hu : dictO u) (h0 : ∀ o v, X.H_0 d ≠ some (.frz o v)) {W : L2.WX} (t : L2.Takes X W) : L2.Takes X (lkW d od u W) := fun e s' xe => by
  obtain ⟨a, B, sI, pins, σ, H', cls, d', rfl, I, nb, up, sky, na, os, ag, hl, w⟩ := xe
  have ne : ∀ {b : Addr}, H' b = none → b ≠ d := fun {b} e z => by rw [z, hl] at e; cases e
  have uf : ∀ o v, u ≠ .frz o v := fun o v z => by rw [z] at hu; exact hu
  have J : Inv X pins σ (upd H' d u) sI := by
    refine ⟨I.ok, I.os, I.bare, ⟨I.base.keep, I.base.slot, fun b o e n hx => ?_, I.base.there, fun b xs e => ?_, fun b o v e => ?_, fun b ps e => ?_⟩, I.loc, I.cell, ?_, fun y c e => ?_, fun p hp => ?_, fun b o e => ?_, I.len⟩
    · have z := I.base.free b o e n hx
      rw [upd_ne (ne z)]; exact z
    · have z := I.base.tups b xs e
      rw [upd_ne fun y => by rw [y, hl] at z; cases z]; exact z
    · have z := I.base.frzs b o v e
      rw [upd_ne fun y => h0 o v (by rw [← y]; exact e)]; exact z
    · obtain ⟨m, z⟩ := I.base.tbls b ps e
      refine ⟨m, ?_⟩
      rw [upd_ne fun y => by rw [y, hl] at z; cases z]; exact z
    · rw [upd_ne (ne I.free)]; exact I.free
    · rw [upd_ne (ne (I.freeC y c e))]; exact I.freeC y c e
    · obtain ⟨e1, e2, e3⟩ := I.pin p hp
      exact ⟨e1, by rw [upd_ne (ne e2)]; exact e2, e3⟩
    · have own : ∀ c v, H' c = some (.own v) → upd H' d u c = some (.own v) := fun c v z => by
        rw [upd_ne fun y => by rw [y, hl] at z; cases z]; exact z
      have tup : ∀ c xs, H' c = some (.tup xs) → upd H' d u c = some (.tup xs) := fun c v z => by
        rw [upd_ne fun y => by rw [y, hl] at z; cases z]; exact z
      by_cases hb : b = d
      · subst hb
        rw [upd_same] at e
        cases e
        obtain ⟨_, q⟩ := (show sI.heap.get? b = some od ∧ ObjOk X.prog X.w H' sI.heap b u from I.hok b _ hl)
        exact q.stay (fun _ _ _ q => q) (fun c z => own c _ z) tup
      · rw [upd_ne hb] at e
        exact (I.hok b o e).stay (fun _ _ _ q => q) (fun c z => own c _ z) tup
  exact t _ s' ⟨a, B, sI, pins, σ, _, cls, d', rfl, J, nb, up, sky, by rw [upd_ne (ne na)]; exact na, os, ag, w⟩
/-- what stands at the entry is not locked by what is no lock here -/
theorem wpS_h0 {X : Cx} {st : Stmt} {D : Ends} {σ : L2.St} {H : Hp} {d : Addr} {u : HO} (hH : H d = some u) (hu : dictO u) (h : (∀ o v, X.H_0 d ≠ some (.frz o v)) → wpS X st D σ H) : wpS X st D σ H := fun pins s I => h (fun o v e => by
  have z := I.base.frzs d o v e
  rw [hH] at z
  cases z
  exact hu) pins s I
/-! either locked or as it is -/
def tOrS (t : TS) : TS := fun D σ H => t D σ H ∨ tLock t D σ H
def tOrE (t : TE) : TE := fun σ H Q => t σ H Q ∨ tLockE t σ H Q
theorem ps_or {X : Cx} {st : Stmt} {t : TS} (h : PS X st t) : PS X st (tOrS t) := ⟨fun pins s σ H D I q => q.elim (fun k => h.run pins s σ H D I k) fun k => (ps_lock h).run pins s σ H D I k⟩
theorem pe_or {X : Cx} {e : Expr} {t : TE} (h : PE X e t) : PE X e (tOrE t) := ⟨fun pins s σ H Q I q => q.elim (fun k => h.run pins s σ H Q I k) fun k => (pe_lock h).run pins s σ H Q I k⟩
theorem dict_mut {u : HO} (h : dictO u) : Mut (some u) := by
  cases u <;> first | exact True.intro | exact h.elim
section
variable {X : Cx} {es es1 es2 : List En} {st : Stmt} {out : Out}
/-- a statement whose dict (frozen) is locked while it runs -/
theorem s_lock {t : TS} (hst : PS X st t) (hd : ∀ (f : Fr) (σ : L2.St) (F H : Hp), Sw X.K f es σ F H → ∃ d u, F d = some u ∧ dictO u ∧
    ∀ (f1 : Fr) (H1 : Hp) (od : Obj) (D : Ends), Sw X.K f1 es σ F H1 → f1.H d = some (.frz od u) → ¬ f1.io d → OutK X f1 D out → t D σ H1) : S1 X es st out := .mk fun f σ F H D S q => by
    obtain ⟨d, u, hF, du, go⟩ := hd f σ F H S
    rcases S.sub d u hF with hH | ⟨_, od, hH⟩ | ⟨vs, e3, hH⟩
    · refine wpS_h0 hH du fun h0 => psR (ps_or hst) (.inr ⟨d, u, hH, dict_mut du, fun od => ?_⟩)
      exact go _ _ od _ (S.lock du hF) lkH_same (fun z => z.2 rfl) (OutK.lock S.st hF hH (fun W t => takes_lock du h0 t) q)
    · refine psR (ps_or hst) (.inl ?_)
      exact go _ _ od _ (S.lock' hF hH) lkH_same (fun z => z.2 rfl) (OutK.lock' S.st hF hH q)
    · rw [e3] at du
      exact du.elim
/-- a reading likewise, of a new object -/
theorem rd_lock {α : Type} [Ow α] {x : α} {t : TE} (hd : ∀ (f : Fr) (σ : L2.St) (F H : Hp), Sw X.K f es σ F H → ∃ d u, F d = some u ∧ dictO u ∧
    ∀ (f1 : Fr) (H1 : Hp) (od : Obj) (Q : VK), Sw X.K f1 es σ F H1 → H1 d = some (.frz od u) → (∀ v F' H' P, St0 F H1 F' H' → Ow.own X.K F' H' v x P → P.Nodup → (∀ p ∈ P, H1 p = none) → Q v H') → t σ H1 Q) : NRd X.K es (tOrE t) x := .mk fun f σ F H S Q q => by
  obtain ⟨d, u, hF, du, go⟩ := hd f σ F H S
  rcases S.sub d u hF with hH | ⟨_, od, hH⟩ | ⟨vs, e3, hH⟩
  · refine .inr ⟨d, u, hH, dict_mut du, fun od => ?_⟩
    refine go _ _ od _ (S.lock du hF) upd_same fun v F' H' P t1 o hn hp => ?_
    obtain ⟨l, t2⟩ := St0.unlock hF hH t1
    refine ⟨l, q v F' _ P t2 (own_off o (nn (t1.f d u hF))) hn fun p hp' => ?_⟩
    have z := hp p hp'
    have ne : p ≠ d := fun e => by rw [e, upd_same] at z; cases z
    rw [upd_ne ne] at z; exact z
  · exact .inl (go _ _ od _ (S.lock' hF hH) hH q)
  · rw [e3] at du
    exact du.elim
end
end Ly
namespace Ly
open PySem PySem.Spec PyProof.Rows L2 TL
/-! dicts -/
class Ky (κ : Type) [Sc κ] where
  key : κ → Key
  kv : ∀ k, kV (key k) = Sc.toV k
  inj : ∀ k l, key k = key l → k = l
instance : Ky Int := ⟨.inl, fun _ => rfl, fun _ _ h => by injection h⟩
instance : Ky Str := ⟨.inr, fun _ => rfl, fun _ _ h => by injection h⟩
structure Dct (κ α : Type) where
  l : List (κ × α)
section
variable {κ α : Type} [DecidableEq κ]
def look (l : List (κ × α)) (k : κ) : Option α := (l.find? fun p => decide (p.1 = k)).map (·.2)
def hasD (d : Dct κ α) (k : κ) : Bool := (look d.l k).isSome
def getD [Inhabited α] (d : Dct κ α) (k : κ) : α := (look d.l k).getD default
def getOr (d : Dct κ α) (k : κ) (x : α) : α := (look d.l k).getD x
def putL (l : List (κ × α)) (k : κ) (x : α) : List (κ × α) := if (look l k).isSome = true then l.map (fun p => if p.1 = k then (p.1, x) else p) else l ++ [(k, x)]
def putD (d : Dct κ α) (k : κ) (x : α) : Dct κ α := ⟨putL d.l k x⟩
def delD (d : Dct κ α) (k : κ) : Dct κ α := ⟨d.l.filter fun p => decide (p.1 ≠ k)⟩
def keysD (d : Dct κ α) : List κ := d.l.map (·.1)
def valsD (d : Dct κ α) : List α := d.l.map (·.2)
theorem look_cons (p : κ × α) (l : List (κ × α)) (k : κ) : look (p :: l) k = if p.1 = k then some p.2 else look l k := by
  unfold look
  rw [List.find?_cons]
  by_cases h : p.1 = k
  · rw [decide_eq_true h, if_pos h]; rfl
  · rw [decide_eq_false h, if_neg h]
theorem look_none {l : List (κ × α)} {k : κ} : look l k = none ↔ ∀ p ∈ l, p.1 ≠ k := by
  unfold look
  rw [Option.map_eq_none_iff, List.find?_eq_none]
  constructor
  · intro h p hp e
    exact h p hp (decide_eq_true e)
  · intro h p hp e
    exact h p hp (of_decide_eq_true e)
theorem look_mem {l : List (κ × α)} {k : κ} {x : α} (h : look l k = some x) : (k, x) ∈ l := by
  induction l with
  | nil => cases h
  | cons p l ih =>
    rw [look_cons] at h
    by_cases e : p.1 = k
    · rw [if_pos e] at h
      cases h
      rw [← e]; exact List.mem_cons_self
    · rw [if_neg e] at h
      exact List.mem_cons_of_mem _ (ih h)
theorem look_of_mem {l : List (κ × α)} {k : κ} {x : α} (nd : (l.map (·.1)).Nodup) (h : (k, x) ∈ l) : look l k = some x := by
  induction l with
  | nil => cases h
  | cons p l ih =>
    rw [List.map_cons, List.nodup_cons] at nd
    rw [look_cons]
    rcases List.mem_cons.mp h with e | e
    · rw [← e, if_pos rfl]
    · have ne : p.1 ≠ k := fun z => nd.1 (by rw [z]; exact List.mem_map.mpr ⟨_, e, rfl⟩)
      rw [if_neg ne]; exact ih nd.2 e
theorem putL_keys {l : List (κ × α)} {k : κ} {x : α} (h : (l.map (·.1)).Nodup) : ((putL l k x).map (·.1)).Nodup := by
  unfold putL
  by_cases c : (look l k).isSome = true
  · rw [if_pos c, List.map_map]
    have e : ((fun p : κ × α => p.1) ∘ fun p : κ × α => if p.1 = k then (p.1, x) else p) = fun p => p.1 := by
      funext p
      show (if p.1 = k then (p.1, x) else p).1 = p.1
      split <;> rfl
    rw [e]; exact h
  · rw [if_neg c, List.map_append]
    refine List.nodup_append.mpr ⟨h, by simp, fun a ha b hb e => ?_⟩
    have hb' : b = k := by simpa using hb
    obtain ⟨p, hp, rfl⟩ := List.mem_map.mp ha
    have z : look l k = none := by
      cases q : look l k with
      | none => rfl
      | some y => rw [q] at c; exact absurd rfl c
    exact look_none.mp z p hp (e.trans hb')
theorem putL_len (l : List (κ × α)) (k : κ) (x : α) : (putL l k x).length ≤ l.length + 1 := by
  unfold putL
  split
  · rw [List.length_map]; omega
  · rw [List.length_append]; exact Nat.le_refl _
theorem look_putL {l : List (κ × α)} {k j : κ} {x : α} : look (putL l k x) j = if j = k then some x else look l j := by
  unfold putL
  by_cases c : (look l k).isSome = true
  · rw [if_pos c]
    have key : ∀ m : List (κ × α), look (m.map fun p => if p.1 = k then (p.1, x) else p) j = (if j = k then (look m k).map (fun _ => x) else look m j) := by
      intro m
      induction m with
      | nil => unfold look; split <;> rfl
      | cons p m ih =>
        rw [List.map_cons, look_cons, look_cons, look_cons, ih]
        by_cases h1 : p.1 = k
        · rw [if_pos h1]
          by_cases h2 : j = k
          · rw [if_pos h2, if_pos (show (p.1, x).1 = j from h1.trans h2.symm), if_pos h1, if_pos h2]; rfl
          · rw [if_neg h2, if_neg (show ¬ (p.1, x).1 = j from fun z => h2 (z.symm.trans h1)), if_neg h2, if_neg (fun z => h2 (z.symm.trans h1))]
        · rw [if_neg h1, if_neg h1]
          by_cases h2 : j = k
          · rw [if_pos h2, if_neg (fun z => h1 (z.trans h2)), if_pos h2]
          · rw [if_neg h2, if_neg h2]
    rw [key l]
    by_cases h2 : j = k
    · rw [if_pos h2, if_pos h2]
      cases q : look l k with
      | none => rw [q] at c; cases c
      | some y => rfl
    · rw [if_neg h2, if_neg h2]
  · rw [if_neg c]
    have z : look l k = none := by
      cases q : look l k with
      | none => rfl
      | some y => rw [q] at c; exact absurd rfl c
    have key : ∀ m : List (κ × α), look m k = none → look (m ++ [(k, x)]) j = if j = k then some x else look m j := by
      intro m
      induction m with
      | nil =>
        intro _
        rw [List.nil_append, look_cons]
        by_cases h2 : j = k
        · rw [if_pos h2, if_pos (show (k, x).1 = j from h2.symm)]
        · rw [if_neg h2, if_neg (show ¬ (k, x).1 = j from fun e => h2 e.symm)]
      | cons p m ih =>
        intro hz
        rw [look_cons] at hz
        by_cases h1 : p.1 = k
        · rw [if_pos h1] at hz; cases hz
        · rw [if_neg h1] at hz
          rw [List.cons_append, look_cons, look_cons, ih hz]
          by_cases h2 : j = k
          · rw [if_pos h2, if_neg (fun e => h1 (e.trans h2)), if_pos h2]
          · rw [if_neg h2, if_neg h2]
    exact key l z
end
/-- an entry -/
def DR {κ α : Type} [Sc κ] [Ky κ] [Rp α] (K : PySem.W.Frag) (H : Hp) (p : Key × V) (q : κ × α) : Prop := p.1 = Ky.key q.1 ∧ Sc.ok q.1 ∧ Rp.rep K H p.2 q.2
instance clDct {κ α : Type} [Sc κ] [Ky κ] [Rp α] : Cl (Dct κ α) where
  cell K H o d := d.l.length ≤ big ∧ (d.l.map (·.1)).Nodup ∧ ∃ ks : List (Key × V), o = .dK ks ∧ Paired (DR K H) ks d.l
  mono {K H H' o d} i h := by
    obtain ⟨h1, h2, ks, e, r⟩ := h
    exact ⟨h1, h2, ks, e, Paired.mapP r fun _ _ z => ⟨z.1, z.2.1, Rp.mono i z.2.2⟩⟩
instance clmDct {κ α : Type} [Sc κ] [Ky κ] [Rp α] : Clm (Dct κ α) := ⟨fun h ks e => by
  obtain ⟨_, _, kvs, e2, _⟩ := h
  rw [e2] at e; cases e⟩
section
variable {κ α : Type} [Sc κ] [Ky κ] [Rp α] [DecidableEq κ] {K : PySem.W.Frag} {H F : Hp}
theorem dr_look {ks : List (Key × V)} {l : List (κ × α)} (r : Paired (DR K F) ks l) (k : κ) : (∃ v x, valV ks (Ky.key k) = some v ∧ look l k = some x ∧ Rp.rep K F v x) ∨ (valV ks (Ky.key k) = none ∧ look l k = none) := by
  induction r with
  | nil => exact .inr ⟨rfl, rfl⟩
  | @cons p q ps qs h t ih =>
    rw [look_cons]
    by_cases e : q.1 = k
    · rw [if_pos e, valV_pos (show p.1 = Ky.key k by rw [h.1, e])]
      exact .inl ⟨p.2, q.2, rfl, rfl, h.2.2⟩
    · rw [if_neg e, valV_neg (show ¬ p.1 = Ky.key k from fun z => e (Ky.inj _ _ (h.1.symm.trans z)))]
      exact ih
theorem dr_put {ks : List (Key × V)} {l : List (κ × α)} (r : Paired (DR K F) ks l) {k : κ} {v : V} {x : α} (hk : Sc.ok k) (hv : Rp.rep K F v x) : Paired (DR K F) (putK ks (Ky.key k) v) (putL l k x) := by
  unfold putK putL
  rw [valV_any]
  have e : (valV ks (Ky.key k)).isSome = (look l k).isSome := by
    rcases dr_look r k with ⟨v', x', h1, h2, _⟩ | ⟨h1, h2⟩
    · rw [h1, h2]; rfl
    · rw [h1, h2]; rfl
  rw [e]
  by_cases c : (look l k).isSome = true
  · rw [if_pos c, if_pos c]
    clear e c
    induction r with
    | nil => exact .nil
    | @cons p q ps qs h t ih =>
      rw [List.map_cons, List.map_cons]
      refine .cons ?_ ih
      by_cases e : q.1 = k
      · rw [if_pos e, if_pos (show p.1 = Ky.key k by rw [h.1, e])]
        exact ⟨h.1, h.2.1, hv⟩
      · rw [if_neg e, if_neg (show ¬ p.1 = Ky.key k from fun z => e (Ky.inj _ _ (h.1.symm.trans z)))]
        exact h
  · rw [if_neg c, if_neg c]
    exact pairedApp r (.cons ⟨rfl, hk, hv⟩ .nil)
theorem repD {d : Dct κ α} {v : V} (sb : Sub F H) (r : Rp.rep K F v d) : ∃ a ks, v = .ref a ∧ F a = some (.dK ks) ∧ Rd H a (.dK ks) ∧ d.l.length ≤ big ∧ (d.l.map (·.1)).Nodup ∧ Paired (DR K F) ks d.l := by
  obtain ⟨a, o, e, h1, h2, h3, ks, e2, r⟩ := r
  subst e2
  refine ⟨a, ks, e, h1, ?_, h2, h3, r⟩
  rcases sb a _ h1 with q | ⟨_, ob, q⟩ | ⟨_, e3, _⟩
  · exact .inl q
  · exact .inr ⟨ob, q⟩
  · cases e3
end
theorem un1 {n : Nat} (h : n + 64 < cLine) : n + 1 < cLine := Nat.lt_of_le_of_lt (Nat.add_le_add_left (by decide) n) h
section
variable {X : Cx} {es es1 es2 es3 : List En} {a b c e elt tg iter : Expr} {ifs : List Expr} {args : List Expr} {pos : Pos} {κ α β γ : Type} [Sc κ] [Ky κ] [DecidableEq κ] [Rp α] {i : Nat} {st : Stmt} {d : Dct κ α} {k : κ}
theorem f_dget [Inhabited α] (hu : X.A.units + 64 < cLine) (hk : hasD d k = true) (ha : FJ X es a d) (hb : RJ X es b k) (hs : NoSl b := by exact fun _ _ => rfl) : FJ X es (.Subscript a b pos) (getD d k) := .mk fun f σ F H S Q q =>
  peR (pe_dget (un1 hu) peW peW hs) (ha f σ F H S _ fun v F1 H1 t1 r1 => hb f σ F1 H1 (S.step t1) _ fun w F2 H2 t2 r2 => by
    obtain ⟨p, ks, e, hF, hR, _, _, rr⟩ := repD t2.e (Rp.mono t2.f r1)
    have e2 : w = Sc.toV k := r2.1
    unfold hasD at hk
    rcases dr_look rr k with ⟨v', x', h1, h2, h3⟩ | ⟨h1, h2⟩
    · refine ⟨p, v', e, .inl ⟨ks, Ky.key k, hR, by rw [e2, Ky.kv], h1.symm⟩, q v' F2 H2 (t1.trans t2) ?_⟩
      unfold getD
      rw [h2]; exact h3
    · rw [h2] at hk; cases hk)
theorem dr_is {K : PySem.W.Frag} {F : Hp} {ks : List (Key × V)} {l : List (κ × α)} (r : Paired (DR K F) ks l) (k : κ) : (valV ks (Ky.key k)).isSome = (look l k).isSome := by
  rcases dr_look r k with ⟨v', x', h1, h2, _⟩ | ⟨h1, h2⟩
  · rw [h1, h2]; rfl
  · rw [h1, h2]; rfl
theorem c_din {Q : VK} {f : Fr} {σ : L2.St} {F H : Hp} (S : Sw X.K f es σ F H) (ha : RJ X es a k) (hb : RJ X es b d) (r : Bool → Bool) (q : ∀ F' H', St0 F H F' H' → Q (.bl (r (hasD d k))) H') : wpE X a σ H fun y H1 => wpE X b σ H1 fun x H2 => ∃ p o, x = .ref p ∧ DGet H2 p y o ∧ Q (.bl (r o.isSome)) H2 :=
  ha f σ F H S _ fun v F1 H1 t1 r1 => hb f σ F1 H1 (S.step t1) _ fun w F2 H2 t2 r2 => by
    obtain ⟨p, ks, e, hF, hR, _, _, rr⟩ := repD (ovl_sub t2.e) r2
    have e2 : v = Sc.toV k := r1.1
    refine ⟨p, _, e, .inl ⟨ks, Ky.key k, hR, by rw [e2, Ky.kv], rfl⟩, ?_⟩
    rw [dr_is rr k]
    exact q F2 H2 (t1.trans t2)
theorem t_din (hu : X.A.units + 64 < cLine) (ha : RJ X es a k) (hb : RJ X es b d) (hm : behindInMarks .In b = false := by rfl) : TJ X es (.Compare a [.In] [b] pos) (hasD d k) := .mk fun f σ F H S Q q =>
  ptR (pt_cmp (pc_din (un1 hu) peW peW) hm) (c_din (Q := fun x H' => ∃ c, x = .bl c ∧ Q c H') S ha hb (fun c => c) fun F' H' t => ⟨_, rfl, q F' H' t⟩)
theorem t_dnin (hu : X.A.units + 64 < cLine) (ha : RJ X es a k) (hb : RJ X es b d) (hm : behindInMarks .NotIn b = false := by rfl) : TJ X es (.Compare a [.NotIn] [b] pos) (!hasD d k) := .mk fun f σ F H S Q q =>
  ptR (pt_cmp (pc_dnotin (un1 hu) peW peW) hm) (c_din (Q := fun x H' => ∃ c, x = .bl c ∧ Q c H') S ha hb (fun c => !c) fun F' H' t => ⟨_, rfl, q F' H' t⟩)
/-- {} -/
theorem n_dnew : NJ X es (.Dict [] [] pos) (Dct.mk ([] : List (κ × α))) := .mk fun f σ F H S Q q =>
  peR pe_dnewK fun p hp => q _ F _ [p] (St0.new S.sub hp) ⟨p, _, rfl, rfl, upd_same, sub_none S.sub hp, Nat.zero_le _, List.nodup_nil, [], rfl, .nil⟩ (by simp) fun z hz => by
    have e : z = p := by simpa using hz
    rw [e]; exact hp
/-- d[k] = x -/
theorem s_dput {e1 e2 : En} {x : α} (hu : X.A.units + 64 < cLine) (hst : PS X st (sDPut (tVar i) (wpE X b) (wpE X e))) (h : XJ X es e x es1) (hk : XJ X es1 b k es2) (hi : es2[i]? = some e1) (hl : Lent owCl d (putD d k x) e1 e2) (hz : d.l.length < big) (hes : es2.set i e2 = es3 := by rfl) (ha : alFree i es2 = true := by rfl)
    (h0 : ∃ e0 d0, es1[i]? = some e0 ∧ Lent owCl (d0 : Dct κ α) d0 e0 e0) : E1 X es st es3 := .mk fun f σ F H D S q =>
  psR hst (h f σ F H S _ fun v F1 H1 S1 i1 r1 => by
    obtain ⟨e0, d0, he0, hl0⟩ := h0
    have ref : ∃ l, sl σ i = some (.ref l) := by
      obtain ⟨Ps, p⟩ := S1.env
      have ok := p.ok i e0 he0
      cases hl0 with
      | ow =>
        obtain ⟨w, ew, l, o, el, _⟩ := ok
        exact ⟨l, by rw [ew, el]⟩
      | «at» c => exact ⟨c, ok.1⟩
      | ad c =>
        obtain ⟨w, ew, el, _⟩ := ok
        exact ⟨c, by rw [ew, el]⟩
    obtain ⟨l0, ev0⟩ := ref
    refine ⟨.ref l0, sl_of ev0, hk f σ F1 H1 S1 _ fun w F2 H2 S2 i2 r2 => ?_⟩
    obtain ⟨l, o, ev, h1, h2, ⟨hz2, nd, ks, eo, rr⟩, go⟩ := S2.cell hi hl ha
    subst eo hes
    rw [ev0] at ev
    cases ev
    have e2 : w = Sc.toV k := r2.1
    have hlen : ks.length < sizeLine := by rw [pairedLen rr]; exact big_lt (Nat.le_of_lt hz)
    refine ⟨l0, _, rfl, .inl ⟨ks, Ky.key k, h1, by rw [e2, Ky.kv], hlen, rfl⟩, q _ F2 _ (go _ ⟨?_, putL_keys nd, _, rfl, dr_put rr r2.2 (Rp.mono i2 r1)⟩)⟩
    exact Nat.le_trans (putL_len _ _ _) hz)
/-- dict(d) -/
theorem n_dictof {p : Pos} (hg : Gl X "dict") (hm : X.mg "dict" = none) (ha : FJ X es a d) (s1 : starEach [a] X.env = (false, eval a X.env) :: starEach [] X.env := by rfl) : NJ X es (.Call (.Name "dict" p) [a] [] pos) d := .mk fun f σ F H S Q q =>
  peR (pe_callTy call_dictD hg hm (by decide +kernel) (pa_cons peW pa_nil s1) (by decide) (by decide) s1) (ha f σ F H S _ fun v F1 H1 t1 r1 => by
    obtain ⟨p, ks, e, hF, hR, h1, h2, rr⟩ := repD t1.e r1
    exact ⟨p, ks, by rw [e], hR, fun p' hp => q _ F1 _ [p'] (t1.trans (St0.new t1.e hp)) ⟨p', _, rfl, rfl, upd_same, sub_none t1.e hp, h1, h2, ks, rfl, rr⟩ (by simp) fun z hz => by
      have e : z = p' := by simpa using hz
      rw [e]; exact t1.back hp⟩)
/-! a dict is walked -/
def YlK (K : PySem.W.Frag) (J : It) (p : Addr) (od : Obj) (u : HO) (F0 : Hp) [Rp γ] (xs : List γ) : Prop := xs.length ≤ big ∧ ∀ (i : Nat) (F H : Hp), Inc F0 F → H p = some (.frz od u) → Sub F H → (i = xs.length → J.stop i H) ∧ ∀ x, xs[i]? = some x → J.go i H ∧ ∀ v H', J.yld i H v H' → ∃ F', St0 F H F' H' ∧ Rp.rep K F' v x
/-- a thing that stands already -/
def PJ (X : Cx) (es : List En) (e : Expr) [Rp γ] (x : γ) : Prop := ∀ (f : Fr) (σ : L2.St) (F H : Hp), Sw X.K f es σ F H → ∃ v, Rp.rep X.K F v x ∧ ∀ (f1 : Fr) (H1 : Hp), Sw X.K f1 es σ F H1 → ∀ Q : VK, Q v H1 → wpE X e σ H1 Q
theorem p_var [Rp γ] {x : γ} (hv : PE X e (tVar i)) (h : es[i]? = some (.fz x) := by rfl) : PJ X es e x := fun f σ F H S => by
  obtain ⟨v, ev, r⟩ := S.fz h
  exact ⟨v, r, fun f1 H1 S1 Q q => peR hv ⟨v, ev, q⟩⟩
def IK (X : Cx) (tg : Expr) (es : List En) (iter : Expr) [Rp γ] (xs : List γ) : Prop := ∀ (f : Fr) (σ : L2.St) (F H : Hp), Sw X.K f es σ F H → ∃ p u, F p = some u ∧ dictO u ∧
  ∀ (f1 : Fr) (H1 : Hp) (od : Obj), Sw X.K f1 es σ F H1 → H1 p = some (.frz od u) → ∀ R : It → Hp → Prop, (∀ J, YlK X.K J p od u F xs → R J H1) → wpI X tg iter σ H1 R
theorem pairedM2 {γ δ : Type} {R R' : γ → δ → Prop} (h : ∀ a b, R a b → R' a b) {xs : List γ} {ys : List δ} (p : Paired R xs ys) : Paired R' xs ys := Paired.mapP p h
theorem getP {γ δ : Type} {R : γ → δ → Prop} {xs : List γ} {ys : List δ} (p : Paired R xs ys) {i : Nat} {y : δ} (h : ys[i]? = some y) : ∃ x, xs[i]? = some x ∧ R x y := by
  induction p generalizing i with
  | nil => simp at h
  | cons r t ih =>
    cases i with
    | zero =>
      rw [List.getElem?_cons_zero] at h
      cases h
      exact ⟨_, by simp, r⟩
    | succ i =>
      obtain ⟨x, h1, h2⟩ := ih (by simpa using h)
      exact ⟨x, by simpa using h1, h2⟩
theorem k_items {elts : List Expr} {kk : Nat} {tpos apos cpos : Pos} (h : PJ X es e d) (hbase : attributeBase e "items" X.env (eval e X.env) = eval e X.env := by rfl) (hline : (apos.endLine == cpos.line) = true := by rfl) : IK X (.Tuple elts kk tpos) es (.Call (.Attribute e "items" apos) [] [] cpos) d.l := fun f σ F H S => by
  obtain ⟨v, r, go⟩ := h f σ F H S
  obtain ⟨p, ks, ev, hF, _, hz, nd, rr⟩ := repD S.sub r
  subst ev
  refine ⟨p, _, hF, True.intro, fun f1 H1 od S1 hd R q => piR (pi_items peW hbase hline) (go f1 H1 S1 _ ⟨p, od, ks, rfl, hd, q _ ⟨hz, fun j F2 H2 i2 d2 s2 => ?_⟩⟩)⟩
  have hl : ks.length = d.l.length := pairedLen rr
  refine ⟨fun ej => ?_, fun x hx => ?_⟩
  · rw [← hl] at ej
    rw [ej]; exact walk_items.stops _ d2
  · obtain ⟨pk, hpk, dr⟩ := getP rr hx
    have jl : j < ks.length := (List.getElem?_eq_some_iff.mp hpk).1
    refine ⟨walk_items.goes j _ jl d2, fun v H' y => ?_⟩
    obtain ⟨T, a', b', ev, hT, eH, e1, e2⟩ := walk_items.yields j _ _ _ jl d2 y
    have e1 : (ks[j]?).map (fun kv => kV kv.1) = some a' := e1
    have e2 : (ks[j]?).map Prod.snd = some b' := e2
    rw [hpk] at e1 e2
    have e1 : kV pk.1 = a' := Option.some.inj e1
    have e2 : pk.2 = b' := Option.some.inj e2
    subst ev eH e1 e2
    have t := St0.new s2 hT (o := .tup [kV pk.1, pk.2])
    have n2 : F2 T = none := sub_none s2 hT
    refine ⟨_, t.freeze (P := [T]) fun z hz => ?_, T, _, rfl, (fzP_in (by simp)).trans upd_same, kV pk.1, pk.2, rfl, ?_, ?_⟩
    · have e : z = T := by simpa using hz
      rw [e]; exact ⟨n2, hT⟩
    · exact ⟨by rw [dr.1, Ky.kv], dr.2.1⟩
    · exact Rp.mono (i2.trans (fzP_inc fun z hz => by
        have e : z = T := by simpa using hz
        rw [e]; exact n2)) dr.2.2
theorem YlK.s {K : PySem.W.Frag} {J : It} {p : Addr} {od : Obj} {u : HO} {F0 : Hp} {f : Fr} [Rp γ] {xs : List γ} (h : YlK K J p od u F0 xs) (h1 : f.H p = some (.frz od u)) (h2 : ¬ f.io p) : YlS K J (f.at F0) xs := fun i F H st => h.2 i F H st.f (st.h p _ h2 h1) st.e
theorem YlK.h {K : PySem.W.Frag} {J : It} {p : Addr} {od : Obj} {u : HO} {F0 H0 : Hp} [Rp γ] {xs : List γ} (h : YlK K J p od u F0 xs) (h1 : H0 p = some (.frz od u)) : YlH K J F0 H0 xs := ⟨h.1, fun i F H i1 i2 s => h.2 i F H i1 (i2 p _ h1) s⟩
theorem s_forK {ρ : Type} {body : List Stmt} {tst : PassesOwn (model X.prog X.w) X.A X.env X.xe} {y0 : β} [Rp γ] {xs : List γ} {esf : β → List En} {est : β → γ → List En} {kr : ρ → Out} {g : β → γ → Fl β ρ} (hc : X.calm = true) (hi : IK X tg (esf y0) iter xs)
    (ht : ∀ y x, GJ X tg (esf y) x (est y x)) (hk : ∀ r, (kr r).rets = true) (hb : ∀ y x, At g xs y0 y x → ES X (est y x) body (flO esf kr (g y x))) (hs : ∀ x, foldedSetIterable iter X.env x = pure x := by intro _; rfl) : S1 X (esf y0) (.For tg iter body [] pos) (flN esf kr (forFl g xs y0)) :=
  s_lock (ps_for tst hc piW pgW pssW hs) fun f σ F H S => by
    obtain ⟨p, u, hF, du, go⟩ := hi f σ F H S
    refine ⟨p, u, hF, du, fun f1 H1 od D S1 h1 h2 q => for_core (F := F) (fun R k => ?_) ht hk hb q⟩
    refine go f1 H1 od S1 (S1.st.h p _ h2 h1) R fun J yl => k J F H1 S1 (Inc.refl _) (yl.s h1 h2)
theorem s_forKF {body : List Stmt} {tst : PassesOwn (model X.prog X.w) X.A X.env X.xe} {y0 : β} [Rp γ] {xs : List γ} {esf : β → List En} {est : β → γ → List En} {g : β → γ → β} (hc : X.calm = true) (hi : IK X tg (esf y0) iter xs)
    (ht : ∀ y x, GJ X tg (esf y) x (est y x)) (hb : ∀ y x, AtF g xs y0 y x → ES X (est y x) body (.nx (esf (g y x)))) (he : esf (xs.foldl g y0) = es2 := by rfl) (hs : ∀ x, foldedSetIterable iter X.env x = pure x := by intro _; rfl) : E1 X (esf y0) (.For tg iter body [] pos) es2 := by
  have z := s_forK (X := X) (tst := tst) (ρ := Empty) (g := fun y x => .nx (g y x)) (kr := fun r => nomatch r) (pos := pos) (body := body) hc hi ht (fun r => nomatch r) (fun y x hat => hb y x (by
    obtain ⟨pre, post, e, h⟩ := hat
    rw [forFl_fold] at h
    exact ⟨pre, post, e, by injection h⟩)) hs
  rw [forFl_fold] at z
  subst he
  exact z
/-- [g x for x in a dict's .. if p x] -/
theorem rd_lcK {scope : Scope} {vs : List Nat} [Rp γ] [Rp β] {xs : List γ} {p : γ → Bool} {g : γ → β} {est : γ → List En} (hi : IK X tg es iter xs) (hal : alFrees vs es = true := by rfl)
    (ht : ∀ (s : Shared) (H : Hp) (C : Addr) (cl : List (Str × Addr)) (fp : List Addr) x, CT (blkX X scope s H C cl fp) tg vs (wpd vs es) x (est x))
    (hp : ∀ (s : Shared) (H : Hp) (C : Addr) (cl : List (Str × Addr)) (fp : List Addr) x, x ∈ xs → IfJ (blkX X scope s H C cl fp) (est x) ifs (p x))
    (he : ∀ (s : Shared) (H : Hp) (C : Addr) (cl : List (Str × Addr)) (fp : List Addr) x, x ∈ xs → p x = true → FJ (blkX X scope s H C cl fp) (est x) elt (g x)) : NRd X.K es (tOrE (rdLc X scope tg iter elt ifs vs)) (given p g xs) :=
  rd_lock fun f σ F H S => by
    obtain ⟨d, u, hF, du, go⟩ := hi f σ F H S
    refine ⟨d, u, hF, du, fun f1 H1 od Q S1 hd q => lc_core S1 (fun R k => go f1 H1 od S1 hd R fun J yl => k J F H1 (St0.refl S1.sub) (yl.h hd)) hal ht hp he q⟩
end
end Ly
namespace Ly
open PySem PySem.Spec PyProof.Rows L2 TL
theorem noAls_set {α : Type} [Rp α] {x : α} : ∀ {es : List En} {i : Nat}, noAls es = true → noAls (es.set i (.fz x)) = true
  | [], _, h => h
  | e :: es, 0, h => by
    have h2 : noAls es = true := by cases e <;> first | exact h | cases h
    exact h2
  | e :: es, i + 1, h => by
    have h2 : noAls es = true := by cases e <;> first | exact h | cases h
    have z := noAls_set (x := x) (i := i) h2
    show noAls (e :: es.set i (.fz x)) = true
    cases e <;> first | exact z | cases h
/-! tuples of three and more -/
structure Tp3 (α β γ : Type) where
  a : α
  b : β
  c : γ
  deriving DecidableEq
instance {α β γ : Type} [Inhabited α] [Inhabited β] [Inhabited γ] : Inhabited (Tp3 α β γ) := ⟨⟨default, default, default⟩⟩
instance clTp3 {α β γ : Type} [Rp α] [Rp β] [Rp γ] : Cl (Tp3 α β γ) where
  cell K H o x := ∃ v0 v1 v2, o = .tup [v0, v1, v2] ∧ Rp.rep K H v0 x.a ∧ Rp.rep K H v1 x.b ∧ Rp.rep K H v2 x.c
  mono i h := by
    obtain ⟨v0, v1, v2, e, h0, h1, h2⟩ := h
    exact ⟨v0, v1, v2, e, Rp.mono i h0, Rp.mono i h1, Rp.mono i h2⟩
structure Tp4 (α β γ δ : Type) where
  a : α
  b : β
  c : γ
  d : δ
  deriving DecidableEq
instance {α β γ δ : Type} [Inhabited α] [Inhabited β] [Inhabited γ] [Inhabited δ] : Inhabited (Tp4 α β γ δ) := ⟨⟨default, default, default, default⟩⟩
instance clTp4 {α β γ δ : Type} [Rp α] [Rp β] [Rp γ] [Rp δ] : Cl (Tp4 α β γ δ) where
  cell K H o x := ∃ v0 v1 v2 v3, o = .tup [v0, v1, v2, v3] ∧ Rp.rep K H v0 x.a ∧ Rp.rep K H v1 x.b ∧ Rp.rep K H v2 x.c ∧ Rp.rep K H v3 x.d
  mono i h := by
    obtain ⟨v0, v1, v2, v3, e, h0, h1, h2, h3⟩ := h
    exact ⟨v0, v1, v2, v3, e, Rp.mono i h0, Rp.mono i h1, Rp.mono i h2, Rp.mono i h3⟩
structure Tp5 (α β γ δ ε : Type) where
  a : α
  b : β
  c : γ
  d : δ
  e : ε
  deriving DecidableEq
instance {α β γ δ ε : Type} [Inhabited α] [Inhabited β] [Inhabited γ] [Inhabited δ] [Inhabited ε] : Inhabited (Tp5 α β γ δ ε) := ⟨⟨default, default, default, default, default⟩⟩
instance clTp5 {α β γ δ ε : Type} [Rp α] [Rp β] [Rp γ] [Rp δ] [Rp ε] : Cl (Tp5 α β γ δ ε) where
  cell K H o x := ∃ v0 v1 v2 v3 v4, o = .tup [v0, v1, v2, v3, v4] ∧ Rp.rep K H v0 x.a ∧ Rp.rep K H v1 x.b ∧ Rp.rep K H v2 x.c ∧ Rp.rep K H v3 x.d ∧ Rp.rep K H v4 x.e
  mono i h := by
    obtain ⟨v0, v1, v2, v3, v4, e, h0, h1, h2, h3, h4⟩ := h
    exact ⟨v0, v1, v2, v3, v4, e, Rp.mono i h0, Rp.mono i h1, Rp.mono i h2, Rp.mono i h3, Rp.mono i h4⟩
section
variable {X : Cx} {es es1 es2 es3 : List En} {a b c e e0 e1 e2 e3 e4 elt tg iter : Expr} {ifs : List Expr} {args : List Expr} {pos : Pos} {α β γ δ ε : Type} {i j : Nat}
/-! tuples taken apart -/
theorem g_tup2 [Rp α] [Rp β] {x : α × β} (hg : PG X tg (gTup X.K 2 (gCons (gName i) (gCons (gName j) gNil)))) (hl : i < es.length ∧ j < es.length) (hal : noAls es = true := by rfl) : GJ X tg es x ((es.set i (.fz x.1)).set j (.fz x.2)) := fun f σ F H v S r Q q => by
  obtain ⟨p, o, e, h1, u, w, eo, r1, r2⟩ := r
  subst eo
  exact pgR hg ⟨p, _, e, .inl (.inl ((S.sub p _ h1).nd fun z => z)), rfl, u, _, rfl, w, _, rfl, rfl, q _ F H ((S.setF hl.1 r1 (noAls_of hal _)).setF (by simpa using hl.2) r2 (noAls_of (noAls_set hal) _)) (Inc.refl _)⟩
/-- a tuple's item at a literal place -/
theorem f_tp2a {k} {p2 : Pos} [Rp α] [Rp β] {x : α × β} (ha : FJ X es a x) : FJ X es (.Subscript a (.Constant (.int 0) k p2) pos) x.1 := .mk fun f σ F H S Q q =>
  peR (pe_ix ix_tup peW pe_int (fun _ _ => rfl)) (ha f σ F H S _ fun v F1 H1 t1 r1 => by
    obtain ⟨p, o, e, h1, u, w, eo, r2, r3⟩ := r1
    subst eo
    exact ⟨p, _, 0, u, e, rfl, .inl (.inl ((t1.e p _ h1).nd fun z => z)), rfl, q _ F1 H1 t1 r2⟩)
theorem f_tp2b {k} {p2 : Pos} [Rp α] [Rp β] {x : α × β} (ha : FJ X es a x) : FJ X es (.Subscript a (.Constant (.int 1) k p2) pos) x.2 := .mk fun f σ F H S Q q =>
  peR (pe_ix ix_tup peW pe_int (fun _ _ => rfl)) (ha f σ F H S _ fun v F1 H1 t1 r1 => by
    obtain ⟨p, o, e, h1, u, w, eo, r2, r3⟩ := r1
    subst eo
    exact ⟨p, _, 1, w, e, rfl, .inl (.inl ((t1.e p _ h1).nd fun z => z)), rfl, q _ F1 H1 t1 r3⟩)
theorem f_tup3 {k} [Rp α] [Rp β] [Rp γ] {x0 : α} {x1 : β} {x2 : γ} (h0 : FJ X es e0 x0) (h1 : FJ X es e1 x1) (h2 : FJ X es e2 x2) (s0 : starEach [e0, e1, e2] X.env = (false, eval e0 X.env) :: starEach [e1, e2] X.env := by rfl) (s1 : starEach [e1, e2] X.env = (false, eval e1 X.env) :: starEach [e2] X.env := by rfl) (s2 : starEach [e2] X.env = (false, eval e2 X.env) :: starEach [] X.env := by rfl) : FJ X es (.Tuple [e0, e1, e2] k pos) (Tp3.mk x0 x1 x2) := .mk fun f σ F H S Q q =>
  peR (pe_tup (pa_cons peW (pa_cons peW (pa_cons peW pa_nil s2) s1) s0)) (h0 f σ F H S _ fun v0 F0 H0 t0 r0 => h1 f σ F0 H0 (S.step t0) _ fun v1 F1 H1 t1 r1 => h2 f σ F1 H1 ((S.step t0).step t1) _ fun v2 F2 H2 t2 r2 => ⟨show 3 ≤ sizeLine by decide, fun p hp => by
    have t := newC (o := .tup [v0, v1, v2]) t2.e hp
    exact q _ _ _ (((t0.trans t1).trans t2).trans t) ⟨p, _, rfl, upd_same, v0, v1, v2, rfl, Rp.mono (t1.f.trans (t2.f.trans t.f)) r0, Rp.mono (t2.f.trans t.f) r1, Rp.mono t.f r2⟩⟩)
theorem g_tup3 {i0 i1 i2 : Nat} [Rp α] [Rp β] [Rp γ] {x : Tp3 α β γ} (hg : PG X tg (gTup X.K 3 (gCons (gName i0) (gCons (gName i1) (gCons (gName i2) gNil))))) (hl : i0 < es.length ∧ i1 < es.length ∧ i2 < es.length) (hal : noAls es = true := by rfl) : GJ X tg es x (((es.set i0 (.fz x.a)).set i1 (.fz x.b)).set i2 (.fz x.c)) := fun f σ F H v S r Q q => by
  obtain ⟨p, o, e, h1, v0, v1, v2, eo, r0, r1, r2⟩ := r
  subst eo
  exact pgR hg ⟨p, _, e, .inl (.inl ((S.sub p _ h1).nd fun z => z)), rfl, v0, _, rfl, v1, _, rfl, v2, _, rfl, rfl, q _ F H ((((S).setF (by simpa using hl.1) r0 (noAls_of hal _)).setF (by simpa using hl.2.1) r1 (noAls_of (noAls_set hal) _)).setF (by simpa using hl.2.2) r2 (noAls_of (noAls_set (noAls_set hal)) _)) (Inc.refl _)⟩
theorem f_tp3c {k} {p2 : Pos} [Rp α] [Rp β] [Rp γ] {x : Tp3 α β γ} (ha : FJ X es a x) : FJ X es (.Subscript a (.Constant (.int 2) k p2) pos) x.c := .mk fun f σ F H S Q q =>
  peR (pe_ix ix_tup peW pe_int (fun _ _ => rfl)) (ha f σ F H S _ fun v F1 H1 t1 r1 => by
    obtain ⟨p, o, e, h1, v0, v1, v2, eo, r0, r1, r2⟩ := r1
    subst eo
    exact ⟨p, _, 2, v2, e, rfl, .inl (.inl ((t1.e p _ h1).nd fun z => z)), rfl, q _ F1 H1 t1 r2⟩)
theorem f_tup4 {k} [Rp α] [Rp β] [Rp γ] [Rp δ] {x0 : α} {x1 : β} {x2 : γ} {x3 : δ} (h0 : FJ X es e0 x0) (h1 : FJ X es e1 x1) (h2 : FJ X es e2 x2) (h3 : FJ X es e3 x3) (s0 : starEach [e0, e1, e2, e3] X.env = (false, eval e0 X.env) :: starEach [e1, e2, e3] X.env := by rfl) (s1 : starEach [e1, e2, e3] X.env = (false, eval e1 X.env) :: starEach [e2, e3] X.env := by rfl) (s2 : starEach [e2, e3] X.env = (false, eval e2 X.env) :: starEach [e3] X.env := by rfl) (s3 : starEach [e3] X.env = (false, eval e3 X.env) :: starEach [] X.env := by rfl) : FJ X es (.Tuple [e0, e1, e2, e3] k pos) (Tp4.mk x0 x1 x2 x3) := .mk fun f σ F H S Q q =>
  peR (pe_tup (pa_cons peW (pa_cons peW (pa_cons peW (pa_cons peW pa_nil s3) s2) s1) s0)) (h0 f σ F H S _ fun v0 F0 H0 t0 r0 => h1 f σ F0 H0 (S.step t0) _ fun v1 F1 H1 t1 r1 => h2 f σ F1 H1 ((S.step t0).step t1) _ fun v2 F2 H2 t2 r2 => h3 f σ F2 H2 (((S.step t0).step t1).step t2) _ fun v3 F3 H3 t3 r3 => ⟨show 4 ≤ sizeLine by decide, fun p hp => by
    have t := newC (o := .tup [v0, v1, v2, v3]) t3.e hp
    exact q _ _ _ ((((t0.trans t1).trans t2).trans t3).trans t) ⟨p, _, rfl, upd_same, v0, v1, v2, v3, rfl, Rp.mono (t1.f.trans (t2.f.trans (t3.f.trans t.f))) r0, Rp.mono (t2.f.trans (t3.f.trans t.f)) r1, Rp.mono (t3.f.trans t.f) r2, Rp.mono t.f r3⟩⟩)
theorem x_tup4 {k} {q0 q1 q2 q3 q4 : List En} [Rp α] [Rp β] [Rp γ] [Rp δ] {x0 : α} {x1 : β} {x2 : γ} {x3 : δ} (h0 : XJ X q0 e0 x0 q1) (h1 : XJ X q1 e1 x1 q2) (h2 : XJ X q2 e2 x2 q3) (h3 : XJ X q3 e3 x3 q4) (s0 : starEach [e0, e1, e2, e3] X.env = (false, eval e0 X.env) :: starEach [e1, e2, e3] X.env := by rfl) (s1 : starEach [e1, e2, e3] X.env = (false, eval e1 X.env) :: starEach [e2, e3] X.env := by rfl) (s2 : starEach [e2, e3] X.env = (false, eval e2 X.env) :: starEach [e3] X.env := by rfl) (s3 : starEach [e3] X.env = (false, eval e3 X.env) :: starEach [] X.env := by rfl) : XJ X q0 (.Tuple [e0, e1, e2, e3] k pos) (Tp4.mk x0 x1 x2 x3) q4 := .mk fun f σ F H S Q q =>
  peR (pe_tup (pa_cons peW (pa_cons peW (pa_cons peW (pa_cons peW pa_nil s3) s2) s1) s0)) (h0 f σ F H S _ fun v0 F0 H0 S0 t0 r0 => h1 f σ F0 H0 S0 _ fun v1 F1 H1 S1 t1 r1 => h2 f σ F1 H1 S1 _ fun v2 F2 H2 S2 t2 r2 => h3 f σ F2 H2 S2 _ fun v3 F3 H3 S3 t3 r3 => ⟨show 4 ≤ sizeLine by decide, fun p hp => by
    have t := newC (o := .tup [v0, v1, v2, v3]) S3.sub hp
    exact q _ _ _ (S3.step t) ((((t0.trans t1).trans t2).trans t3).trans t.f) ⟨p, _, rfl, upd_same, v0, v1, v2, v3, rfl, Rp.mono (t1.trans (t2.trans (t3.trans t.f))) r0, Rp.mono (t2.trans (t3.trans t.f)) r1, Rp.mono (t3.trans t.f) r2, Rp.mono t.f r3⟩⟩)
theorem f_tp4a {k} {p2 : Pos} [Rp α] [Rp β] [Rp γ] [Rp δ] {x : Tp4 α β γ δ} (ha : FJ X es a x) : FJ X es (.Subscript a (.Constant (.int 0) k p2) pos) x.a := .mk fun f σ F H S Q q =>
  peR (pe_ix ix_tup peW pe_int (fun _ _ => rfl)) (ha f σ F H S _ fun v F1 H1 t1 r1 => by
    obtain ⟨p, o, e, h1, v0, v1, v2, v3, eo, r0, r1, r2, r3⟩ := r1
    subst eo
    exact ⟨p, _, 0, v0, e, rfl, .inl (.inl ((t1.e p _ h1).nd fun z => z)), rfl, q _ F1 H1 t1 r0⟩)
theorem f_tp4b {k} {p2 : Pos} [Rp α] [Rp β] [Rp γ] [Rp δ] {x : Tp4 α β γ δ} (ha : FJ X es a x) : FJ X es (.Subscript a (.Constant (.int 1) k p2) pos) x.b := .mk fun f σ F H S Q q =>
  peR (pe_ix ix_tup peW pe_int (fun _ _ => rfl)) (ha f σ F H S _ fun v F1 H1 t1 r1 => by
    obtain ⟨p, o, e, h1, v0, v1, v2, v3, eo, r0, r1, r2, r3⟩ := r1
    subst eo
    exact ⟨p, _, 1, v1, e, rfl, .inl (.inl ((t1.e p _ h1).nd fun z => z)), rfl, q _ F1 H1 t1 r1⟩)
theorem f_tp4c {k} {p2 : Pos} [Rp α] [Rp β] [Rp γ] [Rp δ] {x : Tp4 α β γ δ} (ha : FJ X es a x) : FJ X es (.Subscript a (.Constant (.int 2) k p2) pos) x.c := .mk fun f σ F H S Q q =>
  peR (pe_ix ix_tup peW pe_int (fun _ _ => rfl)) (ha f σ F H S _ fun v F1 H1 t1 r1 => by
    obtain ⟨p, o, e, h1, v0, v1, v2, v3, eo, r0, r1, r2, r3⟩ := r1
    subst eo
    exact ⟨p, _, 2, v2, e, rfl, .inl (.inl ((t1.e p _ h1).nd fun z => z)), rfl, q _ F1 H1 t1 r2⟩)
theorem f_tp4d {k} {p2 : Pos} [Rp α] [Rp β] [Rp γ] [Rp δ] {x : Tp4 α β γ δ} (ha : FJ X es a x) : FJ X es (.Subscript a (.Constant (.int 3) k p2) pos) x.d := .mk fun f σ F H S Q q =>
  peR (pe_ix ix_tup peW pe_int (fun _ _ => rfl)) (ha f σ F H S _ fun v F1 H1 t1 r1 => by
    obtain ⟨p, o, e, h1, v0, v1, v2, v3, eo, r0, r1, r2, r3⟩ := r1
    subst eo
    exact ⟨p, _, 3, v3, e, rfl, .inl (.inl ((t1.e p _ h1).nd fun z => z)), rfl, q _ F1 H1 t1 r3⟩)
/-! walks over pairs -/
def zipN (xs : List α) : List (Int × α) := xs.zipIdx.map fun p => ((p.2 : Int), p.1)
/-- an own slot is frozen from here on -/
theorem es_frz {sts : List Stmt} {out : Out} [Ow α] {x : α} (hi : es[i]? = some (.ow x)) (h : ES X es1 sts out) (he : es.set i (@En.fz α Ow.rp x) = es1 := by rfl) (ha : alFree i es = true := by rfl) : ES X es sts out := .mk fun f σ F H D S q => by
  obtain ⟨v, F', ev, inc, r, S'⟩ := S.frz1 hi (noAl_of ha)
  subst he
  exact h f σ F' H D S' q
end
end Ly
namespace Ly
open PySem PySem.Spec PyProof.Rows L2 TL
def setI {α : Type} (xs : List α) (k : Int) (y : α) : List α := xs.take k.toNat ++ y :: xs.drop (k.toNat + 1)
section
variable {X : Cx} {es es1 es2 es3 : List En} {a b c e elt tg iter : Expr} {ifs : List Expr} {args : List Expr} {pos : Pos} {α β γ : Type} {i j : Nat} {st : Stmt} {rest : List Stmt} {out : Out}
/-! comprehensions whose walk has an effect -/
def IHX (X : Cx) (tg : Expr) (es : List En) (iter : Expr) [Rp α] (xs : List α) (es1 : List En) : Prop := ∀ (f : Fr) (σ : L2.St) (F H : Hp), Sw X.K f es σ F H → ∀ R : It → Hp → Prop, (∀ J F' H', Sw X.K f es1 σ F' H' → Inc F F' → YlH X.K J F' H' xs → R J H') → wpI X tg iter σ H R
end
end Ly
/-! == of data that hold dicts -/
namespace PySem.SeqAt
open AutoSeq1 (wpAny_loadPart')
open MeetsSeq MeetsSeq2 MeetsSeq3 SeqRoads2
section
variable {pr : Program} {ww : World}
theorem ly_neLoop (p q : Addr) (us vs : Array Value) (m m2 : Nat) (dp dq : Option Addr) (sp sq : Array (Option Value)) (hz : us.size = vs.size) (c : Nat → Bool) (k : Nat) :
    ∀ i : Nat, us.size - i = k → MeetsIn pr ww (Builtin.«list.__eq__.loop» ⟨[.ref p, .ref q, rawInt i, rawInt 3], []⟩)
      (fun A R s => s.heap.get? p = some { cls := .type "list", dict := dp, data := .seq us m, slots := sp } ∧ s.heap.get? q = some { cls := .type "list", dict := dq, data := .seq vs m2, slots := sq } ∧
        (∀ j (j1 : j < us.size) (j2 : j < vs.size), EqIn pr ww A.in1 s us[j] vs[j] (c j)) ∧
        R (.ok (.ret (.bool (!((List.range us.size).drop i).all c)))) s) := by
  induction k with
  | zero =>
    intro i hk A R s z
    obtain ⟨hp, g, d, tk, os⟩ := s; obtain ⟨z1, z2, zc, z⟩ := z
    wp_walk using wpAny_loadPart' z1, wpAny_loadPart' z2
    have n1 : us[((i : Nat) : Int).toNat]? = none := by simp; omega
    have n2 : vs[((i : Nat) : Int).toNat]? = none := by simp; omega
    have n3 : (List.range us.size).drop i = [] := by simp; omega
    rw [n3] at z
    rw [n1, n2]
    wp_walk using wpAny_loadPart' z1, wpAny_loadPart' z2
    show R (.ok (.ret (.bool (us.size != vs.size)))) _
    rw [hz]
    simpa using z
  | succ k ih =>
    intro i hk A R s z
    obtain ⟨hp, g, d, tk, os⟩ := s; obtain ⟨z1, z2, zc, z⟩ := z
    wp_walk using wpAny_loadPart' z1, wpAny_loadPart' z2
    have l1 : i < us.size := by omega
    have l2 : i < vs.size := by omega
    have n1 : us[((i : Nat) : Int).toNat]? = some us[i] := by simp [l1]
    have n2 : vs[((i : Nat) : Int).toNat]? = some vs[i] := by simp [l2]
    have n3 : (List.range us.size).drop i = i :: (List.range us.size).drop (i + 1) := by simp [List.drop_eq_getElem_cons, l1]
    have n4 : ((i : Int) + 1) = ((i + 1 : Nat) : Int) := by push_cast; rfl
    rw [n3, List.all_cons] at z
    rw [n1, n2]
    refine wpAny_bind (zc i l1 l2 _ _ ?_)
    cases bb : c i with
    | true =>
      rw [bb] at z
      wp_walk
      rw [n4]
      exact ⟨plainId_quiet plain_eq_loop _, codeAny_builtin entry_eq_loop (by
        rw [Around.under_plainId plain_eq_loop _]
        exact ih (i + 1) (by omega) A R _ ⟨z1, z2, zc, by simpa using z⟩)⟩
    | false =>
      rw [bb] at z
      wp_walk using wpAny_loadPart' z1, wpAny_loadPart' z2
      rw [n1, n2]
      wp_walk
      simpa using z
theorem ly_neList (p q : Addr) (us vs : Array Value) (m m2 : Nat) (dp dq : Option Addr) (sp sq : Array (Option Value)) (hz : us.size = vs.size) (c : Nat → Bool) :
    MeetsIn pr ww (Builtin.«list.__ne__» ⟨[.ref p, .ref q], []⟩)
      (fun A R s => s.heap.get? p = some { cls := .type "list", dict := dp, data := .seq us m, slots := sp } ∧ s.heap.get? q = some { cls := .type "list", dict := dq, data := .seq vs m2, slots := sq } ∧
        (∀ j (j1 : j < us.size) (j2 : j < vs.size), EqIn pr ww A.in1 s us[j] vs[j] (c j)) ∧
        R (.ok (.ret (.bool (!(List.range us.size).all c)))) s) := by
  intro A R s z
  obtain ⟨hp, g, d, tk, os⟩ := s; obtain ⟨z1, z2, zc, z⟩ := z
  have f3 := AutoSeq1.sub_list_list
  have nn : ¬ (us.size != vs.size) = true := by simp [hz]
  wp_walk using wpAny_loadPart' z1, wpAny_loadPart' z2
  exact ⟨plainId_quiet plain_eq_loop _, codeAny_builtin entry_eq_loop (by
    rw [Around.under_plainId plain_eq_loop _]
    exact ly_neLoop p q us vs m m2 dp dq sp sq hz c _ 0 rfl A R _ ⟨z1, z2, zc, by simpa using z⟩)⟩
theorem ly_neTuple (p q : Addr) (us vs : Array Value) (m m2 : Nat) (dp dq : Option Addr) (sp sq : Array (Option Value)) (c : Nat → Bool) :
    MeetsIn pr ww (Builtin.«tuple.__ne__» ⟨[.ref p, .ref q], []⟩)
      (fun A R s => s.heap.get? p = some { cls := .type "tuple", dict := dp, data := .seq us m, slots := sp } ∧ s.heap.get? q = some { cls := .type "tuple", dict := dq, data := .seq vs m2, slots := sq } ∧
        (∀ j (j1 : j < us.size) (j2 : j < vs.size), EqIn pr ww A.in1 s us[j] vs[j] (c j)) ∧
        R (.ok (.ret (.bool (!((List.range (min us.size vs.size)).all c && us.size == vs.size))))) s) := 
  .of_wp fun A R s z => by
    obtain ⟨hp, g, d, tk, os⟩ := s; obtain ⟨z1, z2, zc, z⟩ := z
    have f2 := AutoSeq1.sub_tuple_tuple
    have zl : (us.toList.zip vs.toList).length = min us.size vs.size := by simp
    wp_walk using wpAny_loadPart' z1, wpAny_loadPart' z2, wpAny_forIn_list _ (fun rest r s' => r.1 = none ∧ s' = ⟨hp, g, d, tk, os⟩ ∧ ∃ i, rest = (us.toList.zip vs.toList).drop i ∧
      R (.ok (.ret (.bool (!(((List.range (min us.size vs.size)).drop i).all c && us.size == vs.size))))) ⟨hp, g, d, tk, os⟩) _
    case turn =>
      rintro ⟨y, x⟩ rest r s' ⟨r0, rfl, i, ez, zR⟩
      have il : i < (us.toList.zip vs.toList).length := by
        rcases Nat.lt_or_ge i (us.toList.zip vs.toList).length with o | o
        · exact o
        · rw [List.drop_of_length_le o] at ez; cases ez
      have im : i < min us.size vs.size := zl ▸ il
      have i1 : i < us.size := Nat.lt_of_lt_of_le im (Nat.min_le_left _ _)
      have i2 : i < vs.size := Nat.lt_of_lt_of_le im (Nat.min_le_right _ _)
      rw [List.drop_eq_getElem_cons il] at ez
      injection ez with e1 e2
      have ey : y = us[i] := by have := congrArg Prod.fst e1; simpa using this
      have ex : x = vs[i] := by have := congrArg Prod.snd e1; simpa using this
      subst ey ex
      have ed : (List.range (min us.size vs.size)).drop i = i :: (List.range (min us.size vs.size)).drop (i + 1) := by simp [List.drop_eq_getElem_cons, im]
      rw [ed, List.all_cons] at zR
      refine wpAny_bind (zc i i1 i2 _ _ ?_)
      cases bb : c i with
      | true =>
        rw [bb] at zR
        wp_walk
        exact ⟨rfl, rfl, i + 1, e2, by simpa using zR⟩
      | false =>
        rw [bb] at zR
        wp_walk
        exact ⟨_, rfl, by simpa using zR⟩
    case fin =>
      rintro ⟨b1, b2⟩ s' ⟨r0, rfl, i, ez, zR⟩
      simp only at r0
      subst r0
      have ig : min us.size vs.size ≤ i := by
        rcases Nat.lt_or_ge i (us.toList.zip vs.toList).length with o | o
        · rw [List.drop_eq_getElem_cons o] at ez; cases ez
        · exact zl ▸ o
      rw [List.drop_of_length_le (by simpa using ig)] at zR
      wp_walk
      exact ⟨_, rfl, by simpa [Builtin.Tuple.tupleCompareSizes, bne] using zR⟩
    case h =>
      exact ⟨rfl, rfl, 0, rfl, by simpa using z⟩
end
section
variable {pr : Program} {ww : World} {A : Around} {s : Shared} {E Q : Value → Shared → Prop}
theorem ly_rcNeL {p q : Addr} {us vs : Array Value} {c : Nat → Bool} (z1 : s.heap.IsList p us) (z2 : s.heap.IsList q vs) (hz : us.size = vs.size) (hu : A.units < cLine)
    (zc : ∀ j (j1 : j < us.size) (j2 : j < vs.size), EqIn pr ww A.in1 s us[j] vs[j] (c j)) (k : Q (.bool (!(List.range us.size).all c)) s) : wpAny (model pr ww) A (richCompare .NotEq (.ref p) (.ref q)) Q E s := by
  obtain ⟨⟨k1, d1, o1, s1⟩, g1, w1, m1, t1⟩ := id z1
  obtain ⟨⟨k2, d2, o2, s2⟩, g2, w2, m2, t2⟩ := id z2
  simp only at w1 t1 w2 t2
  subst w1 t1 w2 t2
  exact wpAny_richCompare_same_room (T := "list") (op := .NotEq) ⟨_, g1, rfl⟩ ⟨_, g2, rfl⟩ F.slot_list_ne (call_meetsIn F.slot_list_ne ⟨_, g1, rfl⟩ F.entry_list_ne (F.args_list_ne_2 _ _) (ly_neList p q us vs m1 m2 d1 d2 s1 s2 hz c)
    ⟨g1, g2, zc, show Value.bool (!(List.range us.size).all c) ≠ Value.notImplemented ∧ Q (.bool (!(List.range us.size).all c)) s from ⟨(fun x => nomatch x), k⟩⟩) hu
theorem ly_rcNeT {p q : Addr} {us vs : Array Value} {c : Nat → Bool} (z1 : s.heap.IsTuple p us) (z2 : s.heap.IsTuple q vs) (hu : A.units < cLine)
    (zc : ∀ j (j1 : j < us.size) (j2 : j < vs.size), EqIn pr ww A.in1 s us[j] vs[j] (c j)) (k : Q (.bool (!((List.range (min us.size vs.size)).all c && us.size == vs.size))) s) : wpAny (model pr ww) A (richCompare .NotEq (.ref p) (.ref q)) Q E s := by
  obtain ⟨⟨k1, d1, o1, s1⟩, g1, w1, m1, t1⟩ := id z1
  obtain ⟨⟨k2, d2, o2, s2⟩, g2, w2, m2, t2⟩ := id z2
  simp only at w1 t1 w2 t2
  subst w1 t1 w2 t2
  exact wpAny_richCompare_same_room (T := "tuple") (op := .NotEq) ⟨_, g1, rfl⟩ ⟨_, g2, rfl⟩ F.slot_tuple_ne (call_meetsIn F.slot_tuple_ne ⟨_, g1, rfl⟩ F.entry_tuple_ne (F.args_tuple_ne_2 _ _) (ly_neTuple p q us vs m1 m2 d1 d2 s1 s2 c)
    ⟨g1, g2, zc, show Value.bool (!((List.range (min us.size vs.size)).all c && us.size == vs.size)) ≠ Value.notImplemented ∧ Q (.bool (!((List.range (min us.size vs.size)).all c && us.size == vs.size))) s from ⟨(fun x => nomatch x), k⟩⟩) hu
end
end PySem.SeqAt
namespace PySem.W
open PySem PySem.Calls PyProof.Rows PyProof.V PySem.Spec
section
variable {pr : Program} {ww : World} {K : Type} [DecidableEq K] {kd : KeyKind pr ww K} {A : Around} {E : Value → Shared → Prop} {s : Shared}
theorem ly_rcNeD {p q : Addr} {k1 k2 : List (K × Value)} {r : Bool} {Q : Value → Shared → Prop} (hp : (p == sysModules) = false) (hq : (q == sysModules) = false)
    (d1 : s.heap.DictOf kd p k1) (d2 : s.heap.DictOf kd q k2) (hu : A.units < cLine) (hi : k1.length = k2.length → KeqHitsIn pr ww A.in1 s k2 k1 r) (z : Q (.bool (!(k1.length == k2.length && r))) s) :
    wpAny (model pr ww) A (compareOp .NotEq (.ref p) (.ref q)) Q E s := by
  refine wpAny_richCompare_same_room (op := .NotEq) d1.typeIs d2.typeIs PySem.F.slot_dict_ne (wpAny_call_entry PySem.F.slot_dict_ne d1.typeIs PySem.F.entry_dict_ne ?_ (PySem.F.args_dict_ne_2 _ _)) hu
  show wpAny _ _ (Builtin.Dict.dictSlotArgs "__ne__" ⟨[.ref p, .ref q], []⟩ >>= _) _ _ s
  refine wpAny_bind ?_
  unfold Builtin.Dict.dictSlotArgs
  refine wpAny_bind (wpAny_notOrdered_dict d1.typeIs ?_)
  show wpAny _ _ (pure (Value.ref p, Value.ref q)) _ _ s
  refine wpAny_pure ?_
  refine wpAny_bind (wpAny_isInstance (T := "dict") d2.typeIs PySem.F.sub_dict_dict ?_)
  rw [Bool.not_true, if_neg Bool.false_ne_true]
  refine wpAny_bind (wpAny_pure (wpAny_bind (wpAny_pure ?_)))
  refine wpAny_bind (keq_samePairsIn hp hq d1 d2 hi ?_)
  refine wpAny_pure ⟨_, rfl, ?_, ?_⟩
  · exact fun x => nomatch x
  · simpa using z
end
end PySem.W
namespace Ly
open PySem PySem.Spec PyProof.Rows L2
def EqS (X : Cx) (H : Hp) (n : Nat) (x y : V) (b : Bool) : Prop := ∀ (pins : List (Addr × Obj)) (σ : L2.St) (s : Shared) (v u : Value), Inv X pins σ H s → RelV x v → RelV y u → PySem.W.EqTree X.prog X.w s n v u b
def RcS (X : Cx) (H : Hp) (n : Nat) (op : CmpOp) (x y : V) (b : Bool) : Prop := ∀ (pins : List (Addr × Obj)) (σ : L2.St) (s : Shared) (v u : Value), Inv X pins σ H s → RelV x v → RelV y u → ∀ A : Around, A.units + n < cLine → ∀ E Q : Value → Shared → Prop, Q (.bool b) s → wpAny (model X.prog X.w) A (richCompare op v u) Q E s
class EqB (α : Type) [Rp α] where
  eqb : α → α → Bool
  dep : Nat
  tree : ∀ {X : Cx} {F H : Hp} {v w : V} {x y : α}, Sub F H → Rp.rep X.K F v x → Rp.rep X.K F w y → EqS X H dep v w (eqb x y)
  eq : ∀ {X : Cx} {F H : Hp} {v w : V} {x y : α}, Sub F H → Rp.rep X.K F v x → Rp.rep X.K F w y → RcS X H dep .Eq v w (eqb x y)
  ne : ∀ {X : Cx} {F H : Hp} {v w : V} {x y : α}, Sub F H → Rp.rep X.K F v x → Rp.rep X.K F w y → RcS X H dep .NotEq v w (!eqb x y)
  same : ∀ {K : PySem.W.Frag} {F : Hp} {v : V} {x y : α}, Rp.rep K F v x → Rp.rep K F v y → eqb x y = true
def eqb {α : Type} [Rp α] [EqB α] (x y : α) : Bool := EqB.eqb x y
section
variable {X : Cx} {H : Hp} {n : Nat} {a b : Addr} {xs ys : List V}
/-- items by places -/
def atE (f : V → V → Bool) (xs ys : List V) (j : Nat) : Bool := match xs[j]?, ys[j]? with
  | some x, some y => f x y
  | _, _ => true
theorem vals_at : ∀ {xs : List V} {us : List Value}, Vals xs us → ∀ (j : Nat) (h : j < us.length), ∃ x, xs[j]? = some x ∧ RelV x us[j]
  | _, _, .nil, j, h => absurd h (Nat.not_lt_zero j)
  | _, _, .cons r t, 0, _ => ⟨_, rfl, r⟩
  | _, _, .cons r t, j + 1, h => vals_at t j (Nat.lt_of_succ_lt_succ h)
theorem list_trees (c : Nat → Bool) (ha : SqL X.K H a xs) (hb : SqL X.K H b ys) (hc : ∀ (j : Nat) x y, xs[j]? = some x → ys[j]? = some y → EqS X H n x y (c j)) :
    (a ≠ b → EqS X H (n + 1) (.ref a) (.ref b) (xs.length == ys.length && (List.range xs.length).all c)) ∧ RcS X H (n + 1) .Eq (.ref a) (.ref b) (xs.length == ys.length && (List.range xs.length).all c) ∧ RcS X H (n + 1) .NotEq (.ref a) (.ref b) (!(xs.length == ys.length && (List.range xs.length).all c)) := by
  have key : ∀ (pins : List (Addr × Obj)) (σ : L2.St) (s : Shared), Inv X pins σ H s → ∃ us ws : List Value, s.heap.IsList a us.toArray ∧ s.heap.IsList b ws.toArray ∧ us.length = xs.length ∧ ws.length = ys.length ∧
      ∀ j (h1 : j < us.toArray.size) (h2 : j < ws.toArray.size), PySem.W.EqTree X.prog X.w s n us.toArray[j] ws.toArray[j] (c j) := fun pins σ s I => by
    obtain ⟨us, r1, p1, _⟩ := I.list ha
    obtain ⟨ws, r2, p2, _⟩ := I.list hb
    refine ⟨us, ws, p1.isList, p2.isList, r1.length.symm, r2.length.symm, fun j h1 h2 => ?_⟩
    obtain ⟨x, ex, rx⟩ := vals_at r1 j (by simpa using h1)
    obtain ⟨y, ey, ry⟩ := vals_at r2 j (by simpa using h2)
    have z := hc j x y ex ey pins σ s _ _ I rx ry
    simpa using z
  refine ⟨fun hne pins σ s v u I rv ru => ?_, fun pins σ s v u I rv ru A hu E Q q => ?_, fun pins σ s v u I rv ru A hu E Q q => ?_⟩
  all_goals
    cases (show v = Value.ref a from rv)
    cases (show u = Value.ref b from ru)
    obtain ⟨us, ws, l1, l2, e1, e2, t⟩ := key pins σ s I
    by_cases hl : xs.length = ys.length
  · have hz : us.toArray.size = ws.toArray.size := by simp [e1, e2, hl]
    have z := PySem.W.EqTree.lists hne l1 l2 hz t
    have e : (xs.length == ys.length && (List.range xs.length).all c) = (List.range us.toArray.size).all c := by simp [hl, e1]
    rw [e]; exact z
  · have z := PySem.W.EqTree.listsLen (prog := X.prog) (w := X.w) (n := n) hne l1 l2 (by simp [e1, e2, hl])
    have e : (xs.length == ys.length && (List.range xs.length).all c) = false := by simp [hl]
    rw [e]; exact z
  · have hz : us.toArray.size = ws.toArray.size := by simp [e1, e2, hl]
    have e : (xs.length == ys.length && (List.range xs.length).all c) = (List.range us.toArray.size).all c := by simp [hl, e1]
    rw [e] at q
    exact PySem.W.eq_listsT l1 l2 hz t hu q
  · have e : (xs.length == ys.length && (List.range xs.length).all c) = false := by simp [hl]
    rw [e] at q
    exact SeqAt.RcAt.lists_lengths l1 l2 (by simp [e1, e2, hl]) (by omega) X.prog X.w E Q q
  · have hz : us.toArray.size = ws.toArray.size := by simp [e1, e2, hl]
    have e : (xs.length == ys.length && (List.range xs.length).all c) = (List.range us.toArray.size).all c := by simp [hl, e1]
    rw [e] at q
    exact SeqAt.ly_rcNeL l1 l2 hz (by omega) (fun j h1 h2 => (t j h1 h2).at A.in1 (by show A.units + 1 + _ < cLine; omega)) q
  · have e : (xs.length == ys.length && (List.range xs.length).all c) = false := by simp [hl]
    rw [e] at q
    exact SeqAt.RcNeAt.lists_lengths l1 l2 (by simp [e1, e2, hl]) (by omega) X.prog X.w E Q q
theorem tup_trees (c : Nat → Bool) (ha : SqT X.K H a xs) (hb : SqT X.K H b ys) (hl : xs.length = ys.length) (hc : ∀ (j : Nat) x y, xs[j]? = some x → ys[j]? = some y → EqS X H n x y (c j)) :
    (a ≠ b → EqS X H (n + 1) (.ref a) (.ref b) ((List.range xs.length).all c)) ∧ RcS X H (n + 1) .Eq (.ref a) (.ref b) ((List.range xs.length).all c) ∧ RcS X H (n + 1) .NotEq (.ref a) (.ref b) (!((List.range xs.length).all c)) := by
  have key : ∀ (pins : List (Addr × Obj)) (σ : L2.St) (s : Shared), Inv X pins σ H s → ∃ us ws : List Value, s.heap.IsTuple a us.toArray ∧ s.heap.IsTuple b ws.toArray ∧ us.length = xs.length ∧ ws.length = ys.length ∧
      ∀ j (h1 : j < us.toArray.size) (h2 : j < ws.toArray.size), PySem.W.EqTree X.prog X.w s n us.toArray[j] ws.toArray[j] (c j) := fun pins σ s I => by
    obtain ⟨us, r1, ⟨o, h1, h2, m, h3⟩, _⟩ := I.tuple ha
    obtain ⟨ws, r2, ⟨o2, k1, k2, m2, k3⟩, _⟩ := I.tuple hb
    refine ⟨us, ws, ⟨o, h1, h2, m, h3⟩, ⟨o2, k1, k2, m2, k3⟩, r1.length.symm, r2.length.symm, fun j h1 h2 => ?_⟩
    obtain ⟨x, ex, rx⟩ := vals_at r1 j (by simpa using h1)
    obtain ⟨y, ey, ry⟩ := vals_at r2 j (by simpa using h2)
    have z := hc j x y ex ey pins σ s _ _ I rx ry
    simpa using z
  refine ⟨fun hne pins σ s v u I rv ru => ?_, fun pins σ s v u I rv ru A hu E Q q => ?_, fun pins σ s v u I rv ru A hu E Q q => ?_⟩
  all_goals
    cases (show v = Value.ref a from rv)
    cases (show u = Value.ref b from ru)
    obtain ⟨us, ws, l1, l2, e1, e2, t⟩ := key pins σ s I
    have e : (List.range xs.length).all c = ((List.range (min us.toArray.size ws.toArray.size)).all c && us.toArray.size == ws.toArray.size) := by simp [hl, e1, e2]
  · rw [e]; exact PySem.W.EqTree.tuples hne l1 l2 t
  · rw [e] at q
    exact PySem.W.eq_tuplesT l1 l2 t hu q
  · rw [e] at q
    exact SeqAt.ly_rcNeT l1 l2 (by omega) (fun j h1 h2 => (t j h1 h2).at A.in1 (by show A.units + 1 + _ < cLine; omega)) q
theorem kv_at {κ : Type} : ∀ {ks : List (κ × V)} {vs : List (κ × Value)}, KV ks vs → ∀ {i : Nat} {k : κ} {v : Value}, vs[i]? = some (k, v) → ∃ x, ks[i]? = some (k, x) ∧ RelV x v
  | _, _, .nil, i, k, v, h => by cases h
  | p :: _, _, .cons r t, 0, k, v, h => by
    have e := Option.some.inj h
    subst e
    exact ⟨p.2, by rw [← show p.1 = k from r.1]; rfl, r.2⟩
  | _, _, .cons r t, i + 1, k, v, h => kv_at t h
theorem dict_trees {ks ls : List (Key × V)} (c : Key → Bool) (ha : Rd H a (.dK ks)) (hb : Rd H b (.dK ls)) (hc : ∀ k x y, (k, x) ∈ ks → valV ls k = some y → EqS X H n x y (c k)) :
    (a ≠ b → EqS X H (n + 1) (.ref a) (.ref b) (ks.length == ls.length && ks.all fun p => (valV ls p.1).isSome && c p.1)) ∧ RcS X H (n + 1) .Eq (.ref a) (.ref b) (ks.length == ls.length && ks.all fun p => (valV ls p.1).isSome && c p.1) ∧ RcS X H (n + 1) .NotEq (.ref a) (.ref b) (!(ks.length == ls.length && ks.all fun p => (valV ls p.1).isSome && c p.1)) := by
  have alls : ∀ {ks : List (Key × V)} {va : List (Key × Value)} {vb : List (Key × Value)}, KV ks va → KV ls vb → (va.all fun p => (valueAt vb p.1).isSome && c p.1) = (ks.all fun p => (valV ls p.1).isSome && c p.1) := by
    intro ks va vb r1 r2
    unfold KV at r1
    induction r1 with
    | nil => rfl
    | @cons p q ps qs h t k =>
      rw [List.all_cons, List.all_cons, k]
      have rr := r2.val q.1
      rw [← h.1] at rr ⊢
      congr 2
      cases e1 : valV ls p.1 with
      | none => rw [e1] at rr; rw [show valueAt vb p.1 = none from by cases e2 : valueAt vb p.1 with
          | none => rfl
          | some z => rw [e2] at rr; exact rr.elim]
                rfl
      | some z => rw [e1] at rr; obtain ⟨y, hy, _⟩ := rr.some_of; rw [hy]; rfl
  have key : ∀ (pins : List (Addr × Obj)) (σ : L2.St) (s : Shared), Inv X pins σ H s → ∃ va vb : List (Key × Value), (a == sysModules) = false ∧ (b == sysModules) = false ∧ s.heap.DictOf (mixKind X.prog X.w) a va ∧ s.heap.DictOf (mixKind X.prog X.w) b vb ∧ (ks.length == ls.length && ks.all fun p => (valV ls p.1).isSome && c p.1) = (va.length == vb.length && va.all fun p => (valueAt vb p.1).isSome && c p.1) ∧
      ∀ k v y, (k, v) ∈ va → valueAt vb k = some y → PySem.W.EqTree X.prog X.w s n v y (c k) := fun pins σ s I => by
    obtain ⟨_, ya, va, ra, da⟩ := dk_rd I.hok ha
    obtain ⟨_, yb, vb, rb, db⟩ := dk_rd I.hok hb
    refine ⟨va, vb, ya, yb, da, db, by rw [alls ra rb, ra.length, rb.length], fun k v y hm hy => ?_⟩
    obtain ⟨i, hi, e⟩ := List.getElem_of_mem hm
    obtain ⟨x, hx, rx⟩ := kv_at ra (i := i) (k := k) (v := v) (by rw [List.getElem?_eq_getElem hi, e])
    have rr := rb.val k
    rw [hy] at rr
    cases e1 : valV ls k with
    | none => rw [e1] at rr; exact rr.elim
    | some z =>
      rw [e1] at rr
      exact hc k x z (List.mem_of_getElem? hx) e1 pins σ s _ _ I rx rr
  refine ⟨fun hne pins σ s v u I rv ru => ?_, fun pins σ s v u I rv ru A hu E Q q => ?_, fun pins σ s v u I rv ru A hu E Q q => ?_⟩
  all_goals
    cases (show v = Value.ref a from rv)
    cases (show u = Value.ref b from ru)
    obtain ⟨va, vb, ya, yb, da, db, e, t⟩ := key pins σ s I
  · rw [e]; exact PySem.W.EqTree.dicts hne ya yb da db t
  · rw [e] at q
    exact PySem.W.eq_dictsT ya yb da db t hu q
  · rw [e] at q
    exact PySem.W.ly_rcNeD ya yb da db (by omega) (fun _ => PySem.W.KeqHitsIn.of _ fun k v y hm hv => (t k v y hm hv).at A.in1 (by show A.units + 1 + _ < cLine; omega)) q
end
/-! scalars -/
theorem sc_eq {α : Type} [Sc α] [DecidableEq α] [ScE α] {K : PySem.W.Frag} {F : Hp} {v : V} {x y : α} (r1 : Rp.rep K F v x) (r2 : Rp.rep K F v y) : decide (x = y) = true := by
  refine decide_eq_true ?_
  have e : Sc.toV x = Sc.toV y := r1.1.symm.trans r2.1
  have z := ScE.dec x y
  rw [decide_eq_true e] at z
  exact of_decide_eq_true z.symm
instance : EqB Int where
  eqb x y := decide (x = y)
  dep := 0
  tree _ r1 r2 := fun pins σ s v u I rv ru => by
    rw [r1.1] at rv; rw [r2.1] at ru
    obtain ⟨t, rfl⟩ := rv
    obtain ⟨t2, rfl⟩ := ru
    refine .leaf fun A _ => ?_
    rw [← Bool.beq_eq_decide_eq]
    exact SeqAt.EqAt.int_int _ t _ t2
  eq _ r1 r2 := fun pins σ s v u I rv ru A hu E Q q => by
    rw [r1.1] at rv; rw [r2.1] at ru
    obtain ⟨t, rfl⟩ := rv
    obtain ⟨t2, rfl⟩ := ru
    rw [← Bool.beq_eq_decide_eq] at q
    exact SeqAt.RcAt.int_int _ t _ t2 _ _ E Q q
  ne _ r1 r2 := fun pins σ s v u I rv ru A hu E Q q => by
    rw [r1.1] at rv; rw [r2.1] at ru
    obtain ⟨t, rfl⟩ := rv
    obtain ⟨t2, rfl⟩ := ru
    rw [← Bool.beq_eq_decide_eq] at q
    exact SeqAt.RcNeAt.int_int _ t _ t2 _ _ E Q q
  same r1 r2 := sc_eq r1 r2
instance : EqB Str where
  eqb x y := decide (x = y)
  dep := 0
  tree _ r1 r2 := fun pins σ s v u I rv ru => by
    rw [r1.1] at rv; rw [r2.1] at ru
    obtain ⟨t, rfl⟩ := rv
    obtain ⟨t2, rfl⟩ := ru
    refine .leaf fun A _ => ?_
    rw [← Bool.beq_eq_decide_eq]
    exact SeqAt.EqAt.str_str _ t _ t2
  eq _ r1 r2 := fun pins σ s v u I rv ru A hu E Q q => by
    rw [r1.1] at rv; rw [r2.1] at ru
    obtain ⟨t, rfl⟩ := rv
    obtain ⟨t2, rfl⟩ := ru
    rw [← Bool.beq_eq_decide_eq] at q
    exact SeqAt.RcAt.str_str _ t _ t2 _ _ E Q q
  ne _ r1 r2 := fun pins σ s v u I rv ru A hu E Q q => by
    rw [r1.1] at rv; rw [r2.1] at ru
    obtain ⟨t, rfl⟩ := rv
    obtain ⟨t2, rfl⟩ := ru
    rw [← Bool.beq_eq_decide_eq] at q
    exact SeqAt.RcNeAt.str_str _ t _ t2 _ _ E Q q
  same r1 r2 := sc_eq r1 r2
instance : EqB Bool where
  eqb x y := decide (x = y)
  dep := 0
  tree _ r1 r2 := fun pins σ s v u I rv ru => by
    rw [r1.1] at rv; rw [r2.1] at ru
    cases rv
    cases ru
    refine .leaf fun A _ => ?_
    rw [← Bool.beq_eq_decide_eq]
    exact SeqAt.EqAt.bool_bool _ _
  eq _ r1 r2 := fun pins σ s v u I rv ru A hu E Q q => by
    rw [r1.1] at rv; rw [r2.1] at ru
    cases rv
    cases ru
    rw [← Bool.beq_eq_decide_eq] at q
    exact SeqAt.RcAt.bool_bool _ _ _ _ E Q q
  ne _ r1 r2 := fun pins σ s v u I rv ru A hu E Q q => by
    rw [r1.1] at rv; rw [r2.1] at ru
    cases rv
    cases ru
    rw [← Bool.beq_eq_decide_eq] at q
    exact SeqAt.RcNeAt.bool_bool _ _ _ _ E Q q
  same r1 r2 := sc_eq r1 r2
/-! lists -/
section
variable {α β γ δ ε : Type}
def eqbL [Rp α] [EqB α] : List α → List α → Bool
  | [], [] => true
  | x :: xs, y :: ys => eqb x y && eqbL xs ys
  | _, _ => false
def eqAtL [Rp α] [EqB α] (xs ys : List α) (j : Nat) : Bool := match xs[j]?, ys[j]? with
  | some x, some y => eqb x y
  | _, _ => true
theorem eqbL_range [Rp α] [EqB α] : ∀ xs ys : List α, eqbL xs ys = (xs.length == ys.length && (List.range xs.length).all (eqAtL xs ys))
  | [], [] => rfl
  | [], _ :: _ => rfl
  | _ :: _, [] => rfl
  | x :: xs, y :: ys => by
    show (eqb x y && eqbL xs ys) = _
    rw [eqbL_range xs ys, List.length_cons, List.length_cons, List.range_succ_eq_map, List.all_cons, List.all_map]
    show (eqb x y && _) = (_ && (eqb x y && (List.range xs.length).all (eqAtL xs ys)))
    rw [show (xs.length + 1 == ys.length + 1) = (xs.length == ys.length) from by rw [Bool.eq_iff_iff]; simp]
    cases eqb x y <;> simp
theorem paired_get2 [Rp α] {K : PySem.W.Frag} {F : Hp} {vs : List V} {xs : List α} (r : Paired (Rp.rep K F) vs xs) {j : Nat} {v : V} (h : vs[j]? = some v) : ∃ x, xs[j]? = some x ∧ Rp.rep K F v x := by
  induction r generalizing j with
  | nil => cases h
  | cons a b ih =>
    cases j with
    | zero => cases h; exact ⟨_, rfl, a⟩
    | succ j => exact ih h
theorem eqbL_same [Rp α] [EqB α] {K : PySem.W.Frag} {F : Hp} : ∀ {vs : List V} {xs ys : List α}, Paired (Rp.rep K F) vs xs → Paired (Rp.rep K F) vs ys → eqbL xs ys = true
  | _, _, _, .nil, .nil => rfl
  | _, _, _, .cons r1 t1, .cons r2 t2 => by
    show (eqb _ _ && eqbL _ _) = true
    rw [eqbL_same t1 t2, show eqb _ _ = true from EqB.same r1 r2]; rfl
theorem Sub.refl (F : Hp) : Sub F F := fun a o h => .inl h
theorem list_same [Rp α] [EqB α] {K : PySem.W.Frag} {F : Hp} {v : V} {xs ys : List α} (r1 : Rp.rep K F v xs) (r2 : Rp.rep K F v ys) : eqbL xs ys = true := by
  obtain ⟨p, vs, e1, _, f1, p1⟩ := repL (Sub.refl F) r1
  obtain ⟨q, ws, e2, _, f2, p2⟩ := repL (Sub.refl F) r2
  subst e1
  cases e2
  rw [f1] at f2
  cases f2
  exact eqbL_same p1 p2
theorem list_eqb [Rp α] [EqB α] {X : Cx} {F H : Hp} {v w : V} {xs ys : List α} (s : Sub F H) (r1 : Rp.rep X.K F v xs) (r2 : Rp.rep X.K F w ys) :
    EqS X H (EqB.dep α + 1) v w (eqbL xs ys) ∧ RcS X H (EqB.dep α + 1) .Eq v w (eqbL xs ys) ∧ RcS X H (EqB.dep α + 1) .NotEq v w (!eqbL xs ys) := by
  obtain ⟨p, vs, e1, h1, f1, p1⟩ := repL s r1
  obtain ⟨q, ws, e2, h2, f2, p2⟩ := repL s r2
  have sm := fun e : v = w => list_same r1 (e ▸ r2)
  subst e1 e2
  have z := list_trees (X := X) (n := EqB.dep α) (eqAtL xs ys) (.inl (.inl h1)) (.inl (.inl h2)) fun j x y hx hy => by
    obtain ⟨x', ex, rx⟩ := paired_get2 p1 hx
    obtain ⟨y', ey, ry⟩ := paired_get2 p2 hy
    have e : eqAtL xs ys j = eqb x' y' := by unfold eqAtL; rw [ex, ey]
    rw [e]
    exact EqB.tree s rx ry
  rw [pairedLen p1, pairedLen p2, ← eqbL_range] at z
  refine ⟨?_, z.2.1, z.2.2⟩
  by_cases c : p = q
  · subst c
    rw [sm rfl]
    exact fun pins σ s v u I rv ru => by cases rv; cases ru; exact .same
  · exact z.1 c
instance eqbList [Rp α] [EqB α] : EqB (List α) where
  eqb := eqbL
  dep := EqB.dep α + 1
  tree s r1 r2 := (list_eqb s r1 r2).1
  eq s r1 r2 := (list_eqb s r1 r2).2.1
  ne s r1 r2 := (list_eqb s r1 r2).2.2
  same r1 r2 := list_same r1 r2
/-! tuples -/
theorem EqS.mono {X : Cx} {H : Hp} {n m : Nat} {x y : V} {b : Bool} (h : EqS X H n x y b) (hm : n ≤ m) : EqS X H m x y b := by
  have key : ∀ {P : Program} {W : World} {s : Shared} {n : Nat} {v y : Value} {b : Bool}, PySem.W.EqTree P W s n v y b → ∀ {m : Nat}, n ≤ m → PySem.W.EqTree P W s m v y b := by
    intro P W s n v y b t
    induction t with
    | leaf h => exact fun hm => .leaf fun A hu => h A (by omega)
    | same => exact fun _ => .same
    | lists a1 a2 a3 a4 _ ih =>
      intro m hm
      obtain ⟨k, rfl⟩ : ∃ k, m = k + 1 := ⟨m - 1, by omega⟩
      exact .lists a1 a2 a3 a4 fun j h1 h2 => ih j h1 h2 (by omega)
    | listsLen a1 a2 a3 a4 =>
      intro m hm
      obtain ⟨k, rfl⟩ : ∃ k, m = k + 1 := ⟨m - 1, by omega⟩
      exact .listsLen a1 a2 a3 a4
    | tuples a1 a2 a3 _ ih =>
      intro m hm
      obtain ⟨k, rfl⟩ : ∃ k, m = k + 1 := ⟨m - 1, by omega⟩
      exact .tuples a1 a2 a3 fun j h1 h2 => ih j h1 h2 (by omega)
    | dicts a1 a2 a3 a4 a5 _ ih =>
      intro m hm
      obtain ⟨k, rfl⟩ : ∃ k, m = k + 1 := ⟨m - 1, by omega⟩
      exact .dicts a1 a2 a3 a4 a5 fun j h1 h2 h3 h4 => ih j h1 h2 h3 h4 (by omega)
  exact fun pins σ s v u I rv ru => key (h pins σ s v u I rv ru) hm
theorem tup_core {X : Cx} {H : Hp} {n : Nat} {a b : Addr} {xs ys : List V} {bs : List Bool} (ha : H a = some (.tup xs)) (hb : H b = some (.tup ys)) (l1 : xs.length = bs.length) (l2 : ys.length = bs.length) (hs : a = b → bs.all id = true)
    (hc : ∀ (j : Nat) x y c, xs[j]? = some x → ys[j]? = some y → bs[j]? = some c → EqS X H n x y c) : EqS X H (n + 1) (.ref a) (.ref b) (bs.all id) ∧ RcS X H (n + 1) .Eq (.ref a) (.ref b) (bs.all id) ∧ RcS X H (n + 1) .NotEq (.ref a) (.ref b) (!bs.all id) := by
  have z := tup_trees (X := X) (H := H) (n := n) (a := a) (b := b) (fun j => bs.getD j false) (.inl (.inl ha)) (.inl (.inl hb)) (by omega) fun j x y hx hy => by
    have hj : j < bs.length := by have := get_lt hx; omega
    exact hc j x y _ hx hy (by rw [List.getD_eq_getElem?_getD, List.getElem?_eq_getElem hj]; rfl)
  rw [l1, L2.all_range] at z
  refine ⟨?_, z.2⟩
  by_cases c : a = b
  · rw [hs c]
    subst c
    exact fun pins σ s v u I rv ru => by cases rv; cases ru; exact .same
  · exact z.1 c
theorem tupR {F H : Hp} {p : Addr} {l : List V} (s : Sub F H) (h : F p = some (.tup l)) : H p = some (.tup l) := (s p _ h).nd fun z => z
theorem pair_same [Rp α] [EqB α] [Rp β] [EqB β] {K : PySem.W.Frag} {F : Hp} {v : V} {x y : α × β} (r1 : Rp.rep K F v x) (r2 : Rp.rep K F v y) : [eqb x.1 y.1, eqb x.2 y.2].all id = true := by
  obtain ⟨p, o, e1, f1, a, b, eo, ra, rb⟩ := r1
  obtain ⟨q, o2, e2, f2, a2, b2, eo2, ra2, rb2⟩ := r2
  subst e1 eo eo2
  cases e2
  rw [f1] at f2
  cases f2
  simp [show eqb x.1 y.1 = true from EqB.same ra ra2, show eqb x.2 y.2 = true from EqB.same rb rb2]
theorem pair_eqb [Rp α] [EqB α] [Rp β] [EqB β] {X : Cx} {F H : Hp} {v w : V} {x y : α × β} (s : Sub F H) (r1 : Rp.rep X.K F v x) (r2 : Rp.rep X.K F w y) :
    EqS X H (max (EqB.dep α) (EqB.dep β) + 1) v w ([eqb x.1 y.1, eqb x.2 y.2].all id) ∧ RcS X H (max (EqB.dep α) (EqB.dep β) + 1) .Eq v w ([eqb x.1 y.1, eqb x.2 y.2].all id) ∧ RcS X H (max (EqB.dep α) (EqB.dep β) + 1) .NotEq v w (![eqb x.1 y.1, eqb x.2 y.2].all id) := by
  have sm := fun e : v = w => pair_same r1 (e ▸ r2)
  obtain ⟨p, o, e1, f1, a, b, eo, ra, rb⟩ := r1
  obtain ⟨q, o2, e2, f2, a2, b2, eo2, ra2, rb2⟩ := r2
  subst e1 eo e2 eo2
  refine tup_core (tupR s f1) (tupR s f2) rfl rfl (fun e => sm (by rw [e])) fun j u w c hu hw hc => ?_
  match j, hu, hw, hc with
  | 0, hu, hw, hc => cases hu; cases hw; cases hc; exact (EqB.tree s ra ra2).mono (by omega)
  | 1, hu, hw, hc => cases hu; cases hw; cases hc; exact (EqB.tree s rb rb2).mono (by omega)
instance eqbPair [Rp α] [EqB α] [Rp β] [EqB β] : EqB (α × β) where
  eqb x y := [eqb x.1 y.1, eqb x.2 y.2].all id
  dep := max (EqB.dep α) (EqB.dep β) + 1
  tree s r1 r2 := (pair_eqb s r1 r2).1
  eq s r1 r2 := (pair_eqb s r1 r2).2.1
  ne s r1 r2 := (pair_eqb s r1 r2).2.2
  same r1 r2 := pair_same r1 r2
theorem tp3_same [Rp α] [EqB α] [Rp β] [EqB β] [Rp γ] [EqB γ] {K : PySem.W.Frag} {F : Hp} {v : V} {x y : Tp3 α β γ} (r1 : Rp.rep K F v x) (r2 : Rp.rep K F v y) : [eqb x.a y.a, eqb x.b y.b, eqb x.c y.c].all id = true := by
  obtain ⟨p, o, e1, f1, a, b, c, eo, ra, rb, rc⟩ := r1
  obtain ⟨q, o2, e2, f2, a2, b2, c2, eo2, ra2, rb2, rc2⟩ := r2
  subst e1 eo eo2
  cases e2
  rw [f1] at f2
  cases f2
  simp [show eqb x.a y.a = true from EqB.same ra ra2, show eqb x.b y.b = true from EqB.same rb rb2, show eqb x.c y.c = true from EqB.same rc rc2]
theorem tp3_eqb [Rp α] [EqB α] [Rp β] [EqB β] [Rp γ] [EqB γ] {X : Cx} {F H : Hp} {v w : V} {x y : Tp3 α β γ} (s : Sub F H) (r1 : Rp.rep X.K F v x) (r2 : Rp.rep X.K F w y) :
    EqS X H (max (EqB.dep α) (max (EqB.dep β) (EqB.dep γ)) + 1) v w ([eqb x.a y.a, eqb x.b y.b, eqb x.c y.c].all id) ∧ RcS X H (max (EqB.dep α) (max (EqB.dep β) (EqB.dep γ)) + 1) .Eq v w ([eqb x.a y.a, eqb x.b y.b, eqb x.c y.c].all id) ∧ RcS X H (max (EqB.dep α) (max (EqB.dep β) (EqB.dep γ)) + 1) .NotEq v w (![eqb x.a y.a, eqb x.b y.b, eqb x.c y.c].all id) := by
  have sm := fun e : v = w => tp3_same r1 (e ▸ r2)
  obtain ⟨p, o, e1, f1, a, b, c, eo, ra, rb, rc⟩ := r1
  obtain ⟨q, o2, e2, f2, a2, b2, c2, eo2, ra2, rb2, rc2⟩ := r2
  subst e1 eo e2 eo2
  refine tup_core (tupR s f1) (tupR s f2) rfl rfl (fun e => sm (by rw [e])) fun j u w c hu hw hc => ?_
  match j, hu, hw, hc with
  | 0, hu, hw, hc => cases hu; cases hw; cases hc; exact (EqB.tree s ra ra2).mono (by omega)
  | 1, hu, hw, hc => cases hu; cases hw; cases hc; exact (EqB.tree s rb rb2).mono (by omega)
  | 2, hu, hw, hc => cases hu; cases hw; cases hc; exact (EqB.tree s rc rc2).mono (by omega)
instance eqbTp3 [Rp α] [EqB α] [Rp β] [EqB β] [Rp γ] [EqB γ] : EqB (Tp3 α β γ) where
  eqb x y := [eqb x.a y.a, eqb x.b y.b, eqb x.c y.c].all id
  dep := max (EqB.dep α) (max (EqB.dep β) (EqB.dep γ)) + 1
  tree s r1 r2 := (tp3_eqb s r1 r2).1
  eq s r1 r2 := (tp3_eqb s r1 r2).2.1
  ne s r1 r2 := (tp3_eqb s r1 r2).2.2
  same r1 r2 := tp3_same r1 r2
end
/-! dicts -/
section
variable {κ α : Type} [Sc κ] [Ky κ] [DecidableEq κ] [Rp α] [EqB α]
/-- the same keys, the same values -/
def eqbD (d e : Dct κ α) : Bool := d.l.length == e.l.length && d.l.all fun p => match look e.l p.1 with
  | some y => eqb p.2 y
  | none => false
def eqKey (d e : List (κ × α)) (k : Key) : Bool := match d.find? (fun p => decide (Ky.key p.1 = k)), e.find? (fun p => decide (Ky.key p.1 = k)) with
  | some p, some q => eqb p.2 q.2
  | _, _ => true
theorem find_key {l : List (κ × α)} (k : κ) : (l.find? fun p => decide ((Ky.key p.1 : Key) = Ky.key k)) = l.find? fun p => decide (p.1 = k) := by
  congr 1
  funext p
  by_cases c : p.1 = k
  · rw [c]; simp
  · rw [decide_eq_false c, decide_eq_false fun e => c (Ky.inj _ _ e)]
theorem dct_same {K : PySem.W.Frag} {F : Hp} {v : V} {x y : Dct κ α} (r1 : Rp.rep K F v x) (r2 : Rp.rep K F v y) : eqbD x y = true := by
  obtain ⟨p, ks, e1, f1, _, z1, n1, p1⟩ := repD (Sub.refl F) r1
  obtain ⟨q, ls, e2, f2, _, z2, n2, p2⟩ := repD (Sub.refl F) r2
  subst e1
  cases e2
  rw [f1] at f2
  cases f2
  have hl : x.l.length = y.l.length := by rw [← pairedLen p1, ← pairedLen p2]
  unfold eqbD
  rw [hl, beq_self_eq_true, Bool.true_and, List.all_eq_true]
  intro r hr
  obtain ⟨i, hi, e⟩ := List.getElem_of_mem hr
  obtain ⟨kv, h3, d1⟩ := pairedGet p1 (i := i) (y := r) (by rw [List.getElem?_eq_getElem hi, e])
  have h4 : i < y.l.length := by omega
  obtain ⟨kv2, h5, d2⟩ := pairedGet p2 (i := i) (y := y.l[i]) (List.getElem?_eq_getElem h4)
  rw [h3] at h5
  cases h5
  have ek : r.1 = (y.l[i]).1 := Ky.inj _ _ (d1.1.symm.trans d2.1)
  have lk : look y.l r.1 = some (y.l[i]).2 := by
    rw [ek]
    exact look_of_mem n2 (List.getElem_mem h4)
  rw [lk]
  exact EqB.same d1.2.2 d2.2.2
theorem dct_eqb {X : Cx} {F H : Hp} {v w : V} {x y : Dct κ α} (s : Sub F H) (r1 : Rp.rep X.K F v x) (r2 : Rp.rep X.K F w y) :
    EqS X H (EqB.dep α + 1) v w (eqbD x y) ∧ RcS X H (EqB.dep α + 1) .Eq v w (eqbD x y) ∧ RcS X H (EqB.dep α + 1) .NotEq v w (!eqbD x y) := by
  have sm := fun e : v = w => dct_same r1 (e ▸ r2)
  obtain ⟨p, ks, e1, f1, h1, z1, n1, p1⟩ := repD s r1
  obtain ⟨q, ls, e2, f2, h2, z2, n2, p2⟩ := repD s r2
  subst e1 e2
  have z := dict_trees (X := X) (n := EqB.dep α) (eqKey x.l y.l) h1 h2 fun k u u2 hm hv => by
    obtain ⟨i, hi, e⟩ := List.getElem_of_mem hm
    have hx : i < x.l.length := by rw [← pairedLen p1]; exact hi
    obtain ⟨kv, h3, d1⟩ := pairedGet p1 (i := i) (y := x.l[i]) (List.getElem?_eq_getElem hx)
    rw [List.getElem?_eq_getElem hi, e] at h3
    cases h3
    have k1 : k = Ky.key (x.l[i]).1 := d1.1
    subst k1
    rcases dr_look p2 (x.l[i]).1 with ⟨v', y', g1, g2, g3⟩ | ⟨g1, g2⟩
    · rw [hv] at g1
      cases g1
      have e3 : eqKey x.l y.l (Ky.key (x.l[i]).1) = eqb (x.l[i]).2 y' := by
        unfold eqKey
        rw [find_key, find_key]
        have a1 : look x.l (x.l[i]).1 = some (x.l[i]).2 := look_of_mem n1 (List.getElem_mem hx)
        unfold look at a1 g2
        cases q1 : x.l.find? fun p => decide (p.1 = (x.l[i]).1) with
        | none => rw [q1] at a1; cases a1
        | some w1 =>
          cases q2 : y.l.find? fun p => decide (p.1 = (x.l[i]).1) with
          | none => rw [q2] at g2; cases g2
          | some w2 =>
            rw [q1] at a1
            rw [q2] at g2
            have b1 : w1.2 = (x.l[i]).2 := Option.some.inj a1
            have b2 : w2.2 = y' := Option.some.inj g2
            show eqb w1.2 w2.2 = _
            rw [b1, b2]
      rw [e3]
      exact EqB.tree s d1.2.2 g3
    · rw [hv] at g1; cases g1
  have e : (ks.length == ls.length && ks.all fun p => (valV ls p.1).isSome && eqKey x.l y.l p.1) = eqbD x y := by
    have key : ∀ {ks : List (Key × V)} {l : List (κ × α)}, Paired (DR X.K F) ks l → (∀ r ∈ l, look x.l r.1 = some r.2) → (ks.all fun p => (valV ls p.1).isSome && eqKey x.l y.l p.1) = l.all fun p => match look y.l p.1 with
        | some y => eqb p.2 y
        | none => false := by
      intro ks l r
      induction r with
      | nil => intro _; rfl
      | @cons a b as bs d t ih =>
        intro hl
        rw [List.all_cons, List.all_cons, ih fun r hr => hl r (List.mem_cons_of_mem _ hr)]
        congr 1
        have a1 := hl b List.mem_cons_self
        rcases dr_look p2 b.1 with ⟨v', y', g1, g2, g3⟩ | ⟨g1, g2⟩
        · have d0 : a.1 = Ky.key b.1 := d.1
          rw [d0, g1, g2]
          unfold eqKey
          rw [find_key, find_key]
          unfold look at a1 g2
          cases q1 : x.l.find? fun p => decide (p.1 = b.1) with
          | none => rw [q1] at a1; cases a1
          | some w1 =>
            cases q2 : y.l.find? fun p => decide (p.1 = b.1) with
            | none => rw [q2] at g2; cases g2
            | some w2 =>
              rw [q1] at a1
              rw [q2] at g2
              have b1 : w1.2 = b.2 := Option.some.inj a1
              have b2 : w2.2 = y' := Option.some.inj g2
              show (true && eqb w1.2 w2.2) = _
              rw [b1, b2]; rfl
        · have d0 : a.1 = Ky.key b.1 := d.1
          rw [d0, g1, g2]; rfl
    unfold eqbD
    rw [pairedLen p1, pairedLen p2, key p1 fun r hr => look_of_mem n1 hr]
  rw [e] at z
  refine ⟨?_, z.2.1, z.2.2⟩
  by_cases c : p = q
  · subst c
    rw [sm rfl]
    exact fun pins σ s v u I rv ru => by cases rv; cases ru; exact .same
  · exact z.1 c
instance eqbDct : EqB (Dct κ α) where
  eqb := eqbD
  dep := EqB.dep α + 1
  tree s r1 r2 := (dct_eqb s r1 r2).1
  eq s r1 r2 := (dct_eqb s r1 r2).2.1
  ne s r1 r2 := (dct_eqb s r1 r2).2.2
  same r1 r2 := dct_same r1 r2
end
/-! the rules -/
section
variable {X : Cx} {es : List En} {a b : Expr} {pos : Pos} {α : Type}
def rEqS (X : Cx) (op : CmpOp) : R2 := fun x y H Q => ∃ n c, n ≤ 64 ∧ RcS X H n op x y c ∧ Q (.bl c) H
theorem op_neS (hu : X.A.units + 64 < cLine) : OpR X (compareOp .NotEq) (rEqS X .NotEq) := by
  intro pins s σ H x y v u Q I rx ry h
  obtain ⟨n, c, hn, h, q⟩ := h
  exact h pins σ s v u I rx ry X.A (by omega) _ _ ⟨.bl c, H, I, rfl, q⟩
variable [Rp α] [EqB α] {x y : α}
theorem t_neB (hu : X.A.units + 64 < cLine) (ha : RJ X es a x) (hb : RJ X es b y) (hn : EqB.dep α ≤ 64 := by decide) : TJ X es (.Compare a [.NotEq] [b] pos) (!eqb x y) := .mk fun f σ F H S Q q =>
  ptR (pt_cmpR (op_neS hu) peW peW (nomark _)) (ha f σ F H S _ fun v F1 H1 t1 r1 => hb f σ F1 H1 (S.step t1) _ fun w F2 H2 t2 r2 =>
    ⟨_, _, hn, EqB.ne (ovl_sub t2.e) (Rp.mono (ovl_step t2) r1) r2, _, rfl, q F2 H2 (t1.trans t2)⟩)
end
end Ly
/-! dict(reversed(xs)) of a list of pairs -/
namespace LyR
open PySem PySem.Calls PyProof.Rows
abbrev RI : String := "list_reverseiterator"
abbrev special : List Str := ["__module__", "__name__", "__qualname__", "__doc__", "__annotations__"]
/-- the iterator at I that goes back over the list at l, whose items are the pairs ps -/
structure Back (I l : Addr) (items : Array Value) (Ts : Nat → Addr) (ps : List (Value × Value)) (h : Heap) : Prop where
  it : h.get? I = some (revObj l ((items.size : Int) - 1))
  ls : h.IsList l items
  pi : PairItems h items Ts ps
end LyR
namespace Ly
open PySem PySem.Spec PyProof.Rows L2
def tDictRev (K : PySem.W.Frag) (te : TE) : TE := fun σ H Q => te σ H fun v H1 => ∃ (a : Addr) (ps : List Addr) (kvs : List (Key × V)), v = .ref a ∧ SqL K H1 a (ps.map V.ref) ∧ Paired (fun p kv => SqT K H1 p [kV kv.1, kv.2]) ps kvs ∧ ∀ q, H1 q = none → Q (.ref q) (upd H1 q (.dK (mergeK [] kvs.reverse)))
section
variable {X : Cx}
/-! merging pairs whose keys are unlike -/
theorem dr_keys {κ α : Type} [Sc κ] [Ky κ] [Rp α] {K : PySem.W.Frag} {F : Hp} {ks : List (Key × V)} {l : List (κ × α)} (r : Paired (DR K F) ks l) : ks.map (·.1) = (l.map (·.1)).map Ky.key := by
  induction r with
  | nil => rfl
  | cons h t ih => rw [List.map_cons, List.map_cons, List.map_cons, ih, h.1]
end
end Ly
/-! sorted: of lists, of dicts, either way round; ints, texts, tuples of ints and texts -/
namespace LyS
open PySem PyProof.Rows Srt SrtO
/-! orders -/
structure TO {α : Type} (lt : α → α → Bool) : Prop where
  irr : ∀ x, lt x x = false
  tra : ∀ x y z, lt x y = true → lt y z = true → lt x z = true
  tot : ∀ x y, lt x y = false → lt y x = false → x = y
theorem TO.asym {α : Type} {lt : α → α → Bool} (O : TO lt) {x y : α} (h : lt x y = true) : lt y x = false := by
  cases q : lt y x with
  | false => rfl
  | true =>
    have z := O.tra x y x h q
    rw [O.irr] at z; cases z
theorem TO.swo {α β : Type} {lt : α → α → Bool} (O : TO lt) (f : β → α) : Swo fun x y => lt (f x) (f y) := by
  refine ⟨fun x y h => O.asym h, fun x y z h1 h2 => ?_⟩
  cases q : lt (f z) (f x) with
  | false => rfl
  | true =>
    cases q2 : lt (f x) (f y) with
    | false =>
      have e := O.tot _ _ q2 h1
      rw [e] at q
      rw [h2] at q; cases q
    | true =>
      have z := O.tra _ _ _ q q2
      rw [h2] at z; cases z
/-- what is sorted twice is one -/
theorem srt_one {α : Type} {lt : α → α → Bool} (O : TO lt) : ∀ {l m : List α}, Srtd lt l → Srtd lt m → l.Perm m → l = m
  | [], m, _, _, p => (List.Perm.eq_nil p.symm).symm
  | x :: l, [], _, _, p => absurd p.length_eq (by simp)
  | x :: l, y :: m, hl, hm, p => by
    have h1 : lt x y = false := by
      rcases List.mem_cons.mp (p.mem_iff.mp (List.mem_cons_self (a := x) (l := l))) with e | hx
      · rw [e]; exact O.irr y
      · exact srtd_head hm x hx
    have h2 : lt y x = false := by
      rcases List.mem_cons.mp (p.mem_iff.mpr (List.mem_cons_self (a := y) (l := m))) with e | hy
      · rw [e]; exact O.irr x
      · exact srtd_head hl y hy
    have e := O.tot _ _ h1 h2
    subst e
    rw [srt_one O (List.pairwise_cons.mp hl).2 (List.pairwise_cons.mp hm).2 p.cons_inv]
def ins {α : Type} (lt : α → α → Bool) (x : α) : List α → List α
  | [] => [x]
  | y :: l => bif lt y x then y :: ins lt x l else x :: y :: l
def srt {α : Type} (lt : α → α → Bool) : List α → List α
  | [] => []
  | x :: l => ins lt x (srt lt l)
theorem ins_perm {α : Type} (lt : α → α → Bool) (x : α) : ∀ l : List α, (ins lt x l).Perm (x :: l)
  | [] => List.Perm.refl _
  | y :: l => by
    unfold ins
    cases lt y x with
    | true => exact ((ins_perm lt x l).cons y).trans (List.Perm.swap x y l)
    | false => exact List.Perm.refl _
theorem srt_perm {α : Type} (lt : α → α → Bool) : ∀ l : List α, (srt lt l).Perm l
  | [] => List.Perm.refl _
  | x :: l => (ins_perm lt x _).trans ((srt_perm lt l).cons x)
theorem ins_srtd {α : Type} {lt : α → α → Bool} (O : Swo lt) (x : α) : ∀ {l : List α}, Srtd lt l → Srtd lt (ins lt x l)
  | [], _ => srtd_one x
  | y :: l, h => by
    obtain ⟨h1, h2⟩ := List.pairwise_cons.mp h
    unfold ins
    cases q : lt y x with
    | true =>
      refine List.pairwise_cons.mpr ⟨fun z hz => ?_, ins_srtd O x h2⟩
      rcases List.mem_cons.mp ((ins_perm lt x l).mem_iff.mp hz) with e | hz
      · rw [e]; exact O.asym _ _ q
      · exact h1 z hz
    | false =>
      refine List.pairwise_cons.mpr ⟨fun z hz => ?_, h⟩
      rcases List.mem_cons.mp hz with e | hz
      · rw [e]; exact q
      · exact O.tr _ _ _ q (h1 z hz)
theorem srt_srtd {α : Type} {lt : α → α → Bool} (O : Swo lt) : ∀ l : List α, Srtd lt (srt lt l)
  | [] => List.Pairwise.nil
  | x :: l => ins_srtd O x (srt_srtd O l)
/-- an int or a text -/
inductive Sca where
  | i (n : Int)
  | s (z : Str)
  deriving DecidableEq
def ltN (a b : List Nat) : Bool := decide (a < b)
theorem toN : TO ltN := by
  refine ⟨fun x => decide_eq_false (List.lt_irrefl x), fun x y z h1 h2 => decide_eq_true (List.lt_trans (of_decide_eq_true h1) (of_decide_eq_true h2)), fun x y h1 h2 => ?_⟩
  exact List.le_antisymm (List.not_lt.mp (of_decide_eq_false h2)) (List.not_lt.mp (of_decide_eq_false h1))
def Sca.lt : Sca → Sca → Bool
  | .i a, .i b => decide (a < b)
  | .s a, .s b => decide (a.cps.toList < b.cps.toList)
  | .i _, .s _ => true
  | .s _, .i _ => false
theorem str_ext {a b : Str} (h : a.cps.toList = b.cps.toList) : a = b := by
  obtain ⟨⟨x⟩⟩ := a
  obtain ⟨⟨y⟩⟩ := b
  cases h; rfl
theorem toSca : TO Sca.lt := by
  refine ⟨fun x => ?_, fun x y z h1 h2 => ?_, fun x y h1 h2 => ?_⟩
  · cases x with
    | i a => exact decide_eq_false (Int.lt_irrefl a)
    | s a => exact toN.irr _
  · cases x <;> cases y <;> cases z <;> first
      | rfl
      | (cases h1; done)
      | (cases h2; done)
      | exact decide_eq_true (Int.lt_trans (of_decide_eq_true h1) (of_decide_eq_true h2))
      | exact toN.tra _ _ _ h1 h2
  · cases x <;> cases y <;> first
      | (cases h1; done)
      | (cases h2; done)
      | (have a := of_decide_eq_false h1
         have b := of_decide_eq_false h2
         congr 1; omega)
      | (congr 1; exact str_ext (toN.tot _ _ h1 h2))
def lexS : List Sca → List Sca → Bool
  | [], [] => false
  | [], _ :: _ => true
  | _ :: _, [] => false
  | x :: xs, y :: ys => if x = y then lexS xs ys else Sca.lt x y
theorem toLex : TO lexS := by
  refine ⟨fun x => ?_, fun x => ?_, fun x => ?_⟩
  · induction x with
    | nil => rfl
    | cons a x ih => unfold lexS; rw [if_pos rfl]; exact ih
  · induction x with
    | nil =>
      intro y z h1 h2
      cases y with
      | nil => cases h1
      | cons b y =>
        cases z with
        | nil => cases h2
        | cons c z => rfl
    | cons a x ih =>
      intro y z h1 h2
      cases y with
      | nil => cases h1
      | cons b y =>
        cases z with
        | nil => cases h2
        | cons c z =>
          unfold lexS at h1 h2 ⊢
          by_cases e1 : a = b
          · subst e1
            rw [if_pos rfl] at h1
            by_cases e2 : a = c
            · subst e2
              rw [if_pos rfl] at h2 ⊢
              exact ih y z h1 h2
            · rw [if_neg e2] at h2 ⊢
              exact h2
          · rw [if_neg e1] at h1
            by_cases e2 : b = c
            · subst e2
              rw [if_neg e1]
              exact h1
            · rw [if_neg e2] at h2
              have t := toSca.tra _ _ _ h1 h2
              have ne : ¬ a = c := fun e => by rw [e, toSca.irr] at t; cases t
              rw [if_neg ne]; exact t
  · induction x with
    | nil =>
      intro y h1 h2
      cases y with
      | nil => rfl
      | cons b y => cases h1
    | cons a x ih =>
      intro y h1 h2
      cases y with
      | nil => cases h2
      | cons b y =>
        unfold lexS at h1 h2
        by_cases e : a = b
        · subst e
          rw [if_pos rfl] at h1 h2
          rw [ih y h1 h2]
        · rw [if_neg e] at h1
          rw [if_neg (Ne.symm e)] at h2
          exact absurd (toSca.tot _ _ h1 h2) e
/-! values -/
def scOf : Value → Sca
  | .int n _ => .i n
  | .str z _ => .s z
  | _ => .i 0
def IsSc (v : Value) (c : Sca) : Prop := match c with
  | .i n => ∃ t, v = .int n t
  | .s z => ∃ t, v = .str z t
theorem IsSc.of {v : Value} {c : Sca} (h : IsSc v c) : scOf v = c := by
  cases c with
  | i n => obtain ⟨t, e⟩ := h; rw [e]; rfl
  | s z => obtain ⟨t, e⟩ := h; rw [e]; rfl
def Sca.isS : Sca → Bool
  | .i _ => false
  | .s _ => true
section
variable {pr : Program} {ww : World} {A : Around} {E : Value → Shared → Prop} {s : Shared}
theorem sc_eqIn {v u : Value} {c d : Sca} (hv : IsSc v c) (hu : IsSc u d) (hk : c.isS = d.isS) : SeqAt.EqAt A s v u (decide (c = d)) := by
  cases c with
  | i n =>
    cases d with
    | i m =>
      obtain ⟨t, rfl⟩ := hv
      obtain ⟨t2, rfl⟩ := hu
      have z := SeqAt.EqAt.int_int (A := A) (s := s) n t m t2
      rw [show decide (Sca.i n = Sca.i m) = (n == m) from by rw [Bool.beq_eq_decide_eq]; simp]
      exact z
    | s w => cases hk
  | s w =>
    cases d with
    | i m => cases hk
    | s w2 =>
      obtain ⟨t, rfl⟩ := hv
      obtain ⟨t2, rfl⟩ := hu
      have z := SeqAt.EqAt.str_str (A := A) (s := s) w t w2 t2
      rw [show decide (Sca.s w = Sca.s w2) = (w == w2) from by rw [Bool.beq_eq_decide_eq]; simp]
      exact z
theorem sc_lt {f : Bool} {v u : Value} {c d : Sca} {Q : Bool → Shared → Prop} (hv : IsSc v c) (hu : IsSc u d) (hk : c.isS = d.isS) (h : Q (Sca.lt c d) s) : wpAny (model pr ww) A (oneLt' f v u) Q E s := by
  cases c with
  | i n =>
    cases d with
    | i m =>
      obtain ⟨t, rfl⟩ := hv
      obtain ⟨t2, rfl⟩ := hu
      exact oneLt_any_int h
    | s w => cases hk
  | s w =>
    cases d with
    | i m => cases hk
    | s w2 =>
      obtain ⟨t, rfl⟩ := hv
      obtain ⟨t2, rfl⟩ := hu
      exact oneLt_any_str h
theorem lex_walk {b : Bool} {Q : Bool → Shared → Prop} : ∀ {vs us : List Value} {cs ds : List Sca}, Paired IsSc vs cs → Paired IsSc us ds → cs.map Sca.isS = ds.map Sca.isS → ∀ i, Q (lexS cs ds) s → PySem.W.KatLex pr ww A b false Q (vs.zip us) i s
  | _, _, _, _, .nil, .nil, _, i, h => PySem.W.kat_nil h
  | _, _, _, _, .nil, .cons _ _, hk, i, h => by cases hk
  | _, _, _, _, .cons _ _, .nil, hk, i, h => by cases hk
  | v :: vs, u :: us, c :: cs, d :: ds, .cons h1 t1, .cons h2 t2, hk, i, h => by
    rw [List.map_cons, List.map_cons] at hk
    have k1 := (List.cons.inj hk).1
    have k2 := (List.cons.inj hk).2
    refine PySem.W.kat_cons (sc_eqIn h1 h2 k1 pr ww _ _ ?_)
    unfold lexS at h
    refine PySem.W.kat_go (fun e => ?_) (fun e => ?_)
    · rw [if_pos (of_decide_eq_true e)] at h
      exact PySem.W.kat_yes (lex_walk t1 t2 k2 (i + 1) h)
    · rw [if_neg (of_decide_eq_false e)] at h
      exact PySem.W.kat_no (sc_lt h1 h2 k1 h)
/-- a tuple of ints and texts -/
def IsTu (h : Heap) (v : Value) (cs : List Sca) : Prop := ∃ a o xs n, v = .ref a ∧ h.get? a = some o ∧ o.cls = .type "tuple" ∧ o.data = .seq xs n ∧ Paired IsSc xs.toList cs
def tuOf (h : Heap) : Value → List Sca
  | .ref a => match h.get? a with
    | some o => match o.data with
      | .seq xs _ => xs.toList.map scOf
      | _ => []
    | none => []
  | _ => []
theorem scs_of : ∀ {vs : List Value} {cs : List Sca}, Paired IsSc vs cs → vs.map scOf = cs
  | _, _, .nil => rfl
  | _, _, .cons h t => by rw [List.map_cons, h.of, scs_of t]
theorem IsTu.of {h : Heap} {v : Value} {cs : List Sca} (t : IsTu h v cs) : tuOf h v = cs := by
  obtain ⟨a, o, xs, n, rfl, h1, h2, h3, h4⟩ := t
  show (match h.get? a with
    | some o => match o.data with
      | .seq xs _ => xs.toList.map scOf
      | _ => []
    | none => []) = cs
  rw [h1]
  show (match o.data with
      | .seq xs _ => xs.toList.map scOf
      | _ => []) = cs
  rw [h3]
  exact scs_of h4
theorem tu_cmp {h : Heap} {vs : List Value} {sh : List Bool} {b : Bool} (hv : ∀ v ∈ vs, ∃ cs, IsTu h v cs ∧ cs.map Sca.isS = sh) (hh : ∀ v ∈ vs, ∀ cs, IsTu h v cs → IsTu s.heap v cs) : Cmp pr ww A s (tuples' b) (fun p => p.1 ∈ vs) (lt2 fun v u => lexS (tuOf h v) (tuOf h u)) := by
  intro p q hm hm'
  obtain ⟨cs, t1, k1⟩ := hv _ hm
  obtain ⟨ds, t2, k2⟩ := hv _ hm'
  show wpAny (model pr ww) A (keyLt' (tuples' b) p.1 q.1) (fun r s' => s' = s ∧ r = lexS (tuOf h p.1) (tuOf h q.1)) (fun _ _ => False) s
  rw [t1.of, t2.of]
  obtain ⟨a, o, xs, n, e, h1, h2, h3, h4⟩ := hh _ hm _ t1
  obtain ⟨a2, o2, xs2, n2, e2, g1, g2, g3, g4⟩ := hh _ hm' _ t2
  rw [e, e2]
  have hl : xs.size = xs2.size := by
    have l1 := Paired.length h4
    have l2 := Paired.length g4
    have l3 := congrArg List.length (k1.trans k2.symm)
    rw [List.length_map, List.length_map] at l3
    rw [Array.length_toList] at l1 l2
    omega
  refine PySem.W.kat_lt h1 h3 g1 g3 ?_
  rw [show decide (xs.size < xs2.size) = false from decide_eq_false (by omega)]
  exact lex_walk h4 g4 (k1.trans k2.symm) 0 ⟨rfl, rfl⟩
theorem tu_firsts {h : Heap} : ∀ {vs : List Value} {sh : Bool} {r : List Bool}, (∀ v ∈ vs, ∃ cs, IsTu h v cs ∧ cs.map Sca.isS = sh :: r) → ∃ fs, PySem.W.KatTups h vs fs ∧ fs.length = vs.length ∧ ∀ f ∈ fs, ∃ c : Sca, IsSc f c ∧ c.isS = sh
  | [], _, _, _ => ⟨[], PySem.W.KatTups.nil, rfl, fun f hf => by cases hf⟩
  | v :: vs, sh, r, hv => by
    obtain ⟨fs, k1, k2, k3⟩ := tu_firsts (vs := vs) fun u hu => hv u (List.mem_cons_of_mem _ hu)
    obtain ⟨cs, ⟨a, o, xs, n, e, h1, h2, h3, h4⟩, hk⟩ := hv v List.mem_cons_self
    subst e
    obtain ⟨xl⟩ := xs
    cases h4 with
    | nil => cases hk
    | @cons x c xl cl hx ht =>
      refine ⟨x :: fs, PySem.W.KatTups.cons h1 h2 h3 (by simp) k1, by simp [k2], fun f hf => ?_⟩
      rcases List.mem_cons.mp hf with e | hf
      · rw [e]; exact ⟨c, hx, (List.cons.inj hk).1⟩
      · exact k3 f hf
theorem tu_sortable {a : Addr} {vs : List Value} {sh : Bool} {r : List Bool} (h0 : 0 < vs.length) (hv : ∀ v ∈ vs, ∃ cs, IsTu s.heap v cs ∧ cs.map Sca.isS = sh :: r) (ha : ∀ o, s.heap.get? a = some o → o.cls ≠ .type "tuple") (H0 : Heap) (hH : ∀ v ∈ vs, ∀ cs, IsTu H0 v cs ↔ IsTu s.heap v cs) :
    SortableO pr ww A s a vs fun v u => lexS (tuOf H0 v) (tuOf H0 u) := by
  intro h' keep
  have up : ∀ v cs, IsTu s.heap v cs → IsTu h' v cs := fun v cs t => by
    obtain ⟨b, o, xs, n, e, h1, h2, h3, h4⟩ := t
    exact ⟨b, o, xs, n, e, keep b o (fun z => by subst z; exact ha o h1 h2) h1, h2, h3, h4⟩
  obtain ⟨fs, k1, k2, k3⟩ := tu_firsts (h := h') fun v hm => let ⟨cs, t, k⟩ := hv v hm; ⟨cs, up _ _ t, k⟩
  refine ⟨tuples' true, fun Q E hq => ?_, tu_cmp (s := { s with heap := h' }) (sh := sh :: r) (fun v hm => let ⟨cs, t, k⟩ := hv v hm; ⟨cs, (hH v hm cs).mpr t, k⟩) fun v hm cs t => up _ _ ((hH v hm cs).mp t)⟩
  cases sh with
  | false =>
    refine PySem.W.kat_kind (T := .type "int") k1 (by omega) (fun f hm => ?_) (by rfl) ?_
    · obtain ⟨c, hc, e⟩ := k3 f hm
      cases c with
      | i n => obtain ⟨t, rfl⟩ := hc; exact PySem.W.Looks.now
      | s z => cases e
    · rw [show (Value.type "int" != Value.type "tuple") = true from by first | decide +kernel | rfl | decide]
      exact hq
  | true =>
    refine PySem.W.kat_kind (T := .type "str") k1 (by omega) (fun f hm => ?_) (by rfl) ?_
    · obtain ⟨c, hc, e⟩ := k3 f hm
      cases c with
      | i n => cases e
      | s z => obtain ⟨t, rfl⟩ := hc; exact PySem.W.Looks.now
    · rw [show (Value.type "str" != Value.type "tuple") = true from by first | decide +kernel | rfl | decide]
      exact hq
/-! texts alone -/
theorem one_cmp {vs : List Value} {sh : Bool} (hv : ∀ v ∈ vs, ∃ c, IsSc v c ∧ c.isS = sh) : Cmp pr ww A s oneType' (fun p => p.1 ∈ vs) (lt2 fun v u => Sca.lt (scOf v) (scOf u)) := by
  intro p q hm hm'
  obtain ⟨c, t1, k1⟩ := hv _ hm
  obtain ⟨d, t2, k2⟩ := hv _ hm'
  show wpAny (model pr ww) A (keyLt' oneType' p.1 q.1) (fun r s' => s' = s ∧ r = Sca.lt (scOf p.1) (scOf q.1)) (fun _ _ => False) s
  rw [t1.of, t2.of, keyLt'_oneType]
  exact sc_lt t1 t2 (k1.trans k2.symm) ⟨rfl, rfl⟩
theorem ints_of : ∀ {vs : List Value}, (∀ v ∈ vs, ∃ c : Sca, IsSc v c ∧ c.isS = false) → ∃ ns, IntsAre vs ns
  | [], _ => ⟨[], .nil⟩
  | v :: vs, h => by
    obtain ⟨ns, r⟩ := ints_of (vs := vs) fun u hu => h u (List.mem_cons_of_mem _ hu)
    obtain ⟨c, hc, e⟩ := h v List.mem_cons_self
    cases c with
    | i n => obtain ⟨t, rfl⟩ := hc; exact ⟨n :: ns, .cons n t r⟩
    | s z => cases e
theorem strs_of : ∀ {vs : List Value}, (∀ v ∈ vs, ∃ c : Sca, IsSc v c ∧ c.isS = true) → ∃ zs, StrsAre vs zs
  | [], _ => ⟨[], .nil⟩
  | v :: vs, h => by
    obtain ⟨ns, r⟩ := strs_of (vs := vs) fun u hu => h u (List.mem_cons_of_mem _ hu)
    obtain ⟨c, hc, e⟩ := h v List.mem_cons_self
    cases c with
    | i n => cases e
    | s z => obtain ⟨t, rfl⟩ := hc; exact ⟨z :: ns, .cons z t r⟩
theorem one_sortable {a : Addr} {vs : List Value} {sh : Bool} (h2 : 2 ≤ vs.length) (hv : ∀ v ∈ vs, ∃ c, IsSc v c ∧ c.isS = sh) : SortableO pr ww A s a vs fun v u => Sca.lt (scOf v) (scOf u) := by
  intro h' _
  refine ⟨oneType', fun Q E hq => ?_, one_cmp hv⟩
  match vs, hv, h2 with
  | v1 :: v2 :: rest, hv, _ =>
    cases sh with
    | false =>
      obtain ⟨ns, r⟩ := ints_of hv
      rw [keyKind_ints r]
      exact wpAny_pure hq
    | true =>
      obtain ⟨ns, r⟩ := strs_of hv
      rw [keyKind_strs r]
      exact wpAny_pure hq
  | [], _, h => exact absurd h (by decide)
  | [v], _, h => exact absurd h (by simp)
end
end LyS
namespace LyS
open PySem PyProof.Rows Srt SrtO
section
variable {pr : Program} {ww : World} {A : Around} {E : Value → Shared → Prop} {s : Shared}
abbrev kwR (r : Option Bool) : List (Str × Value) := match r with
  | none => []
  | some b => [(Str.ofString "reverse", .bool b)]
def rvB (r : Option Bool) : Bool := r.getD false
def Sorted (s : Shared) (P : List Value → Prop) (ltv : Value → Value → Bool) (r : Option Bool) (Q : Value → Shared → Prop) : Prop := ∀ (vs out : List Value) (hm h' : Heap) (tk : Nat) (d : Addr) (n : Nat), P vs → vs.length ≤ sizeLine → Srtd ltv out → Stb ltv out (if rvB r = true then vs.reverse else vs) → (∀ c o, s.heap.get? c = some o → hm.get? c = some o) → d = hm.objs.size → (∀ c o, hm.get? c = some o → h'.get? c = some o) →
  h'.get? d = some (seqObj "list" (if rvB r = true then out.toArray.reverse else out.toArray) n) → Q (.ref d) { s with heap := h', toks := tk }
theorem sorted_body {u : Value} {P : List Value → Prop} {ltv : Value → Value → Bool} {r : Option Bool} {Q : Value → Shared → Prop} (O : Swo ltv)
    (hcol : ∀ R : List Value → Shared → Prop, (∀ h' tk acc, (∀ c o, s.heap.get? c = some o → h'.get? c = some o) → P acc → acc.length ≤ sizeLine → R acc { s with heap := h', toks := tk }) → wpAny (model pr ww) A.in1 (collect u) R E s)
    (hS : ∀ vs, P vs → 2 ≤ vs.length → ∀ (h₁ : Heap) (tk : Nat) (a : Addr), h₁.get? a = some (seqObj "list" vs.toArray 0) → (∀ c o, s.heap.get? c = some o → h₁.get? c = some o) → SortableO pr ww A.in1.in1 { s with heap := h₁, toks := tk } a vs ltv)
    (h : Sorted s P ltv r Q) : wpAny (model pr ww) A.in1 (Builtin.«sorted» ⟨[u], kwR r⟩) (fun fin s' => ∃ v, fin = .done (.ret v) ∧ Q v s') E s := by
  unfold Builtin.«sorted»
  refine wpAny_bind (m := checkCount "sorted" 1 1 _) (wpAny_pure ?_)
  refine wpAny_bind (hcol _ fun h' tk acc k1 hP hz => ?_)
  refine wpAny_bind (wpAny_newList ?_ hz)
  have ho : (h'.push (seqObj "list" acc.toArray 0)).get? h'.objs.size = some (seqObj "list" acc.toArray 0) := Heap.get?_push_size _ rfl
  have k2 : ∀ c o, s.heap.get? c = some o → (h'.push (seqObj "list" acc.toArray 0)).get? c = some o := fun c o e => Heap.get?_push_of_some _ (k1 c o e)
  show wpAny _ _ _ _ _ { s with heap := h'.push (seqObj "list" acc.toArray 0), toks := tk }
  have out_ok : ∀ out : List Value, Srtd ltv out → Stb ltv out (if rvB r = true then acc.reverse else acc) → Q (.ref h'.objs.size) { s with heap := sortedHeap (h'.push (seqObj "list" acc.toArray 0)) h'.objs.size acc (if rvB r = true then out.toArray.reverse else out.toArray), toks := tk } := fun out o1 o2 => by
    obtain ⟨n, hn⟩ := sortedHeap_at (vs := acc) (out := if rvB r = true then out.toArray.reverse else out.toArray) ho
    refine h acc out h' _ tk _ n hP hz o1 o2 k1 rfl (fun c o e => ?_) hn
    have hb : c < h'.objs.size := Heap.lt_size e
    rw [sortedHeap_old (Nat.ne_of_lt hb) (by rw [size_push']; exact Nat.lt_succ_of_lt hb)]
    exact Heap.get?_push_of_some _ e
  cases r with
  | none =>
    refine wpAny_bind (wpAny_holding (wpAny_call_entry slot_list_sort ⟨_, ho, rfl⟩ entry_list_sort (list_sort_ord O ho hz (fun h2 => hS acc hP h2 _ _ _ ho k2) fun out hs hb => ⟨_, rfl, ?_⟩) (args_list_sort _)))
    exact wpAny_pure ⟨_, rfl, out_ok out hs hb⟩
  | some b =>
    refine wpAny_bind (wpAny_holding (wpAny_call_entry_kw slot_list_sort ⟨_, ho, rfl⟩ entry_list_sort (SrtR.list_sort_ordR (b := b) O ho hz (fun h2 => hS acc hP h2 _ _ _ ho k2) fun out hs hb => ⟨_, rfl, ?_⟩) (args_list_sort_rev _ _)))
    exact wpAny_pure ⟨_, rfl, out_ok out hs hb⟩
theorem sorted_call {u : Value} {P : List Value → Prop} {ltv : Value → Value → Bool} {r : Option Bool} {Q : Value → Shared → Prop} (O : Swo ltv)
    (hcol : ∀ R : List Value → Shared → Prop, (∀ h' tk acc, (∀ c o, s.heap.get? c = some o → h'.get? c = some o) → P acc → acc.length ≤ sizeLine → R acc { s with heap := h', toks := tk }) → wpAny (model pr ww) A.in1 (collect u) R E s)
    (hS : ∀ vs, P vs → 2 ≤ vs.length → ∀ (h₁ : Heap) (tk : Nat) (a : Addr), h₁.get? a = some (seqObj "list" vs.toArray 0) → (∀ c o, s.heap.get? c = some o → h₁.get? c = some o) → SortableO pr ww A.in1.in1 { s with heap := h₁, toks := tk } a vs ltv)
    (h : Sorted s P ltv r Q) : wpAny (model pr ww) A (call (.builtin "sorted") [u] (kwR r)) Q E s := by
  cases r with
  | none => exact Calls.call_function_entry kind_sorted plain_sorted entry_sorted (args_sorted1 _) (sorted_body (r := none) O hcol hS h)
  | some b => exact call_function_entry_kw kind_sorted plain_sorted entry_sorted (args_sorted_rev _ _) (sorted_body (r := some b) O hcol hS h)
end
end LyS

namespace Ly
open PySem PySem.Spec PyProof.Rows L2 LyS
/-- a scalar as a key of sorting -/
class ScaE (α : Type) [Sc α] where
  sca : α → Sca
  isS : Bool
  kind : ∀ x, (sca x).isS = isS
  val : ∀ (x : α) (u : Value), RelV (Sc.toV x) u → IsSc u (sca x)
  inj : ∀ x y, sca x = sca y → x = y
instance : ScaE Int := ⟨.i, false, fun _ => rfl, fun x u r => r, fun x y h => by cases h; rfl⟩
instance : ScaE Str := ⟨.s, true, fun _ => rfl, fun x u r => r, fun x y h => by cases h; rfl⟩
/-- what may be sorted, by its key -/
class SorE (α : Type) [Rp α] where
  key : α → List Sca
  inj : ∀ x y, key x = key y → x = y
  raw : ∀ {X : Cx} {pins : List (Addr × Obj)} {σ : L2.St} {F H : Hp} {s : Shared} {vs : List V} {us : List Value} {xs : List α}, Inv X pins σ H s → Sub F H → Paired (Rp.rep X.K F) vs xs → Vals vs us →
    ∃ kf : Value → List Sca, us.map kf = xs.map key ∧ (2 ≤ us.length → ∀ (h₁ : Heap) (tk : Nat) (a : Addr), h₁.get? a = some (seqObj "list" us.toArray 0) → (∀ c o, s.heap.get? c = some o → h₁.get? c = some o) → SrtO.SortableO X.prog X.w X.A.in1.in1 { s with heap := h₁, toks := tk } a us fun v u => lexS (kf v) (kf u))
def ltE {α : Type} [Rp α] [SorE α] (x y : α) : Bool := lexS (SorE.key x) (SorE.key y)
def srtE {α : Type} [Rp α] [SorE α] (xs : List α) : List α := srt ltE xs
theorem lex1 (c d : Sca) : lexS [c] [d] = Sca.lt c d := by
  unfold lexS
  by_cases e : c = d
  · rw [if_pos e, e, toSca.irr]; rfl
  · rw [if_neg e]
theorem pairedV {X : Cx} {α : Type} [Sc α] [ScaE α] {F : Hp} : ∀ {vs : List V} {us : List Value} {xs : List α}, Paired (Rp.rep X.K F) vs xs → Vals vs us → Paired IsSc us (xs.map ScaE.sca)
  | _, _, _, .nil, .nil => .nil
  | _, _, _, .cons r t, .cons rv tv => .cons (ScaE.val _ _ (by rw [← r.1]; exact rv)) (pairedV t tv)
instance sorSc {α : Type} [Sc α] [ScaE α] : SorE α where
  key x := [ScaE.sca x]
  inj x y h := ScaE.inj x y (List.cons.inj h).1
  raw {X pins σ F H s vs us xs} I sb r rv := by
    have pv := pairedV r rv
    refine ⟨fun v => [scOf v], ?_, fun h2 h₁ tk a _ _ => ?_⟩
    · have e := scs_of pv
      rw [show us.map (fun v => [scOf v]) = (us.map scOf).map fun c => [c] from by rw [List.map_map]; rfl, e, List.map_map]; rfl
    · have e : (fun v u : Value => lexS [scOf v] [scOf u]) = fun v u => Sca.lt (scOf v) (scOf u) := funext fun v => funext fun u => lex1 _ _
      rw [e]
      refine one_sortable (sh := ScaE.isS α) h2 fun v hv => ?_
      obtain ⟨i, hi, e⟩ := List.getElem_of_mem hv
      have hl := Paired.length pv
      have z : ∀ {us : List Value} {cs : List Sca}, Paired IsSc us cs → (∀ c ∈ cs, c.isS = ScaE.isS α) → ∀ v ∈ us, ∃ c, IsSc v c ∧ c.isS = ScaE.isS α := by
        intro us cs p
        induction p with
        | nil => intro _ v hv; cases hv
        | cons h t ih =>
          intro hc v hv
          rcases List.mem_cons.mp hv with e | hv
          · rw [e]; exact ⟨_, h, hc _ List.mem_cons_self⟩
          · exact ih (fun c hm => hc c (List.mem_cons_of_mem _ hm)) v hv
      refine z pv (fun c hc => ?_) v hv
      obtain ⟨x, _, rfl⟩ := List.mem_map.mp hc
      exact ScaE.kind x
/-- tuples of scalars -/
class TuE (α : Type) [Rp α] where
  key : α → List Sca
  inj : ∀ x y, key x = key y → x = y
  sh : Bool
  shs : List Bool
  kind : ∀ x, (key x).map Sca.isS = sh :: shs
  val : ∀ {X : Cx} {F : Hp} {v : V} {x : α}, Rp.rep X.K F v x → ∃ p ws, v = .ref p ∧ F p = some (.tup ws) ∧ ∀ us, Vals ws us → Paired IsSc us (key x)
theorem tu_raw {X : Cx} {pins : List (Addr × Obj)} {σ : L2.St} {F H : Hp} {s : Shared} {α : Type} [Rp α] [TuE α] (I : Inv X pins σ H s) (sb : Sub F H) {v : V} {u : Value} {x : α} (r : Rp.rep X.K F v x) (rv : RelV v u) : IsTu s.heap u (TuE.key x) := by
  obtain ⟨p, ws, e, h1, h2⟩ := TuE.val r
  subst e
  obtain rfl : u = Value.ref p := rv
  have hH : H p = some (.tup ws) := (sb p _ h1).nd fun z => z
  obtain ⟨its, rv, ⟨o, g1, g2, n, g3⟩, _⟩ := I.tuple (.inl (.inl hH))
  exact ⟨p, o, _, _, rfl, g1, g2, g3, h2 its rv⟩
instance sorTu {α : Type} [Rp α] [TuE α] : SorE α where
  key := TuE.key
  inj := TuE.inj
  raw {X pins σ F H s vs us xs} I sb r rv := by
    have pv : ∀ {vs : List V} {us : List Value} {xs : List α}, Paired (Rp.rep X.K F) vs xs → Vals vs us → Paired (fun u x => IsTu s.heap u (TuE.key x)) us xs := by
      intro vs us xs r
      induction r generalizing us with
      | nil => intro rv; cases rv; exact .nil
      | cons h t ih => intro rv; cases rv with
        | cons a b => exact .cons (tu_raw I sb h a) (ih b)
    have pp := pv r rv
    have mem : ∀ {us : List Value} {xs : List α}, Paired (fun u x => IsTu s.heap u (TuE.key x)) us xs → ∀ v ∈ us, ∃ x : α, IsTu s.heap v (TuE.key x) := by
      intro us xs p
      induction p with
      | nil => intro v hv; cases hv
      | cons h t ih =>
        intro v hv
        rcases List.mem_cons.mp hv with e | hv
        · rw [e]; exact ⟨_, h⟩
        · exact ih v hv
    refine ⟨tuOf s.heap, ?_, fun h2 h₁ tk a ha kk => ?_⟩
    · clear rv r
      induction pp with
      | nil => rfl
      | cons h t ih => rw [List.map_cons, List.map_cons, h.of, ih]
    · have up : ∀ v cs, IsTu s.heap v cs → IsTu h₁ v cs := fun v cs t => by
        obtain ⟨b, o, ys, n, e, k1, k2, k3, k4⟩ := t
        exact ⟨b, o, ys, n, e, kk _ _ k1, k2, k3, k4⟩
      refine tu_sortable (s := { s with heap := h₁, toks := tk }) (sh := TuE.sh α) (r := TuE.shs α) (by omega) (fun v hv => ?_) (fun o e => ?_) s.heap fun v hv cs => ⟨fun t => up v cs t, fun t => ?_⟩
      · obtain ⟨x, t⟩ := mem pp v hv
        exact ⟨_, up _ _ t, TuE.kind x⟩
      · have e' : some o = some (seqObj "list" us.toArray 0) := e.symm.trans ha
        cases e'
        intro c
        exact absurd (Value.type.inj c) (by decide)
      · obtain ⟨x, t2⟩ := mem pp v hv
        have e1 := (up _ _ t2).of
        have e2 := t.of
        have e3 : TuE.key x = cs := e1.symm.trans e2
        exact e3 ▸ t2
theorem vals2' {a b : V} {us : List Value} (r : Vals [a, b] us) : ∃ u v, us = [u, v] ∧ RelV a u ∧ RelV b v := by
  cases r with
  | cons h1 t => cases t with
    | cons h2 t => cases t; exact ⟨_, _, rfl, h1, h2⟩
instance tuPair {α β : Type} [Sc α] [ScaE α] [Sc β] [ScaE β] : TuE (α × β) where
  key x := [ScaE.sca x.1, ScaE.sca x.2]
  inj x y h := by
    have h1 := List.cons.inj h
    have h2 := List.cons.inj h1.2
    exact Prod.ext (ScaE.inj _ _ h1.1) (ScaE.inj _ _ h2.1)
  sh := ScaE.isS α
  shs := [ScaE.isS β]
  kind x := by simp [ScaE.kind]
  val {X F v x} r := by
    obtain ⟨p, o, e1, f1, a, b, eo, ra, rb⟩ := r
    subst eo
    refine ⟨p, _, e1, f1, fun us rv => ?_⟩
    obtain ⟨u, w, rfl, k1, k2⟩ := vals2' rv
    exact .cons (ScaE.val _ _ (by rw [← ra.1]; exact k1)) (.cons (ScaE.val _ _ (by rw [← rb.1]; exact k2)) .nil)
instance tuTp3 {α β γ : Type} [Sc α] [ScaE α] [Sc β] [ScaE β] [Sc γ] [ScaE γ] : TuE (Tp3 α β γ) where
  key x := [ScaE.sca x.a, ScaE.sca x.b, ScaE.sca x.c]
  inj x y h := by
    have h1 := List.cons.inj h
    have h2 := List.cons.inj h1.2
    have h3 := List.cons.inj h2.2
    obtain ⟨a, b, c⟩ := x
    obtain ⟨a2, b2, c2⟩ := y
    have e1 : a = a2 := ScaE.inj _ _ h1.1
    have e2 : b = b2 := ScaE.inj _ _ h2.1
    have e3 : c = c2 := ScaE.inj _ _ h3.1
    rw [e1, e2, e3]
  sh := ScaE.isS α
  shs := [ScaE.isS β, ScaE.isS γ]
  kind x := by simp [ScaE.kind]
  val {X F v x} r := by
    obtain ⟨p, o, e1, f1, a, b, c, eo, ra, rb, rc⟩ := r
    subst eo
    refine ⟨p, _, e1, f1, fun us rv => ?_⟩
    cases rv with
    | cons k1 t => cases t with
      | cons k2 t => cases t with
        | cons k3 t =>
          cases t
          exact .cons (ScaE.val _ _ (by rw [← ra.1]; exact k1)) (.cons (ScaE.val _ _ (by rw [← rb.1]; exact k2)) (.cons (ScaE.val _ _ (by rw [← rc.1]; exact k3)) .nil))
section
variable {X : Cx} {α : Type} [Rp α] [SorE α]
theorem out_vals {F : Hp} {kf : Value → List Sca} : ∀ {out : List Value} {ys : List α}, out.map kf = ys.map SorE.key → (∀ v ∈ out, ∃ (w : V) (x : α), RelV w v ∧ Rp.rep X.K F w x ∧ kf v = SorE.key x) → ∃ ws, Vals ws out ∧ Paired (Rp.rep X.K F) ws ys
  | [], [], _, _ => ⟨[], .nil, .nil⟩
  | [], _ :: _, h, _ => by cases h
  | _ :: _, [], h, _ => by cases h
  | v :: out, y :: ys, h, hv => by
    rw [List.map_cons, List.map_cons] at h
    have h1 := List.cons.inj h
    obtain ⟨ws, k1, k2⟩ := out_vals h1.2 fun u hu => hv u (List.mem_cons_of_mem _ hu)
    obtain ⟨w, x, r1, r2, e⟩ := hv v List.mem_cons_self
    have exy : x = y := SorE.inj _ _ (e.symm.trans h1.1)
    subst exy
    exact ⟨w :: ws, .cons r1 k1, .cons r2 k2⟩
theorem trip {F : Hp} {kf : Value → List Sca} : ∀ {vs : List V} {us : List Value} {xs : List α}, Paired (Rp.rep X.K F) vs xs → Vals vs us → us.map kf = xs.map SorE.key → ∀ v ∈ us, ∃ (w : V) (x : α), RelV w v ∧ Rp.rep X.K F w x ∧ kf v = SorE.key x
  | _, _, _, .nil, .nil, _, v, hv => by cases hv
  | _, _, _, .cons r t, .cons rv tv, h, v, hv => by
    rw [List.map_cons, List.map_cons] at h
    have h1 := List.cons.inj h
    rcases List.mem_cons.mp hv with e | hv
    · rw [e]; exact ⟨_, _, rv, r, h1.1⟩
    · exact trip t tv h1.2 v hv
theorem swoE : SrtO.Swo (ltE : α → α → Bool) := toLex.swo SorE.key
theorem srtE_len (xs : List α) : (srtE xs).length = xs.length := (srt_perm _ xs).length_eq
theorem srtE_perm (xs : List α) : (srtE xs).Perm xs := srt_perm _ xs
theorem srtE_srtd (xs : List α) : SrtO.Srtd ltE (srtE xs) := srt_srtd swoE xs
theorem out_eq {kf : Value → List Sca} {us out : List Value} {xs : List α} {r : Option Bool} (h : us.map kf = xs.map SorE.key) (hs : SrtO.Srtd (fun v u => lexS (kf v) (kf u)) out) (hb : SrtO.Stb (fun v u => lexS (kf v) (kf u)) out (if rvB r = true then us.reverse else us)) : out.map kf = (srtE xs).map SorE.key := by
  refine srt_one toLex (SrtO.srtd_map hs) (SrtO.srtd_map (srtE_srtd xs)) ?_
  have p1 := hb.perm.map kf
  have p2 : ((if rvB r = true then us.reverse else us).map kf).Perm (us.map kf) := by
    split
    · exact (List.reverse_perm us).map kf
    · exact List.Perm.refl _
  rw [h] at p2
  exact p1.trans (p2.trans ((srtE_perm xs).map SorE.key).symm)
/-- the value of sorted(.., reverse=r) -/
def srtR (r : Option Bool) (xs : List α) : List α := bif rvB r then (srtE xs).reverse else srtE xs
theorem srtR_len (r : Option Bool) (xs : List α) : (srtR r xs).length = xs.length := by
  unfold srtR
  cases rvB r with
  | true => show (srtE xs).reverse.length = _; rw [List.length_reverse, srtE_len]
  | false => exact srtE_len xs
theorem sorted_fin {pins : List (Addr × Obj)} {σ : L2.St} {F H : Hp} {s : Shared} {xs : List α} {r : Option Bool} {kf : Value → List Sca} {Q : VK} {P : List Value → Prop} (I : Inv X pins σ H s) (hz : xs.length ≤ big)
    (hP : ∀ us, P us → ∃ vs, Paired (Rp.rep X.K F) vs xs ∧ Vals vs us ∧ us.map kf = xs.map SorE.key) (q : ∀ q ws, H q = none → Paired (Rp.rep X.K F) ws (srtR r xs) → Q (.ref q) (upd H q (.lst ws))) :
    Sorted s P (fun v u => lexS (kf v) (kf u)) r (EP X pins σ Q) := fun us out hm h' tk d n hp hz2 o1 o2 k1 ed k2 hd => by
  obtain ⟨vs, p1, p2, p3⟩ := hP us hp
  have e := out_eq (r := r) p3 o1 o2
  have tr := trip p1 p2 p3
  obtain ⟨ws, w1, w2⟩ := out_vals (X := X) (F := F) e fun v hv => tr v (by
    have z := o2.perm.mem_iff.mp hv
    split at z
    · exact List.mem_reverse.mp z
    · exact z)
  have I1 : Inv X pins σ H { s with heap := hm, toks := tk } := I.kept k1
  subst ed
  obtain ⟨ws2, us2, g1, g2, g3⟩ : ∃ (ws2 : List V) (us2 : List Value), Vals ws2 us2 ∧ Paired (Rp.rep X.K F) ws2 (srtR r xs) ∧ (if rvB r = true then out.toArray.reverse else out.toArray) = us2.toArray := by
    unfold srtR
    cases rvB r with
    | true => exact ⟨ws.reverse, out.reverse, pairedRev w1, pairedRev w2, by simp⟩
    | false => exact ⟨ws, out, w1, w2, by simp⟩
  rw [g3] at hd
  have hlen : ws2.length ≤ sizeLine := by rw [pairedLen g2, srtR_len]; exact big_line hz
  exact ⟨.ref hm.objs.size, upd H hm.objs.size (.lst ws2), I1.laid (t' := tk) k2 (Nat.le_refl _) (show ObjOk X.prog X.w _ _ _ (.lst ws2) from ⟨hlen, us2, n, g1, hd⟩), rfl, q _ ws2 (I1.hok.fresh (Nat.le_refl _)) g2⟩
/-- a list sorted -/
def rSorL (X : Cx) (α : Type) [Rp α] [SorE α] (r : Option Bool) : V → Hp → VK → Prop := fun v H Q => ∃ (F : Hp) (p : Addr) (vs : List V) (xs : List α), v = .ref p ∧ Sub F H ∧ H p = some (.lst vs) ∧ Paired (Rp.rep X.K F) vs xs ∧ xs.length ≤ big ∧ ∀ q ws, H q = none → Paired (Rp.rep X.K F) ws (srtR r xs) → Q (.ref q) (upd H q (.lst ws))
theorem run_sorL {r : Option Bool} {pins : List (Addr × Obj)} {s : Shared} {σ : L2.St} {H : Hp} {v : V} {u : Value} {Q : VK} (I : Inv X pins σ H s) (rv : RelV v u) (h : rSorL X α r v H Q) : wpAny (model X.prog X.w) X.A (call (.builtin "sorted") [u] (kwR r)) (EP X pins σ Q) X.xe s := by
  obtain ⟨F, p, vs, xs, rfl, sb, hp, pr, hz, q⟩ := h
  obtain rfl : u = Value.ref p := rv
  obtain ⟨us, rv, hl, hz2⟩ := I.list (.inl (.inl hp))
  obtain ⟨kf, e1, e2⟩ := SorE.raw I sb pr rv
  refine sorted_call (P := fun vs => vs = us) (toLex.swo kf) (fun R hR => ?_) (fun vs' e h2 h₁ tk a ha kk => ?_) (sorted_fin I hz (fun us' e => ⟨vs, pr, by rw [e]; exact rv, by rw [e]; exact e1⟩) q)
  · refine PyProof.Rows.collect_list hl.isList ?_ (by rw [← rv.length]; exact hz2)
    refine hR _ _ _ (fun c o e => ?_) rfl (by rw [← rv.length]; exact hz2)
    rw [Heap.get?_update_ne _ _ _ _ (Nat.ne_of_lt (Heap.lt_size e))]
    exact Heap.get?_push_of_some _ e
  · subst e
    exact e2 h2 h₁ tk a ha kk
theorem cr_sorL : CallR X (.builtin "sorted") (fun vs H Q => ∃ v, vs = [v] ∧ rSorL X α none v H Q) := by
  intro pins s σ H vs us Q I r h
  obtain ⟨v, rfl, h⟩ := h
  obtain ⟨u, rfl, rv⟩ := vals1 r
  exact run_sorL (r := none) I rv h
variable {es : List En} {e : Expr} {pos p : Pos}
theorem rSorL.own {f : Fr} {σ : L2.St} {F H F1 H1 : Hp} {r : Option Bool} {xs : List α} {vs : List V} {a : Addr} (t1 : St0 F H F1 H1) (hp : H1 a = some (.lst vs)) (rp : Paired (Rp.rep X.K F1) vs xs) (hz : xs.length ≤ big) {Q : VK} (q : ∀ v F' H' P, St0 F H F' H' → Ow.own X.K F' H' v (srtR r xs) P → P.Nodup → (∀ p ∈ P, H p = none) → Q v H') : rSorL X α r (.ref a) H1 Q :=
  ⟨F1, a, vs, xs, rfl, t1.e, hp, rp, hz, fun q0 ws hq pw => q _ F1 _ [q0] (t1.trans (St0.new t1.e hq)) (newL t1.e hq (by rw [srtR_len]; exact hz) pw) (by simp) fun z hz => by
    have e : z = q0 := by simpa using hz
    rw [e]; exact t1.back hq⟩
theorem n_sorted {xs : List α} (hg : Gl X "sorted") (hm : X.mg "sorted" = none) (ha : LR X es e xs) (s1 : starEach [e] X.env = (false, eval e X.env) :: starEach [] X.env := by rfl) : NJ X es (.Call (.Name "sorted" p) [e] [] pos) (srtR none xs) := .mk fun f σ F H S Q q =>
  peR (pe_callB (cr_sorL (α := α)) hg hm (by decide +kernel) (pa_cons peW pa_nil s1) (by decide) (by decide) s1) (ha f σ F H S _ fun a vs F1 H1 t1 hp rp hz => ⟨_, rfl, rSorL.own (f := f) (σ := σ) t1 hp rp hz q⟩)
end
/-! dicts sorted: the keys -/
section
variable {X : Cx} {κ α : Type} [Sc κ] [Ky κ] [DecidableEq κ] [Rp α] [ScaE κ]
def rSorD (X : Cx) (κ : Type) [Sc κ] [Ky κ] [ScaE κ] (r : Option Bool) : V → Hp → VK → Prop := fun v H Q => ∃ (F : Hp) (p : Addr) (ks : List (Key × V)) (xs : List κ), v = .ref p ∧ Sub F H ∧ Rd H p (.dK ks) ∧ ks.map (·.1) = xs.map Ky.key ∧ (∀ x ∈ xs, Sc.ok x) ∧ xs.length ≤ big ∧ ∀ q ws, H q = none → Paired (Rp.rep X.K F) ws (srtR r xs) → Q (.ref q) (upd H q (.lst ws))
theorem run_sorD {r : Option Bool} {pins : List (Addr × Obj)} {s : Shared} {σ : L2.St} {H : Hp} {v : V} {u : Value} {Q : VK} (hc : X.calm = true) (I : Inv X pins σ H s) (rv : RelV v u) (h : rSorD X κ r v H Q) : wpAny (model X.prog X.w) X.A (call (.builtin "sorted") [u] (kwR r)) (EP X pins σ Q) X.xe s := by
  obtain ⟨F, p, ks, xs, rfl, sb, hp, ek, hok, hz, q⟩ := h
  obtain rfl : u = Value.ref p := rv
  obtain ⟨z, lo, vs, rel, dd⟩ := dk_rd I.hok hp
  obtain ⟨ep, hat⟩ := dd.dictAt
  have hl : vs.length = xs.length := by
    have e1 := congrArg List.length ek
    rw [List.length_map, List.length_map] at e1
    rw [← rel.length, e1]
  have hz16 : vs.length ≤ sizeLine := by rw [hl]; exact big_line hz
  have key : ∀ {xs : List κ} {acc : List Value}, (∀ x ∈ xs, Sc.ok x) → acc.length = xs.length → (∀ (j : Nat) v, acc[j]? = some v → ∃ x : κ, xs[j]? = some x ∧ RelV (Sc.toV x) v) → ∃ ws, Paired (Rp.rep X.K F) ws xs ∧ Vals ws acc := by
    intro xs
    induction xs with
    | nil =>
      intro acc _ h1 _
      cases acc with
      | nil => exact ⟨[], .nil, .nil⟩
      | cons a b => cases h1
    | cons x xs ih =>
      intro acc h0 h1 h2
      cases acc with
      | nil => cases h1
      | cons a acc =>
        obtain ⟨ws, w1, w2⟩ := ih (acc := acc) (fun y hy => h0 y (List.mem_cons_of_mem _ hy)) (Nat.succ.inj h1) fun j v e => h2 (j + 1) v e
        obtain ⟨y, e1, e2⟩ := h2 0 a rfl
        cases e1
        exact ⟨Sc.toV x :: ws, .cons ⟨rfl, h0 x List.mem_cons_self⟩ w1, .cons e2 w2⟩
  have keyV : ∀ {xs : List κ} {acc : List Value}, acc.length = xs.length → (∀ (j : Nat) v, acc[j]? = some v → ∃ x : κ, xs[j]? = some x ∧ RelV (Sc.toV x) v) → Paired IsSc acc (xs.map ScaE.sca) := by
    intro xs
    induction xs with
    | nil =>
      intro acc h1 _
      cases acc with
      | nil => exact .nil
      | cons a b => cases h1
    | cons x xs ih =>
      intro acc h1 h2
      cases acc with
      | nil => cases h1
      | cons a acc =>
        obtain ⟨y, e1, e2⟩ := h2 0 a rfl
        cases e1
        exact .cons (ScaE.val _ _ e2) (ih (acc := acc) (Nat.succ.inj h1) fun j v e => h2 (j + 1) v e)
  let P : List Value → Prop := fun acc => acc.length = xs.length ∧ ∀ (j : Nat) v, acc[j]? = some v → ∃ x : κ, xs[j]? = some x ∧ RelV (Sc.toV x) v
  have kmap : ∀ acc, P acc → acc.map (fun v => [scOf v]) = xs.map SorE.key := fun acc h => by
    have e := scs_of (keyV h.1 h.2)
    rw [show acc.map (fun v => [scOf v]) = (acc.map scOf).map fun c => [c] from by rw [List.map_map]; rfl, e, List.map_map]; rfl
  refine sorted_call (P := P) (toLex.swo fun v => [scOf v]) (fun R hR => ?_) (fun acc hp h2 h₁ tk a ha kk => ?_) (sorted_fin (F := F) I hz (fun acc hp => ?_) q)
  · refine PySem.W.kdu_collect (A := X.A.in1) (PySem.W.kdl_dict (knd := mixKind X.prog X.w) (kvs := vs) (ep := ep) lo) (I.ok.hd hc) hat hz16 fun h' tk acc hk hacc => hR h' tk acc.toList hk ⟨by rw [Array.length_toList, hacc.1, hl], fun j v e => ?_⟩ (by rw [Array.length_toList, hacc.1]; exact hz16)
    obtain ⟨k, x, e1, e2⟩ := hacc.2 j v (by rw [← Array.getElem?_toList]; exact e)
    have e3 : (vs.map (·.1))[j]? = some k := by rw [List.getElem?_map, e1]; rfl
    rw [← rel.keys, ek, List.getElem?_map] at e3
    cases e4 : xs[j]? with
    | none => rw [e4] at e3; cases e3
    | some y =>
      rw [e4] at e3
      have e5 : Ky.key y = k := Option.some.inj e3
      subst e5
      refine ⟨y, rfl, ?_⟩
      have z := relV_key (show keyIs (Ky.key y) v = true from e2)
      rw [Ky.kv] at z
      exact z
  · have e : (fun v u : Value => lexS [scOf v] [scOf u]) = fun v u => Sca.lt (scOf v) (scOf u) := funext fun v => funext fun u => lex1 _ _
    rw [e]
    refine one_sortable (sh := ScaE.isS κ) h2 fun v hv => ?_
    obtain ⟨i, hi, e⟩ := List.getElem_of_mem hv
    obtain ⟨x, _, e2⟩ := hp.2 i v (by rw [List.getElem?_eq_getElem hi, e])
    exact ⟨_, ScaE.val x v e2, ScaE.kind x⟩
  · obtain ⟨ws, w1, w2⟩ := key hok hp.1 hp.2
    exact ⟨ws, w1, w2, kmap acc hp⟩
theorem cr_sorD (hc : X.calm = true) : CallR X (.builtin "sorted") (fun vs H Q => ∃ v, vs = [v] ∧ rSorD X κ none v H Q) := by
  intro pins s σ H vs us Q I r h
  obtain ⟨v, rfl, h⟩ := h
  obtain ⟨u, rfl, rv⟩ := vals1 r
  exact run_sorD (r := none) hc I rv h
variable {es : List En} {e : Expr} {pos p : Pos}
theorem rSorD.own {f : Fr} {σ : L2.St} {F H F1 H1 : Hp} {r : Option Bool} {d : Dct κ α} {v : V} (t1 : St0 F H F1 H1) (rd : Rp.rep X.K (ovl F1 H1) v d) {Q : VK} (q : ∀ v F' H' P, St0 F H F' H' → Ow.own X.K F' H' v (srtR r (keysD d)) P → P.Nodup → (∀ p ∈ P, H p = none) → Q v H') : rSorD X κ r v H1 Q := by
  obtain ⟨a, ks, e, hF, hR, h1, h2, rr⟩ := repD (ovl_sub t1.e) rd
  refine ⟨F1, a, ks, keysD d, e, t1.e, hR, dr_keys rr, fun x hx => ?_, by unfold keysD; rw [List.length_map]; exact h1, fun q0 ws hq pw => q _ F1 _ [q0] (t1.trans (St0.new t1.e hq)) (newL t1.e hq (by rw [srtR_len]; unfold keysD; rw [List.length_map]; exact h1) pw) (by simp) fun z hz => by
    have e : z = q0 := by simpa using hz
    rw [e]; exact t1.back hq⟩
  have z : ∀ {ks : List (Key × V)} {l : List (κ × α)}, Paired (DR X.K (ovl F1 H1)) ks l → ∀ x ∈ l.map (·.1), Sc.ok x := by
    intro ks l r
    induction r with
    | nil => intro x hx; cases hx
    | cons h t ih =>
      intro x hx
      rcases List.mem_cons.mp hx with e | hx
      · rw [e]; exact h.2.1
      · exact ih x hx
  exact z rr x hx
theorem n_sortedD {d : Dct κ α} (hc : X.calm = true) (hg : Gl X "sorted") (hm : X.mg "sorted" = none) (ha : RJ X es e d) (s1 : starEach [e] X.env = (false, eval e X.env) :: starEach [] X.env := by rfl) : NJ X es (.Call (.Name "sorted" p) [e] [] pos) (srtR none (keysD d)) := .mk fun f σ F H S Q q =>
  peR (pe_callB (cr_sorD (κ := κ) hc) hg hm (by decide +kernel) (pa_cons peW pa_nil s1) (by decide) (by decide) s1) (ha f σ F H S _ fun v F1 H1 t1 r1 => ⟨_, rfl, rSorD.own (f := f) (σ := σ) t1 r1 q⟩)
end
end Ly
namespace LyV
open PySem PySem.W PyProof.Rows
end LyV
namespace Ly
open PySem PySem.Spec PyProof.Rows L2 TL
section
variable {X : Cx} {es es1 es2 : List En} {a b c e : Expr} {pos : Pos} {α β γ : Type} {i : Nat} {st : Stmt}
/-! None or a scalar -/
def optV {α : Type} [Sc α] : Option α → V
  | none => .non
  | some x => Sc.toV x
instance scOpt {α : Type} [Sc α] : Sc (Option α) := ⟨optV, fun o => match o with
  | none => True
  | some x => Sc.ok x⟩
/-- a scalar that is not None -/
class NoN (α : Type) [Sc α] : Prop where
  nn : ∀ x : α, Sc.toV x ≠ V.non
instance : NoN Int := ⟨fun x h => by cases h⟩
instance : NoN Str := ⟨fun x h => by cases h⟩
instance : NoN Bool := ⟨fun x h => by cases h⟩
theorem r_none {α : Type} [Sc α] {j} : RJ X es (.Constant .none j pos) (none : Option α) := r_con pe_non True.intro
theorem r_some [Sc α] {x : α} (h : RJ X es a x) : RJ X es a (some x) := .mk fun f σ F H S Q q => h f σ F H S Q fun v F' H' t r => q v F' H' t ⟨r.1, r.2⟩
theorem r_the [Sc α] [Inhabited α] {o : Option α} (ho : o.isSome = true) (h : RJ X es a o) : RJ X es a (o.getD default) := .mk fun f σ F H S Q q => h f σ F H S Q fun v F' H' t r => q v F' H' t (by
  cases o with
  | none => cases ho
  | some x => exact ⟨r.1, r.2⟩)
/-- x is None -/
theorem opt_dec [Sc α] [NoN α] (o : Option α) : decide (Sc.toV o = V.non) = !o.isSome := by
  cases o with
  | none => rfl
  | some x => exact decide_eq_false (NoN.nn x)
theorem t_isNone [Sc α] [NoN α] {o : Option α} {j} {p2 : Pos} (h : RJ X es a o) : TJ X es (.Compare a [.Is] [.Constant .none j p2] pos) (!o.isSome) := t_cmpG (y := ()) op_isN (fun _ Q q => ⟨rfl, by rw [opt_dec]; exact q⟩) h r_non
theorem t_isntNone [Sc α] [NoN α] {o : Option α} {j} {p2 : Pos} (h : RJ X es a o) : TJ X es (.Compare a [.IsNot] [.Constant .none j p2] pos) o.isSome := t_cmpG (y := ()) op_notN (fun _ Q q => ⟨rfl, by rw [opt_dec, Bool.not_not]; exact q⟩) h r_non
/-! a tuple of one type, of any length -/
structure Tl (α : Type) where
  l : List α
  deriving DecidableEq, Inhabited
instance clTl {α : Type} [Rp α] : Cl (Tl α) where
  cell K H o (x : Tl α) := x.l.length ≤ big ∧ ∃ vs, o = .tup vs ∧ Paired (Rp.rep K H) vs x.l
  mono {K H H' o x} i h := by
    obtain ⟨z, vs, e, h⟩ := h
    exact ⟨z, vs, e, pairedM i h⟩
theorem tlR [Rp α] {K : PySem.W.Frag} {F H : Hp} {v : V} {x : Tl α} (s : Sub F H) (r : Rp.rep K F v x) : ∃ p vs, v = .ref p ∧ H p = some (.tup vs) ∧ F p = some (.tup vs) ∧ Paired (Rp.rep K F) vs x.l := by
  obtain ⟨p, o, e, h1, z, vs, eo, r⟩ := r
  subst eo
  exact ⟨p, vs, e, (s p _ h1).nd fun z => z, h1, r⟩
/-! isinstance -/
class KindOf (α : Type) [Rp α] where
  nm : String
  ty : ∀ {K : PySem.W.Frag} {F H : Hp} {v : V} {x : α}, Sub F H → Rp.rep K F v x → TyX K H v (.type nm)
instance : KindOf Int := ⟨"int", fun _ r => by rw [r.1]; exact .base (.int _)⟩
instance : KindOf Str := ⟨"str", fun _ r => by rw [r.1]; exact .base (.str _)⟩
instance : KindOf Bool := ⟨"bool", fun _ r => by rw [r.1]; exact .base (.bl _)⟩
instance [Rp α] : KindOf (List α) := ⟨"list", fun s r => by
  obtain ⟨p, vs, e, h, _⟩ := repL s r
  subst e
  exact .base (.lst h)⟩
instance [Rp α] : KindOf (Tl α) := ⟨"tuple", fun s r => by
  obtain ⟨p, vs, e, h, _⟩ := tlR s r
  subst e
  exact .base (.tup h)⟩
instance [Rp α] [Rp β] : KindOf (α × β) := ⟨"tuple", fun s r => by
  obtain ⟨p, o, e, h1, v, w, eo, _⟩ := r
  subst e eo
  exact .base (.tup ((s p _ h1).nd fun z => z))⟩
instance [Rp α] [Rp β] [Rp γ] : KindOf (Tp3 α β γ) := ⟨"tuple", fun s r => by
  obtain ⟨p, o, e, h1, v, w, u, eo, _⟩ := r
  subst e eo
  exact .base (.tup ((s p _ h1).nd fun z => z))⟩
instance {δ : Type} [Rp α] [Rp β] [Rp γ] [Rp δ] : KindOf (Tp4 α β γ δ) := ⟨"tuple", fun s r => by
  obtain ⟨p, o, e, h1, v, w, u, t, eo, _⟩ := r
  subst e eo
  exact .base (.tup ((s p _ h1).nd fun z => z))⟩
instance {κ : Type} [Sc κ] [Ky κ] [DecidableEq κ] [Rp α] : KindOf (Dct κ α) := ⟨"dict", fun s r => by
  obtain ⟨p, ks, e, _, h, _⟩ := repD s r
  subst e
  rcases h with h | ⟨o, h⟩
  · exact .base (.dK h)
  · exact .fDict h⟩
theorem r_isi [Rp α] [KindOf α] {x : α} (cn : Str) (cs : String) {k : Bool} {p2 : Pos} (hb : bootBuiltins cn = some (.type cs)) (hk : ∀ K, PySem.W.kitOne K (.type (KindOf.nm α)) (.type cs) = some k) (hg : Gl X "isinstance") (hm : X.mg "isinstance" = none) (hg2 : Gl X cn) (hm2 : X.mg cn = none) (h : RJ X es a x)
    (s1 : starEach [a, .Name cn p2] X.env = (false, eval a X.env) :: starEach [.Name cn p2] X.env := by rfl) (s3 : (backTo pos (starEach [.Name cn p2] X.env)).any (·.1) = false := by rfl) (hd1 : cn ≠ Str.ofString "__name__" := by decide) (hd2 : (cn == Str.ofString "__debug__") = false := by decide) : RJ X es (.Call (.Name "isinstance" p) [a, .Name cn p2] [] pos) k := .mk fun f σ F H S Q q =>
  peR (pe_callB call_isi hg hm (by decide +kernel) (pa_cons peW (pa_cons (pe_bltn (v := .ty cs) hg2 hm2 hb rfl hd1 hd2) pa_nil) s1) (by decide) (by decide) s1 s3) (h f σ F H S _ fun v F1 H1 t1 r1 =>
    ⟨v, .ty cs, _, .type cs, k, rfl, .ty _, KindOf.ty (ovl_sub t1.e) r1, hk _, q _ F1 H1 t1 ⟨rfl, True.intro⟩⟩)
/-! == of Tl -/
theorem tl_same [Rp α] [EqB α] {K : PySem.W.Frag} {F : Hp} {v : V} {x y : Tl α} (r1 : Rp.rep K F v x) (r2 : Rp.rep K F v y) : eqbL x.l y.l = true := by
  obtain ⟨p, vs, e1, _, f1, p1⟩ := tlR (Sub.refl F) r1
  obtain ⟨q, ws, e2, _, f2, p2⟩ := tlR (Sub.refl F) r2
  subst e1
  cases e2
  rw [f1] at f2
  cases f2
  exact eqbL_same p1 p2
theorem tupN_trees {H : Hp} {n : Nat} {a b : Addr} {xs ys : List V} (c : Nat → Bool) (ha : SqT X.K H a xs) (hb : SqT X.K H b ys) (hc : ∀ (j : Nat) x y, xs[j]? = some x → ys[j]? = some y → EqS X H n x y (c j)) :
    (a ≠ b → EqS X H (n + 1) (.ref a) (.ref b) ((List.range (min xs.length ys.length)).all c && xs.length == ys.length)) ∧ RcS X H (n + 1) .Eq (.ref a) (.ref b) ((List.range (min xs.length ys.length)).all c && xs.length == ys.length) ∧ RcS X H (n + 1) .NotEq (.ref a) (.ref b) (!((List.range (min xs.length ys.length)).all c && xs.length == ys.length)) := by
  have key : ∀ (pins : List (Addr × Obj)) (σ : L2.St) (s : Shared), Inv X pins σ H s → ∃ us ws : List Value, s.heap.IsTuple a us.toArray ∧ s.heap.IsTuple b ws.toArray ∧ us.length = xs.length ∧ ws.length = ys.length ∧
      ∀ j (h1 : j < us.toArray.size) (h2 : j < ws.toArray.size), PySem.W.EqTree X.prog X.w s n us.toArray[j] ws.toArray[j] (c j) := fun pins σ s I => by
    obtain ⟨us, r1, ⟨o, h1, h2, m, h3⟩, _⟩ := I.tuple ha
    obtain ⟨ws, r2, ⟨o2, k1, k2, m2, k3⟩, _⟩ := I.tuple hb
    refine ⟨us, ws, ⟨o, h1, h2, m, h3⟩, ⟨o2, k1, k2, m2, k3⟩, r1.length.symm, r2.length.symm, fun j h1 h2 => ?_⟩
    obtain ⟨x, ex, rx⟩ := vals_at r1 j (by simpa using h1)
    obtain ⟨y, ey, ry⟩ := vals_at r2 j (by simpa using h2)
    have z := hc j x y ex ey pins σ s _ _ I rx ry
    simpa using z
  refine ⟨fun hne pins σ s v u I rv ru => ?_, fun pins σ s v u I rv ru A hu E Q q => ?_, fun pins σ s v u I rv ru A hu E Q q => ?_⟩
  all_goals
    cases (show v = Value.ref a from rv)
    cases (show u = Value.ref b from ru)
    obtain ⟨us, ws, l1, l2, e1, e2, t⟩ := key pins σ s I
    have e : ((List.range (min xs.length ys.length)).all c && xs.length == ys.length) = ((List.range (min us.toArray.size ws.toArray.size)).all c && us.toArray.size == ws.toArray.size) := by simp [e1, e2]
  · rw [e]; exact PySem.W.EqTree.tuples hne l1 l2 t
  · rw [e] at q
    exact PySem.W.eq_tuplesT l1 l2 t hu q
  · rw [e] at q
    exact SeqAt.ly_rcNeT l1 l2 (by omega) (fun j h1 h2 => (t j h1 h2).at A.in1 (by show A.units + 1 + _ < cLine; omega)) q
theorem eqbL_min [Rp α] [EqB α] (xs ys : List α) : ((List.range (min xs.length ys.length)).all (eqAtL xs ys) && xs.length == ys.length) = eqbL xs ys := by
  rw [eqbL_range]
  by_cases c : xs.length = ys.length
  · rw [c, Nat.min_self, Bool.and_comm]
  · rw [beq_false_of_ne c, Bool.and_false, Bool.false_and]
theorem tl_eqb [Rp α] [EqB α] {F H : Hp} {v w : V} {x y : Tl α} (s : Sub F H) (r1 : Rp.rep X.K F v x) (r2 : Rp.rep X.K F w y) :
    EqS X H (EqB.dep α + 1) v w (eqbL x.l y.l) ∧ RcS X H (EqB.dep α + 1) .Eq v w (eqbL x.l y.l) ∧ RcS X H (EqB.dep α + 1) .NotEq v w (!eqbL x.l y.l) := by
  have sm := fun e : v = w => tl_same r1 (e ▸ r2)
  obtain ⟨p, vs, e1, h1, f1, p1⟩ := tlR s r1
  obtain ⟨q, ws, e2, h2, f2, p2⟩ := tlR s r2
  subst e1 e2
  have z := tupN_trees (X := X) (n := EqB.dep α) (eqAtL x.l y.l) (.inl (.inl h1)) (.inl (.inl h2)) fun j u u2 hx hy => by
    obtain ⟨x', ex, rx⟩ := paired_get2 p1 hx
    obtain ⟨y', ey, ry⟩ := paired_get2 p2 hy
    have e : eqAtL x.l y.l j = eqb x' y' := by unfold eqAtL; rw [ex, ey]
    rw [e]
    exact EqB.tree s rx ry
  rw [pairedLen p1, pairedLen p2, eqbL_min] at z
  refine ⟨?_, z.2.1, z.2.2⟩
  by_cases c : p = q
  · subst c
    rw [sm rfl]
    exact fun pins σ s v u I rv ru => by cases rv; cases ru; exact .same
  · exact z.1 c
instance eqbTl [Rp α] [EqB α] : EqB (Tl α) where
  eqb x y := eqbL x.l y.l
  dep := EqB.dep α + 1
  tree s r1 r2 := (tl_eqb s r1 r2).1
  eq s r1 r2 := (tl_eqb s r1 r2).2.1
  ne s r1 r2 := (tl_eqb s r1 r2).2.2
  same r1 r2 := tl_same r1 r2
/-! a, b = e -/
theorem s_asgG {tg : Expr} [Rp α] {x : α} (hst : PS X st (tAsg (wpE X e) (wpG X tg))) (h : FJ X es e x) (hg : GJ X tg es x es1) : E1 X es st es1 := .mk fun f σ F H D S q =>
  psR hst (h f σ F H S _ fun v F1 H1 t1 r1 => hg f σ F1 H1 v (S.step t1) r1 _ fun σ2 F2 H2 S2 _ => q σ2 F2 H2 S2)
/-! and, or with an effect behind -/
theorem xt_and {τ : Type} {k l : Bool} {p1 p2 : τ} (esf : τ → List En) (h : XT X es a k (esf p1)) (h2 : k = true → XT X (esf p1) b l (esf p2)) (he : esf (bif k then p2 else p1) = es2 := by rfl) : XT X es (.BoolOp .And [a, b] pos) (k && l) es2 := .mk fun f σ F H S Q q => by
  subst he
  refine ptR (pwW (X := X) (e := .BoolOp .And [a, b] pos)).pt (pwR (pw_and ptW pwW) (h f σ F H S _ fun F1 H1 S1 i1 => ?_))
  cases k with
  | true => exact pwR (pw_and1 ptW) (h2 rfl f σ F1 H1 S1 _ fun F2 H2 S2 i2 => q F2 H2 S2 (i1.trans i2))
  | false => exact q F1 H1 S1 i1
/-! d.get(k), d.get(k, x) -/
section
variable {κ : Type} [Sc κ] [Ky κ] [DecidableEq κ] [Rp α] {d : Dct κ α} {k : κ} {apos : Pos}
end
end
end Ly
namespace Ly
open PySem PySem.Spec PyProof.Rows L2 TL
/-! d.values() -/
def VwO (v d : Addr) : HO := .ext fun h => h.IsValuesView v d
def tValues (te : TE) : TE := fun σ H Q => te σ H fun x H1 => ∃ (d : Addr) (ks : List (Key × V)), x = .ref d ∧ Rd H1 d (.dK ks) ∧ ∀ v, H1 v = none → Q (.ref v) (upd H1 v (VwO v d))
section
variable {X : Cx} {e : Expr} {te : TE} {apos cpos : Pos}
end
/-- the values of a dict, as they are told -/
structure Vw (α : Type) where
  l : List α
def VwR {α : Type} [Rp α] (K : PySem.W.Frag) (H : Hp) (v : V) (x : Vw α) : Prop := ∃ (p d : Addr) (ks : List (Key × V)), v = .ref p ∧ H p = some (VwO p d) ∧ Rd H d (.dK ks) ∧ Paired (Rp.rep K H) (ks.map (·.2)) x.l ∧ x.l.length ≤ big
/-- a view that is read at once -/
structure VJ (X : Cx) (es : List En) (e : Expr) {α : Type} [Rp α] (xs : List α) : Prop where
  run : ∀ (f : Fr) (σ : L2.St) (F H : Hp), Sw X.K f es σ F H → ∀ Q : VK, (∀ p d ks F' H', St0 F H F' H' → H' p = some (VwO p d) → Rd H' d (.dK ks) → Paired (Rp.rep X.K (ovl F' H')) (ks.map (·.2)) xs → xs.length ≤ big → Q (.ref p) H') → wpE X e σ H Q
instance {X : Cx} {es : List En} {e : Expr} {α : Type} [Rp α] {xs : List α} : CoeFun (VJ X es e xs) (fun _ => ∀ (f : Fr) (σ : L2.St) (F H : Hp), Sw X.K f es σ F H → ∀ Q : VK, (∀ p d ks F' H', St0 F H F' H' → H' p = some (VwO p d) → Rd H' d (.dK ks) → Paired (Rp.rep X.K (ovl F' H')) (ks.map (·.2)) xs → xs.length ≤ big → Q (.ref p) H') → wpE X e σ H Q) := ⟨VJ.run⟩
section
variable {X : Cx} {es : List En} {a e : Expr} {pos apos p : Pos} {α κ : Type} [Sc κ] [Ky κ] [DecidableEq κ] [Rp α]
end
end Ly
namespace Ly
open PySem PySem.Spec PyProof.Rows L2 TL
section
variable {X : Cx} {es es1 es2 es3 : List En} {a b c d e : Expr} {pos : Pos} {α β γ δ : Type} {i : Nat} {st : Stmt}
/-! == of four in a tuple -/
theorem tp4_same [Rp α] [EqB α] [Rp β] [EqB β] [Rp γ] [EqB γ] [Rp δ] [EqB δ] {K : PySem.W.Frag} {F : Hp} {v : V} {x y : Tp4 α β γ δ} (r1 : Rp.rep K F v x) (r2 : Rp.rep K F v y) : [eqb x.a y.a, eqb x.b y.b, eqb x.c y.c, eqb x.d y.d].all id = true := by
  obtain ⟨p, o, e1, f1, a, b, c, d, eo, ra, rb, rc, rd⟩ := r1
  obtain ⟨q, o2, e2, f2, a2, b2, c2, d2, eo2, ra2, rb2, rc2, rd2⟩ := r2
  subst e1 eo eo2
  cases e2
  rw [f1] at f2
  cases f2
  simp [show eqb x.a y.a = true from EqB.same ra ra2, show eqb x.b y.b = true from EqB.same rb rb2, show eqb x.c y.c = true from EqB.same rc rc2, show eqb x.d y.d = true from EqB.same rd rd2]
abbrev dep4 (α β γ δ : Type) [Rp α] [EqB α] [Rp β] [EqB β] [Rp γ] [EqB γ] [Rp δ] [EqB δ] : Nat := max (max (EqB.dep α) (EqB.dep β)) (max (EqB.dep γ) (EqB.dep δ))
theorem tp4_eqb [Rp α] [EqB α] [Rp β] [EqB β] [Rp γ] [EqB γ] [Rp δ] [EqB δ] {X : Cx} {F H : Hp} {v w : V} {x y : Tp4 α β γ δ} (s : Sub F H) (r1 : Rp.rep X.K F v x) (r2 : Rp.rep X.K F w y) :
    EqS X H (dep4 α β γ δ + 1) v w ([eqb x.a y.a, eqb x.b y.b, eqb x.c y.c, eqb x.d y.d].all id) ∧ RcS X H (dep4 α β γ δ + 1) .Eq v w ([eqb x.a y.a, eqb x.b y.b, eqb x.c y.c, eqb x.d y.d].all id) ∧ RcS X H (dep4 α β γ δ + 1) .NotEq v w (![eqb x.a y.a, eqb x.b y.b, eqb x.c y.c, eqb x.d y.d].all id) := by
  have sm := fun e : v = w => tp4_same r1 (e ▸ r2)
  obtain ⟨p, o, e1, f1, a, b, c, d, eo, ra, rb, rc, rd⟩ := r1
  obtain ⟨q, o2, e2, f2, a2, b2, c2, d2, eo2, ra2, rb2, rc2, rd2⟩ := r2
  subst e1 eo e2 eo2
  refine tup_core (tupR s f1) (tupR s f2) rfl rfl (fun e => sm (by rw [e])) fun j u w c hu hw hc => ?_
  match j, hu, hw, hc with
  | 0, hu, hw, hc => cases hu; cases hw; cases hc; exact (EqB.tree s ra ra2).mono (by unfold dep4; omega)
  | 1, hu, hw, hc => cases hu; cases hw; cases hc; exact (EqB.tree s rb rb2).mono (by unfold dep4; omega)
  | 2, hu, hw, hc => cases hu; cases hw; cases hc; exact (EqB.tree s rc rc2).mono (by unfold dep4; omega)
  | 3, hu, hw, hc => cases hu; cases hw; cases hc; exact (EqB.tree s rd rd2).mono (by unfold dep4; omega)
instance eqbTp4 [Rp α] [EqB α] [Rp β] [EqB β] [Rp γ] [EqB γ] [Rp δ] [EqB δ] : EqB (Tp4 α β γ δ) where
  eqb x y := [eqb x.a y.a, eqb x.b y.b, eqb x.c y.c, eqb x.d y.d].all id
  dep := dep4 α β γ δ + 1
  tree s r1 r2 := (tp4_eqb s r1 r2).1
  eq s r1 r2 := (tp4_eqb s r1 r2).2.1
  ne s r1 r2 := (tp4_eqb s r1 r2).2.2
  same r1 r2 := tp4_same r1 r2
/-! range with a step -/
def stepN (lo hi c : Int) : Nat := (if lo < hi then (hi - lo - 1) / c + 1 else 0).toNat
def rangeS (lo hi c : Int) : List Int := (List.range (stepN lo hi c)).map fun (i : Nat) => lo + (i : Int) * c
theorem stepN_le {lo hi c : Int} (hc : 0 < c) (h : lo < hi) : (stepN lo hi c : Int) ≤ hi - lo := by
  unfold stepN
  rw [if_pos h]
  have h1 : (hi - lo - 1) / c ≤ hi - lo - 1 := Int.ediv_le_self _ (by omega)
  have h2 : 0 ≤ (hi - lo - 1) / c := Int.ediv_nonneg (by omega) (by omega)
  omega
theorem rgc_pos {m n c : Int} (hc : 0 < c) (hc2 : c < 1000000) (hb : -(2 ^ 50) ≤ m ∧ m < 2 ^ 50 ∧ -(2 ^ 50) ≤ n ∧ n < 2 ^ 50) : RgC m n c (stepN m n c) := by
  have hz : Builtin.Range.rangeSize m n c = (stepN m n c : Int) := by
    unfold Builtin.Range.rangeSize stepN
    rw [if_pos (show c > 0 from hc)]
    split
    · rename_i h
      have h2 : 0 ≤ (n - m - 1) / c := Int.ediv_nonneg (by omega) (by omega)
      omega
    · rfl
  refine ⟨by omega, by omega, ?_, hz⟩
  unfold Builtin.Range.small
  rw [hz]
  have h1 : (stepN m n c : Int) * c ≤ 2 ^ 60 ∧ (stepN m n c : Int) < 2 ^ 60 ∧ 0 ≤ (stepN m n c : Int) * c := by
    by_cases h : m < n
    · have e : (stepN m n c : Int) = (n - m - 1) / c + 1 := by
        have h2 : 0 ≤ (n - m - 1) / c := Int.ediv_nonneg (by omega) (by omega)
        unfold stepN; rw [if_pos h]; omega
      have h3 := stepN_le hc h
      have h4 : (n - m - 1) / c * c ≤ n - m - 1 := Int.ediv_mul_le _ (by omega)
      have h2 : 0 ≤ (n - m - 1) / c * c := Int.mul_nonneg (Int.ediv_nonneg (by omega) (by omega)) (by omega)
      rw [e, Int.add_mul, Int.one_mul]
      omega
    · have e : stepN m n c = 0 := by unfold stepN; rw [if_neg h]; rfl
      rw [e]; simp
  simp only [Builtin.Range.rangeFitsLong, Bool.and_eq_true, Bool.or_eq_true, decide_eq_true_eq, beq_iff_eq]
  refine ⟨⟨⟨⟨by omega, by omega⟩, by omega⟩, by omega⟩, .inr ?_⟩
  rw [if_pos (show c > 0 from hc), Bool.and_eq_true, decide_eq_true_eq, decide_eq_true_eq]
  omega
theorem ylC {K : PySem.W.Frag} {lo hi c : Int} {F0 : Hp} : YlF K (Itc lo c (stepN lo hi c)) F0 (rangeS lo hi c) := fun i F H i1 s => by
  have hl : (rangeS lo hi c).length = stepN lo hi c := by unfold rangeS; simp
  refine ⟨fun ei => ?_, fun x hx => ?_⟩
  · rw [hl] at ei
    first | exact Nat.le_of_eq ei.symm | (show stepN lo hi c ≤ i; omega)
  · have hi := (List.getElem?_eq_some_iff.mp hx).1
    have ex : x = lo + (i : Int) * c := by
      unfold rangeS at hx
      rw [List.getElem?_map, List.getElem?_range (by rw [hl] at hi; exact hi)] at hx
      exact (Option.some.inj hx).symm
    rw [hl] at hi
    refine ⟨hi, fun v H' y => ?_⟩
    obtain ⟨eH, ev⟩ := y
    subst ev eH
    exact ⟨F, St0.refl s, by rw [ex]; exact ⟨rfl, True.intro⟩⟩
theorem i_range3 {tg : Expr} {m n k : Int} {p : Pos} (hg : Gl X "range") (hm : X.mg "range" = none) (hk : 0 < k ∧ k < 1000000) (hb : -(2 ^ 50) ≤ m ∧ m < 2 ^ 50 ∧ -(2 ^ 50) ≤ n ∧ n < 2 ^ 50) (h : XJ X es a m es1) (h2 : XJ X es1 b n es2) (h3 : XJ X es2 c k es3)
    (hs : starEach [a, b, c] X.env = (false, eval a X.env) :: starEach [b, c] X.env := by rfl) (hs2 : starEach [b, c] X.env = (false, eval b X.env) :: starEach [c] X.env := by rfl) (hs3 : starEach [c] X.env = (false, eval c X.env) :: starEach [] X.env := by rfl) : IJ X tg es (.Call (.Name "range" p) [a, b, c] [] pos) (rangeS m n k) es3 := fun f σ F H S R q =>
  piR (pi_range3 hg hm (pa_cons peW (pa_cons peW (pa_cons peW pa_nil hs3) hs2) hs) hs (by rw [hs2, hs3]; rfl)) (h f σ F H S _ fun v F1 H1 S1 i1 r => h2 f σ F1 H1 S1 _ fun w F2 H2 S2 i2 r2 => h3 f σ F2 H2 S2 _ fun u F3 H3 S3 i3 r3 =>
    ⟨m, n, k, stepN m n k, by rw [show v = V.int m from r.1, show w = V.int n from r2.1, show u = V.int k from r3.1], rgc_pos hk.1 hk.2 hb, q _ F3 H3 S3 (i1.trans (i2.trans i3)) ylC⟩)
/-! max, min of two with an effect -/
/-! chains -/
/-! None or a scalar, compared -/
class ScO (α : Type) [Sc α] : Prop where
  so : ∀ x : α, L2.scal .non (Sc.toV x) = true ∧ L2.scal (Sc.toV x) .non = true
instance : ScO Int := ⟨fun _ => ⟨rfl, rfl⟩⟩
instance : ScO Str := ⟨fun _ => ⟨rfl, rfl⟩⟩
instance : ScO Bool := ⟨fun _ => ⟨rfl, rfl⟩⟩
instance [Sc α] [DecidableEq α] [ScE α] [NoN α] [ScO α] : ScE (Option α) where
  sc x y := match x, y with
    | none, none => rfl
    | none, some y => (ScO.so y).1
    | some x, none => (ScO.so x).2
    | some x, some y => ScE.sc x y
  inj x y := match x, y with
    | none, none => fun _ => rfl
    | none, some y => fun h => (NoN.nn y h.symm).elim
    | some x, none => fun h => (NoN.nn x h).elim
    | some x, some y => fun h => by rw [ScE.inj x y h]
/-! len of a dict -/
theorem cr_lenD : CallR X (.builtin "len") (fun vs H Q => ∃ (p : Addr) (ks : List (Key × V)), vs = [.ref p] ∧ Rd H p (.dK ks) ∧ Q (.int (ks.length : Int)) H) := by
  intro pins s σ H vs us Q I r h
  obtain ⟨p, ks, rfl, hp, q⟩ := h
  obtain ⟨u, rfl, rx⟩ := vals1 r
  obtain rfl : u = .ref p := rx
  exact d_len I hp fun t s' I' => ⟨.int _, H, I', ⟨t, rfl⟩, q⟩
theorem r_lenD {κ : Type} [Sc κ] [Ky κ] [DecidableEq κ] [Rp α] {d : Dct κ α} (hg : Gl X "len") (hm : X.mg "len" = none) (ha : RJ X es a d) (s1 : starEach [a] X.env = (false, eval a X.env) :: starEach [] X.env := by rfl) {p : Pos} : RJ X es (.Call (.Name "len" p) [a] [] pos) (d.l.length : Int) :=
  r_call1 (α := Dct κ α) (β := Int) cr_lenD hg hm (by decide +kernel) (fun F H v Q s r q => by
    obtain ⟨p, ks, e, _, hR, z, _, rr⟩ := repD (ovl_sub s) r
    subst e
    refine ⟨p, ks, rfl, hR, ?_⟩
    rw [pairedLen rr]
    exact q _ F H (St0.refl s) ⟨rfl, True.intro⟩) ha (by decide) (by decide) s1
/-- a test that never holds -/
theorem es_ifx {A rest : List Stmt} {b : Bool} {o : Out} {c : Expr} (hb : b = false) (h : XT X es c b es1) (h2 : ES X es1 rest o) : ES X es (.If c A [] pos :: rest) o := .mk fun f σ F H D S q =>
  pssR (pss_cons (ps_if ptW pssW pss_nil) pssW) (h f σ F H S _ fun F1 H1 S1 i1 => by
    subst hb
    exact h2 f σ F1 H1 D S1 q)
end
end Ly
namespace Ly
open PySem PySem.Spec PyProof.Rows L2 TL
/-! a new tuple of three whose middle part is one's own -/
structure Tm (α β γ : Type) where
  x : Tp3 α β γ
section
variable {α β γ δ : Type}
instance owTm [ra : Rp α] [rb : Ow β] [OwR β] [rc : Rp γ] : Ow (Tm α β γ) where
  rp := ⟨fun K H v x => @Rp.rep (Tp3 α β γ) (@rpCl _ (@clTp3 _ _ _ ra Ow.rp rc)) K H v x.x, fun i h => @Rp.mono (Tp3 α β γ) (@rpCl _ (@clTp3 _ _ _ ra Ow.rp rc)) _ _ _ _ _ i h⟩
  own K F H v x P := ∃ a va vb vc Q, v = .ref a ∧ P = a :: Q ∧ H a = some (.tup [va, vb, vc]) ∧ F a = none ∧ Rp.rep K F va x.x.a ∧ Ow.own K F H vb x.x.b Q ∧ Rp.rep K F vc x.x.c
  mono {K F F' H H' v x P} i h hf r := by
    obtain ⟨a, va, vb, vc, Q, e, rfl, h1, h2, r0, r1, r2⟩ := r
    exact ⟨a, va, vb, vc, Q, e, rfl, (h a (by simp)).trans h1, hf a (by simp), Rp.mono i r0, Ow.mono i (fun p hp => h p (List.mem_cons_of_mem _ hp)) (fun p hp => hf p (List.mem_cons_of_mem _ hp)) r1, Rp.mono i r2⟩
  out {K F H v x P} r p hp := by
    obtain ⟨a, va, vb, vc, Q, e, rfl, h1, h2, r0, r1, r2⟩ := r
    rcases List.mem_cons.mp hp with h | h
    · rw [h]; exact ⟨nn h1, h2⟩
    · exact Ow.out r1 p h
  fzn {K F H v x P} r := by
    obtain ⟨a, va, vb, vc, Q, e, rfl, h1, h2, r0, r1, r2⟩ := r
    have hf : ∀ p ∈ a :: Q, F p = none := fun p hp => by
      rcases List.mem_cons.mp hp with h | h
      · rw [h]; exact h2
      · exact (Ow.out r1 p h).2
    have i0 : Inc F (fzP F H (a :: Q)) := fzP_inc hf
    exact ⟨a, _, e, (fzP_in (by simp)).trans h1, va, vb, vc, rfl, Rp.mono i0 r0, @Rp.mono β Ow.rp _ _ _ _ _ (fzP_sub (fun p hp => List.mem_cons_of_mem _ hp) hf) (Ow.fzn r1), Rp.mono i0 r2⟩
  nt {K F H v x P} r p hp ks := by
    obtain ⟨a, va, vb, vc, Q, e, rfl, h1, h2, r0, r1, r2⟩ := r
    rcases List.mem_cons.mp hp with h | h
    · rw [h, h1]
      intro z
      obtain ⟨b, eb⟩ := OwR.ref r1
      injection z with z
      injection z with z
      match ks, z with
      | [_, kb, _], z =>
        have zb : vb = kV kb := (List.cons.inj (List.cons.inj z).2).1
        rw [eb] at zb
        cases kb <;> cases zb
    · exact Ow.nt r1 p h ks
variable {X : Cx} {es es1 es2 : List En} {a b c d e : Expr} {pos : Pos} {i : Nat} {st : Stmt}
theorem NJ.tmf [ra : Rp α] [Ow β] [OwR β] [rc : Rp γ] {x : Tp3 α β γ} (h : NJ X es e (Tm.mk x)) : @FJ X es e (Tp3 α β γ) (@rpCl _ (@clTp3 _ _ _ ra Ow.rp rc)) x := ⟨(show @FJ X es e (Tm α β γ) Ow.rp (Tm.mk x) from NJ.frz h).run⟩
theorem YJ.tmf [ra : Rp α] [Ow β] [OwR β] [rc : Rp γ] {x : Tp3 α β γ} (h : YJ X es e (Tm.mk x) es1) : @XJ X es e (Tp3 α β γ) (@rpCl _ (@clTp3 _ _ _ ra Ow.rp rc)) x es1 := ⟨(show @XJ X es e (Tm α β γ) Ow.rp (Tm.mk x) es1 from YJ.frz h).run⟩
/-! len of a tuple -/
class TupN (α : Type) [Rp α] where
  n : Nat
  tup : ∀ {K : PySem.W.Frag} {F : Hp} {v : V} {x : α}, Rp.rep K F v x → ∃ p vs, v = .ref p ∧ F p = some (.tup vs) ∧ vs.length = n
instance [Rp α] [Rp β] : TupN (α × β) := ⟨2, fun r => by
  obtain ⟨p, o, e, h1, v, w, eo, _⟩ := r
  subst eo
  exact ⟨p, _, e, h1, rfl⟩⟩
instance [Rp α] [Rp β] [Rp γ] : TupN (Tp3 α β γ) := ⟨3, fun r => by
  obtain ⟨p, o, e, h1, v, w, u, eo, _⟩ := r
  subst eo
  exact ⟨p, _, e, h1, rfl⟩⟩
instance [Rp α] [Rp β] [Rp γ] [Rp δ] : TupN (Tp4 α β γ δ) := ⟨4, fun r => by
  obtain ⟨p, o, e, h1, v, w, u, t, eo, _⟩ := r
  subst eo
  exact ⟨p, _, e, h1, rfl⟩⟩
theorem r_lenN [Rp α] [TupN α] {x : α} {m : Int} (hm0 : ((TupN.n α : Nat) : Int) = m) (hg : Gl X "len") (hm : X.mg "len" = none) (ha : RJ X es a x) (s1 : starEach [a] X.env = (false, eval a X.env) :: starEach [] X.env := by rfl) {p : Pos} : RJ X es (.Call (.Name "len" p) [a] [] pos) m :=
  r_call1 (α := α) (β := Int) call_len_seq hg hm (by decide +kernel) (fun F H v Q s r q => by
    obtain ⟨p, vs, e, h, l⟩ := TupN.tup r
    subst e
    refine ⟨p, vs, rfl, .inr (.inl (.inl ((ovl_sub s p _ h).nd fun z => z))), ?_⟩
    rw [l, hm0]
    exact q _ F H (St0.refl s) ⟨rfl, True.intro⟩) ha (by decide) (by decide) s1
/-! int or text -/
inductive IS where
  | i (x : Int)
  | s (x : Str)
  deriving DecidableEq, Inhabited
instance scIS : Sc IS := ⟨fun x => match x with
  | .i x => .int x
  | .s x => .str x, fun x => match x with
  | .i _ => True
  | .s x => sOk x⟩
instance : ScE IS where
  sc x y := match x, y with
    | .i _, .i _ => rfl
    | .i _, .s _ => rfl
    | .s _, .i _ => rfl
    | .s _, .s _ => rfl
  inj x y := match x, y with
    | .i _, .i _ => fun h => by injection h with h; rw [h]
    | .i _, .s _ => fun h => by cases h
    | .s _, .i _ => fun h => by cases h
    | .s _, .s _ => fun h => by injection h with h; rw [h]
def sel4 (x : Tp4 Int Str Int Int) (i : Int) : IS := if i = 0 then .i x.a else if i = 1 then .s x.b else if i = 2 then .i x.c else .i x.d
end
/-! a chain of three -/
section
variable {X : Cx} {es : List En} {a b c d : Expr} {pos : Pos} {ta tb tc td : TE}
def tChain3 (r r' r2 : R2) (ta tb tc td : TE) : TE := fun σ H Q => ta σ H fun x H1 => tb σ H1 fun y H2 => r x y H2 fun z H3 => ∃ k, z = .bl k ∧
  (if k = true then tc σ H3 fun w H4 => r' y w H4 fun z' H5 => ∃ k', z' = .bl k' ∧ (if k' = true then td σ H5 fun u H6 => r2 w u H6 Q else Q (.bl false) H5) else Q (.bl false) H3)
end
end Ly
namespace Ly
open PySem PySem.Spec PyProof.Rows L2 TL
/-! d.items(), told as a list -/
def ItO (v d : Addr) : HO := .ext fun h => h.IsItemsView v d
def tItems (te : TE) : TE := fun σ H Q => te σ H fun x H1 => ∃ (d : Addr) (ks : List (Key × V)), x = .ref d ∧ Rd H1 d (.dK ks) ∧ ∀ v, H1 v = none → Q (.ref v) (upd H1 v (ItO v d))
section
variable {X : Cx} {e : Expr} {te : TE} {apos cpos : Pos}
end
section
variable {X : Cx} {es es1 : List En} {a e : Expr} {pos apos p : Pos} {α κ : Type} [Sc κ] [Ky κ] [DecidableEq κ] [Rp α]
/-- the items of a dict, read at once -/
structure VI (X : Cx) (es : List En) (e : Expr) {κ α : Type} [Sc κ] [Ky κ] [Rp α] (xs : List (κ × α)) : Prop where
  run : ∀ (f : Fr) (σ : L2.St) (F H : Hp), Sw X.K f es σ F H → ∀ Q : VK, (∀ p d ks F' H', St0 F H F' H' → H' p = some (ItO p d) → Rd H' d (.dK ks) → Paired (DR X.K F') ks xs → xs.length ≤ big → Q (.ref p) H') → wpE X e σ H Q
instance {X : Cx} {es : List En} {e : Expr} {κ α : Type} [Sc κ] [Ky κ] [Rp α] {xs : List (κ × α)} : CoeFun (VI X es e xs) (fun _ => ∀ (f : Fr) (σ : L2.St) (F H : Hp), Sw X.K f es σ F H → ∀ Q : VK, (∀ p d ks F' H', St0 F H F' H' → H' p = some (ItO p d) → Rd H' d (.dK ks) → Paired (DR X.K F') ks xs → xs.length ≤ big → Q (.ref p) H') → wpE X e σ H Q) := ⟨VI.run⟩
/-! dict(xs) of a list of pairs whose keys are unlike -/
end
/-! what is told: a plan or a crowd -/
inductive Told where
  | plan (l : List (Int × List Str))
  | crowd (x y : Int) (ns : List Str)
  deriving DecidableEq, Inhabited
namespace Told
def kind : Told → Str
  | .plan _ => "plan"
  | .crowd _ _ _ => "crowd"
def isCrowd : Told → Bool
  | .plan _ => false
  | .crowd _ _ _ => true
def names : Told → List Str
  | .plan _ => []
  | .crowd _ _ ns => ns
def rows : Told → List (Int × List Str)
  | .plan l => l
  | .crowd _ _ _ => []
end Told
instance clTold : Cl Told where
  cell K H o x := match x with
    | .plan l => Cl.cell K H o (("plan" : Str), l)
    | .crowd a b ns => Cl.cell K H o (Tp4.mk ("crowd" : Str) a b ns)
  mono {K H H' o x} i h := by
    cases x with
    | plan l => exact Cl.mono i h
    | crowd a b ns => exact Cl.mono i h
section
variable {X : Cx} {es es1 : List En} {a b c d e tg : Expr} {pos : Pos} {α β γ δ : Type} {i j k : Nat} {st : Stmt}
theorem f_plan {l : List (Int × List Str)} (h : FJ X es e (("plan" : Str), l)) : FJ X es e (Told.plan l) := ⟨h.run⟩
theorem f_crowd {x y : Int} {ns : List Str} (h : FJ X es e (Tp4.mk ("crowd" : Str) x y ns)) : FJ X es e (Told.crowd x y ns) := ⟨h.run⟩
theorem x_crowd {x y : Int} {ns : List Str} (h : XJ X es e (Tp4.mk ("crowd" : Str) x y ns) es1) : XJ X es e (Told.crowd x y ns) es1 := ⟨h.run⟩
theorem r_kind {kk} {p2 : Pos} {x : Told} (ha : FJ X es a x) : RJ X es (.Subscript a (.Constant (.int 0) kk p2) pos) x.kind := by
  cases x with
  | plan l => exact (f_tp2a (show FJ X es a (("plan" : Str), l) from ⟨ha.run⟩)).rd
  | crowd x y ns => exact (f_tp4a (show FJ X es a (Tp4.mk ("crowd" : Str) x y ns) from ⟨ha.run⟩)).rd
theorem f_names {kk} {p2 : Pos} {x : Told} (hx : x.isCrowd = true) (ha : FJ X es a x) : FJ X es (.Subscript a (.Constant (.int 3) kk p2) pos) x.names := by
  cases x with
  | plan l => cases hx
  | crowd x y ns => exact f_tp4d (show FJ X es a (Tp4.mk ("crowd" : Str) x y ns) from ⟨ha.run⟩)
/-! targets in comprehensions -/
theorem ct_tup3 {vs : List Nat} [Rp α] [Rp β] [Rp γ] {x : Tp3 α β γ} (hg : PG X tg (gTup X.K 3 (gCons (gName i) (gCons (gName j) (gCons (gName k) gNil))))) (hv : i ∈ vs ∧ j ∈ vs ∧ k ∈ vs) (hl : i < es.length ∧ j < es.length ∧ k < es.length) (hal : noAls es = true := by rfl) : CT X tg vs es x (((es.set i (.fz x.a)).set j (.fz x.b)).set k (.fz x.c)) := fun f σ F H v S r Q q => by
  obtain ⟨p, o, e, h1, v0, v1, v2, eo, r0, r1, r2⟩ := r
  subst eo
  exact pgR hg ⟨p, _, e, .inl (.inl ((S.sub p _ h1).nd fun z => z)), rfl, v0, _, rfl, v1, _, rfl, v2, _, rfl, rfl, q _ F H ((((S).setF (by simpa using hl.1) r0 (noAls_of hal _)).setF (by simpa using hl.2.1) r1 (noAls_of (noAls_set hal) _)).setF (by simpa using hl.2.2) r2 (noAls_of (noAls_set (noAls_set hal)) _)) (St0.refl S.sub) (by rw [wipe_set hv.2.2, wipe_set hv.2.1, wipe_set hv.1])⟩
/-- n, (x, y) -/
theorem ct_tupn {vs : List Nat} [Rp α] [Rp β] [Rp γ] {x : α × (β × γ)} (hg : PG X tg (gTup X.K 2 (gCons (gName i) (gCons (gTup X.K 2 (gCons (gName j) (gCons (gName k) gNil))) gNil)))) (hv : i ∈ vs ∧ j ∈ vs ∧ k ∈ vs) (hl : i < es.length ∧ j < es.length ∧ k < es.length) (hal : noAls es = true := by rfl) : CT X tg vs es x (((es.set i (.fz x.1)).set j (.fz x.2.1)).set k (.fz x.2.2)) := fun f σ F H v S r Q q => by
  obtain ⟨p, o, e, h1, v0, v1, eo, r0, p2, o2, e2, h2, w0, w1, eo2, g0, g1⟩ := r
  subst eo eo2 e2
  exact pgR hg ⟨p, _, e, .inl (.inl ((S.sub p _ h1).nd fun z => z)), rfl, v0, _, rfl, .ref p2, _, rfl, p2, _, rfl, .inl (.inl ((S.sub p2 _ h2).nd fun z => z)), rfl, w0, _, rfl, w1, _, rfl, rfl, rfl, q _ F H ((((S).setF (by simpa using hl.1) r0 (noAls_of hal _)).setF (by simpa using hl.2.1) g0 (noAls_of (noAls_set hal) _)).setF (by simpa using hl.2.2) g1 (noAls_of (noAls_set (noAls_set hal)) _)) (St0.refl S.sub) (by rw [wipe_set hv.2.2, wipe_set hv.2.1, wipe_set hv.1])⟩
/-- break -/
theorem es_brk (w : Wk es es1) (n : noAls es1 = true := by rfl) : ES X es [.Break pos] (.bk es1) := .mk fun f σ F H D S h => pssR (pss_one ps_break) (h σ F H (S.wk w n))
end
end Ly
namespace Ly
open PySem PySem.Spec PyProof.Rows L2 TL
/-- the out of a def with a lent argument; told without looking into the pair -/
@[irreducible] def ruO {π ρ : Type} (pa : Addr) (r : Ow π) (w : ρ → En) (m : ρ × π) : Out := Out.ru pa r m.2 (w m.1)
section
variable {X : Cx} {es : List En} {sts : List Stmt} {π ρ : Type} {pa : Addr} {r : Ow π} {w : ρ → En}
theorem ruO_def {m : ρ × π} : ruO pa r w m = Out.ru pa r m.2 (w m.1) := by unfold ruO; rfl
theorem ruO_ends {m : ρ × π} : (ruO pa r w m).ends = true := by rw [ruO_def]; rfl
theorem ruO_rets {m : ρ × π} : (ruO pa r w m).rets = true := by rw [ruO_def]; rfl
theorem es_ru {x : ρ} {p : π} (h : ES X es sts (Out.ru pa r p (w x))) : ES X es sts (ruO pa r w (x, p)) := by rw [ruO_def]; exact h
theorem es_ruO {m : ρ × π} (h : ES X es sts (ruO pa r w m)) : ES X es sts (Out.ru pa r m.2 (w m.1)) := by rw [ruO_def] at h; exact h
end
/-- on with the state m; told without looking into m -/
@[irreducible] def nxO {β : Type} (esf : β → List En) (m : β) : Out := .nx (esf m)
section
variable {X : Cx} {es es1 : List En} {sts : List Stmt} {β : Type} {esf : β → List En} {m m1 m2 : β} {c : Expr} {pos : Pos}
theorem nxO_def : nxO esf m = .nx (esf m) := by unfold nxO; rfl
theorem es_nxO (h : ES X es sts (nxO esf m)) : ES X es sts (.nx (esf m)) := by rw [nxO_def] at h; exact h
theorem es_nilO (w : Wk es (esf m)) (n : noAls (esf m) = true := by rfl) : ES X es [] (nxO esf m) := by rw [nxO_def]; exact es_nil w n
theorem s_ifeO {A B : List Stmt} {b : Bool} (esf : β → List En) (h : XT X es c b es1) (h1 : b = true → ES X es1 A (nxO esf m1)) (h2 : b = false → ES X es1 B (nxO esf m2)) : E1 X es (.If c A B pos) (esf (bif b then m1 else m2)) := by
  have z := s_ife (pos := pos) (k := nxO esf) h h1 h2
  rw [nxO_def] at z
  exact z
end
end Ly
namespace LyT
open PySem L2
/-- the round of i -> 5 i + 1, n steps from i on -/
def orb (m : Nat) : Nat → Nat → List Nat
  | 0, _ => []
  | n + 1, i => i :: orb m n ((i * 5 + 1) % (m + 1))
theorem lcgI_front (m i : Nat) : ∀ k, lcgI m i (k + 1) = lcgI m ((i * 5 + 1) % (m + 1)) k
  | 0 => rfl
  | k + 1 => by
    have e := lcgI_front m i k
    have e1 : lcgI m i (k + 1 + 1) = (lcgI m i (k + 1) * 5 + 1) % (m + 1) := rfl
    rw [e1, e]; rfl
theorem orb_mem {m j : Nat} : ∀ (n i : Nat), j ∈ orb m n i → ∃ k, k < n ∧ lcgI m i k = j
  | 0, _, h => by cases h
  | n + 1, i, h => by
    rcases List.mem_cons.mp h with e | e
    · exact ⟨0, by omega, e.symm⟩
    · obtain ⟨k, hk, e2⟩ := orb_mem n _ e
      exact ⟨k + 1, by omega, by rw [lcgI_front]; exact e2⟩
theorem lcgI_join (m i a : Nat) : ∀ k, lcgI m (lcgI m i a) k = lcgI m i (a + k)
  | 0 => rfl
  | k + 1 => by
    have e1 : lcgI m (lcgI m i a) (k + 1) = (lcgI m (lcgI m i a) k * 5 + 1) % (m + 1) := rfl
    rw [e1, lcgI_join m i a k]; rfl
theorem orb511 : ((List.range 512).all fun j => (orb 511 512 0).contains j) = true := by decide +kernel
theorem back511 : lcgI 511 0 512 = 0 := by decide +kernel
theorem from0 {j : Nat} (hj : j ≤ 511) : ∃ k, k ≤ 511 ∧ lcgI 511 0 k = j := by
  have h1 := List.all_eq_true.mp orb511 j (List.mem_range.mpr (by omega))
  obtain ⟨k, hk, e⟩ := orb_mem 512 0 (List.contains_iff_mem.mp h1)
  exact ⟨k, by omega, e⟩
/-- with mask 511, too, each slot is met within a round -/
theorem round511 {i j : Nat} (hi : i ≤ 511) (hj : j ≤ 511) : ∃ k, k ≤ 511 ∧ lcgI 511 i k = j := by
  obtain ⟨a, ha, ea⟩ := from0 hi
  obtain ⟨b, hb, eb⟩ := from0 hj
  rcases Nat.lt_or_ge b a with c | c
  · refine ⟨512 - a + b, by omega, ?_⟩
    rw [← ea, lcgI_join, show a + (512 - a + b) = 512 + b by omega, ← lcgI_join, back511]
    exact eb
  · refine ⟨b - a, by omega, ?_⟩
    rw [← ea, lcgI_join, show a + (b - a) = b by omega]
    exact eb
/-- the masks that come for up to 300 members -/
def MaskW (m : Nat) : Prop := MaskOk m ∨ m = 511
theorem roundW {m i j : Nat} (hm : MaskW m) (hi : i ≤ m) (hj : j ≤ m) : ∃ k, k ≤ m ∧ lcgI m i k = j := by
  rcases hm with h | h
  · exact lcgI_all h hi hj
  · subst h; exact round511 hi hj
theorem meetsW {m : Nat} (hm : MaskW m) (h : Int) {j : Nat} (hj : j ≤ m) : ∃ k, k < 10 * SetTable.turns m ∧ way m h k = j := by
  obtain ⟨k0, hk0, e0⟩ := roundW hm (runI_le m (SetTable.bits h) 12) hj
  obtain ⟨k, hk, e2⟩ := run_nth m (SetTable.bits h) (12 + k0)
  refine ⟨k, by unfold SetTable.turns; omega, ?_⟩
  show (nth m (runAt m (SetTable.bits h % (m + 1)) (SetTable.bits h)) k).j = j
  rw [e2]
  show runI m (SetTable.bits h) (12 + k0) = j
  rw [runI_tail (bits_lt h)]
  exact e0
end LyT
namespace LyT
open PySem L2
/-- a table (with mask 511, too) whose places are all found again -/
structure TabW (t : SetTable) (hs : List Int) : Prop where
  up : Ris t.place.toList
  nodum : t.dummies = #[]
  len : t.place.size = hs.length
  mw : MaskW t.mask
  low : ∀ x ∈ t.place.toList, x ≤ t.mask
  seen : ∀ (i : Nat) (g : Int) (j : Nat), hs[i]? = some g → t.place.toList[i]? = some j → ∃ k, way t.mask g k = j ∧ ∀ u, u < k → way t.mask g u ∈ t.place.toList
theorem TabW.free {t : SetTable} {hs : List Int} (T : TabW t hs) (hl : hs.length ≤ t.mask) (g : Int) : ∃ n, n < 10 * SetTable.turns t.mask ∧ way t.mask g n ∉ t.place.toList ∧ ∀ u, u < n → way t.mask g u ∈ t.place.toList := by
  obtain ⟨j, hj, hn⟩ := st_missing t.place.toList (t.mask + 1) (by rw [Array.length_toList, T.len]; omega)
  obtain ⟨k, hk, e⟩ := meetsW T.mw g (Nat.le_of_lt_succ hj)
  obtain ⟨n, a1, a2, a3⟩ := st_least (p := fun u => way t.mask g u ∉ t.place.toList) k (by rw [e]; exact hn)
  exact ⟨n, by omega, a2, fun u hu => Classical.byContradiction fun c => a3 u hu c⟩
theorem TabW.ahead {t : SetTable} {hs : List Int} (T : TabW t hs) {g : Int} {n i j : Nat} (hn : way t.mask g n ∉ t.place.toList) (hi : hs[i]? = some g) (hj : t.place.toList[i]? = some j) : ∃ k, k < n ∧ way t.mask g k = j := by
  obtain ⟨k, e, hb⟩ := T.seen i g j hi hj
  by_cases c : k < n
  · exact ⟨k, c, e⟩
  · by_cases d : k = n
    · subst d
      rw [e] at hn
      exact (hn (List.mem_of_getElem? hj)).elim
    · exact (hn (hb n (by omega))).elim
end LyT
namespace LyT
open PySem L2
theorem way_in (m : Nat) (g : Int) (k : Nat) : way m g k ≤ m := by
  have a1 : SetTable.bits g % (m + 1) ≤ m := Nat.le_of_lt_succ (Nat.mod_lt _ (Nat.succ_pos _))
  have a2 := runEnd_bd a1
  have a3 := nth_in k (runAt m (SetTable.bits g % (m + 1)) (SetTable.bits g)) (m := m) (by
    show SetTable.bits g % (m + 1) + (SetTable.runEnd m (SetTable.bits g % (m + 1)) - SetTable.bits g % (m + 1)) ≤ m
    omega)
  have a4 : way m g k = (nth m (runAt m (SetTable.bits g % (m + 1)) (SetTable.bits g)) k).j := rfl
  omega
/-- one more is put where its way first finds room -/
theorem TabW.more {t : SetTable} {hs : List Int} (T : TabW t hs) {g : Int} {n : Nat} (hn : way t.mask g n ∉ t.place.toList) (hb : ∀ u, u < n → way t.mask g u ∈ t.place.toList) :
    SetTable.below t.place (way t.mask g n) ≤ hs.length ∧ TabW (t.put (way t.mask g n)).1 (hs.take (SetTable.below t.place (way t.mask g n)) ++ g :: hs.drop (SetTable.below t.place (way t.mask g n))) ∧ (t.put (way t.mask g n)).1.fill = hs.length + 1 := by
  have lo := way_in t.mask g n
  generalize hw : way t.mask g n = w at hn lo ⊢
  obtain ⟨b1, _, _⟩ := below_cut T.up w
  generalize hp : SetTable.below t.place w = p at b1
  have q1 : p ≤ hs.length := by rw [← T.len]; exact b1
  have q2 : p ≤ t.place.toList.length := by rw [Array.length_toList]; exact b1
  have pl : (t.put w).1.place.toList = t.place.toList.take p ++ w :: t.place.toList.drop p := by rw [← hp]; exact put_place t w
  have sz : (t.put w).1.place.size = hs.length + 1 := by rw [← Array.length_toList, pl, len_ins _ q2, Array.length_toList, T.len]
  have ne : t.place[SetTable.below t.place w]? ≠ some w := fun e => hn (List.mem_of_getElem? (by rw [Array.getElem?_toList]; exact e))
  have grow : ∀ x, x ∈ t.place.toList → x ∈ (t.put w).1.place.toList := fun x hx => by rw [pl]; exact mem_ins.2 (.inr hx)
  refine ⟨q1, ⟨ris_insert T.up ne, put_dm T.nodum w, by rw [len_ins _ q1]; exact sz, T.mw, fun x hx => ?_, fun i g' j' h1 h2 => ?_⟩, ?_⟩
  · rw [pl] at hx
    show x ≤ t.mask
    rcases mem_ins.1 hx with e | e
    · omega
    · exact T.low x e
  · rw [tins_get hs q1] at h1
    rw [pl, tins_get _ q2] at h2
    have old : ∀ i0, hs[i0]? = some g' → t.place.toList[i0]? = some j' → ∃ k, way (t.put w).1.mask g' k = j' ∧ ∀ u, u < k → way (t.put w).1.mask g' u ∈ (t.put w).1.place.toList := fun i0 z1 z2 => by
      obtain ⟨k, e, z⟩ := T.seen i0 g' j' z1 z2
      exact ⟨k, e, fun u hu => grow _ (z u hu)⟩
    by_cases c : i < p
    · rw [if_pos c] at h1 h2
      exact old i h1 h2
    · rw [if_neg c] at h1 h2
      by_cases d : i = p
      · rw [if_pos d] at h1 h2
        cases h1
        cases h2
        exact ⟨n, hw, fun u hu => grow _ (hb u hu)⟩
      · rw [if_neg d] at h1 h2
        exact old (i - 1) h1 h2
  · show (t.put w).1.place.size + (t.put w).1.dummies.size = hs.length + 1
    rw [sz, put_dm T.nodum w]
    rfl
end LyT
namespace LyT
open PySem L2
end LyT
namespace LyT
open PySem PySem.Spec PyProof.Rows L2
abbrev Ky2 := List Key
abbrev hk2 (P : Program) (w : World) (k : Ky2) : Int := tupleKeyHash (mixKind P w) k
abbrev At2 (P : Program) (w : World) (h : Heap) (k : Ky2) (a : Addr) : Prop := IsTupleKey (mixKind P w) h k a
section
variable {P : Program} {w : World} {A : Around} {E : Value → Shared → Prop} {s : Shared}
/-- an int or a text -/
def Plain (v : Value) : Prop := (∃ i t, v = Value.int i t) ∨ ∃ x t, v = Value.str x t
/-! the set of such tuples -/
abbrev Mem := Addr × Ky2
def rows2 (P : Program) (w : World) (L : List Mem) : List (Int × Value) := L.map fun p => (hk2 P w p.2, Value.ref p.1)
def hs2 (P : Program) (w : World) (L : List Mem) : List Int := L.map fun p => hk2 P w p.2
theorem hs2_len (L : List Mem) : (hs2 P w L).length = L.length := List.length_map _
structure SetW (P : Program) (w : World) (h : Heap) (a : Addr) (L : List Mem) (xs : Array (Int × Value)) (n : Nat) (t : SetTable) : Prop where
  obj : ∃ o, h.get? a = some o ∧ o.ExactSet ∧ o.data = .set xs n t
  ents : xs.toList = rows2 P w L
  wo : TabW t (hs2 P w L)
  uniq : (L.map (·.2)).Nodup
  keys : ∀ p ∈ L, At2 P w h p.2 p.1
  lead : w.params.followText "set-order" = true ∨ t.led = true
  loose : L.length * 5 < t.mask * 3
  some300 : L.length < 300
variable {a : Addr} {L : List Mem} {xs : Array (Int × Value)} {n : Nat} {t : SetTable}
theorem rows_size (h : xs.toList = rows2 P w L) : xs.size = L.length := by
  rw [← Array.length_toList, h]
  unfold rows2
  rw [List.length_map]
theorem fitsW (h1 : xs.toList = rows2 P w L) (h2 : t.place.size = xs.size) (h3 : t.dummies = #[]) (h4 : L.length ≤ t.mask) : t.fits xs.size = true := by
  have z := rows_size h1
  unfold SetTable.fits SetTable.fill
  rw [h3, Bool.and_eq_true, beq_iff_eq, decide_eq_true_eq]
  have z2 : (#[] : Array Nat).size = 0 := rfl
  omega
theorem SetW.ok (R : SetW P w s.heap a L xs n t) : t.fits xs.size = true := by
  have z1 := R.wo.len
  have z2 := rows_size R.ents
  have z3 := R.loose
  rw [hs2_len] at z1
  exact fitsW R.ents (by omega) R.wo.nodum (by omega)
theorem row_at (h : xs.toList = rows2 P w L) {i : Nat} {p : Mem} (hp : L[i]? = some p) : xs[i]? = some (hk2 P w p.2, Value.ref p.1) := by
  rw [← Array.getElem?_toList, h]
  unfold rows2
  rw [List.getElem?_map, hp]
  rfl
/-- where the way stands behind c steps -/
def stand (m : Nat) (g : Int) (c : Nat) : SetTable.Probe := nth m (runAt m (SetTable.bits g % (m + 1)) (SetTable.bits g)) c
end
end LyT
namespace LyT
open PySem PySem.Spec PyProof.Rows L2
section
variable {P : Program} {w : World} {A : Around} {E : Value → Shared → Prop} {s : Shared} {a : Addr} {L : List Mem} {xs : Array (Int × Value)} {n : Nat} {t : SetTable}
end
end LyT
namespace LyT
open PySem PySem.Spec PyProof.Rows L2
/-- behind i of the told ones -/
structure Had (ks : List Mem) (i : Nat) (L : List Mem) : Prop where
  from_ : ∀ p ∈ L, p ∈ ks.take i
  each : ∀ p ∈ ks.take i, p.2 ∈ L.map (·.2)
  most : L.length ≤ i
theorem Had.none (ks : List Mem) : Had ks 0 [] := ⟨fun p h => (by cases h), fun p h => (by simp at h), Nat.le_refl _⟩
theorem Had.stay {ks L : List Mem} {i : Nat} {x : Mem} (g : Had ks i L) (h : ks[i]? = some x) (hm : x.2 ∈ L.map (·.2)) : Had ks (i + 1) L := by
  have tk := take_next h
  refine ⟨fun p hp => by rw [tk]; exact List.mem_append_left _ (g.from_ p hp), fun p hp => ?_, Nat.le_succ_of_le g.most⟩
  rw [tk] at hp
  rcases List.mem_append.mp hp with z | z
  · exact g.each p z
  · have e : p = x := by simpa using z
    rw [e]; exact hm
section
variable {P : Program} {w : World} {A : Around} {E : Value → Shared → Prop} {s : Shared}
theorem SetW.later {h h2 : Heap} {a : Addr} {L : List Mem} {xs : Array (Int × Value)} {n : Nat} {t : SetTable} (R : SetW P w h a L xs n t) (ha : ∀ o, h.get? a = some o → h2.get? a = some o) (hk : ∀ p ∈ L, At2 P w h2 p.2 p.1) : SetW P w h2 a L xs n t := by
  obtain ⟨o, ho, r⟩ := R.obj
  exact ⟨⟨o, ha o ho, r⟩, R.ents, R.wo, R.uniq, hk, R.lead, R.loose, R.some300⟩
/-- the object of a new set -/
abbrev newSet (w : World) : Obj := { cls := .type "set", dict := none, data := .set #[] 0 (.fresh 0 0 (!w.params.followText "set-order")) }
set_option maxRecDepth 100000 in
set_option maxHeartbeats 3200000 in
end
end LyT
namespace LyT
open PySem PySem.Spec PyProof.Rows L2 LyS Ly Srt SrtO
/-- the set at an address -/
def SetZ (P : Program) (w : World) (h : Heap) (a : Addr) (L : List Mem) : Prop := ∃ (xs : Array (Int × Value)) (n : Nat) (t : SetTable), (∃ o, h.get? a = some o ∧ o.ExactSet ∧ o.data = .set xs n t) ∧ xs.toList = rows2 P w L ∧ TabW t (hs2 P w L) ∧ (w.params.followText "set-order" = true ∨ t.led = true) ∧ L.length * 5 < t.mask * 3 ∧ L.length < 300
def SetO (P : Program) (w : World) (a : Addr) (L : List Mem) : HO := .ext fun h => SetZ P w h a L
/-- what may be put into a set: tuples of ints and texts -/
class K2 (α : Type) [Rp α] where
  k2 : α → Ky2
  inj : ∀ x y, k2 x = k2 y → x = y
  at_ : ∀ {K : PySem.W.Frag} {F : Hp} {v : V} {x : α}, Rp.rep K F v x → ∃ p, v = .ref p ∧ F p = some (.tup ((k2 x).map kV))
instance k2Pair {α β : Type} [Sc α] [Ky α] [Sc β] [Ky β] : K2 (α × β) where
  k2 x := [Ky.key x.1, Ky.key x.2]
  inj x y h := by
    have h1 := List.cons.inj h
    have h2 := List.cons.inj h1.2
    exact Prod.ext (Ky.inj _ _ h1.1) (Ky.inj _ _ h2.1)
  at_ {K F v x} r := by
    obtain ⟨p, o, e1, f1, a, b, eo, ra, rb⟩ := r
    subst eo
    refine ⟨p, e1, ?_⟩
    rw [f1, ra.1, rb.1]
    simp [Ky.kv]
section
variable {X : Cx} {α : Type} [Rp α] [K2 α]
def mems (zs : List (Addr × α)) : List Mem := zs.map fun z => (z.1, K2.k2 z.2)
/-- set(xs) -/
def rSetW (X : Cx) (α : Type) [Rp α] [K2 α] : List V → Hp → VK → Prop := fun vs H Q => ∃ (F : Hp) (p : Addr) (ws : List V) (xs : List α), vs = [.ref p] ∧ Sub F H ∧ H p = some (.lst ws) ∧ Paired (Rp.rep X.K F) ws xs ∧ xs.length < 300 ∧
  ∀ a (zs : List (Addr × α)), H a = none → (zs.map (·.2)).Nodup → (∀ x, x ∈ zs.map (·.2) ↔ x ∈ xs) → (∀ z ∈ zs, Rp.rep X.K F (.ref z.1) z.2) → zs.length < 300 → Q (.ref a) (upd H a (SetO X.prog X.w a (mems zs)))
variable [SorE α]
/-- sorted(set) -/
def rSortW (X : Cx) (α : Type) [Rp α] [K2 α] [SorE α] : List V → Hp → VK → Prop := fun vs H Q => ∃ (F : Hp) (a : Addr) (zs : List (Addr × α)), vs = [.ref a] ∧ Sub F H ∧ H a = some (SetO X.prog X.w a (mems zs)) ∧ (∀ z ∈ zs, Rp.rep X.K F (.ref z.1) z.2) ∧
  ∀ q ws, H q = none → Paired (Rp.rep X.K F) ws (srtE (zs.map (·.2))) → Q (.ref q) (upd H q (.lst ws))
end
end LyT
namespace LyT
open PySem PySem.Spec PyProof.Rows L2 LyS Ly
/-- each once -/
def dd {α : Type} [DecidableEq α] : List α → List α
  | [] => []
  | x :: l => if x ∈ dd l then dd l else x :: dd l
theorem mem_dd {α : Type} [DecidableEq α] {x : α} : ∀ {l : List α}, x ∈ dd l ↔ x ∈ l
  | [] => Iff.rfl
  | y :: l => by
    unfold dd
    split
    · rename_i h
      rw [mem_dd, List.mem_cons]
      refine ⟨.inr, fun z => z.elim (fun e => ?_) id⟩
      rw [e]; exact mem_dd.mp h
    · rw [List.mem_cons, List.mem_cons, mem_dd]
theorem nodup_dd {α : Type} [DecidableEq α] : ∀ (l : List α), (dd l).Nodup
  | [] => List.nodup_nil
  | y :: l => by
    unfold dd
    split
    · exact nodup_dd l
    · rename_i h
      exact List.nodup_cons.mpr ⟨h, nodup_dd l⟩
/-- sorted(set(xs)) -/
def sset {α : Type} [Rp α] [SorE α] [DecidableEq α] (xs : List α) : List α := srtE (dd xs)
section
variable {X : Cx} {α : Type} [Rp α] [K2 α] [SorE α] [DecidableEq α]
variable {es : List En} {e : Expr} {pos p p2 pos2 : Pos}
end
end LyT
namespace Ly
open PySem PySem.Spec PyProof.Rows L2
/-! lists told apart, seen as lists -/
def um (F : Hp) : Hp := fun a => match F a with
  | some (.frz _ (.lst vs)) => some (.lst vs)
  | o => o
theorem um_frz {F : Hp} {a : Addr} {ob : Obj} {vs : List V} (h : F a = some (.frz ob (.lst vs))) : um F a = some (.lst vs) := by unfold um; rw [h]
theorem um_of {F : Hp} {a : Addr} {o : HO} (h : F a = some o) (n : ∀ ob vs, o ≠ .frz ob (.lst vs)) : um F a = some o := by
  unfold um
  rw [h]
  split
  · rename_i ob vs e
    exact absurd (Option.some.inj e) (n ob vs)
  · rfl
theorem um_back {F : Hp} {a : Addr} {o : HO} (h : um F a = some o) : F a = some o ∨ ∃ ob vs, o = .lst vs ∧ F a = some (.frz ob (.lst vs)) := by
  unfold um at h
  split at h
  · rename_i ob vs e
    exact .inr ⟨ob, vs, (Option.some.inj h).symm, e⟩
  · exact .inl h
theorem um_inc {F F' : Hp} (i : Inc F F') : Inc (um F) (um F') := fun a o h => by
  unfold um at h
  split at h
  · rename_i ob vs e
    rw [um_frz (i _ _ e)]; exact h
  · rename_i n
    exact um_of (i _ _ h) fun ob vs e => n ob vs (by rw [h, e])
theorem um_rd {F H : Hp} (s : Sub F H) {a : Addr} {vs : List V} (h : um F a = some (.lst vs)) : Rd H a (.lst vs) := by
  rcases um_back h with e | ⟨ob, ws, e, k⟩
  · exact .inl ((s a _ e).nd fun z => z)
  · injection e with e
    subst e
    rcases s a _ k with r | ⟨d, _⟩ | ⟨us, e2, r⟩
    · exact .inr ⟨ob, r⟩
    · exact d.elim
    · injection e2 with _ e2
      injection e2 with e2
      exact .inl (by rw [e2]; exact r)
/-- seen: its lists may be told apart -/
structure Sn (α : Type) where
  x : α
instance rpSn {α : Type} [Rp α] : Rp (Sn α) := ⟨fun K F v s => Rp.rep K (um F) v s.x, fun i h => Rp.mono (um_inc i) h⟩
/-- no lists within -/
class Uf (α : Type) [Rp α] : Prop where
  of : ∀ {K : PySem.W.Frag} {F : Hp} {v : V} {x : α}, Rp.rep K (um F) v x → Rp.rep K F v x
class ToU (α : Type) [Rp α] : Prop where
  to : ∀ {K : PySem.W.Frag} {F : Hp} {v : V} {x : α}, Rp.rep K F v x → Rp.rep K (um F) v x
instance {α : Type} [Sc α] : Uf α := ⟨fun h => h⟩
instance {α : Type} [Sc α] : ToU α := ⟨fun h => h⟩
theorem um_tup {F : Hp} {a : Addr} {t : List V} (h : um F a = some (.tup t)) : F a = some (.tup t) := by
  rcases um_back h with e | ⟨_, _, e, _⟩
  · exact e
  · cases e
instance {α β : Type} [Rp α] [Rp β] [Uf α] [Uf β] : Uf (α × β) := ⟨fun {K F v x} h => by
  obtain ⟨a, o, e, h1, u, w, eo, r1, r2⟩ := h
  subst eo
  exact ⟨a, _, e, um_tup h1, u, w, rfl, Uf.of r1, Uf.of r2⟩⟩
instance {α β : Type} [Rp α] [Rp β] [ToU α] [ToU β] : ToU (α × β) := ⟨fun {K F v x} h => by
  obtain ⟨a, o, e, h1, u, w, eo, r1, r2⟩ := h
  subst eo
  exact ⟨a, _, e, um_of h1 (fun _ _ z => by cases z), u, w, rfl, ToU.to r1, ToU.to r2⟩⟩
instance {α : Type} [Rp α] [ToU α] : ToU (List α) := ⟨fun {K F v x} h => by
  obtain ⟨a, o, e, h1, hz, vs, eo, rr⟩ := h
  subst eo
  exact ⟨a, _, e, um_of h1 (fun _ _ z => by cases z), hz, vs, rfl, Paired.mapP rr fun _ _ z => ToU.to z⟩⟩
instance {κ α : Type} [Sc κ] [Ky κ] [Rp α] [ToU α] : ToU (Dct κ α) := ⟨fun {K F v x} h => by
  obtain ⟨a, o, e, h1, hz, nd, ks, eo, rr⟩ := h
  subst eo
  exact ⟨a, _, e, um_of h1 (fun _ _ z => by cases z), hz, nd, ks, rfl, Paired.mapP rr fun _ _ z => ⟨z.1, z.2.1, ToU.to z.2.2⟩⟩⟩
structure SL (X : Cx) (es : List En) (e : Expr) {α : Type} [Rp α] (xs : List α) : Prop where
  run : ∀ (f : Fr) (σ : L2.St) (F H : Hp), Sw X.K f es σ F H → ∀ Q : VK, (∀ p vs F' H', St0 F H F' H' → Rd H' p (.lst vs) → Paired (Rp.rep X.K (um F')) vs xs → xs.length ≤ big → Q (.ref p) H') → wpE X e σ H Q
section
variable {X : Cx} {es es1 : List En} {a b e tg iter : Expr} {pos : Pos} {α κ : Type} [Rp α]
theorem sl_of_ {xs : List α} (h : FJ X es e (Sn.mk xs)) : SL X es e xs := ⟨fun f σ F H S Q q => h f σ F H S _ fun v F1 H1 t r => by
  obtain ⟨p, o, e, h1, hz, vs, eo, rr⟩ := (show Rp.rep X.K (um F1) v xs from r)
  subst e eo
  exact q p vs F1 H1 t (um_rd t.e h1) rr hz⟩
theorem n_listofS [Uf α] {xs : List α} {p : Pos} (hg : Gl X "list") (hm : X.mg "list" = none) (h : SL X es a xs) (s1 : starEach [a] X.env = (false, eval a X.env) :: starEach [] X.env := by rfl) : NJ X es (.Call (.Name "list" p) [a] [] pos) xs := .mk fun f σ F H S Q q =>
  peR (pe_callTy call_list_of hg hm (by decide +kernel) (pa_cons peW pa_nil s1) (by decide) (by decide) s1) (h.run f σ F H S _ fun l vs F1 H1 t1 h1 r1 hz => ⟨l, vs, rfl, .inl (.inl h1), fun p hp => q _ F1 _ [p] (t1.trans (St0.new t1.e hp)) (newL t1.e hp hz (Paired.mapP r1 fun _ _ z => Uf.of z)) (by simp) fun z hz => by
    have e : z = p := by simpa using hz
    rw [e]; exact t1.back hp⟩)
theorem rd_inc {H H' : Hp} {a : Addr} {o : HO} (r : Rd H a o) (i : Inc H H') : Rd H' a o := by
  rcases r with r | ⟨ob, r⟩
  · exact .inl (i _ _ r)
  · exact .inr ⟨ob, i _ _ r⟩
end
section
variable {X : Cx} {es es1 : List En} {a b e : Expr} {pos : Pos} {α β κ : Type}
end
/-! jobs: instances of the program's class -/
structure JobsV where
  row : List Str
  pairs : List (Str × Str)
  later : Dct Str (List Str)
instance : Inhabited JobsV := ⟨⟨[], [], ⟨[]⟩⟩⟩
abbrev CJ (K : PySem.W.Frag) : Addr := He.ga K "Jobs"
abbrev jR (v : V) : List (Str × V) := [("row", v)]
abbrev jP (v w : V) : List (Str × V) := [("row", v), ("pairs", w)]
abbrev jF (v w l : V) : List (Str × V) := [("row", v), ("pairs", w), ("later", l)]
instance clJobs : Cl JobsV where
  cell K H o x := ∃ dx v w l, o = .ins (CJ K) dx (jF v w l) ∧ Rp.rep K H v (Sn.mk x.row) ∧ Rp.rep K H w (Sn.mk x.pairs) ∧ Rp.rep K H l (Sn.mk x.later)
  mono {K H H' o x} i h := by
    obtain ⟨dx, v, w, l, e, h1, h2, h3⟩ := h
    exact ⟨dx, v, w, l, e, Rp.mono i h1, Rp.mono i h2, Rp.mono i h3⟩
/-- what the head says of the class -/
structure JCls (K : PySem.W.Frag) : Prop where
  c : Cls K (CJ K)
  row : NoAttr K (CJ K) "row"
  pairs : NoAttr K (CJ K) "pairs"
  later : NoAttr K (CJ K) "later"
section
variable {X : Cx} {es es1 es2 as : List En} {a e o : Expr} {args : List Expr} {pos apos : Pos} {x : JobsV}
end
/-! an instance that is being made -/
inductive Slf where
  | s0
  | s1 (r : List Str)
  | s2 (r : List Str) (p : List (Str × Str))
  | s3 (r : List Str) (p : List (Str × Str)) (d : Dct Str (List Str))
def Slf.fr (K : PySem.W.Frag) (F : Hp) : Slf → List (Str × V) → Prop
  | .s0, fs => fs = []
  | .s1 r, fs => ∃ v, fs = jR v ∧ Rp.rep K F v r
  | .s2 r p, fs => ∃ v w, fs = jP v w ∧ Rp.rep K F v r ∧ Rp.rep K F w p
  | .s3 r p d, fs => ∃ v w l, fs = jF v w l ∧ Rp.rep K F v r ∧ Rp.rep K F w p ∧ Rp.rep K F l d
def Slf.at_ (K : PySem.W.Frag) (F H : Hp) : Slf → List (Str × V) → List Addr → Prop
  | .s0, fs, Q => fs = [] ∧ Q = []
  | .s1 r, fs, Q => ∃ v, fs = jR v ∧ Rp.rep K F v r ∧ Q = []
  | .s2 r p, fs, Q => ∃ v w, fs = jP v w ∧ Rp.rep K F v r ∧ Rp.rep K F w p ∧ Q = []
  | .s3 r p d, fs, Q => ∃ v w l, fs = jF v w (.ref l) ∧ Rp.rep K F v r ∧ Rp.rep K F w p ∧ Q = [l] ∧ Ow.own K F H (.ref l) d [l]
theorem Slf.fr_mono {K : PySem.W.Frag} {F F' : Hp} (i : Inc F F') : ∀ {x : Slf} {fs : List (Str × V)}, x.fr K F fs → x.fr K F' fs
  | .s0, _, h => h
  | .s1 r, _, ⟨v, e, h⟩ => ⟨v, e, Rp.mono i h⟩
  | .s2 r p, _, ⟨v, w, e, h1, h2⟩ => ⟨v, w, e, Rp.mono i h1, Rp.mono i h2⟩
  | .s3 r p d, _, ⟨v, w, l, e, h1, h2, h3⟩ => ⟨v, w, l, e, Rp.mono i h1, Rp.mono i h2, Rp.mono i h3⟩
theorem Slf.at_mono {K : PySem.W.Frag} {F F' H H' : Hp} (i : Inc F F') : ∀ {x : Slf} {fs : List (Str × V)} {Q : List Addr}, (∀ p ∈ Q, H' p = H p) → (∀ p ∈ Q, F' p = none) → x.at_ K F H fs Q → x.at_ K F' H' fs Q
  | .s0, _, _, _, _, h => h
  | .s1 r, _, _, _, _, ⟨v, e, h, q⟩ => ⟨v, e, Rp.mono i h, q⟩
  | .s2 r p, _, _, _, _, ⟨v, w, e, h1, h2, q⟩ => ⟨v, w, e, Rp.mono i h1, Rp.mono i h2, q⟩
  | .s3 r p d, _, _, k, n, ⟨v, w, l, e, h1, h2, q, h3⟩ => ⟨v, w, l, e, Rp.mono i h1, Rp.mono i h2, q, by
    subst q
    exact Ow.mono i k n h3⟩
theorem Slf.at_out {K : PySem.W.Frag} {F H : Hp} : ∀ {x : Slf} {fs : List (Str × V)} {Q : List Addr}, x.at_ K F H fs Q → ∀ p ∈ Q, H p ≠ none ∧ F p = none
  | .s0, _, _, ⟨_, q⟩, p, hp => by rw [q] at hp; cases hp
  | .s1 r, _, _, ⟨v, e, h, q⟩, p, hp => by rw [q] at hp; cases hp
  | .s2 r p, _, _, ⟨v, w, e, h1, h2, q⟩, _, hp => by rw [q] at hp; cases hp
  | .s3 r p d, _, _, ⟨v, w, l, e, h1, h2, q, h3⟩, _, hp => by
    rw [q] at hp
    exact Ow.out h3 _ hp
theorem Slf.at_nt {K : PySem.W.Frag} {F H : Hp} : ∀ {x : Slf} {fs : List (Str × V)} {Q : List Addr}, x.at_ K F H fs Q → ∀ p ∈ Q, ∀ ks, H p ≠ some (sk ks)
  | .s0, _, _, ⟨_, q⟩, p, hp => by rw [q] at hp; cases hp
  | .s1 r, _, _, ⟨v, e, h, q⟩, p, hp => by rw [q] at hp; cases hp
  | .s2 r p, _, _, ⟨v, w, e, h1, h2, q⟩, _, hp => by rw [q] at hp; cases hp
  | .s3 r p d, _, _, ⟨v, w, l, e, h1, h2, q, h3⟩, _, hp => by
    rw [q] at hp
    exact Ow.nt h3 _ hp
theorem Slf.at_fr {K : PySem.W.Frag} {F H : Hp} {P : List Addr} (hP : ∀ p ∈ P, F p = none) : ∀ {x : Slf} {fs : List (Str × V)} {Q : List Addr}, (∀ p ∈ Q, p ∈ P) → x.at_ K F H fs Q → x.fr K (fzP F H P) fs
  | .s0, _, _, _, ⟨e, q⟩ => e
  | .s1 r, _, _, _, ⟨v, e, h, q⟩ => ⟨v, e, Rp.mono (fzP_inc hP) h⟩
  | .s2 r p, _, _, _, ⟨v, w, e, h1, h2, q⟩ => ⟨v, w, e, Rp.mono (fzP_inc hP) h1, Rp.mono (fzP_inc hP) h2⟩
  | .s3 r p d, _, _, hQ, ⟨v, w, l, e, h1, h2, q, h3⟩ => ⟨v, w, _, e, Rp.mono (fzP_inc hP) h1, Rp.mono (fzP_inc hP) h2, by
    obtain ⟨a, o, ea, _, g1, g2, c⟩ := h3
    cases ea
    exact ⟨l, o, rfl, (fzP_in (hQ l (by rw [q]; simp))).trans g1, Cl.mono (fzP_inc hP) c⟩⟩
instance owSlf : Ow Slf where
  rp := ⟨fun K H v x => ∃ a dx fs, v = .ref a ∧ H a = some (.ins (CJ K) dx fs) ∧ x.fr K H fs, fun i h => by
    obtain ⟨a, dx, fs, e, h1, h2⟩ := h
    exact ⟨a, dx, fs, e, i _ _ h1, Slf.fr_mono i h2⟩⟩
  own K F H v x P := ∃ a dx fs Q, v = .ref a ∧ P = a :: dx :: Q ∧ H a = some (.ins (CJ K) dx fs) ∧ F a = none ∧ H dx = some (.own a) ∧ F dx = none ∧ x.at_ K F H fs Q
  mono {K F F' H H' v x P} i h hf r := by
    obtain ⟨a, dx, fs, Q, e, rfl, h1, h2, h3, h4, h5⟩ := r
    refine ⟨a, dx, fs, Q, e, rfl, (h a (by simp)).trans h1, hf a (by simp), (h dx (by simp)).trans h3, hf dx (by simp), Slf.at_mono i (fun p hp => h p (by simp [hp])) (fun p hp => hf p (by simp [hp])) h5⟩
  out {K F H v x P} r p hp := by
    obtain ⟨a, dx, fs, Q, e, rfl, h1, h2, h3, h4, h5⟩ := r
    rcases List.mem_cons.mp hp with z | hp
    · rw [z]; exact ⟨nn h1, h2⟩
    · rcases List.mem_cons.mp hp with z | hp
      · rw [z]; exact ⟨nn h3, h4⟩
      · exact Slf.at_out h5 p hp
  fzn {K F H v x P} r := by
    obtain ⟨a, dx, fs, Q, e, rfl, h1, h2, h3, h4, h5⟩ := r
    refine ⟨a, dx, fs, e, (fzP_in (by simp)).trans h1, Slf.at_fr (fun p hp => ?_) (fun p hp => by simp [hp]) h5⟩
    rcases List.mem_cons.mp hp with z | hp
    · rw [z]; exact h2
    · rcases List.mem_cons.mp hp with z | hp
      · rw [z]; exact h4
      · exact (Slf.at_out h5 p hp).2
  nt {K F H v x P} r p hp ks := by
    obtain ⟨a, dx, fs, Q, e, rfl, h1, h2, h3, h4, h5⟩ := r
    rcases List.mem_cons.mp hp with z | hp
    · rw [z, h1]; intro q; cases q
    · rcases List.mem_cons.mp hp with z | hp
      · rw [z, h3]; intro q; cases q
      · exact Slf.at_nt h5 p hp ks
section
variable {X : Cx} {es es1 es2 as : List En} {e o : Expr} {args : List Expr} {pos apos : Pos} {st : Stmt} {i : Nat} {a : Addr}
theorem nd2 {a dx : Addr} (h : dx ≠ a) : ([a, dx] : List Addr).Nodup := by simp [Ne.symm h]
/-! made, asked -/
structure Mkr (P : Program) (w : World) (K : PySem.W.Frag) (mg : Str → Option Value) (base : Heap) (k : Nat) (ps : List Str) (sp : Sp) where
  f : Addr
  fd : FuncData
  ok : FnOk P w K mg base CX0 k f fd ps sp
  mkr : Mk K (CJ K) f
  mg : mg "Jobs" = some (.ref (CJ K))
  bd : Binds K fd ps []
structure Dm (P : Program) (w : World) (K : PySem.W.Frag) (mg : Str → Option Value) (base : Heap) (k : Nat) (m : Str) (ps : List Str) (sp : Sp) where
  f : Addr
  fd : FuncData
  ok : FnOk P w K mg base CX0 k f fd ps sp
  mt : Meth K (CJ K) m f
  bd : Binds K fd ps []
variable {k : Nat} {ps : List Str} {m : Str} {p : Pos} {e1 : Expr}
section
variable {GP : List En → En → Prop} {jv : JobsV} {pl : Sem Bool}
end
end
end Ly
namespace Ly
open PySem PySem.Spec PyProof.Rows L2 TL
section
variable {X : Cx} {es es1 es2 es3 : List En} {a b c e iter tg : Expr} {st : Stmt} {pos p : Pos} {α β : Type} {i : Nat}
/-- xs * n, a short list -/
def lrep (xs : List α) (n : Int) : List α := (List.replicate n.toNat xs).flatten
end
end Ly
namespace Ly
open PySem PySem.Spec PyProof.Rows L2 TL
/-! a dict whose values are own objects, each -/
structure Dd (κ β : Type) where
  d : Dct κ β
inductive DdI {κ β : Type} [Sc κ] [Ky κ] [Cl β] (K : PySem.W.Frag) (F H : Hp) : List (Key × V) → List (κ × β) → List Addr → Prop where
  | nil : DdI K F H [] [] []
  | cons {k : κ} {y : β} {l : Addr} {o : HO} {ks : List (Key × V)} {xs : List (κ × β)} {ls : List Addr} : Sc.ok k → H l = some o → F l = none → Cl.cell K F o y → DdI K F H ks xs ls → DdI K F H ((Ky.key k, .ref l) :: ks) ((k, y) :: xs) (l :: ls)
section
variable {κ β : Type} [Sc κ] [Ky κ] [DecidableEq κ] [Cl β] [Clm β] {K : PySem.W.Frag} {F F' H H' : Hp}
theorem DdI.mono (i : Inc F F') : ∀ {ks : List (Key × V)} {xs : List (κ × β)} {ls : List Addr}, (∀ p ∈ ls, H' p = H p) → (∀ p ∈ ls, F' p = none) → DdI K F H ks xs ls → DdI K F' H' ks xs ls
  | _, _, _, _, _, .nil => .nil
  | _, _, _, h, hf, .cons ok h1 h2 c t => .cons ok ((h _ (by simp)).trans h1) (hf _ (by simp)) (Cl.mono i c) (t.mono i (fun p hp => h p (List.mem_cons_of_mem _ hp)) fun p hp => hf p (List.mem_cons_of_mem _ hp))
theorem DdI.out : ∀ {ks : List (Key × V)} {xs : List (κ × β)} {ls : List Addr}, DdI K F H ks xs ls → ∀ p ∈ ls, H p ≠ none ∧ F p = none
  | _, _, _, .nil, p, hp => by cases hp
  | _, _, _, .cons ok h1 h2 c t, p, hp => by
    rcases List.mem_cons.mp hp with e | hp
    · rw [e]; exact ⟨nn h1, h2⟩
    · exact t.out p hp
theorem DdI.nt : ∀ {ks : List (Key × V)} {xs : List (κ × β)} {ls : List Addr}, DdI K F H ks xs ls → ∀ p ∈ ls, ∀ kt, H p ≠ some (sk kt)
  | _, _, _, .nil, p, hp => by cases hp
  | _, _, _, .cons ok h1 h2 c t, p, hp => by
    rcases List.mem_cons.mp hp with e | hp
    · rw [e, h1]; exact fun kt z => Clm.nt (α := β) c kt (Option.some.inj z)
    · exact t.nt p hp
theorem DdI.stp {ks : List (Key × V)} {xs : List (κ × β)} {ls : List Addr} (dd : DdI K F H ks xs ls) (t : St0 F H F' H') : DdI K F' H' ks xs ls :=
  dd.mono t.f (fun z hz => by
    obtain ⟨q1, q2⟩ := dd.out z hz
    cases w : H z with
    | none => exact absurd w q1
    | some u => exact t.inc _ _ w) fun z hz => by
    cases w : H z with
    | none => exact absurd w (dd.out z hz).1
    | some u => exact t.nz w (fun kt e => dd.nt z hz kt (by rw [w, e])) (dd.out z hz).2
theorem DdI.rep {Q : List Addr} (hf : ∀ p ∈ Q, F p = none) : ∀ {ks : List (Key × V)} {xs : List (κ × β)} {ls : List Addr}, (∀ p ∈ ls, p ∈ Q) → DdI K F H ks xs ls → Paired (DR K (fzP F H Q)) ks xs
  | _, _, _, _, .nil => .nil
  | _, _, _, hQ, .cons ok h1 h2 c t => .cons ⟨rfl, ok, _, _, rfl, (fzP_in (hQ _ (by simp))).trans h1, Cl.mono (fzP_inc hf) c⟩ (t.rep hf fun p hp => hQ p (List.mem_cons_of_mem _ hp))
theorem DdI.len : ∀ {ks : List (Key × V)} {xs : List (κ × β)} {ls : List Addr}, DdI K F H ks xs ls → ks.length = xs.length
  | _, _, _, .nil => rfl
  | _, _, _, .cons _ _ _ _ t => by simp [t.len]
theorem DdI.look {k : κ} : ∀ {ks : List (Key × V)} {xs : List (κ × β)} {ls : List Addr}, DdI K F H ks xs ls → (valV ks (Ky.key k) = none ∧ look xs k = none) ∨ ∃ l o y, valV ks (Ky.key k) = some (.ref l) ∧ look xs k = some y ∧ l ∈ ls ∧ H l = some o ∧ F l = none ∧ Cl.cell K F o y
  | _, _, _, .nil => .inl ⟨rfl, rfl⟩
  | _, _, _, .cons (k := j) (y := y) (l := l) (o := o) ok h1 h2 c t => by
    rw [look_cons]
    by_cases e : j = k
    · subst e
      rw [if_pos rfl, valV_pos rfl]
      exact .inr ⟨l, o, y, rfl, rfl, by simp, h1, h2, c⟩
    · rw [if_neg e, valV_neg (show ¬ Ky.key j = Ky.key k from fun z => e (Ky.inj _ _ z))]
      rcases t.look (k := k) with z | ⟨l2, o2, y2, z1, z2, z3, z⟩
      · exact .inl z
      · exact .inr ⟨l2, o2, y2, z1, z2, List.mem_cons_of_mem _ z3, z⟩
end
instance {κ α : Type} : Inhabited (Dct κ α) := ⟨⟨[]⟩⟩
instance owDd {κ β : Type} [Sc κ] [Ky κ] [DecidableEq κ] [Cl β] [Clm β] : Ow (Dd κ β) where
  rp := ⟨fun K H v x => Rp.rep K H v x.d, fun i h => Rp.mono i h⟩
  own K F H v x P := ∃ a ks ls, v = .ref a ∧ P = a :: ls ∧ H a = some (.dK ks) ∧ F a = none ∧ x.d.l.length ≤ big ∧ (x.d.l.map (·.1)).Nodup ∧ DdI K F H ks x.d.l ls
  mono {K F F' H H' v x P} i h hf r := by
    obtain ⟨a, ks, ls, e, rfl, h1, h2, hz, nd, o⟩ := r
    exact ⟨a, ks, ls, e, rfl, (h a (by simp)).trans h1, hf a (by simp), hz, nd, o.mono i (fun p hp => h p (List.mem_cons_of_mem _ hp)) fun p hp => hf p (List.mem_cons_of_mem _ hp)⟩
  out {K F H v x P} r p hp := by
    obtain ⟨a, ks, ls, e, rfl, h1, h2, hz, nd, o⟩ := r
    rcases List.mem_cons.mp hp with h | h
    · rw [h]; exact ⟨nn h1, h2⟩
    · exact o.out p h
  fzn {K F H v x P} r := by
    obtain ⟨a, ks, ls, e, rfl, h1, h2, hz, nd, o⟩ := r
    have hf : ∀ p ∈ a :: ls, F p = none := fun p hp => by
      rcases List.mem_cons.mp hp with h | h
      · rw [h]; exact h2
      · exact (o.out p h).2
    exact ⟨a, _, e, (fzP_in (by simp)).trans h1, hz, nd, ks, rfl, o.rep hf fun p hp => List.mem_cons_of_mem _ hp⟩
  nt {K F H v x P} r p hp kt := by
    obtain ⟨a, ks, ls, e, rfl, h1, h2, hz, nd, o⟩ := r
    rcases List.mem_cons.mp hp with h | h
    · rw [h, h1]; intro q; cases q
    · exact o.nt p h kt
section
variable {X : Cx} {es es1 es2 es3 : List En} {a b c e : Expr} {st : Stmt} {pos : Pos} {κ κ2 β γ : Type} [Sc κ] [Ky κ] [DecidableEq κ] [Cl β] [Clm β] [Sc κ2] [Ky κ2] [DecidableEq κ2] [Rp γ] {i : Nat} {d : Dct κ β}
end
end Ly
namespace Ly
open PySem PySem.Spec PyProof.Rows L2
/-- the j-th statement of a class -/
def clsSt (s : Stmt) (j : Nat) : Stmt := match s with
  | .ClassDef _ _ _ body _ _ _ _ _ _ _ => body.getD j (.Pass ⟨0, 0, 0, 0⟩)
  | _ => .Pass ⟨0, 0, 0, 0⟩
section
variable {P : Program} {w : World} {K : PySem.W.Frag} {mg : Str → Option Value} {base : Heap} {k : Nat} {n m : Str} {ps : List Str} {sp : Sp} {x qual : Str} {params : Arguments} {body : List Stmt} {scope : Scope} {f : Addr} {fd : FuncData}
theorem Dm.mk' (F : FunD K x qual params body scope [] [] f fd) (ok : FnOk P w K mg base CX0 k f fd ps sp) (hm : Meth K (CJ K) m f)
    (h : ∀ (dV kV doc pm : Value) (an : Option Addr) (cdv ct : Value) (us : List Value), dV = .none → us.length = ps.length → bindArgs (PySem.W.fnOf x qual params body scope dV kV doc pm an cdv ct) ⟨us, []⟩ = pure (ps.zip us)) : Nonempty (Dm P w K mg base k m ps sp) := by
  obtain ⟨oc, od, dV, kV, doc, pm, an, cdv, ct, osl, rfl, lk, hcd, hd, _⟩ := F.ex
  have ed : dV = .none := by
    rcases hd with ⟨_, e⟩ | ⟨e, _⟩
    · exact e
    · exact absurd rfl e
  exact ⟨⟨f, _, ok, hm, .all (h dV kV doc pm an cdv ct · ed)⟩⟩
theorem Mkr.mk' (F : FunD K x qual params body scope [] [] f fd) (ok : FnOk P w K mg base CX0 k f fd ps sp) (hm : Mk K (CJ K) f) (hg : mg "Jobs" = some (.ref (CJ K)))
    (h : ∀ (dV kV doc pm : Value) (an : Option Addr) (cdv ct : Value) (us : List Value), dV = .none → us.length = ps.length → bindArgs (PySem.W.fnOf x qual params body scope dV kV doc pm an cdv ct) ⟨us, []⟩ = pure (ps.zip us)) : Nonempty (Mkr P w K mg base k ps sp) := by
  obtain ⟨oc, od, dV, kV, doc, pm, an, cdv, ct, osl, rfl, lk, hcd, hd, _⟩ := F.ex
  have ed : dV = .none := by
    rcases hd with ⟨_, e⟩ | ⟨e, _⟩
    · exact e
    · exact absurd rfl e
  exact ⟨⟨f, _, ok, hm, hg, .all (h dV kV doc pm an cdv ct · ed)⟩⟩
end
end Ly
namespace Ly
open PySem PySem.Spec PyProof.Rows L2 TL
section
variable {X : Cx} {es es1 es2 es3 : List En} {a b c e elt tg iter : Expr} {st : Stmt} {rest body : List Stmt} {ifs : List Expr} {args : List Expr} {pos : Pos} {α β γ : Type} {i j : Nat} {scope : Scope}
end
end Ly
namespace Ly
open PySem PySem.Spec PyProof.Rows L2
/-- what isinstance(x, Jobs) asks -/
structure JIs (K : PySem.W.Frag) : Prop where
  ha : PySem.W.findIn K (.ref (CJ K)) "__class__" = some (some (.builtin "object.__class__"))
  hn : PySem.W.specialIn K (.builtin "object.__class__") "__get__" = some (some (.builtin "getset_descriptor.__get__"))
  htk : PySem.W.takesIn K (.builtin "object.__class__") = some true
  hm : PySem.W.mroIn K (CJ K) (.type "object") = some true
def chkJ (K : PySem.W.Frag) : Bool := decide (PySem.W.findIn K (.ref (CJ K)) "__class__" = some (some (.builtin "object.__class__"))) && (decide (PySem.W.specialIn K (.builtin "object.__class__") "__get__" = some (some (.builtin "getset_descriptor.__get__"))) &&
  (decide (PySem.W.takesIn K (.builtin "object.__class__") = some true) && decide (PySem.W.mroIn K (CJ K) (.type "object") = some true)))
/-- the hook with one question more -/
def obJ (n : Nat) (fa : List He.Fa) (fn : List He.DefD) (g : Addr → Option Obj) : Bool × He.AlD := (chkJ (He.frG g (He.asD g n)), He.obsDG n fa fn g)
def hookJ (n : Nat) (fa : List He.Fa) (fn : List He.DefD) : PySem.W.Hook where
  α := Bool × He.AlD
  obs := fun s => obJ n fa fn s.heap.get?
  val := fun _ => (true, He.valD fn)
  says := fun _ h => ∃ K : PySem.W.Frag, K.In h ∧ He.SaysD fa fn K ∧ chkJ K = true
  of := fun _ _ e => ⟨_, He.frG_in, congrArg Prod.snd e, congrArg Prod.fst e⟩
  keeps := fun _ _ _ ⟨K, hK, c⟩ k => ⟨K, PySem.W.Frag.In.keeps hK k, c⟩
section
variable {X : Cx} {es : List En} {a : Expr} {p p2 pos : Pos} {x : JobsV}
end
end Ly
namespace Ly
open PySem PySem.Spec PyProof.Rows L2
/-! xs[::-1] of a list: a new list -/
def tBackL (K : PySem.W.Frag) (te ts : TE) : TE := fun σ H Q => te σ H fun x H1 => ts σ H1 fun y H2 => y = .int (-1) ∧ ∃ a vs, x = .ref a ∧ SqL K H2 a vs ∧ ∀ p, H2 p = none → Q (.ref p) (upd H2 p (.lst vs.reverse))
section
variable {X : Cx} {es : List En} {e : Expr}
end
/-! max(xs, default=d) -/
def maxOr (d : Int) (xs : List Int) : Int := if xs = [] then d else maxI xs
section
variable {X : Cx} {es : List En} {e : Expr}
end
/-! d[k] of a dict that stands, as a thing that stands -/
section
variable {X : Cx} {es : List En} {a b : Expr} {pos : Pos} {κ α : Type} [Sc κ] [Ky κ] [DecidableEq κ] [Rp α] {d : Dct κ α} {k : κ}
end
/-! d.clear() of one's own dict -/
section
variable {X : Cx} {es es2 : List En} {i : Nat} {st : Stmt} {κ α : Type} [Sc κ] [Ky κ] [DecidableEq κ] [Rp α] {d : Dct κ α}
end
end Ly
namespace Ly
open PySem PySem.Spec PyProof.Rows L2
section
variable {X : Cx} {es es1 : List En} {a e : Expr} {pos : Pos} {α β : Type}
/-! a part of a tuple, where the tuple's own reckoning has an effect -/
end
/-! Jobs(..), an argument with an effect -/
section
variable {X : Cx} {es es1 : List En} {e : Expr} {args : List Expr} {as : List En} {pos p : Pos} {k : Nat} {ps : List Str}
end
/-- an own dict of scalars asks nothing of what stands -/
instance owsDct {κ α : Type} [Sc κ] [Ky κ] [Sc α] : OwS (Dct κ α) := ⟨fun {K F F' H v x P} hf h => by
  obtain ⟨a, o, e, eP, h1, h2, hz, nd, ks, eo, r⟩ := h
  subst eP
  exact ⟨a, o, e, rfl, h1, hf a (by simp), hz, nd, ks, eo, pairedM2 (fun a b (dr : DR K F a b) => ⟨dr.1, dr.2.1, dr.2.2⟩) r⟩⟩
end Ly
namespace Ly
open PySem PySem.Spec PyProof.Rows L2 TL LyS
/-! a list of ints, less than another one -/
def rLessL (K : PySem.W.Frag) : R2 := fun x y H Q => ∃ a b ns ms, x = .ref a ∧ y = .ref b ∧ SqL K H a (ns.map V.int) ∧ SqL K H b (ms.map V.int) ∧ Q (.bl (PySem.W.listLt ns ms)) H
section
variable {X : Cx} {es es1 : List En} {a b e : Expr} {pos : Pos} {α β : Type} {i : Nat} {st : Stmt}
/-! None, or a thing that stands at an address -/
instance (priority := 450) rpOptC {α : Type} [Cl α] : Rp (Option α) where
  rep K H v o := match o with
    | none => v = V.non
    | some x => @Rp.rep α rpCl K H v x
  mono {K H H' v o} i h := by
    cases o with
    | none => exact h
    | some x => exact @Rp.mono α rpCl _ _ _ _ _ i h
end
/-! d.update(e) -/
def updK (kvs more : List (Key × V)) : List (Key × V) := more.foldl (fun acc kv => putK acc kv.1 kv.2) kvs
def updL {κ α : Type} [DecidableEq κ] (l m : List (κ × α)) : List (κ × α) := m.foldl (fun acc p => putL acc p.1 p.2) l
def updD {κ α : Type} [DecidableEq κ] (d e : Dct κ α) : Dct κ α := ⟨updL d.l e.l⟩
def rDUpd : V → List V → Hp → VK → Prop := fun x vs H Q => ∃ (a b : Addr) (kvs more : List (Key × V)), x = .ref a ∧ vs = [.ref b] ∧ H a = some (.dK kvs) ∧ Rd H b (.dK more) ∧ a ≠ b ∧ kvs.length + more.length ≤ sizeLine ∧ Q .non (upd H a (.dK (updK kvs more)))
section
variable {X : Cx} {es es2 : List En} {e : Expr} {i : Nat} {st : Stmt} {κ α : Type} [Sc κ] [Ky κ] [DecidableEq κ] [Rp α] {d m : Dct κ α}
end
/-! sorted(d.values()) -/
section
variable {X : Cx} {α : Type} [Sc α] [ScaE α]
end
/-! list(range(a, b)) -/
section
variable {X : Cx} {es : List En} {a b : Expr} {p p2 pos pos2 : Pos} {lo hi : Int}
end
/-! dict(d), d one's own -/
section
variable {X : Cx} {es : List En} {a : Expr} {p pos : Pos} {κ α : Type} [Sc κ] [Ky κ] [DecidableEq κ] [Sc α] {d : Dct κ α}
end
end Ly
namespace Ly
open PySem PySem.Spec PyProof.Rows L2 TL
/-! an own list put behind an own list of own lists; its name stays one for it -/
section
variable {K : PySem.W.Frag} {f : Fr} {es : List En} {σ : L2.St} {F H : Hp} {i j : Nat}
/-- the slot j says nothing any more; what belonged to it belongs to none -/
theorem EnvP.drop {Ps : Nat → List Addr} (q : EnvP K f es σ F H Ps) (hj : j < es.length) (na : noAl j es) : EnvP K f (es.set j .un) σ F H (fun k => if k = j then [] else Ps k) := by
  have inn : ∀ (k : Nat) p, p ∈ (if k = j then [] else Ps k) → k ≠ j ∧ p ∈ Ps k := fun k p hp => by
    by_cases c : k = j
    · rw [if_pos c] at hp; cases hp
    · rw [if_neg c] at hp; exact ⟨c, hp⟩
  have at_ : ∀ (k : Nat), k ≠ j → (es.set j .un)[k]? = es[k]? := fun k c => List.getElem?_set_ne (Ne.symm c)
  refine ⟨by rw [List.length_set]; exact q.len, fun k e hk => ?_, fun k hk => ?_, fun k m p h1 h2 p1 p2 => ?_, fun k p h1 p1 => ?_, fun k p α r x hk p1 => ?_, fun k m α r x hk => ?_⟩
  · by_cases c : k = j
    · subst c
      rw [List.getElem?_set_self hj] at hk
      cases hk
      show (if k = k then [] else Ps k) = []
      rw [if_pos rfl]
    · rw [at_ k c] at hk
      rw [if_neg c]
      exact q.ok k e hk
  · by_cases c : k = j
    · rw [if_pos c]; exact List.nodup_nil
    · rw [if_neg c]; exact q.nd k (by rw [List.length_set] at hk; exact hk)
  · rw [List.length_set] at h1 h2
    exact q.dj k m p h1 h2 (inn k p p1).2 (inn m p p2).2
  · rw [List.length_set] at h1
    exact q.fr k p h1 (inn k p p1).2
  · obtain ⟨c, hp⟩ := inn k p p1
    rw [at_ k c] at hk
    exact q.nw k p α r x hk hp
  · by_cases c : k = j
    · subst c
      rw [List.getElem?_set_self hj] at hk
      cases hk
    · rw [at_ k c] at hk
      obtain ⟨hm, v, Q, ev, hQ, o⟩ := q.al k m α r x hk
      have cm : m ≠ j := fun z => na k α r x (z ▸ hk)
      exact ⟨by rw [List.length_set]; exact hm, v, Q, ev, fun p hp => by rw [if_neg cm]; exact hQ p hp, o⟩
end
section
variable {X : Cx} {es es2 : List En} {a b e : Expr} {pos : Pos} {α : Type} {i j : Nat} {st : Stmt}
end
/-! text += text -/
section
variable {X : Cx} {es es1 es2 : List En} {e : Expr} {i : Nat} {st : Stmt} {x y : Str}
def ipT : TIp := fun x y H Q => ∃ i j, x = .str i ∧ y = .str j ∧ i.length + j.length ≤ sizeLine ∧ Q (.str (i ++ j)) H
theorem sOk.app {x y : Str} (hx : sOk x) (hy : sOk y) (hz : x.length + y.length ≤ sbig) : sOk (x ++ y) := by
  refine ⟨by rw [str_len]; exact hz, fun c hc => ?_⟩
  have e : (x ++ y).cps.toList = x.cps.toList ++ y.cps.toList := tl_append x y
  rw [e] at hc
  rcases List.mem_append.mp hc with q | q
  · exact hx.2 c q
  · exact hy.2 c q
end
/-! xs.count(x) of texts -/
def cntS (xs : List Str) (k : Str) : Int := ((xs.filter fun y => decide (y = k)).length : Int)
def rCntS (K : PySem.W.Frag) : V → List V → Hp → VK → Prop := fun x xs H Q => ∃ (p : Addr) (ns : List Str) (k : Str), x = .ref p ∧ xs = [.str k] ∧ SqL K H p (ns.map V.str) ∧ Q (.int (cntS ns k)) H
section
variable {X : Cx} {es : List En} {a b e : Expr} {pos apos : Pos}
end
/-! enumerate(xs, start=1) -/
section
variable {M : Model} {A : Around} {E : Value → Shared → Prop} {s : Shared} {env : Env}
end
/-- the list at a as it stands at each turn, each item in a new pair, told from 1 on -/
def Itf (K : PySem.W.Frag) (a : Addr) : It :=
  ⟨fun i H => ∃ (xs : List V) (x : V), SqL K H a xs ∧ xs[i]? = some x, fun i H v H' => ∃ T x, v = .ref T ∧ H T = none ∧ H' = upd H T (.tup [.int (1 + ((i : Nat) : Int)), x]) ∧ ∀ xs, SqL K H a xs → xs[i]? = some x, fun i H => ∃ xs : List V, SqL K H a xs ∧ xs.length = i⟩
def iFrom1 (K : PySem.W.Frag) (ta : TA) : TI := fun σ H R => ta σ H fun vs H1 => ∃ a xs, vs = [.ref a] ∧ SqL K H1 a xs ∧ R (Itf K a) H1
def zipF {α : Type} (xs : List α) : List (Int × α) := xs.zipIdx.map fun p => (1 + (p.2 : Int), p.1)
end Ly
/-! list(reversed(xs)) -/
namespace LyRv
open PySem PySem.Spec PyProof.Rows RT PySem.F
section
variable {prog : Program} {w : World} {A : Around} {E : Value → Shared → Prop} {s : Shared}
end
end LyRv
namespace Ly
open PySem PySem.Spec PyProof.Rows L2 TL
def tLstRev (K : PySem.W.Frag) (te : TE) : TE := fun σ H Q => te σ H fun v H1 => ∃ (a : Addr) (xs : List V), v = .ref a ∧ SqL K H1 a xs ∧ ∀ q, H1 q = none → Q (.ref q) (upd H1 q (.lst xs.reverse))
section
variable {X : Cx} {es : List En} {e : Expr}
end
end Ly
namespace Ly
open PySem PySem.Spec PyProof.Rows L2
variable {X : Cx} {es es1 es2 : List En} {e b : Expr} {i : Nat} {α : Type}
/-- the while, its test well at each turn, too -/
def whOkT {β ρ : Type} (c : β → Bool) (t : β → Prop) (g : β → Fl β ρ) (ok : β → Prop) : Nat → β → Prop
  | 0, y => t y ∧ c y = false
  | n + 1, y => t y ∧ (c y = true → ok y ∧ ∀ z, g y = .nx z → whOkT c t g ok n z)
theorem whOkT.test {β ρ : Type} {c : β → Bool} {t : β → Prop} {g : β → Fl β ρ} {ok : β → Prop} : ∀ {n : Nat} {y : β}, whOkT c t g ok n y → t y
  | 0, _, h => h.1
  | _ + 1, _, h => h.1
section
variable {β ρ : Type} {c : Expr} {body : List Stmt} {pos : Pos}
end
/-! zip(xs, ys), walked -/
end Ly
namespace Ly
open PySem PySem.Spec PyProof.Rows L2 TL
/-! dicts whose keys are tuples of scalars -/
section
variable {κ α : Type} [Sc κ] [Ky κ]
def keyT (x : Tl κ) : List L2.Key := x.l.map Ky.key
def DRT [Rp α] (K : PySem.W.Frag) (H : Hp) (p : List L2.Key × V) (q : Tl κ × α) : Prop := p.1 = keyT q.1 ∧ (∀ k ∈ q.1.l, Sc.ok k) ∧ q.1.l.length ≤ big ∧ Rp.rep K H p.2 q.2
instance clDctT [Rp α] : Cl (Dct (Tl κ) α) where
  cell K H o d := d.l.length ≤ big ∧ (d.l.map (·.1)).Nodup ∧ ∃ ks : List (List L2.Key × V), o = .dT ks ∧ Paired (DRT K H) ks d.l
  mono {K H H' o d} i h := by
    obtain ⟨h1, h2, ks, e, r⟩ := h
    exact ⟨h1, h2, ks, e, Paired.mapP r fun _ _ z => ⟨z.1, z.2.1, z.2.2.1, Rp.mono i z.2.2.2⟩⟩
instance clmDctT [Rp α] : Clm (Dct (Tl κ) α) := ⟨fun h ks e => by
  obtain ⟨_, _, kvs, e2, _⟩ := h
  rw [e2] at e; cases e⟩
end
section
variable {κ α : Type} [Sc κ] [Ky κ] [DecidableEq κ] [Rp α] {K : PySem.W.Frag} {H F : Hp}
/-- a tuple of scalars that stands in the heap may be taken as frozen -/
theorem St0.key (s : Sub F H) {q : Addr} {ks : List L2.Key} (h : H q = some (sk ks)) : ∃ F', St0 F H F' H ∧ F' q = some (sk ks) := by
  cases e : F q with
  | some o =>
    refine ⟨F, St0.refl s, ?_⟩
    rcases s q o e with w | ⟨_, ob, w⟩ | ⟨_, _, w⟩
    · rw [h] at w; rw [e]; exact w.symm
    · rw [h] at w; cases w
    · rw [h] at w; cases w
  | none =>
    refine ⟨fzP F H [q], ⟨fzP_inc fun p hp => by rw [List.mem_singleton.mp hp]; exact e, fun _ _ _ z => z, fun _ z => z, fun b o e2 => ?_, fun b e1 e2 => ?_, fun _ _ z => z⟩, (fzP_in (by simp)).trans h⟩
    · by_cases c : b ∈ [q]
      · rw [fzP_in c] at e2; exact .inl e2
      · rw [fzP_out c] at e2; exact s b o e2
    · by_cases c : b ∈ [q]
      · rw [List.mem_singleton.mp c]; exact .inr ⟨ks, h⟩
      · rw [fzP_out c]; exact .inl e2
end
section
variable {X : Cx} {es es1 es2 es3 : List En} {a b c e elt tg iter : Expr} {pos : Pos} {κ α β γ : Type} [Sc κ] [Ky κ] [DecidableEq κ] [Rp α] {i : Nat} {st : Stmt} {d : Dct (Tl κ) α} {k : Tl κ}
/-! {k: x}, k a tuple -/
def rDisp1 (p : Addr) (Q : VK) (ps : List (V × V)) (H3 : Hp) : Prop := ∃ x y, ps = [(x, y)] ∧ H3 p = some (.dT []) ∧ ∃ (b : Addr) (k : List L2.Key), x = .ref b ∧ H3 b = some (sk k) ∧ Q (.ref p) (upd H3 p (.dT [(k, y)]))
def tDisp1T (tk tv : TE) : TE := fun σ H Q => ∀ p, H p = none → tk σ (upd H p (.dT [])) fun x H1 => tv σ H1 fun y H2 => rDisp1 p Q [(x, y)] H2
/-! tuple(xs), x in t -/
end
end Ly
namespace Ly
open PySem PySem.Spec PyProof.Rows L2 TL
/-! dict(zip(xs, ys)) -/
def rDictZip (K : PySem.W.Frag) (vs : List V) (H : Hp) (Q : VK) : Prop := ∃ (a b : Addr) (ks : List L2.Key) (ys : List V), vs = [.ref a, .ref b] ∧ SqL K H a (ks.map kV) ∧ SqL K H b ys ∧ ks.length = ys.length ∧ ∀ q, H q = none → Q (.ref q) (upd H q (.dK (mergeK [] (ks.zip ys))))
section
variable {X : Cx} {es es1 es2 : List En} {a b c e : Expr} {pos : Pos} {κ α β γ : Type} [Sc κ] [Ky κ] [DecidableEq κ] [Rp α]
/-! z * n -/
end
end Ly
namespace Ly
open PySem PySem.Spec PyProof.Rows L2 TL
section
variable {X : Cx} {es es1 es2 : List En} {a b c e : Expr} {pos : Pos} {κ α β γ : Type} [Sc κ] [Ky κ] [DecidableEq κ] [Rp α]
/-! dict(zip(xs, f(..))), where the second list is told by a call with an effect -/
end
end Ly
namespace Ly
open PySem PySem.Spec PyProof.Rows L2 TL
/-! tuple(d) -/
section
variable {prog : Program} {w : World} {A : Around} {E : Value → Shared → Prop} {s : Shared} {T : String} {r d : Addr} {n : Nat} {P : Nat → Value → Prop} {OK : Heap → Prop}
end
def rTupD (xs : List V) (H : Hp) (Q : VK) : Prop := ∃ p kvs, xs = [.ref p] ∧ Rd H p (.dK kvs) ∧ ∀ q, H q = none → Q (.ref q) (upd H q (.tup (kvs.map fun kv => kV kv.1)))
section
variable {X : Cx} {es es1 es2 : List En} {a b c e : Expr} {pos : Pos} {κ α β γ : Type} [Sc κ] [Ky κ] [DecidableEq κ] [Rp α] {d : Dct κ α}
end
/-! .items() of tuple keys -/
def ItiT (d : Addr) (o : Obj) (kvs : List (List L2.Key × V)) : It :=
  ⟨fun i H => H d = some (.frz o (.dT kvs)) ∧ i < kvs.length, fun i H x H' => ∃ T k v q, kvs[i]? = some (k, v) ∧ H q = some (.tup (k.map kV)) ∧ x = .ref T ∧ H T = none ∧ H' = upd H T (.tup [.ref q, v]), fun i H => H d = some (.frz o (.dT kvs)) ∧ kvs.length ≤ i⟩
def iItemsT (td : TE) : TI := fun σ H R => td σ H fun x H1 => ∃ d o kvs, x = .ref d ∧ H1 d = some (.frz o (.dT kvs)) ∧ R (ItiT d o kvs) H1
section
variable {X : Cx} {es es1 es2 : List En} {e : Expr} {κ α : Type} [Sc κ] [Ky κ] [DecidableEq κ] [Rp α] {d : Dct (Tl κ) α}
end
end Ly
namespace Ly
open PySem PySem.Spec PyProof.Rows L2 TL
section
variable {X : Cx} {es es1 es2 : List En} {tg iter : Expr} {body : List Stmt} {pos : Pos} {α β γ ρ : Type} {i : Nat}
end
end Ly
namespace Ly
open PySem PySem.Spec PyProof.Rows L2 TL
/-! d.setdefault(t, x), t a tuple of scalars -/
def tDSetdT (td ty tx : TE) : TE := fun σ H Q => td σ H fun x H1 => ∃ a, x = .ref a ∧ IsD H1 a ∧ ty σ H1 fun y H2 => tx σ H2 fun z H3 => ∃ (kvs : List (List L2.Key × V)) (k : List L2.Key) (b : Addr), H3 a = some (.dT kvs) ∧ y = .ref b ∧ H3 b = some (.tup (k.map kV)) ∧ kvs.length < sizeLine ∧
  (∀ v, valV kvs k = some v → Q v H3) ∧ (valV kvs k = none → Q z (upd H3 a (.dT (putK kvs k z))))
section
variable {X : Cx} {es es1 es2 es3 : List En} {a b c e : Expr} {st : Stmt} {pos apos cpos : Pos} {κ α : Type} [Sc κ] [Ky κ] [DecidableEq κ] [Rp α] {i : Nat} {k : Tl κ}
def setdD (d : Dct (Tl κ) α) (k : Tl κ) (x : α) : Dct (Tl κ) α := if hasD d k = true then d else putD d k x
end
end Ly
namespace Ly
open PySem PySem.Spec PyProof.Rows L2 TL
/-! a lambda of one parameter, called -/
structure Lam1 (scope : Scope) (x y : Str) : Prop where
  kind : scope.kind = .function
  co : scope.isCoroutine = false
  gen : scope.isGenerator = false
  loc : scope.names.lookup x = some .local
  nocell : ∀ z ∈ scope.names, z.2 ≠ .cell
  free : scope.names.lookup y = some .free
section
variable {prog : Program} {w : World} {A : Around} {s : Shared} {f c' c d : Addr} {qual : Str} {params : Arguments} {body : Expr} {scope : Scope} {cl : List (Str × Addr)} {pm ctv v : Value} {x y : Str}
abbrev lEnv (qual : Str) (scope : Scope) (L f c' : Addr) (cl : List (Str × Addr)) : Env := PySem.W.envX qual scope L f (.ref c') cl
end
section
variable {prog : Program} {w : World} {A : Around} {s : Shared} {f c' c d : Addr} {qual : Str} {params : Arguments} {scope : Scope} {cl : List (Str × Addr)} {pm ctv : Value} {x y : Str}
theorem cell_keep {h h' : Heap} {c : Addr} {v : Option Value} (kp : ∀ b o, h.get? b = some o → h'.get? b = some o) (r : h.IsCell c v) : h'.IsCell c v := let ⟨o, ho, hd⟩ := r; ⟨o, kp _ _ ho, hd⟩
theorem dict_keep {h h' : Heap} {d : Addr} {vs : List (L2.Key × Value)} (kp : ∀ b o, h.get? b = some o → h'.get? b = some o) (r : h.DictOf (mixKind prog w) d vs) : h'.DictOf (mixKind prog w) d vs := let ⟨o, es, ep, ho, r⟩ := r; ⟨o, es, ep, kp _ _ ho, r⟩
/-- the lambda stands, it has captured y, a dict -/
structure LamAt (prog : Program) (w : World) (h : Heap) (f c' c d : Addr) (qual : Str) (params : Arguments) (body : Expr) (scope : Scope) (cl : List (Str × Addr)) (pm ctv : Value) (x y : Str) (vs : List (L2.Key × Value)) : Prop where
  l : Lam1 scope x y
  ob : h.get? f = some (PySem.W.kla_obj "<lambda>" qual params body scope cl pm c' ctv)
  code : h.CodeRec (.ref c') qual
  lim : h.NoLimit
  bind : ∀ v, bindArgs (PySem.W.kla_fn "<lambda>" qual params body scope cl pm (.ref c') ctv) ⟨[v], []⟩ = pure [(x, v)]
  lk : cl.lookup y = some c
  cell : h.IsCell c (some (.ref d))
  dict : h.DictOf (mixKind prog w) d vs
theorem LamAt.keep {h h' : Heap} {body : Expr} {vs : List (L2.Key × Value)} (L : LamAt prog w h f c' c d qual params body scope cl pm ctv x y vs) (kp : ∀ b o, h.get? b = some o → h'.get? b = some o) : LamAt prog w h' f c' c d qual params body scope cl pm ctv x y vs :=
  ⟨L.l, kp _ _ L.ob, let ⟨c, oc, vs, t, e, ho, r⟩ := L.code; ⟨c, oc, vs, t, e, kp _ _ ho, r⟩, L.lim.keeps kp, L.bind, L.lk, cell_keep kp L.cell, dict_keep kp L.dict⟩
end
end Ly
namespace Ly
open PySem PySem.Spec PyProof.Rows L2 TL LamX
/-! sorted(xs, key=lambda x: .. y ..), xs texts, the keys ints -/
def srtBy (k : Str → Int) (xs : List Str) : List Str := xs.mergeSort fun a b => decide (k a ≤ k b)
structure CapY (X : Cx) (scope : Scope) (x y : Str) (j : Nat) : Prop where
  l : Lam1 scope x y
  kind : X.env.kindOf y = some .cell
  nm : X.N[j]? = some y
  only : ∀ z ∈ scope.names, z.2 = .free → z.1 = y
section
variable {X : Cx} {pins : List (Addr × Obj)} {σ : L2.St} {H : Hp} {s : Shared}
/-- the keys, told by the lambda: what is asked of the heap, and that each call tells one -/
structure KeyT (X : Cx) (params : Arguments) (body : Expr) (scope : Scope) (x y : Str) (KT : Hp → Addr → (Str → Int) → List Str → Prop) : Prop where
  run : ∀ {pins : List (Addr × Obj)} {σ : L2.St} {H : Hp} {s : Shared}, Inv X pins σ H s → ∀ (d : Addr) (vl : Str → Int) (ks : List Str), KT H d vl ks → ∃ vs, s.heap.DictOf (mixKind X.prog X.w) d vs ∧
    ∀ (A : Around), A.depth < recursionLimit → ∀ (f c' cy : Addr) (qual : Str) (pm ctv : Value) (cl : List (Str × Addr)) (h : Heap) (tk : Nat), (∀ b o, s.heap.get? b = some o → h.get? b = some o) → LamAt X.prog X.w h f c' cy d qual params body scope cl pm ctv x y vs →
      ∀ n ∈ ks, ∀ t, wpAny (model X.prog X.w) A (call (.ref f) [.str n t]) (PySem.W.KeyPure (.int (vl n)) { s with heap := h, toks := tk }) (fun _ _ => False) { s with heap := h, toks := tk }
theorem strs_of : ∀ {ks : List Str} {its : List Value}, Vals (ks.map V.str) its → PySem.W.EachIs (fun (v : Value) (n : Str) => ∃ t, v = .str n t) its ks
  | [], _, .nil => .nil
  | k :: ks, _, .cons h t => .cons h (strs_of t)
end
end Ly
namespace Ly
open PySem PySem.Spec PyProof.Rows L2 TL LamX
/-! tables of code objects, owned: the objects' addresses told -/
def TabC (H : Hp) (P : Addr) (q : Str) (cs : List Addr) : Prop := ∃ ps : Array Value, H P = some (.tbl ps) ∧ TriplesOk ps.toList ∧ ∀ (pos : Pos) (cv : Value), codeAmong pos ps.toList = some cv → ∃ c ∈ cs, cv = .ref c ∧ H c = some (CodeO c q)
/-- what the making of a lambda did: nothing, or one more code object, at c' -/
structure MadeL (H H1 : Hp) (P : Addr) (q : Str) (c' : Addr) : Prop where
  code : H1 c' = some (CodeO c' q)
  how : H1 = H ∨ (H c' = none ∧ (∀ b, b ≠ P → b ≠ c' → H1 b = H b) ∧ ∀ cs, TabC H P q cs → TabC H1 P q (c' :: cs))
section
variable {X : Cx} {pins : List (Addr × Obj)} {σ : L2.St} {H : Hp} {s : Shared}
def tSortKey (K : PySem.W.Frag) (P : Addr) (q : Str) (KT : Hp → Addr → (Str → Int) → List Str → Prop) (j : Nat) (te : TE) : TE := fun σ H Q => te σ H fun v H1 => ∃ a ks d vl cs, v = .ref a ∧ σ[j]? = some (some (.ref d)) ∧ TabC H1 P q cs ∧
  ∀ H2 c', MadeL H1 H2 P q c' → KT H2 d vl ks ∧ SqL K H2 a (ks.map V.str) ∧ ∀ p, H2 p = none → Q (.ref p) (upd H2 p (.lst ((srtBy vl ks).map V.str)))
end
/-! what the two lambdas ask -/
def KTneg (H : Hp) (d : Addr) (vl : Str → Int) (ks : List Str) : Prop := ∃ kvs, Rd H d (.dK kvs) ∧ ∀ n ∈ ks, ∃ i, valV kvs (.inr n) = some (.int i) ∧ vl n = -i
def KTlen (H : Hp) (d : Addr) (vl : Str → Int) (ks : List Str) : Prop := ∃ kvs, Rd H d (.dK kvs) ∧ ∀ n ∈ ks, ∃ d2 kvs2, valV kvs (.inr n) = some (.ref d2) ∧ Rd H d2 (.dK kvs2) ∧ vl n = (kvs2.length : Int)
end Ly
namespace Ly
open PySem PySem.Spec PyProof.Rows L2 TL LamX
/-! the tables of the code objects, in a slot that the program does not see -/
structure Tbl where
  ts : List (Addr × Str)
theorem TabC.keep {H H' : Hp} {P : Addr} {q : Str} {cs cs' : List Addr} (h : TabC H P q cs) (hP : H' P = H P) (hc : ∀ c ∈ cs, H' c = H c) (hs : ∀ c ∈ cs, c ∈ cs') : TabC H' P q cs' := by
  obtain ⟨ps, h1, h2, h3⟩ := h
  refine ⟨ps, hP.trans h1, h2, fun pos cv hcv => ?_⟩
  obtain ⟨c, m, e1, e2⟩ := h3 pos cv hcv
  exact ⟨c, hs c m, e1, (hc c m).trans e2⟩
theorem codeO_nsk {c : Addr} {q : Str} (ks : List L2.Key) : CodeO c q ≠ sk ks := fun z => by
  unfold CodeO sk at z
  cases z
instance owTbl : Ow Tbl where
  rp := ⟨fun _ _ _ _ => True, fun _ h => h⟩
  own K F H v x P := ∃ a cs, v = .ref a ∧ P = cs ++ x.ts.map (·.1) ∧ (x.ts.map (·.1)).Nodup ∧ (∀ t ∈ x.ts, TabC H t.1 t.2 cs) ∧ (∀ c ∈ cs, ∃ q, H c = some (CodeO c q)) ∧ ∀ p ∈ P, F p = none
  mono {K F F' H H' v x P} i h hf o := by
    obtain ⟨a, cs, e, eP, nd, h1, h2, h3⟩ := o
    subst eP
    refine ⟨a, cs, e, rfl, nd, fun t ht => (h1 t ht).keep (h _ (List.mem_append_right _ (List.mem_map.mpr ⟨t, ht, rfl⟩))) (fun c hc => h c (List.mem_append_left _ hc)) (fun _ h => h), fun c hc => ?_, hf⟩
    rw [h c (List.mem_append_left _ hc)]
    exact h2 c hc
  out {K F H v x P} o p hp := by
    obtain ⟨a, cs, e, eP, nd, h1, h2, h3⟩ := o
    refine ⟨?_, h3 p hp⟩
    subst eP
    rcases List.mem_append.mp hp with m | m
    · obtain ⟨q, hq⟩ := h2 p m
      rw [hq]; exact fun z => by cases z
    · obtain ⟨t, ht, rfl⟩ := List.mem_map.mp m
      obtain ⟨ps, hq, _⟩ := h1 t ht
      rw [hq]; exact fun z => by cases z
  fzn _ := True.intro
  nt {K F H v x P} o p hp ks := by
    obtain ⟨a, cs, e, eP, nd, h1, h2, h3⟩ := o
    subst eP
    rcases List.mem_append.mp hp with m | m
    · obtain ⟨q, hq⟩ := h2 p m
      rw [hq]
      exact fun z => codeO_nsk ks (Option.some.inj z)
    · obtain ⟨t, ht, rfl⟩ := List.mem_map.mp m
      obtain ⟨ps, hq, _⟩ := h1 t ht
      rw [hq]
      intro z
      cases z
instance owrTbl : OwR Tbl := ⟨fun o => let ⟨a, _, e, _⟩ := o; ⟨a, e⟩⟩
/-- the heap behind the making of a lambda -/
theorem MadeL.stp {K : PySem.W.Frag} {F H H2 : Hp} {v : V} {ts : List (Addr × Str)} {Ps : List Addr} {P c' : Addr} {q : Str} (sb : Sub F H) (o : Ow.own K F H v (Tbl.mk ts) Ps) (hm : (P, q) ∈ ts) (M : MadeL H H2 P q c') :
    Stp ⟨(· ∈ Ps), F, H⟩ F H2 ∧ ∃ P', Ow.own K F H2 v (Tbl.mk ts) P' ∧ (Ps.Nodup → P'.Nodup) ∧ ∀ z ∈ P', z ∈ Ps ∨ H z = none := by
  rcases M.how with e | ⟨nC, hb, hT⟩
  · subst e
    exact ⟨Stp.refl sb, Ps, o, fun h => h, fun z hz => .inl hz⟩
  · obtain ⟨a, cs, ev, eP, nd, h1, h2, h3⟩ := o
    subst eP
    have mP : P ∈ cs ++ ts.map (·.1) := List.mem_append_right _ (List.mem_map.mpr ⟨_, hm, rfl⟩)
    obtain ⟨ps, hP, _⟩ := h1 _ hm
    have same : ∀ b, b ≠ P → H b ≠ none → H2 b = H b := fun b h1 h2 => hb b h1 fun e => h2 (by rw [e]; exact nC)
    have hT2 := hT cs (h1 _ hm)
    have csP : ∀ c ∈ cs, c ≠ P := fun c hc e => by
      obtain ⟨q, hq⟩ := h2 c hc
      rw [e, hP] at hq
      exact codeO_ne ps (Option.some.inj hq).symm
    have csS : ∀ c ∈ cs, H2 c = H c := fun c hc => same c (csP c hc) (by
      obtain ⟨q, hq⟩ := h2 c hc
      rw [hq]; exact fun z => by cases z)
    have fN : ∀ a o, F a = some o → H2 a = H a := fun a o e => by
      have hn : H a ≠ none := fun z => by
        have := sub_none sb z
        rw [e] at this
        cases this
      refine same a (fun z => ?_) hn
      have := h3 P mP
      rw [← z, e] at this
      cases this
    have cF : F c' = none := sub_none sb nC
    refine ⟨⟨Inc.refl _, fun b o hn e => ?_, fun b hn => ?_, fun b o e => ?_, fun b _ e => .inl e, fun b ks e => ?_⟩, c' :: (cs ++ ts.map (·.1)), ⟨a, c' :: cs, ev, rfl, nd, fun t ht => ?_, fun c hc => ?_, fun p hp => ?_⟩, fun hnd => ?_, fun z hz => ?_⟩
    · have e : H b = some o := e
      rw [same b (fun z => hn (by rw [z]; exact mP)) (by rw [e]; exact fun z => by cases z)]
      exact e
    · by_cases c : b = P
      · obtain ⟨ps2, hp2, _⟩ := hT2
        rw [c, hp2]
        exact fun z => by cases z
      · rw [same b c hn]; exact hn
    · have r := sb b o e
      unfold Rdd at r ⊢
      rw [fN b o e]
      exact r
    · have e : H b = some (sk ks) := e
      rw [same b (fun z => by
        rw [z, hP] at e
        cases e) (by rw [e]; exact fun z => by cases z)]
      exact e
    · by_cases c : t.1 = P
      · have : t = (P, q) := by
          obtain ⟨i, hi, e1⟩ := List.getElem_of_mem ht
          obtain ⟨k, hk, e2⟩ := List.getElem_of_mem hm
          have : i = k := (List.getElem_inj nd (i := i) (j := k) (h₀ := by rw [List.length_map]; exact hi) (h₁ := by rw [List.length_map]; exact hk)).mp (by rw [List.getElem_map, List.getElem_map, e1, e2, c])
          subst this
          rw [← e1, e2]
        rw [this]
        exact hT2
      · refine (h1 t ht).keep (same t.1 c ?_) csS (fun _ h => List.mem_cons_of_mem _ h)
        obtain ⟨ps2, hp2, _⟩ := h1 t ht
        rw [hp2]; exact fun z => by cases z
    · rcases List.mem_cons.mp hc with m | m
      · rw [m]; exact ⟨q, M.code⟩
      · rw [csS c m]; exact h2 c m
    · rcases List.mem_cons.mp hp with m | m
      · rw [m]; exact cF
      · exact h3 p m
    · refine List.nodup_cons.mpr ⟨fun m => ?_, hnd⟩
      rcases List.mem_append.mp m with m | m
      · obtain ⟨q, hq⟩ := h2 c' m
        rw [nC] at hq; cases hq
      · obtain ⟨t, ht, e⟩ := List.mem_map.mp m
        obtain ⟨ps2, hp2, _⟩ := h1 t ht
        rw [e, nC] at hp2; cases hp2
    · rcases List.mem_cons.mp hz with m | m
      · exact .inr (by rw [m]; exact nC)
      · exact .inl m
end Ly
namespace Ly
open PySem PySem.Spec PyProof.Rows L2 TL LamX
/-! a slot that the program does not see -/
/-- .. with the tables of code objects lent, unseen -/
def spG (K : PySem.W.Frag) (ts : List (Addr × Str)) (G : List En → En → Prop) : Sp := fun vs H Q _ => ∃ (as : List En) (r : En) (F : Hp) (P : List Addr) (a : Addr), G as r ∧ Sub F H ∧ Ow.own K F H (.ref a) (Tbl.mk ts) P ∧ P.Nodup ∧ ArgsOk K F vs as ∧ RetU K ⟨(· ∈ P), F, H⟩ Q a owTbl (Tbl.mk ts) r
section
variable {P : Program} {w : World} {K : PySem.W.Frag} {mg : Str → Option Value} {base : Heap} {k : Nat} {f : Addr} {fd : FuncData} {x qual : Str} {params : Arguments} {body : List Stmt} {scope : Scope} {N ps : List Str} {ts : List (Addr × Str)}
end
end Ly
namespace Ly
open PySem PySem.Spec PyProof.Rows L2 TL LamX
section
variable {X : Cx} {es es1 es2 as : List En} {a e : Expr} {args : List Expr} {pos : Pos} {α : Type} {j k ig : Nat} {ps : List Str} {n : Str} {p : Pos} {GG : List En → En → Prop} {ts : List (Addr × Str)} {b : Addr}
end
end Ly
namespace Ly
open PySem PySem.Spec PyProof.Rows L2 TL LamX
end Ly
namespace Ly
open PySem PySem.Spec PyProof.Rows L2 TL LamX
end Ly
namespace LyV
open PySem PySem.Spec PyProof.Rows L2 PySem.W
end LyV
namespace Ly
open PySem PySem.Spec PyProof.Rows L2 TL
section
variable {X : Cx} {es : List En} {e : Expr}
end
end Ly
namespace Ly
open PySem PySem.Spec PyProof.Rows L2
section
variable {X : Cx} {es es1 : List En} {a e : Expr} {pos : Pos} {α β : Type}
/-! len(..) of what is reckoned with an effect -/
end
end Ly
namespace Ly
open PySem PySem.Spec PyProof.Rows L2
section
variable {X : Cx} {es es1 es2 : List En} {a b c e : Expr} {pos : Pos} {α β : Type}
/-! a chain whose middle has an effect -/
/-! and, its second part with an effect that leaves the slots -/
end
end Ly
namespace Ly
open PySem PySem.Spec PyProof.Rows L2
/-! xs.pop(k) as a statement -/
def popI {α : Type} (xs : List α) (k : Int) : List α := xs.eraseIdx k.toNat
section
variable {X : Cx} {es es1 es2 es3 : List En} {b : Expr} {i : Nat} {α : Type} {st : Stmt}
end
end Ly
namespace Ly
open PySem PySem.Spec PyProof.Rows L2 TL
/-! raising -/
/-- e raises x; the slots are es' then -/
structure RZ (X : Cx) (es : List En) (e : Expr) (x : ErV) (es' : List En) : Prop where
  run : ∀ (f : Fr) (σ : L2.St) (F H : Hp), Sw X.K f es σ F H → ∀ W : L2.WX, L2.Takes X W → (∀ F' H' d, Sw X.K f es' σ F' H' → XdOk F' d x → W (.ref (ECl X.K x.c)) d σ H') → ∀ Q : VK, wpE X e σ H Q
/-- a frozen value, or an exception -/
structure XR (X : Cx) (es : List En) (e : Expr) {α : Type} [Rp α] (m : Except ErV α) (es' : List En) : Prop where
  ok : ∀ y, m = .ok y → XJ X es e y es'
  er : ∀ x, m = .error x → RZ X es e x es'
/-- a new own value, or an exception -/
structure YR (X : Cx) (es : List En) (e : Expr) {α : Type} [Ow α] (m : Except ErV α) (es' : List En) : Prop where
  ok : ∀ y, m = .ok y → YJ X es e y es'
  er : ∀ x, m = .error x → RZ X es e x es'
theorem YR.x {X : Cx} {es es1 : List En} {e : Expr} {α : Type} [Ow α] {m : Except ErV α} (h : YR X es e m es1) : @XR X es e α Ow.rp m es1 := ⟨fun y z => (h.ok y z).frz, h.er⟩
def exB {α γ : Type} (m : Except ErV α) (rr : ErV → γ) (k : α → γ) : γ := match m with
  | .ok y => k y
  | .error x => rr x
def xcO {γ : Type} (k : γ → Out) : Except ErV γ → Out
  | .ok y => k y
  | .error x => .xc x
theorem xcO_rets {γ : Type} {k : γ → Out} {m : Except ErV γ} (h : ∀ y, (k y).rets = true) : (xcO k m).rets = true := by
  cases m with
  | ok y => exact h y
  | error x => rfl
theorem xcO_ends {γ : Type} {k : γ → Out} {m : Except ErV γ} (h : ∀ y, (k y).ends = true) : (xcO k m).ends = true := by
  cases m with
  | ok y => exact h y
  | error x => rfl
/-- the outs of exceptions, the slots being es -/
def Xo (es : List En) (o : ErV → Out) : Prop := ∀ (X : Cx) (f : Fr) (D : Ends) (x : ErV), OutK X f D (o x) → XsK X f es x
section
variable {X : Cx} {es es1 es2 as : List En} {a e : Expr} {args : List Expr} {st : Stmt} {sts rest : List Stmt} {pos : Pos} {α γ : Type} {o : ErV → Out} {k : γ → Out} {rr : ErV → γ} {x : ErV}
/-- what the head says of a refusal without fields -/
structure ExK (K : PySem.W.Frag) (mg : Str → Option Value) (c : XC) : Prop where
  q : PySem.W.excIn K (ECl K c) He.veBase "ValueError.__new__" = true
  kp : PySem.W.keepIn K (.ref (ECl K c)) = true
  h1 : PySem.W.subIn K (.ref (ECl K c)) (.type "BaseException") = some true
  h2 : PySem.W.typeIn K (.ref (ECl K c)) = some (.type "type")
  g : mg c.nm = some (.ref (ECl K c))
/-! a def that may raise -/
inductive Rs : Type 1 where
  | rt (e : En)
  | xc (x : ErV)
def RsK (K : PySem.W.Frag) (f : Fr) (Q : VK) (E : XK) : Rs → Prop
  | .rt e => RetK K f Q e
  | .xc x => ∀ F H d, Stp f F H → XdOk F d x → E (.ref (ECl K x.c)) d H
def spE (K : PySem.W.Frag) (G : List En → Rs → Prop) : Sp := fun vs H Q E => ∃ as r F, G as r ∧ Sub F H ∧ ArgsOk K F vs as ∧ RsK K ⟨no, F, H⟩ Q E r
def rsF {α : Type} (w : α → En) : Except ErV α → Rs
  | .ok y => .rt (w y)
  | .error x => .xc x
def OutX : Rs → Out → Prop
  | .rt e, out => OutR e out
  | .xc x, out => out = .xc x
section
variable {P : Program} {w : World} {K : PySem.W.Frag} {mg : Str → Option Value} {base : Heap} {k : Nat} {f : Addr} {fd : FuncData} {x qual : Str} {params : Arguments} {body : List Stmt} {scope : Scope} {N ps : List Str}
/-- where it does not raise -/
theorem fnCalm {G : List En → Rs → Prop} (Fn : FnOk P w K mg base (L2.CX P w) k f fd ps (spE K G)) : FnOk P w K mg base CX0 k f fd ps (spP K fun as r => G as (.rt r)) := by
  refine ⟨fun vs H Q E h => ?_, fun A outer s H args us vs Q E hr e0 hb r h => ?_⟩
  · obtain ⟨as, r, F, hG, sb, ha, hq⟩ := h
    exact Fn.len vs H Q E ⟨as, .rt r, F, hG, sb, ha, hq⟩
  · obtain ⟨as, r', F, hG, sb, ha, hq⟩ := h
    refine codeAny_mono (Fn.run A outer s H args us vs Q (fun _ _ _ => False) hr e0 hb r ⟨as, .rt r', F, hG, sb, ha, hq⟩) fun z s' hz => ?_
    cases z with
    | error e =>
      obtain ⟨_, _, _, _, _, _, _, _, _, _, _, _, h⟩ := (show L2.CX P w outer H s (fun _ _ _ => False) e s' from hz)
      exact h.elim
    | ok fl => cases fl <;> exact hz
end
/-- a def that may be called by its name, and may raise -/
structure DfX (P : Program) (w : World) (K : PySem.W.Frag) (mg : Str → Option Value) (base : Heap) (k : Nat) (n : Str) (ps : List Str) (sp : Sp) where
  f : Addr
  fd : FuncData
  ok : FnOk P w K mg base (L2.CX P w) k f fd ps sp
  mg : mg n = some (.ref f)
  kp : PySem.W.keepIn K (.ref f) = true
  bd : Binds K fd ps []
theorem DfX.mk' {P : Program} {w : World} {K : PySem.W.Frag} {mg : Str → Option Value} {base : Heap} {k : Nat} {n : Str} {ps : List Str} {sp : Sp} {x qual : Str} {params : Arguments} {body : List Stmt} {scope : Scope} {f : Addr} {fd : FuncData}
    (F : FunD K x qual params body scope [] [] f fd) (ok : FnOk P w K mg base (L2.CX P w) k f fd ps sp) (hm : mg n = some (.ref f))
    (h : ∀ (dV kV doc pm : Value) (an : Option Addr) (cdv ct : Value) (us : List Value), dV = .none → us.length = ps.length → bindArgs (PySem.W.fnOf x qual params body scope dV kV doc pm an cdv ct) ⟨us, []⟩ = pure (ps.zip us)) : Nonempty (DfX P w K mg base k n ps sp) := by
  obtain ⟨oc, od, dV, kV, doc, pm, an, cdv, ct, osl, rfl, lk, hcd, hd, _⟩ := F.ex
  have ed : dV = .none := by
    rcases hd with ⟨_, e⟩ | ⟨e, _⟩
    · exact e
    · exact absurd rfl e
  exact ⟨⟨f, _, ok, hm, F.kp, .all (h dV kV doc pm an cdv ct · ed)⟩⟩
/-- in a place where it does not raise -/
def DfX.calm {P : Program} {w : World} {K : PySem.W.Frag} {mg : Str → Option Value} {base : Heap} {k : Nat} {n : Str} {ps : List Str} {G : List En → Rs → Prop} (D : DfX P w K mg base k n ps (spE K G)) : Df P w K mg base k n ps (spP K fun as r => G as (.rt r)) := ⟨D.f, D.fd, fnCalm D.ok, D.mg, D.kp, D.bd⟩
variable {j : Nat} {ps : List Str} {n : Str} {p : Pos} {G : List En → Rs → Prop}
end
end Ly
namespace Ly
open PySem PySem.Spec PyProof.Rows L2 TL
/-! data of any kind: to it and from it -/
class Em (α : Type) [Rp α] where
  em : α → Dv
  rep : ∀ {K : PySem.W.Frag} {H : Hp} {v : V} {x : α}, Rp.rep K H v x → repV H (em x) v
  inv : ∀ {K : PySem.W.Frag} {H : Hp} {v : V} {x : α}, repV H (em x) v → (em x).dep ≤ 8 → Rp.rep K H v x
/-- types whose data are at most n deep -/
class EmN (α : Type) [Rp α] (n : outParam Nat) extends Em α where
  dp : ∀ x : α, (em x).dep ≤ n
open Em (em)
instance : Em Int := ⟨.int, fun h => h.1, fun h _ => ⟨h, True.intro⟩⟩
instance : EmN Int 0 where
  dp _ := Nat.le_refl _
instance : Em Bool := ⟨.bl, fun h => h.1, fun h _ => ⟨h, True.intro⟩⟩
instance : EmN Bool 0 where
  dp _ := Nat.le_refl _
instance : Em Str := ⟨.str, fun h => h, fun h _ => h⟩
instance : EmN Str 0 where
  dp _ := Nat.le_refl _
instance : Em Unit := ⟨fun _ => .non, fun h => h.1, fun h _ => ⟨h, True.intro⟩⟩
instance : EmN Unit 0 where
  dp _ := Nat.le_refl _
instance emDv : Em Dv := ⟨id, fun h => h.1, fun h d => ⟨h, d⟩⟩
theorem repVs_of {α : Type} [Rp α] [Em α] {K : PySem.W.Frag} {H : Hp} : ∀ {vs : List V} {xs : List α}, Paired (Rp.rep K H) vs xs → repVs H (xs.map em) vs
  | _, _, .nil => rfl
  | _, _, .cons r t => ⟨_, _, rfl, Em.rep r, repVs_of t⟩
theorem ofRepVs {α : Type} [Rp α] [Em α] {K : PySem.W.Frag} {H : Hp} : ∀ {xs : List α} {vs : List V}, repVs H (xs.map em) vs → depDs (xs.map em) ≤ 8 → Paired (Rp.rep K H) vs xs
  | [], vs, h, _ => by
    have e : vs = [] := h
    rw [e]; exact .nil
  | x :: xs, vs, h, d => by
    obtain ⟨v, ws, e, r, t⟩ := h
    have d' : max (em x).dep (depDs (xs.map em)) ≤ 8 := d
    subst e
    exact .cons (Em.inv r (by omega)) (ofRepVs t (by omega))
theorem depDs_le {xs : List Dv} {n : Nat} (h : ∀ x ∈ xs, x.dep ≤ n) : depDs xs ≤ n := by
  induction xs with
  | nil => exact Nat.zero_le _
  | cons x xs ih =>
    show max x.dep (depDs xs) ≤ n
    exact Nat.max_le.mpr ⟨h x List.mem_cons_self, ih fun y hy => h y (List.mem_cons_of_mem _ hy)⟩
instance emList {α : Type} [Rp α] [Em α] : Em (List α) where
  em xs := .lst (xs.map em)
  rep {K H v xs} r := by
    obtain ⟨a, o, e, h, z, vs, eo, rr⟩ := r
    subst eo
    exact ⟨a, vs, e, h, by rw [List.length_map]; exact z, repVs_of rr⟩
  inv {K H v xs} r d := by
    obtain ⟨a, vs, e, h, z, rr⟩ := r
    have d' : depDs (xs.map em) + 1 ≤ 8 := d
    rw [List.length_map] at z
    exact ⟨a, _, e, h, z, vs, rfl, ofRepVs rr (by omega)⟩
instance emnList {α : Type} [Rp α] {n : Nat} [EmN α n] : EmN (List α) (n + 1) where
  toEm := emList
  dp xs := by
    show depDs (xs.map em) + 1 ≤ n + 1
    exact Nat.succ_le_succ (depDs_le fun x hx => by
      obtain ⟨y, _, rfl⟩ := List.mem_map.mp hx
      exact EmN.dp y)
instance emPair {α β : Type} [Rp α] [Rp β] [Em α] [Em β] : Em (α × β) where
  em x := .tup [em x.1, em x.2]
  rep {K H v x} r := by
    obtain ⟨a, o, e, h, u, w, eo, r1, r2⟩ := r
    subst eo
    exact ⟨a, _, e, h, Nat.le_of_ble_eq_true rfl, _, _, rfl, Em.rep r1, _, _, rfl, Em.rep r2, rfl⟩
  inv {K H v x} r d := by
    obtain ⟨a, vs, e, h, _, u, ws, e1, r1, w, ws2, e2, r2, e3⟩ := r
    have e3 : ws2 = [] := e3
    subst e3 e2 e1
    have d' : max (em x.1).dep (max (em x.2).dep 0) + 1 ≤ 8 := d
    exact ⟨a, _, e, h, u, w, rfl, Em.inv r1 (by omega), Em.inv r2 (by omega)⟩
instance emnPair {α β : Type} [Rp α] [Rp β] {n m : Nat} [EmN α n] [EmN β m] : EmN (α × β) (max n m + 1) where
  toEm := emPair
  dp x := by
    have b1 := EmN.dp x.1
    have b2 := EmN.dp x.2
    show max (em x.1).dep (max (em x.2).dep 0) + 1 ≤ max n m + 1
    omega
instance emTl {α : Type} [Rp α] [Em α] : Em (Tl α) where
  em x := .tup (x.l.map em)
  rep {K H v x} r := by
    obtain ⟨a, o, e, h, z, vs, eo, rr⟩ := r
    subst eo
    exact ⟨a, vs, e, h, by rw [List.length_map]; exact z, repVs_of rr⟩
  inv {K H v x} r d := by
    obtain ⟨a, vs, e, h, z, rr⟩ := r
    have d' : depDs (x.l.map em) + 1 ≤ 8 := d
    rw [List.length_map] at z
    exact ⟨a, _, e, h, z, vs, rfl, ofRepVs rr (by omega)⟩
instance emnTl {α : Type} [Rp α] {n : Nat} [EmN α n] : EmN (Tl α) (n + 1) where
  toEm := emTl
  dp xs := by
    show depDs (xs.l.map em) + 1 ≤ n + 1
    exact Nat.succ_le_succ (depDs_le fun x hx => by
      obtain ⟨y, _, rfl⟩ := List.mem_map.mp hx
      exact EmN.dp y)
/-! projections -/
class Pj (α : Type) [Rp α] [Em α] where
  pj : Dv → α
  is : Dv → Bool
  em_pj : ∀ d, is d = true → Em.em (pj d) = d
open Pj (pj)
abbrev isD (α : Type) [Rp α] [Em α] [Pj α] (d : Dv) : Bool := Pj.is α d
instance : Pj Int where
  pj d := match d with
    | .int i => i
    | _ => 0
  is d := match d with
    | .int _ => true
    | _ => false
  em_pj d h := by
    cases d with
    | int i => rfl
    | _ => cases h
instance : Pj Bool where
  pj d := match d with
    | .bl i => i
    | _ => false
  is d := match d with
    | .bl _ => true
    | _ => false
  em_pj d h := by
    cases d with
    | bl i => rfl
    | _ => cases h
instance : Pj Str where
  pj d := match d with
    | .str i => i
    | _ => default
  is d := match d with
    | .str _ => true
    | _ => false
  em_pj d h := by
    cases d with
    | str i => rfl
    | _ => cases h
instance : Pj Dv := ⟨id, fun _ => true, fun _ _ => rfl⟩
def Dv.its : Dv → List Dv
  | .lst xs => xs
  | .tup xs => xs
  | _ => []
theorem map_pj {α : Type} [Rp α] [Em α] [Pj α] : ∀ {xs : List Dv}, xs.all (isD α) = true → (xs.map (pj (α := α))).map em = xs
  | [], _ => rfl
  | x :: xs, h => by
    rw [List.all_cons, Bool.and_eq_true] at h
    rw [List.map_cons, List.map_cons, Pj.em_pj x h.1, map_pj h.2]
def Dv.isL : Dv → Bool
  | .lst _ => true
  | _ => false
def Dv.isP : Dv → Bool
  | .tup _ => true
  | _ => false
instance pjList {α : Type} [Rp α] [Em α] [Pj α] : Pj (List α) := ⟨fun d => d.its.map pj, fun d => d.isL && d.its.all (isD α), fun d h => by
  cases d with
  | lst xs =>
    have h' : xs.all (isD α) = true := h
    show Dv.lst ((xs.map pj).map em) = _
    rw [map_pj h']
  | _ => cases h⟩
instance pjTl {α : Type} [Rp α] [Em α] [Pj α] : Pj (Tl α) := ⟨fun d => ⟨d.its.map pj⟩, fun d => d.isP && d.its.all (isD α), fun d h => by
  cases d with
  | tup xs =>
    have h' : xs.all (isD α) = true := h
    show Dv.tup ((xs.map pj).map em) = _
    rw [map_pj h']
  | _ => cases h⟩
section
variable {X : Cx} {es es1 es2 as : List En} {a b e : Expr} {args : List Expr} {pos p p2 : Pos} {α : Type}
theorem rep_pj {K : PySem.W.Frag} {H : Hp} {v : V} [Rp α] [Em α] [Pj α] {d : Dv} (hi : isD α d = true) (r : Rp.rep K H v d) : Rp.rep K H v (pj d : α) := by
  have e := Pj.em_pj (α := α) d hi
  refine Em.inv ?_ ?_
  · rw [e]; exact r.1
  · rw [e]; exact r.2
/-- lists of items that are known, seen as lists of any data -/
theorem pairedE [Rp α] {n : Nat} [EmN α n] (hn : n ≤ 8) {K : PySem.W.Frag} {H : Hp} : ∀ {vs : List V} {xs : List α}, Paired (Rp.rep K H) vs xs → Paired (Rp.rep K H) vs (xs.map em)
  | _, _, .nil => .nil
  | _, _, .cons r t => .cons ⟨Em.rep r, Nat.le_trans (EmN.dp _) hn⟩ (pairedE hn t)
/-- and back -/
theorem paired_pj [Rp α] [Em α] [Pj α] {K : PySem.W.Frag} {H : Hp} : ∀ {vs : List V} {xs : List Dv}, Paired (Rp.rep K H) vs xs → xs.all (isD α) = true → Paired (Rp.rep K H) vs (xs.map (pj (α := α)))
  | _, _, .nil, _ => .nil
  | _, _, .cons r t, h => by
    rw [List.all_cons, Bool.and_eq_true] at h
    exact .cons (rep_pj h.1 r) (paired_pj t h.2)
/-! what kind it is -/
def Dv.ty : Dv → String
  | .non => "NoneType"
  | .bl _ => "bool"
  | .int _ => "int"
  | .str _ => "str"
  | .emp => "dict"
  | .lst _ => "list"
  | .tup _ => "tuple"
def Dv.isS : Dv → Bool
  | .str _ => true
  | _ => false
def Dv.isI : Dv → Bool
  | .int _ => true
  | .bl _ => true
  | _ => false
def Dv.isB : Dv → Bool
  | .bl _ => true
  | _ => false
end
end Ly
namespace Ly
open PySem PySem.Spec PyProof.Rows L2 TL
open Em (em)
open Pj (pj)
/-! the refusals' classes: what the head says -/
def allXC : List XC := [.NoName, .Twice, .Stranger, .Ring, .TooMany, .NoBench, .NoText, .NoRow, .NoWood, .NoEnd, .NoJob, .NoWindow, .NoLength, .NoPaper, .NoTurns, .NoLine]
abbrev BE (K : PySem.W.Frag) : Addr := He.ga K "BenchError"
def okEx (K : PySem.W.Frag) (D : Addr) : Bool := decide (PySem.W.findIn K (.ref D) "__getattribute__" = some (some (.builtin "BaseException.__getattribute__"))) && (decide (PySem.W.findIn K (.ref D) "__getattr__" = some none) && (decide (PySem.W.subIn K (.ref D) (.type "BaseException") = some true) &&
  (PySem.W.hasDictIn K D && (decide (PySem.W.findIn K (.ref D) "__class__" = some (some (.builtin "object.__class__"))) && decide (PySem.W.mroIn K D (.type "object") = some true)))))
def okRs (K : PySem.W.Frag) (c : XC) : Bool := PySem.W.keepIn K (.ref (ECl K c)) && (decide (PySem.W.subIn K (.ref (ECl K c)) (.type "BaseException") = some true) && (decide (PySem.W.typeIn K (.ref (ECl K c)) = some (.type "type")) && (match c.fld with
  | none => PySem.W.excIn K (ECl K c) He.veBase "ValueError.__new__"
  | some _ => true)))
def okE1 (K : PySem.W.Frag) (c : XC) : Bool := okEx K (ECl K c) && (okRs K c && (decide (PySem.W.kitOne K (.ref (ECl K c)) (.type "ValueError") = some true) && (decide (PySem.W.exmOne K (.ref (ECl K c)) (.ref (BE K)) = some true) && allXC.all fun d => decide (PySem.W.kitOne K (.ref (ECl K c)) (.ref (ECl K d)) = some (decide (c = d))) && decide (PySem.W.exmOne K (.ref (ECl K c)) (.ref (ECl K d)) = some (decide (c = d))))))
def chkE (K : PySem.W.Frag) : Bool := decide (PySem.W.specialIn K (.builtin "object.__class__") "__get__" = some (some (.builtin "getset_descriptor.__get__"))) && (decide (PySem.W.takesIn K (.builtin "object.__class__") = some true) && allXC.all (okE1 K))
structure ErC (K : PySem.W.Frag) (c : XC) : Prop where
  x : ExcC K (ECl K c)
  kp : PySem.W.keepIn K (.ref (ECl K c)) = true
  h1 : PySem.W.subIn K (.ref (ECl K c)) (.type "BaseException") = some true
  h2 : PySem.W.typeIn K (.ref (ECl K c)) = some (.type "type")
  q : c.fld = none → PySem.W.excIn K (ECl K c) He.veBase "ValueError.__new__" = true
  ve : PySem.W.kitOne K (.ref (ECl K c)) (.type "ValueError") = some true
  be : PySem.W.exmOne K (.ref (ECl K c)) (.ref (BE K)) = some true
  one : ∀ d, PySem.W.kitOne K (.ref (ECl K c)) (.ref (ECl K d)) = some (decide (c = d))
  em : ∀ d, PySem.W.exmOne K (.ref (ECl K c)) (.ref (ECl K d)) = some (decide (c = d))
/-- all that is leant on -/
structure ErF (K : PySem.W.Frag) (mg : Str → Option Value) : Prop where
  c : ∀ c, ErC K c
  g : ∀ c : XC, mg c.nm = some (.ref (ECl K c))
  gb : mg "BenchError" = some (.ref (BE K))
theorem ErF.k {K : PySem.W.Frag} {mg : Str → Option Value} (E : ErF K mg) (c : XC) (h : c.fld = none := by rfl) : ExK K mg c := ⟨(E.c c).q h, (E.c c).kp, (E.c c).h1, (E.c c).h2, E.g c⟩
/-- the hook with questions of one's own -/
def obC (chk : PySem.W.Frag → Bool) (n : Nat) (fa : List He.Fa) (fn : List He.DefD) (g : Addr → Option Obj) : Bool × He.AlD := (chk (He.frG g (He.asD g n)), He.obsDG n fa fn g)
def hookC (chk : PySem.W.Frag → Bool) (n : Nat) (fa : List He.Fa) (fn : List He.DefD) : PySem.W.Hook where
  α := Bool × He.AlD
  obs := fun s => obC chk n fa fn s.heap.get?
  val := fun _ => (true, He.valD fn)
  says := fun _ h => ∃ K : PySem.W.Frag, K.In h ∧ He.SaysD fa fn K ∧ chk K = true
  of := fun _ _ e => ⟨_, He.frG_in, congrArg Prod.snd e, congrArg Prod.fst e⟩
  keeps := fun _ _ _ ⟨K, hK, c⟩ k => ⟨K, PySem.W.Frag.In.keeps hK k, c⟩
/-! a caught exception, in hand -/
structure Ptr where
  a : Addr
  d : Option Addr
  x : ErV
instance rpPtr : Rp Ptr where
  rep _ H v p := v = .ref p.a ∧ XdOk H p.d p.x
  mono {K H H' v p} i h := by
    refine ⟨h.1, ?_⟩
    have q := h.2
    unfold XdOk at q ⊢
    split at q
    · exact q
    · obtain ⟨dx, v, e, h1, h2, h3⟩ := q
      exact ⟨dx, v, e, i _ _ h1, repV_mono i _ _ h2, h3⟩
/-- the context holds it -/
structure Held (X : Cx) (p : Ptr) : Prop where
  pin : ∃ oe vs, (p.a, oe) ∈ X.pn ∧ Zc (.ref (ECl X.K p.x.c)) p.d oe ∧ oe.data = .fields vs
/-- classes, written one behind another -/
structure CA (X : Cx) (args : List Expr) (cs : List XC) : Prop where
  run : ∀ (σ : L2.St) (H : Hp) (Q : List V → Hp → Prop), Q (cs.map fun c => V.ref (ECl X.K c)) H → wpA X args σ H Q
section
variable {X : Cx} {es es1 es2 as : List En} {a b e : Expr} {args : List Expr} {pos p p2 : Pos} {α γ : Type}
/-- isinstance of it, one class -/
def rHeld (K : PySem.W.Frag) (q : Ptr) : List V → Hp → VK → Prop := fun xs H Q => ∃ (c : V) (cv : Value) (k : Bool), xs = [.ref q.a, c] ∧ ClsV c cv ∧ PySem.W.kitOne K (.ref (ECl K q.x.c)) cv = some k ∧ Q (.bl k) H
/-- several classes: a tuple, just laid -/
def rHeldT (K : PySem.W.Frag) (q : Ptr) : List V → Hp → VK → Prop := fun xs H Q => ∃ (tp : Addr) (cs : List V) (us : List Value) (k : Bool), xs = [.ref q.a, .ref tp] ∧ H tp = some (.tup cs) ∧ Paired ClsV cs us ∧ PySem.W.kitAny K (.ref (ECl K q.x.c)) us = some k ∧ Q (.bl k) H
end
end Ly
namespace Ly
open PySem PySem.Spec PyProof.Rows L2 TL
open Em (em)
open Pj (pj)
/-! try -/
def tryE {γ : Type} (m : Except ErV γ) (h : ErV → γ) : γ := match m with
  | .ok y => y
  | .error x => h x
def xsO {γ : Type} (k : γ → Out) (es : List En) : Except ErV γ → Out
  | .ok y => k y
  | .error x => .xs es x
/-- an out that is no exception -/
def Out.cm : Out → Bool
  | .xc _ => false
  | .xu _ _ _ _ => false
  | .xs _ _ => false
  | _ => true
/-- the slot i is left empty -/
def Out.unAt (i : Nat) : Out → Bool
  | .nx es => unB es[i]? && alFree i es
  | .bk es => unB es[i]? && alFree i es
  | _ => true
theorem OutK.tr {X : Cx} {f : Fr} {D : Ends} {pn : List (Addr × Obj)} {xe : Value → Shared → Prop} {o : Out} (hc : o.cm = true) (h : OutK X f D o) : OutK (X.tr pn xe) f D o := by
  cases o with
  | xc x => cases hc
  | xu a r p x => cases hc
  | xs es x => cases hc
  | nx es => exact h
  | bk es => exact h
  | en => exact h
  | rt e => exact h
  | eu a r p => exact h
  | ru a r p e => exact h
section
variable {X : Cx} {es es1 : List En} {body suite : List Stmt} {b₀ : Stmt} {np pos pos' : Pos} {γ : Type} {k : γ → Out} {i : Nat} {n0 n : Str} {C : Addr}
end
section
variable {X : Cx} {es : List En} {st : Stmt} {β : Type} {esf : β → List En} {m : β}
end
/-! a def that may raise, where it does not -/
def okX {α : Type} (m : Except ErV α) : Bool := match m with
  | .ok _ => true
  | .error _ => false
def getX {α : Type} [Inhabited α] (m : Except ErV α) : α := match m with
  | .ok y => y
  | .error _ => default
/-- the value, wrapped -/
def exM {α β : Type} (w : α → β) : Except ErV α → Except ErV β
  | .ok y => .ok (w y)
  | .error x => .error x
/-- lists of any data, read -/
theorem LR.em {X : Cx} {es : List En} {e : Expr} {α : Type} [Rp α] {n : Nat} [EmN α n] {xs : List α} (h : LR X es e xs) (hn : n ≤ 8 := by decide) : LR X es e (xs.map em) := .mk fun f σ F H S Q q => h f σ F H S Q fun p vs F1 H1 t hl r z => q p vs F1 H1 t hl (pairedE hn r) (by rw [List.length_map]; exact z)
theorem LR.pj {X : Cx} {es : List En} {e : Expr} {α : Type} [Rp α] [Em α] [Pj α] {xs : List Dv} (hi : xs.all (isD α) = true) (h : LR X es e xs) : LR X es e (xs.map (pj (α := α))) := .mk fun f σ F H S Q q => h f σ F H S Q fun p vs F1 H1 t hl r z => q p vs F1 H1 t hl (paired_pj r hi) (by rw [List.length_map]; exact z)
end Ly
namespace Ly
open PySem PySem.Spec PyProof.Rows L2 TL
/-! comprehensions whose test or item has an effect on own slots -/
/-- the frame in which the new list stands fast -/
abbrev gD (f : Fr) (F : Hp) (D : Addr) (ws : List V) : Fr := ⟨fun a => f.io a ∧ a ≠ D, F, upd f.H D (.lst ws)⟩
structure SwD (K : PySem.W.Frag) (f : Fr) (es : List En) (σ : L2.St) (F H : Hp) (D : Addr) (ws : List V) : Prop where
  st : Stp f F H
  env : ∃ Ps, EnvP K f es σ F H Ps ∧ ∀ j, j < es.length → D ∉ Ps j
  hD : H D = some (.lst ws)
  fD : F D = none
  nD : f.H D = none
section
variable {K : PySem.W.Frag} {f : Fr} {es es' : List En} {σ σ' : L2.St} {F H F' H' : Hp} {D : Addr} {ws : List V}
theorem SwD.start (s : Sw K f es σ F H) (h : H D = none) : SwD K f es σ F (upd H D (.lst [])) D [] := by
  obtain ⟨Ps, q⟩ := s.env
  have t := St0.new (o := .lst []) s.sub h
  exact ⟨s.st.then0 t, ⟨Ps, q.step t, fun j hj z => (q.out hj D z).1 h⟩, upd_same, sub_none s.sub h, s.st.back h⟩
theorem SwD.to (s : SwD K f es σ F H D ws) : Sw K (gD f F D ws) es σ F H := by
  obtain ⟨Ps, q, hd⟩ := s.env
  refine ⟨⟨Inc.refl _, fun a o hn e => ?_, fun a e => ?_, s.st.e, fun a _ e => .inl e, fun a ks e => ?_⟩, Ps, q.len, q.ok, q.nd, q.dj, fun i p hi hp => ?_, fun i p α r x hi hp => ?_, q.al⟩
  · by_cases c : a = D
    · subst c
      have e : upd f.H a (.lst ws) a = some o := e
      rw [upd_same] at e
      rw [s.hD]; exact e
    · have e : upd f.H D (.lst ws) a = some o := e
      rw [upd_ne c] at e
      exact s.st.h a o (fun z => hn ⟨z, c⟩) e
  · by_cases c : a = D
    · rw [c, s.hD]; exact fun z => by cases z
    · have e : upd f.H D (.lst ws) a ≠ none := e
      rw [upd_ne c] at e
      exact s.st.t a e
  · by_cases c : a = D
    · subst c
      have e : upd f.H a (.lst ws) a = some (sk ks) := e
      rw [upd_same] at e
      cases e
    · have e : upd f.H D (.lst ws) a = some (sk ks) := e
      rw [upd_ne c] at e
      exact s.st.k a ks e
  · have c : p ≠ D := fun z => hd i hi (z ▸ hp)
    rcases q.fr i p hi hp with z | z
    · exact .inl (by show upd f.H D (.lst ws) p = none; rw [upd_ne c]; exact z)
    · exact .inr ⟨z, c⟩
  · have c : p ≠ D := fun z => hd i (get_lt hi) (z ▸ hp)
    show upd f.H D (.lst ws) p = none
    rw [upd_ne c]
    exact q.nw i p α r x hi hp
theorem SwD.fro (s : SwD K f es σ F H D ws) (t : Sw K (gD f F D ws) es' σ' F' H') : SwD K f es' σ' F' H' D ws := by
  obtain ⟨Ps, q⟩ := t.env
  have hD' : H' D = some (.lst ws) := t.st.h D _ (fun z => z.2 rfl) (show upd f.H D (.lst ws) D = _ from upd_same)
  have up : ∀ a, f.H a ≠ none → a ≠ D := fun a e z => e (by rw [z]; exact s.nD)
  have fD' : F' D = none := by
    rcases t.st.n D (by show upd f.H D (.lst ws) D ≠ none; rw [upd_same]; exact fun z => by cases z) s.fD with z | ⟨ks, z⟩
    · exact z
    · rw [hD'] at z; cases z
  refine ⟨⟨s.st.f.trans t.st.f, fun a o hn e => ?_, fun a e => ?_, t.st.e, fun a e1 e2 => ?_, fun a ks e => ?_⟩, ⟨Ps, ⟨q.len, q.ok, q.nd, q.dj, fun i p hi hp => ?_, fun i p α r x hi hp => ?_, q.al⟩, fun j hj z => ?_⟩, hD', fD', s.nD⟩
  · exact t.st.h a o (fun z => hn z.1) (by show upd f.H D (.lst ws) a = _; rw [upd_ne (up a (nn e))]; exact e)
  · exact t.st.t a (by show upd f.H D (.lst ws) a ≠ _; rw [upd_ne (up a e)]; exact e)
  · rcases s.st.n a e1 e2 with z | ⟨ks, z⟩
    · exact t.st.n a (by show upd f.H D (.lst ws) a ≠ _; rw [upd_ne (up a e1)]; exact e1) z
    · have ta : upd f.H D (.lst ws) a ≠ none := by rw [upd_ne (up a e1)]; exact e1
      cases q : F a with
      | none => exact t.st.n a ta q
      | some u =>
        have e : u = sk ks := by
          rcases s.st.e a u q with w | ⟨_, ob, w⟩ | ⟨_, _, w⟩
          · rw [z] at w; exact (Option.some.inj w).symm
          · rw [z] at w; cases w
          · rw [z] at w; cases w
        subst e
        exact .inr ⟨ks, (t.st.e a _ (t.st.f a _ q)).nd fun d => d⟩
  · exact t.st.k a ks (by show upd f.H D (.lst ws) a = _; rw [upd_ne (up a (nn e))]; exact e)
  · rcases q.fr i p hi hp with z | z
    · have z : upd f.H D (.lst ws) p = none := z
      by_cases c : p = D
      · rw [c, upd_same] at z; cases z
      · rw [upd_ne c] at z; exact .inl z
    · exact .inr z.1
  · have z : upd f.H D (.lst ws) p = none := q.nw i p α r x hi hp
    by_cases c : p = D
    · rw [c, upd_same] at z; cases z
    · rw [upd_ne c] at z; exact z
  · rcases q.fr j D hj z with w | w
    · have w : upd f.H D (.lst ws) D = none := w
      rw [upd_same] at w; cases w
    · exact w.2 rfl
theorem SwD.step (s : SwD K f es σ F H D ws) (t : St0 F H F' H') : SwD K f es σ F' H' D ws := s.fro (s.to.step t)
theorem SwD.app (s : SwD K f es σ F H D ws) (y : V) : SwD K f es σ F (upd H D (.lst (ws ++ [y]))) D (ws ++ [y]) := by
  obtain ⟨Ps, q, hd⟩ := s.env
  have up : ∀ a, f.H a ≠ none → a ≠ D := fun a e z => e (by rw [z]; exact s.nD)
  have ne : ∀ {i : Nat} {p : Addr}, i < es.length → p ∈ Ps i → upd H D (.lst (ws ++ [y])) p = H p := fun {i p} hi hp => upd_ne fun z => hd i hi (z ▸ hp)
  refine ⟨⟨s.st.f, fun a o hn e => ?_, fun a e => ?_, fun a o e => ?_, fun a e1 e2 => ?_, fun a ks e => ?_⟩, ⟨Ps, ⟨q.len, fun i e hi => ?_, q.nd, q.dj, q.fr, q.nw, fun i j α r x hi => ?_⟩, hd⟩, upd_same, s.fD, s.nD⟩
  · rw [upd_ne (up a (nn e))]; exact s.st.h a o hn e
  · rw [upd_ne (up a e)]; exact s.st.t a e
  · have c : a ≠ D := fun z => by rw [z, s.fD] at e; cases e
    rcases s.st.e a o e with r | ⟨d, ob, r⟩ | ⟨vs, e3, r⟩
    · exact .inl (by rw [upd_ne c]; exact r)
    · exact .inr (.inl ⟨d, ob, by rw [upd_ne c]; exact r⟩)
    · exact .inr (.inr ⟨vs, e3, by rw [upd_ne c]; exact r⟩)
  · rw [upd_ne (up a e1)]; exact s.st.n a e1 e2
  · rw [upd_ne (up a (nn e))]; exact s.st.k a ks e
  · have ok := q.ok i e hi
    exact ok.but (Inc.refl _) (fun p hp => ne (get_lt hi) hp) fun p hp => (ok.out p hp).2
  · obtain ⟨hj, v, Q, e1, hQ, o⟩ := q.al i j α r x hi
    exact ⟨hj, v, Q, e1, hQ, Ow.mono (Inc.refl _) (fun p hp => ne hj (hQ p hp)) (fun p hp => (q.out hj p (hQ p hp)).2) o⟩
theorem SwD.wipe (vs : List Nat) (s : SwD K f es σ F H D ws) (h : alFrees vs es = true) : SwD K f (wpd vs es) (L2.wipe σ vs) F H D ws := s.fro (s.to.wipe vs h)
end
/-- tests with an effect -/
structure IfX (X : Cx) (es : List En) (ifs : List Expr) (b : Bool) (es' : List En) : Prop where
  run : ∀ (f : Fr) (σ : L2.St) (F H : Hp), Sw X.K f es σ F H → ∀ Q : Bool → Hp → Prop, (∀ F' H', Sw X.K f es' σ F' H' → Inc F F' → Q b H') → wpPT X ifs σ H Q
instance {X : Cx} {es es' : List En} {ifs : List Expr} {b : Bool} : CoeFun (IfX X es ifs b es') (fun _ => ∀ (f : Fr) (σ : L2.St) (F H : Hp), Sw X.K f es σ F H → ∀ Q : Bool → Hp → Prop, (∀ F' H', Sw X.K f es' σ F' H' → Inc F F' → Q b H') → wpPT X ifs σ H Q) := ⟨IfX.run⟩
/-- one turn: what is put into the list, and the state -/
def lcS {α β γ : Type} (p : γ → α → Bool) (yp : γ → α → γ) (g : γ → α → β) (ye : γ → α → γ) (st : List β × γ) (x : α) : List β × γ := bif p st.2 x then (st.1 ++ [g st.2 x], ye st.2 x) else (st.1, yp st.2 x)
section
variable {X : Cx} {es es1 es2 : List En} {a b c e elt tg iter : Expr} {ifs : List Expr} {args : List Expr} {pos : Pos} {α β γ ρ : Type} {i : Nat} {scope : Scope}
/-- a reading that gives a new object, with an effect -/
structure NYd (K : PySem.W.Frag) (es : List En) (t : TE) [Ow α] (x : α) (es' : List En) : Prop where
  run : ∀ (f : Fr) (σ : L2.St) (F H : Hp), Sw K f es σ F H → ∀ Q : VK, (∀ v F' H' P Ps, Stp f F' H' → EnvP K f es' σ F' H' Ps → Inc F F' → Ow.own K F' H' v x P → P.Nodup → (∀ p ∈ P, f.H p = none) → (∀ j, j < es'.length → ∀ p ∈ P, p ∉ Ps j) → Q v H') → t σ H Q
/-! while, its test with an effect -/
end
end Ly
namespace PySem.SeqAt
open AutoSeq1 (wpAny_loadPart')
open MeetsSeq MeetsSeq2 MeetsSeq3 SeqRoads2 PyProof
/-! a dict and a text -/
section
variable {A : Around} {s : Shared}
end
end PySem.SeqAt
namespace Ly
open PySem PySem.Spec PyProof.Rows L2 TL
/-! any data and a text, compared -/
def eqDS (d : Dv) (k : Str) : Bool := match d with
  | .str w => decide (w = k)
  | _ => false
theorem SqT.of {K : PySem.W.Frag} {H : Hp} {a : Addr} {vs : List V} (h : H a = some (.tup vs)) : SqT K H a vs := .inl (.inl h)
/-- xs.count(k) -/
def cntD (xs : List Dv) (k : Str) : Int := ((xs.filter fun d => eqDS d k).length : Int)
def rCntD (X : Cx) : V → List V → Hp → VK → Prop := fun x xs H Q => ∃ (p : Addr) (ns : List Dv) (vs : List V) (F : Hp) (k : Str), x = .ref p ∧ xs = [.str k] ∧ SqL X.K H p vs ∧ Sub F H ∧ Paired (Rp.rep X.K F) vs ns ∧ Q (.int (cntD ns k)) H
/-! the same data, twice -/
section
variable {X : Cx} {es : List En} {a b e : Expr} {pos apos : Pos}
/-- d == k -/
def rEqDS (X : Cx) : R2 := fun x y H Q => ∃ (d : Dv) (k : Str) (F : Hp), y = .str k ∧ Sub F H ∧ repV F d x ∧ Q (.bl (eqDS d k)) H
end
end Ly
namespace Ly
open PySem PySem.Spec PyProof.Rows L2 TL LamX
/-! a def that holds the tables, and may raise -/
def RsU (K : PySem.W.Frag) (f : Fr) (Q : VK) (E : XK) (a : Addr) {α : Type} (r : Ow α) (p : α) : Rs → Prop
  | .rt e => RetU K f Q a r p e
  | .xc x => ∀ F H d P, Stp f F H → XdOk F d x → Ow.own K F H (.ref a) p P → P.Nodup → (∀ q ∈ P, f.free q) → E (.ref (ECl K x.c)) d H
def spGE (K : PySem.W.Frag) (ts : List (Addr × Str)) (G : List En → Rs → Prop) : Sp := fun vs H Q E => ∃ (as : List En) (r : Rs) (F : Hp) (P : List Addr) (a : Addr), G as r ∧ Sub F H ∧ Ow.own K F H (.ref a) (Tbl.mk ts) P ∧ P.Nodup ∧ ArgsOk K F vs as ∧ RsU K ⟨(· ∈ P), F, H⟩ Q E a owTbl (Tbl.mk ts) r
def OutXU (a : Addr) {α : Type} (r : Ow α) (p : α) : Rs → Out → Prop
  | .rt e, out => OutU a r p e out
  | .xc x, out => out = .xu a r p x
def xuO {γ : Type} (pa : Addr) (ts : List (Addr × Str)) (k : γ → Out) : Except ErV γ → Out
  | .ok y => k y
  | .error x => .xu pa owTbl (Tbl.mk ts) x
theorem xuO_rets {γ : Type} {pa : Addr} {ts : List (Addr × Str)} {k : γ → Out} {m : Except ErV γ} (h : ∀ y, (k y).rets = true) : (xuO pa ts k m).rets = true := by
  cases m with
  | ok y => exact h y
  | error x => rfl
theorem xuO_ends {γ : Type} {pa : Addr} {ts : List (Addr × Str)} {k : γ → Out} {m : Except ErV γ} (h : ∀ y, (k y).ends = true) : (xuO pa ts k m).ends = true := by
  cases m with
  | ok y => exact h y
  | error x => rfl
section
variable {P : Program} {w : World} {K : PySem.W.Frag} {mg : Str → Option Value} {base : Heap} {k : Nat} {f : Addr} {fd : FuncData} {x qual : Str} {params : Arguments} {body : List Stmt} {scope : Scope} {N ps : List Str} {ts : List (Addr × Str)}
theorem fnCalmG {G : List En → Rs → Prop} (Fn : FnOk P w K mg base (L2.CX P w) k f fd ps (spGE K ts G)) : FnOk P w K mg base CX0 k f fd ps (spG K ts fun as r => G as (.rt r)) := by
  refine ⟨fun vs H Q E h => ?_, fun A outer s H args us vs Q E hr e0 hb r h => ?_⟩
  · obtain ⟨as, r, F, PP, a, hG, sb, hw, hn, ha, hq⟩ := h
    exact Fn.len vs H Q E ⟨as, .rt r, F, PP, a, hG, sb, hw, hn, ha, hq⟩
  · obtain ⟨as, r', F, PP, a, hG, sb, hw, hn, ha, hq⟩ := h
    refine codeAny_mono (Fn.run A outer s H args us vs Q (fun _ _ _ => False) hr e0 hb r ⟨as, .rt r', F, PP, a, hG, sb, hw, hn, ha, hq⟩) fun z s' hz => ?_
    cases z with
    | error e =>
      obtain ⟨_, _, _, _, _, _, _, _, _, _, _, _, h⟩ := (show L2.CX P w outer H s (fun _ _ _ => False) e s' from hz)
      exact h.elim
    | ok fl => cases fl <;> exact hz
end
def DfX.calmG {P : Program} {w : World} {K : PySem.W.Frag} {mg : Str → Option Value} {base : Heap} {k : Nat} {n : Str} {ps : List Str} {ts : List (Addr × Str)} {G : List En → Rs → Prop} (D : DfX P w K mg base k n ps (spGE K ts G)) : Df P w K mg base k n ps (spG K ts fun as r => G as (.rt r)) := ⟨D.f, D.fd, fnCalmG D.ok, D.mg, D.kp, D.bd⟩
section
variable {X : Cx} {es es1 es2 as : List En} {a e : Expr} {args : List Expr} {pos : Pos} {α : Type} {j ig : Nat} {ps : List Str} {n : Str} {p : Pos} {G : List En → Rs → Prop} {ts : List (Addr × Str)} {b : Addr} {x : ErV}
end
/-! d[k].append(y), the lists own -/
section
variable {X : Cx} {es es2 : List En} {b e : Expr} {st : Stmt} {κ γ : Type} [Sc κ] [Ky κ] [DecidableEq κ] [Rp γ] {i : Nat}
end
open Em (em)
open Pj (pj)
/-- pairs, projected -/
instance pjPair {α β : Type} [Rp α] [Rp β] [Em α] [Em β] [Pj α] [Pj β] : Pj (α × β) := ⟨fun d => match d with
  | .tup [a, b] => (pj a, pj b)
  | _ => (pj .non, pj .non), fun d => match d with
  | .tup [a, b] => isD α a && isD β b
  | _ => false, fun d h => by
  cases d with
  | tup xs =>
    match xs, h with
    | [a, b], h =>
      have h' : (isD α a && isD β b) = true := h
      rw [Bool.and_eq_true] at h'
      show Dv.tup [em (pj a : α), em (pj b : β)] = _
      rw [Pj.em_pj a h'.1, Pj.em_pj b h'.2]
  | _ => cases h⟩
/-! laws in which not all refusals stand -/
def okE1S (K : PySem.W.Frag) (S : List XC) (c : XC) : Bool := okEx K (ECl K c) && (okRs K c && (decide (PySem.W.kitOne K (.ref (ECl K c)) (.type "ValueError") = some true) && (decide (PySem.W.exmOne K (.ref (ECl K c)) (.ref (BE K)) = some true) && S.all fun d => decide (PySem.W.kitOne K (.ref (ECl K c)) (.ref (ECl K d)) = some (decide (c = d))) && decide (PySem.W.exmOne K (.ref (ECl K c)) (.ref (ECl K d)) = some (decide (c = d))))))
def chkES (S : List XC) (K : PySem.W.Frag) : Bool := decide (PySem.W.specialIn K (.builtin "object.__class__") "__get__" = some (some (.builtin "getset_descriptor.__get__"))) && (decide (PySem.W.takesIn K (.builtin "object.__class__") = some true) && S.all (okE1S K S))
structure ErCS (K : PySem.W.Frag) (S : List XC) (c : XC) : Prop where
  x : ExcC K (ECl K c)
  kp : PySem.W.keepIn K (.ref (ECl K c)) = true
  h1 : PySem.W.subIn K (.ref (ECl K c)) (.type "BaseException") = some true
  h2 : PySem.W.typeIn K (.ref (ECl K c)) = some (.type "type")
  q : c.fld = none → PySem.W.excIn K (ECl K c) He.veBase "ValueError.__new__" = true
  ve : PySem.W.kitOne K (.ref (ECl K c)) (.type "ValueError") = some true
  be : PySem.W.exmOne K (.ref (ECl K c)) (.ref (BE K)) = some true
  one : ∀ d ∈ S, PySem.W.kitOne K (.ref (ECl K c)) (.ref (ECl K d)) = some (decide (c = d))
  em : ∀ d ∈ S, PySem.W.exmOne K (.ref (ECl K c)) (.ref (ECl K d)) = some (decide (c = d))
structure ErS (K : PySem.W.Frag) (mg : Str → Option Value) (S : List XC) : Prop where
  c : ∀ c ∈ S, ErCS K S c
  g : ∀ c ∈ S, mg c.nm = some (.ref (ECl K c))
  gb : mg "BenchError" = some (.ref (BE K))
theorem ErS.k {K : PySem.W.Frag} {mg : Str → Option Value} {S : List XC} (E : ErS K mg S) (c : XC) (hm : c ∈ S := by decide) (h : c.fld = none := by rfl) : ExK K mg c := ⟨(E.c c hm).q h, (E.c c hm).kp, (E.c c hm).h1, (E.c c hm).h2, E.g c hm⟩
section
variable {X : Cx} {es es1 es2 as : List En} {a b e : Expr} {args : List Expr} {pos p p2 : Pos} {S : List XC}
end
section
variable {X : Cx} {es es1 : List En} {body suite : List Stmt} {b₀ : Stmt} {np pos pos' : Pos} {γ : Type} {k : γ → Out} {i : Nat} {n0 n : Str} {C : Addr} {S : List XC}
end
end Ly
namespace Ly
open PySem PySem.Spec PyProof.Rows L2 TL LamX
open Em (em)
open Pj (pj)
/-! an item of an own list, read only -/
section
variable {α : Type} {X : Cx} {es : List En} {a b : Expr} {pos : Pos} {i : Nat}
end
/-! an own paper: a pair of a word and what it tells; with the word 'blocks' the list of rows is one's own -/
abbrev LLS := List (List Str)
structure Pq where
  x : Str × Dv
abbrev pqB (rows : LLS) : Pq := ⟨("blocks", em rows)⟩
def pqRows (y : Pq) : LLS := pj y.x.2
instance owPq : Ow Pq where
  rp := ⟨fun K H v y => Rp.rep K H v y.x, fun i h => Rp.mono i h⟩
  own K F H v y P := (y.x.1 ≠ "blocks" ∧ P = [] ∧ Rp.rep K F v y.x) ∨ ∃ (p l : Addr) (vs : List V) (rows : LLS), y = pqB rows ∧ v = .ref p ∧ P = [p, l] ∧ H p = some (.tup [.str "blocks", .ref l]) ∧ F p = none ∧ H l = some (.lst vs) ∧ F l = none ∧ rows.length ≤ big ∧ Paired (Rp.rep K F) vs rows
  mono {K F F' H H' v y P} i h hf r := by
    rcases r with ⟨a, b, c⟩ | ⟨p, l, vs, rows, ey, ev, eP, h1, f1, h2, f2, hz, rr⟩
    · exact .inl ⟨a, b, Rp.mono i c⟩
    · subst eP
      exact .inr ⟨p, l, vs, rows, ey, ev, rfl, (h p (by simp)).trans h1, hf p (by simp), (h l (by simp)).trans h2, hf l (by simp), hz, pairedM i rr⟩
  out {K F H v y P} r q hq := by
    rcases r with ⟨a, b, c⟩ | ⟨p, l, vs, rows, ey, ev, eP, h1, f1, h2, f2, hz, rr⟩
    · subst b; cases hq
    · subst eP
      have e : q = p ∨ q = l := by simpa using hq
      rcases e with e | e
      · rw [e]; exact ⟨nn h1, f1⟩
      · rw [e]; exact ⟨nn h2, f2⟩
  fzn {K F H v y P} r := by
    rcases r with ⟨a, b, c⟩ | ⟨p, l, vs, rows, ey, ev, eP, h1, f1, h2, f2, hz, rr⟩
    · subst b
      exact Rp.mono (α := Str × Dv) (fzP_inc fun p hp => by cases hp) c
    · subst eP ey ev
      have inc : Inc F (fzP F H [p, l]) := fzP_inc fun q hq => by
        have e : q = p ∨ q = l := by simpa using hq
        rcases e with e | e
        · rw [e]; exact f1
        · rw [e]; exact f2
      have rl : Rp.rep K (fzP F H [p, l]) (.ref l) rows := ⟨l, _, rfl, (fzP_in (by simp)).trans h2, hz, vs, rfl, pairedM inc rr⟩
      exact ⟨p, _, rfl, (fzP_in (by simp)).trans h1, .str "blocks", .ref l, rfl, ⟨rfl, show sOk ("blocks" : Str) from by decide⟩, ⟨Em.rep rl, show (em rows).dep ≤ 8 from Nat.le_trans (EmN.dp rows) (by decide)⟩⟩
  nt {K F H v y P} r q hq ks := by
    rcases r with ⟨a, b, c⟩ | ⟨p, l, vs, rows, ey, ev, eP, h1, f1, h2, f2, hz, rr⟩
    · subst b; cases hq
    · subst eP
      have e : q = p ∨ q = l := by simpa using hq
      rcases e with e | e
      · rw [e, h1]
        intro z
        injection z with z
        injection z with z
        match ks, z with
        | [_, kb], z =>
          have zb : V.ref l = kV kb := (List.cons.inj (List.cons.inj z).2).1
          cases kb <;> cases zb
        | [], z => exact absurd (congrArg List.length z) (by simp)
        | [_], z => exact absurd (congrArg List.length z) (by simp)
        | _ :: _ :: _ :: _, z => exact absurd (congrArg List.length z) (by simp)
      · rw [e, h2]
        intro z
        cases z
section
variable {X : Cx} {es es1 es2 : List En} {a b e : Expr} {pos p2 : Pos} {i : Nat} {st : Stmt}
end
instance : Inhabited Pq := ⟨⟨default⟩⟩
section
variable {X : Cx} {es : List En} {a b e : Expr} {pos : Pos}
end
/-! a dict written out: two texts, each with a text -/
section
variable {X : Cx} {es : List En} {a1 a2 e1 e2 : Expr} {pos : Pos}
end
end Ly
namespace Ly
open PySem PySem.Spec PyProof.Rows L2 TL
open Em (em)
open Pj (pj)
/-! refusals that bear a field -/
/-- what is asked of such a class -/
def okOx (K : PySem.W.Frag) (C : Addr) : Bool :=
  match K.lookup C with
  | some ⟨.type "type", _, .cls cd, sl⟩ =>
    (match cd.mro, sl.toList with
      | .ref B :: bm, [_, _, _, _, some (.builtin n), _] => decide (B = C) && (decide (n = "ValueError.__new__") && (!cd.hasDel && (cd.hasDict && HandSPX.refsVE bm)))
      | _, _ => false)
  | _ => false
theorem okOx_ok {K : PySem.W.Frag} {C : Addr} (h : okOx K C = true) : ∃ nm q N bs bm sn sub ab col dd k0 k1 k2 k3 k5, K.lookup C = some (excClassObj nm q C N bs bm true sn sub ab col dd k0 k1 k2 k3 k5 "ValueError.__new__") ∧ HandSPX.refsVE bm = true := by
  unfold okOx at h
  split at h
  case h_2 => cases h
  case h_1 dd cd sl e1 =>
    split at h
    case h_2 => cases h
    case h_1 B bm k0 k1 k2 k3 n k5 e2 e3 =>
      rw [Bool.and_eq_true, Bool.and_eq_true, Bool.and_eq_true, Bool.and_eq_true, decide_eq_true_iff, decide_eq_true_iff] at h
      obtain ⟨h1, h2, h3, h4, h5⟩ := h
      obtain ⟨nm, bs, mro, N, q, hd, sn, sub, ab, col, dl⟩ := cd
      dsimp only at e2 h3 h4
      have h3' : dl = false := by simpa using h3
      subst h1 h2 h3' h4 e2
      have e4 : sl = #[k0, k1, k2, k3, some (.builtin "ValueError.__new__"), k5] := by
        rw [← Array.toArray_toList (xs := sl), e3]
      subst e4
      exact ⟨nm, q, N, bs, bm, sn, sub, ab, col, dd, k0, k1, k2, k3, k5, e1, h5⟩
/-- the class c, the field fl -/
def okXI1 (K : PySem.W.Frag) (c : XC) : Bool := match c.fld with
  | none => true
  | some fl => okOx K (ECl K c) && (decide (PySem.W.findIn K (.ref (ECl K c)) "__setattr__" = some (some (.builtin "object.__setattr__"))) && decide (PySem.W.findIn K (.ref (ECl K c)) fl = some none))
def okXI (S : List XC) (K : PySem.W.Frag) : Bool := S.all (okXI1 K)
/-- what its __init__ does -/
def spXI (K : PySem.W.Frag) (C : Addr) (fl : Str) : Sp := fun vs H Q _ => ∃ (a : Addr) (v : V), vs = [.ref a, v] ∧ OexC K C ∧ PySem.W.findIn K (.ref C) fl = some none ∧ H a = some (exo a C none) ∧ ∀ dx, H dx = none → dx ≠ a → Q .non (upd (upd H dx (exd dx [(fl, v)])) a (exo a C (some dx)))
structure DfI (P : Program) (w : World) (K : PySem.W.Frag) (mg : Str → Option Value) (base : Heap) (c : XC) (fl : Str) where
  f : Addr
  fd : FuncData
  T : OexC K (ECl K c)
  no : PySem.W.findIn K (.ref (ECl K c)) fl = some none
  ini : PySem.W.findIn K (.ref (ECl K c)) "__init__" = some (some (.ref f))
  ty : PySem.W.typeIn K (.ref f) = some (.type "function")
  ok : FnOk P w K mg base CX0 1 f fd ["self", fl] (spXI K (ECl K c) fl)
  mg : mg c.nm = some (.ref (ECl K c))
  bd : Binds K fd ["self", fl] []
  fl : c.fld = some fl
section
variable {P : Program} {w : World} {K : PySem.W.Frag} {mg : Str → Option Value} {base : Heap} {x qual : Str} {params : Arguments} {body : List Stmt} {scope : Scope} {f : Addr} {fd : FuncData} {c : XC} {fl : Str}
theorem DfI.mk' {p1 p2 p3 p4 : Pos} (F : FunD K x qual params [.Assign [.Attribute (.Name "self" p1) fl p2] (.Name fl p3) p4] scope [] [] f fd) (S : FnScope ["self", fl] ["self", fl] scope) (hf : c.fld = some fl) (E : okXI1 K c = true) (h1 : PySem.W.subIn K (.ref (ECl K c)) (.type "BaseException") = some true)
    (h2 : PySem.W.typeIn K (.ref (ECl K c)) = some (.type "type")) (hk : PySem.W.keepIn K (.ref (ECl K c)) = true) (hm : Meth K (ECl K c) "__init__" f) (hg : mg c.nm = some (.ref (ECl K c)))
    (k1 : scope.names.lookup ("self" : Str) = some NameKind.local) (k2 : scope.names.lookup fl = some NameKind.local) (hdb : (fl == ("__debug__" : Str)) = false) (hcd : (fl == ("__classdict__" : Str)) = false)
    (h : ∀ (dV kV doc pm : Value) (an : Option Addr) (cdv ct : Value) (us : List Value), dV = .none → us.length = 2 → bindArgs (PySem.W.fnOf x qual params [.Assign [.Attribute (.Name "self" p1) fl p2] (.Name fl p3) p4] scope dV kV doc pm an cdv ct) ⟨us, []⟩ = pure ((["self", fl] : List Str).zip us)) : Nonempty (DfI P w K mg base c fl) := by
  unfold okXI1 at E
  rw [hf] at E
  have E' : (okOx K (ECl K c) && (decide (PySem.W.findIn K (.ref (ECl K c)) "__setattr__" = some (some (.builtin "object.__setattr__"))) && decide (PySem.W.findIn K (.ref (ECl K c)) fl = some none))) = true := E
  rw [Bool.and_eq_true, Bool.and_eq_true, decide_eq_true_iff, decide_eq_true_iff] at E'
  obtain ⟨e1, e2, e3⟩ := E'
  have T : OexC K (ECl K c) := ⟨okOx_ok e1, e2, h1, h2, hk⟩
  have ok : FnOk P w K mg base CX0 1 f fd ["self", fl] (spXI K (ECl K c) fl) := by
    refine FunD.ok F S (fun vs H Q E h => ?_) fun cdv A outer s H vs Q E hr h => ?_
    · obtain ⟨a, v, rfl, _⟩ := h; rfl
    · obtain ⟨a, v, rfl, _, _, h, q⟩ := h
      have v0 : PE (cxOf CX0 P w K mg base ["self", fl] qual scope f cdv A outer s H E) (.Name "self" p1) (tVar 0) := pv 0 rfl (.inl k1)
      have v1 : PE (cxOf CX0 P w K mg base ["self", fl] qual scope f cdv A outer s H E) (.Name fl p3) (tVar 1) := pv 1 rfl (.inl k2) hdb hcd
      refine ⟨_, pss_one (ps_ost v0 v1), ?_⟩
      exact ⟨v, rfl, .ref a, rfl, a, ECl K c, rfl, T, e3, .inl ⟨h, q⟩⟩
  obtain ⟨oc, od, dV, kV, doc, pm, an, cdv, ct, osl, rfl, lk, hcd, hd, _⟩ := F.ex
  have ed : dV = .none := by
    rcases hd with ⟨_, e⟩ | ⟨e, _⟩
    · exact e
    · exact absurd rfl e
  exact ⟨⟨f, _, T, e3, hm.at_, beq_iff_eq.mp hm.fn, ok, hg, .all (h dV kV doc pm an cdv ct · ed), hf⟩⟩
end
section
variable {X : Cx} {es es1 es2 as : List En} {a b e : Expr} {args : List Expr} {st : Stmt} {rest : List Stmt} {pos p p2 : Pos} {α : Type} {o : ErV → Out} {c : XC} {fl : Str}
end
/-! methods that may raise -/
structure DmX (P : Program) (w : World) (K : PySem.W.Frag) (mg : Str → Option Value) (base : Heap) (k : Nat) (m : Str) (ps : List Str) (sp : Sp) where
  f : Addr
  fd : FuncData
  ok : FnOk P w K mg base (L2.CX P w) k f fd ps sp
  mt : Meth K (CJ K) m f
  bd : Binds K fd ps []
theorem DmX.mk' {P : Program} {w : World} {K : PySem.W.Frag} {mg : Str → Option Value} {base : Heap} {k : Nat} {m : Str} {ps : List Str} {sp : Sp} {x qual : Str} {params : Arguments} {body : List Stmt} {scope : Scope} {f : Addr} {fd : FuncData}
    (F : FunD K x qual params body scope [] [] f fd) (ok : FnOk P w K mg base (L2.CX P w) k f fd ps sp) (hm : Meth K (CJ K) m f)
    (h : ∀ (dV kV doc pm : Value) (an : Option Addr) (cdv ct : Value) (us : List Value), dV = .none → us.length = ps.length → bindArgs (PySem.W.fnOf x qual params body scope dV kV doc pm an cdv ct) ⟨us, []⟩ = pure (ps.zip us)) : Nonempty (DmX P w K mg base k m ps sp) := by
  obtain ⟨oc, od, dV, kV, doc, pm, an, cdv, ct, osl, rfl, lk, hcd, hd, _⟩ := F.ex
  have ed : dV = .none := by
    rcases hd with ⟨_, e⟩ | ⟨e, _⟩
    · exact e
    · exact absurd rfl e
  exact ⟨⟨f, _, ok, hm, .all (h dV kV doc pm an cdv ct · ed)⟩⟩
def DmX.calm {P : Program} {w : World} {K : PySem.W.Frag} {mg : Str → Option Value} {base : Heap} {k : Nat} {n : Str} {ps : List Str} {G : List En → Rs → Prop} (D : DmX P w K mg base k n ps (spE K G)) : Dm P w K mg base k n ps (spP K fun as r => G as (.rt r)) := ⟨D.f, D.fd, fnCalm D.ok, D.mt, D.bd⟩
section
variable {X : Cx} {CXX : CXT} {k : Nat} {f C : Addr} {fd : FuncData} {ps : List Str} {sp : Sp} {E : L2.St → XK} {m : Str} {pos apos : Pos} {e o : Expr} {args : List Expr} {ta : TE} {t : TA}
end
section
variable {X : Cx} {es es1 as : List En} {e o : Expr} {args : List Expr} {pos apos : Pos} {k : Nat} {m : Str} {ps : List Str} {G : List En → Rs → Prop} {jv : JobsV} {pl : Sem Bool} {α : Type} {x : ErV}
end
/-! try: .., except C as n: .. -/
section
variable {X : Cx} {es es1 : List En} {body suite : List Stmt} {b₀ : Stmt} {np pos pos' : Pos} {γ : Type} {k : γ → Out} {i : Nat} {n0 n : Str} {C : Addr}
end
/-! the same data compared -/
section
variable {X : Cx} {es : List En} {a b : Expr} {pos : Pos}
def rEqDD (X : Cx) : R2 := fun x y H Q => ∃ (d : Dv) (F : Hp), Sub F H ∧ repV F d x ∧ repV F d y ∧ d.dep ≤ 8 ∧ Q (.bl true) H
end
/-! and, whose second part may change the slots -/
section
variable {X : Cx} {es es2 : List En} {a b : Expr} {pos : Pos}
end
end Ly
namespace Ly
open PySem PySem.Spec PyProof.Rows L2 TL
/-! something lent as the last argument -/
def spUL (K : PySem.W.Frag) {π : Type} [o : Ow π] (G : π → List En → π → En → Prop) : Sp := fun vs H Q _ => ∃ (a : Addr) (ws : List V) (p : π) (as : List En) (p' : π) (r : En) (F : Hp) (P : List Addr), vs = ws ++ [.ref a] ∧ G p as p' r ∧ Sub F H ∧ Ow.own K F H (.ref a) p P ∧ P.Nodup ∧ ArgsOk K F ws as ∧ RetU K ⟨(· ∈ P), F, H⟩ Q a o p' r
/-- arguments, then what is lent: the slot i -/
structure XAL (X : Cx) (es : List En) (args : List Expr) (as es' : List En) (i : Nat) : Prop where
  run : ∀ (f : Fr) (σ : L2.St) (F H : Hp), Sw X.K f es σ F H → ∀ b, sl σ i = some (.ref b) → ∀ Q : List V → Hp → Prop, (∀ vs F' H', Sw X.K f es' σ F' H' → Inc F F' → ArgsOk X.K F' vs as → Q (vs ++ [.ref b]) H') → wpA X args σ H Q
section
variable {X : Cx} {es es1 es2 as : List En} {a e : Expr} {args : List Expr} {pos : Pos} {α : Type} {i : Nat}
theorem XA.al (h : AJ X es args as) : XA X es args as es := h.x
variable {π : Type} [r : Ow π] [OwR π] {p0 p1 p2 : π} {GU : π → List En → π → En → Prop} {e0 e1 e2 : En} {j : Nat} {n : Str} {ps : List Str} {p : Pos}
end
section
variable {P : Program} {w : World} {K : PySem.W.Frag} {mg : Str → Option Value} {base : Heap} {x qual : Str} {params : Arguments} {body : List Stmt} {scope : Scope} {f : Addr} {fd : FuncData} {N ps : List Str} {k : Nat}
end
/-! met's answer -/
inductive Met where
  | plan (l : List (List Str))
  | late (t : Int) (ns : List Str)
  deriving DecidableEq, Inhabited
def Met.kind : Met → Str
  | .plan _ => "plan"
  | .late _ _ => "late"
instance clMet : Cl Met where
  cell K H o x := match x with
    | .plan l => Cl.cell K H o (("plan" : Str), l)
    | .late a ns => Cl.cell K H o (Tp3.mk ("late" : Str) a ns)
  mono {K H H' o x} i h := by
    cases x with
    | plan l => exact Cl.mono i h
    | late a ns => exact Cl.mono i h
section
variable {X : Cx} {es es1 : List En} {a e : Expr} {pos : Pos}
end
end Ly
namespace LyT
open PySem PySem.Spec PyProof.Rows L2
/-! sorted(set(xs)), xs a list of ints -/
section
variable {P : Program} {w : World} {A : Around} {E : Value → Shared → Prop} {s : Shared}
/-- the set at an address -/
def SetI (w : World) (a : Addr) (S : Int → Bool) (n : Nat) : HO := .ext fun h => L2.SetR w h a S n
end
end LyT
namespace LyT
open PySem PySem.Spec PyProof.Rows L2 LyS Ly
section
variable {X : Cx}
theorem ints_of {F : Hp} : ∀ {vs : List V} {us : List Value} {xs : List Int}, Paired (Rp.rep X.K F) vs xs → Vals vs us → IntsAre us xs
  | _, _, _, .nil, .nil => .nil
  | _, _, _, .cons r t, .cons rv tv => by
    have e := r.1
    subst e
    obtain ⟨t9, rfl⟩ := rv
    exact .cons _ t9 (ints_of t tv)
theorem ltE_int (x y : Int) : ltE x y = decide (x < y) := by
  show LyS.lexS [LyS.Sca.i x] [LyS.Sca.i y] = _
  show (if LyS.Sca.i x = LyS.Sca.i y then false else decide (x < y)) = _
  by_cases c : x = y
  · rw [if_pos (by rw [c]), decide_eq_false (by omega)]
  · rw [if_neg fun e => c (by injection e)]
def rSetI (X : Cx) : List V → Hp → VK → Prop := fun vs H Q => ∃ (F : Hp) (p : Addr) (ws : List V) (xs : List Int), vs = [.ref p] ∧ H p = some (.lst ws) ∧ Paired (Rp.rep X.K F) ws xs ∧ xs.length < 300 ∧
  ∀ a c, H a = none → c ≤ xs.length → Q (.ref a) (upd H a (SetI X.w a (fun j => decide (j ∈ xs)) c))
def rSortI (X : Cx) : List V → Hp → VK → Prop := fun vs H Q => ∃ (a : Addr) (S : Int → Bool) (n : Nat), vs = [.ref a] ∧ H a = some (SetI X.w a S n) ∧ n < 64 ∧
  ∀ q ws ns, H q = none → (∀ F : Hp, Paired (Rp.rep X.K F) ws ns) → ns.Pairwise (· < ·) → (∀ k, k ∈ ns ↔ S k = true) → Q (.ref q) (upd H q (.lst ws))
variable {es : List En} {e : Expr} {pos p p2 pos2 : Pos}
end
end LyT
/-! tuples of texts, of unlike lengths, none empty: sorted -/
namespace LyS
open PySem PyProof.Rows Srt SrtO
section
variable {pr : Program} {ww : World} {A : Around} {E : Value → Shared → Prop} {s : Shared}
def allS (cs : List Sca) : Prop := ∀ c ∈ cs, c.isS = true
end
end LyS
namespace Ly
open PySem PySem.Spec PyProof.Rows L2 TL LyS
def keyS (x : Tl Str) : List Sca := x.l.map Sca.s
/-- tuples of texts, sorted -/
def srtTl (xs : List (Tl Str)) : List (Tl Str) := srt (fun x y => lexS (keyS x) (keyS y)) xs
section
variable {X : Cx} {pins : List (Addr × Obj)} {σ : L2.St} {F H : Hp} {s : Shared}
/-- sorted(d), the keys tuples of texts -/
def rSorDT : V → Hp → VK → Prop := fun v H Q => ∃ (p : Addr) (ks : List (List L2.Key × V)) (xs : List (Tl Str)), v = .ref p ∧ Rd H p (.dT ks) ∧ ks.map (·.1) = xs.map keyT ∧ (∀ x ∈ xs, x.l ≠ []) ∧ xs.length ≤ big ∧
  ∀ q bs, H q = none → Paired (fun b x => H b = some (sk (keyT x))) bs (srtTl xs) → Q (.ref q) (upd H q (.lst (bs.map V.ref)))
/-- the keys, in hand -/
theorem St0.keys {H : Hp} : ∀ {bs : List Addr} {xs : List (Tl Str)} {F : Hp}, Sub F H → Paired (fun b x => H b = some (sk (keyT x))) bs xs → ∃ F', St0 F H F' H ∧ Paired (fun b x => F' b = some (sk (keyT x))) bs xs
  | _, _, F, sb, .nil => ⟨F, St0.refl sb, .nil⟩
  | _, _, F, sb, .cons h t => by
    obtain ⟨F1, t1, p1⟩ := St0.keys sb t
    obtain ⟨F2, t2, h2⟩ := St0.key t1.e h
    exact ⟨F2, t1.trans t2, .cons h2 (Paired.mapP p1 fun _ _ z => t2.f _ _ z)⟩
variable {es : List En} {e : Expr} {pos p : Pos} {α : Type} [Rp α]
/-! list(t), a tuple -/
end
/-! t not in xs, tuples of texts -/
section
variable {X : Cx} {pins : List (Addr × Obj)} {σ : L2.St} {F H : Hp} {s : Shared}
def rNinTl (X : Cx) : R2 := fun x y H Q => ∃ (F : Hp) (q : Addr) (ws : List V) (t : Tl Str) (xs : List (Tl Str)), y = .ref q ∧ Sub F H ∧ Rp.rep X.K F x t ∧ H q = some (.lst ws) ∧ Paired (Rp.rep X.K F) ws xs ∧ Q (.bl (!decide (t ∈ xs))) H
variable {es : List En} {a b : Expr} {pos : Pos}
end
end Ly
namespace Ly
open PySem PySem.Spec PyProof.Rows L2 TL
/-! bits of ints -/
section
variable {X : Cx} {es : List En} {a b : Expr} {pos : Pos} {x y : Int}
end
/-! d.pop(k, None) of one's own dict, as a statement -/
def dropD {κ α : Type} [DecidableEq κ] (d : Dct κ α) (k : κ) : Dct κ α := ⟨d.l.filter fun p => decide (p.1 ≠ k)⟩
section
variable {X : Cx} {es es2 : List En} {i : Nat} {st : Stmt} {b : Expr} {κ α : Type} [Sc κ] [Ky κ] [DecidableEq κ] [Rp α] {d : Dct κ α} {k : κ}
end
/-! {k: x} of scalars -/
section
variable {X : Cx} {es : List En} {a1 e1 : Expr} {pos : Pos} {κ α : Type} [Sc κ] [Ky κ] [DecidableEq κ] [Sc α]
end
end Ly
namespace LyT
open PySem PySem.Spec PyProof.Rows L2 Ly
/-! len(set(xs)), xs a list of texts -/
section
variable {P : Program} {w : World} {A : Around} {E : Value → Shared → Prop} {s : Shared}
/-- the set of the first i -/
def SofN (P : Program) (w : World) (h : Heap) (T : Addr) (ks : List Str) : Prop := ∃ (D : List Str), D.Nodup ∧ (∀ x, x ∈ D ↔ x ∈ ks) ∧ Heap.SetOf (strKind P w) h T (fun k => decide (k ∈ ks)) D.length
/-- the set at an address -/
def SetN (P : Program) (w : World) (a : Addr) (ks : List Str) : HO := .ext fun h => SofN P w h a ks
end
section
variable {X : Cx}
def rSetN (X : Cx) : List V → Hp → VK → Prop := fun vs H Q => ∃ (F : Hp) (p : Addr) (ws : List V) (xs : List Str), vs = [.ref p] ∧ H p = some (.lst ws) ∧ Paired (Rp.rep X.K F) ws xs ∧ xs.length < 300 ∧
  ∀ a, H a = none → Q (.ref a) (upd H a (SetN X.prog X.w a xs))
def rLenN (X : Cx) : List V → Hp → VK → Prop := fun vs H Q => ∃ (a : Addr) (xs : List Str), vs = [.ref a] ∧ H a = some (SetN X.prog X.w a xs) ∧ xs.length < 300 ∧ Q (.int ((dd xs).length : Int)) H
variable {es : List En} {e : Expr} {pos p p2 pos2 : Pos}
end
end LyT
namespace Ly
open PySem PySem.Spec PyProof.Rows L2 TL LamX
/-! met's answer as one's own: told, read, then changed and forgotten -/
inductive Mo where
  | plan (l : List (List Str))
  | late (t : Int) (ns : List Str)
  | wood
  | gone (n : Nat)
  deriving DecidableEq, Inhabited
theorem ref_nsk (us : List V) (l : Addr) (ks) : HO.tup (us ++ [.ref l]) ≠ sk ks := by
  intro z
  injection z with z
  have hm : V.ref l ∈ ks.map kV := by rw [← z]; simp
  obtain ⟨k, _, e⟩ := List.mem_map.mp hm
  cases k <;> cases e
/-- what stands ahead of the list, and the list -/
def Mo.tells (K : PySem.W.Frag) (F : Hp) : Mo → List V → List V → Prop
  | .plan rows, us, vs => us = [.str "plan"] ∧ rows.length ≤ big ∧ Paired (Rp.rep K F) vs rows
  | .late t ns, us, vs => us = [.str "late", .int t] ∧ ns.length ≤ big ∧ Paired (Rp.rep K F) vs ns
  | .wood, _, _ => False
  | .gone n, us, vs => vs.length = n ∧ n ≤ big + 1
theorem Mo.tells_mono {K : PySem.W.Frag} {F F' : Hp} (i : Inc F F') : ∀ {y : Mo} {us vs : List V}, y.tells K F us vs → y.tells K F' us vs
  | .plan _, _, _, ⟨a, b, c⟩ => ⟨a, b, pairedM i c⟩
  | .late _ _, _, _, ⟨a, b, c⟩ => ⟨a, b, pairedM i c⟩
  | .gone _, _, _, h => h
def Mo.rep (K : PySem.W.Frag) (F : Hp) (v : V) : Mo → Prop
  | .plan l => Rp.rep K F v (("plan" : Str), l)
  | .late t ns => Rp.rep K F v (Tp3.mk ("late" : Str) t ns)
  | .wood => Rp.rep K F v (Tl.mk [("no wood" : Str)])
  | .gone _ => True
theorem Mo.rep_mono {K : PySem.W.Frag} {F F' : Hp} {v : V} (i : Inc F F') : ∀ {y : Mo}, y.rep K F v → y.rep K F' v
  | .plan l, h => Rp.mono (α := Str × List (List Str)) i h
  | .late t ns, h => Rp.mono (α := Tp3 Str Int (List Str)) i h
  | .wood, h => Rp.mono (α := Tl Str) i h
  | .gone _, _ => True.intro
instance owMo : Ow Mo where
  rp := ⟨fun K H v y => Mo.rep K H v y, fun i h => Mo.rep_mono i h⟩
  own K F H v y P := (y = .wood ∧ P = [] ∧ Mo.rep K F v .wood) ∨ ∃ (p l : Addr) (us vs : List V), v = .ref p ∧ P = [p, l] ∧ H p = some (.tup (us ++ [.ref l])) ∧ F p = none ∧ H l = some (.lst vs) ∧ F l = none ∧ us ≠ [] ∧ y.tells K F us vs
  mono {K F F' H H' v y P} i h hf r := by
    rcases r with ⟨a, b, c⟩ | ⟨p, l, us, vs, ev, eP, h1, f1, h2, f2, hu, rr⟩
    · exact .inl ⟨a, b, Mo.rep_mono i c⟩
    · subst eP
      exact .inr ⟨p, l, us, vs, ev, rfl, (h p (by simp)).trans h1, hf p (by simp), (h l (by simp)).trans h2, hf l (by simp), hu, Mo.tells_mono i rr⟩
  out {K F H v y P} r q hq := by
    rcases r with ⟨a, b, c⟩ | ⟨p, l, us, vs, ev, eP, h1, f1, h2, f2, hu, rr⟩
    · subst b; cases hq
    · subst eP
      have e : q = p ∨ q = l := by simpa using hq
      rcases e with e | e
      · rw [e]; exact ⟨nn h1, f1⟩
      · rw [e]; exact ⟨nn h2, f2⟩
  fzn {K F H v y P} r := by
    rcases r with ⟨a, b, c⟩ | ⟨p, l, us, vs, ev, eP, h1, f1, h2, f2, hu, rr⟩
    · subst a b
      exact Mo.rep_mono (fzP_inc fun p hp => by cases hp) c
    · subst eP ev
      have inc : Inc F (fzP F H [p, l]) := fzP_inc fun q hq => by
        have e : q = p ∨ q = l := by simpa using hq
        rcases e with e | e
        · rw [e]; exact f1
        · rw [e]; exact f2
      cases y with
      | wood => exact rr.elim
      | gone n => exact True.intro
      | plan rows =>
        obtain ⟨rfl, hz, rr⟩ := rr
        have rl : Rp.rep K (fzP F H [p, l]) (.ref l) rows := ⟨l, _, rfl, (fzP_in (by simp)).trans h2, hz, vs, rfl, pairedM inc rr⟩
        exact ⟨p, _, rfl, (fzP_in (by simp)).trans h1, .str "plan", .ref l, rfl, ⟨rfl, show sOk ("plan" : Str) from by decide⟩, rl⟩
      | late t ns =>
        obtain ⟨rfl, hz, rr⟩ := rr
        have rl : Rp.rep K (fzP F H [p, l]) (.ref l) ns := ⟨l, _, rfl, (fzP_in (by simp)).trans h2, hz, vs, rfl, pairedM inc rr⟩
        exact ⟨p, _, rfl, (fzP_in (by simp)).trans h1, .str "late", .int t, .ref l, rfl, ⟨rfl, show sOk ("late" : Str) from by decide⟩, ⟨rfl, True.intro⟩, rl⟩
  nt {K F H v y P} r q hq ks := by
    rcases r with ⟨a, b, c⟩ | ⟨p, l, us, vs, ev, eP, h1, f1, h2, f2, hu, rr⟩
    · subst b; cases hq
    · subst eP
      have e : q = p ∨ q = l := by simpa using hq
      rcases e with e | e
      · rw [e, h1]
        intro z
        exact ref_nsk us l ks (Option.some.inj z)
      · rw [e, h2]
        intro z
        cases z
section
variable {X : Cx} {es es1 es2 : List En} {a b c e : Expr} {pos p2 : Pos} {i : Nat} {st : Stmt}
def Mo.len : Mo → Nat
  | .plan l => l.length
  | .late _ ns => ns.length
  | .wood => 0
  | .gone n => n
end
end Ly
namespace Ly
open PySem PySem.Spec PyProof.Rows L2 TL LamX
/-! met's answer read: its kind, its length, told[:1] -/
def Mo.kind : Mo → Str
  | .plan _ => "plan"
  | .late _ _ => "late"
  | _ => "no wood"
def Mo.size : Mo → Nat
  | .plan _ => 2
  | .late _ _ => 3
  | _ => 1
def Mo.rows : Mo → List (List Str)
  | .plan l => l
  | _ => []
def Mo.turn : Mo → Int
  | .late t _ => t
  | _ => 0
def Mo.names : Mo → List Str
  | .late _ ns => ns
  | _ => []
/-- not changed -/
def Mo.live : Mo → Bool
  | .gone _ => false
  | _ => true
section
variable {X : Cx} {es es1 es2 : List En} {a b c e : Expr} {pos p p2 : Pos} {i : Nat} {st : Stmt} {y : Mo}
end
end Ly
namespace Ly
open PySem PySem.Spec PyProof.Rows L2 TL LamX
/-! try: .., except C: .. (no name) -/
section
variable {X : Cx} {es es1 : List En} {body suite : List Stmt} {b₀ : Stmt} {np pos pos' : Pos} {γ : Type} {k : γ → Out} {n0 : Str} {C : Addr}
end
end Ly
namespace Ly
open PySem PySem.Spec PyProof.Rows L2 TL LamX
/-! an own dict is lent for reading to a call whose answer is one's own and holds no dict -/
/-- the dicts of F forgotten at p -/
def lessP (F : Hp) (p : Addr) : Hp := fun a => if a = p then none else F a
class NoDo (α : Type) [Ow α] : Prop where
  less : ∀ {K : PySem.W.Frag} {F H : Hp} {v : V} {x : α} {P : List Addr} {p : Addr} {ks : List (Key × V)}, F p = some (.dK ks) → Ow.own K F H v x P → Ow.own K (lessP F p) H v x P
theorem less_to {F : Hp} {p a : Addr} {o : HO} {ks : List (Key × V)} (h : F p = some (.dK ks)) (ho : ∀ l, o ≠ .dK l) (e : F a = some o) : lessP F p a = some o := by
  unfold lessP
  rw [if_neg fun z => by rw [z, h] at e; exact ho ks (Option.some.inj e).symm]
  exact e
theorem less_none {F : Hp} {p a : Addr} (h : F a = none) : lessP F p a = none := by
  unfold lessP
  by_cases z : a = p
  · rw [if_pos z]
  · rw [if_neg z]; exact h
theorem less_strs {K : PySem.W.Frag} {F : Hp} {p : Addr} {ks : List (Key × V)} (h : F p = some (.dK ks)) {vs : List V} {rows : List (List Str)} (r : Paired (Rp.rep K F) vs rows) : Paired (Rp.rep K (lessP F p)) vs rows := by
  refine Paired.mapP r fun v x hx => ?_
  obtain ⟨a, o, e, h1, hz, us, eo, rr⟩ := hx
  exact ⟨a, o, e, less_to h (fun l z => by rw [eo] at z; cases z) h1, hz, us, eo, rr⟩
theorem less_sc {K : PySem.W.Frag} {F F' : Hp} {vs : List V} {ns : List Str} (r : Paired (Rp.rep K F) vs ns) : Paired (Rp.rep K F') vs ns := Paired.mapP r fun _ _ h => h
instance : NoDo Mo where
  less {K F H v y P p ks} h r := by
    rcases r with ⟨a, b, c⟩ | ⟨q, l, us, vs, ev, eP, h1, f1, h2, f2, hu, rr⟩
    · refine .inl ⟨a, b, ?_⟩
      obtain ⟨w, o, e, h1, hz, us, eo, r2⟩ := (show Rp.rep K F v (Tl.mk [("no wood" : Str)]) from c)
      exact (show Rp.rep K (lessP F p) v (Tl.mk [("no wood" : Str)]) from ⟨w, o, e, less_to h (fun l z => by rw [eo] at z; cases z) h1, hz, us, eo, less_sc r2⟩)
    · refine .inr ⟨q, l, us, vs, ev, eP, h1, less_none f1, h2, less_none f2, hu, ?_⟩
      cases y with
      | wood => exact rr.elim
      | gone n => exact rr
      | plan rows => exact ⟨rr.1, rr.2.1, less_strs h rr.2.2⟩
      | late t ns => exact ⟨rr.1, rr.2.1, less_sc rr.2.2⟩
section
variable {X : Cx} {es es1 es2 : List En} {a b c e : Expr} {pos p2 : Pos} {i : Nat} {st : Stmt}
end
end Ly
namespace Ly
open PySem PySem.Spec PyProof.Rows L2 TL LamX
/-! least_late's answer as one's own: told, read, then changed and forgotten -/
inductive Lo where
  | late (l : Int) (rows : List (List Str)) (t : Int) (ns : List Str)
  | wood
  | nojob
  | gone (n m : Nat)
  deriving DecidableEq, Inhabited
theorem has_ref_nsk {us : List V} {l : Addr} (h : V.ref l ∈ us) (ks) : HO.tup us ≠ sk ks := by
  intro z
  injection z with z
  have hm : V.ref l ∈ ks.map kV := by rw [← z]; exact h
  obtain ⟨k, _, e⟩ := List.mem_map.mp hm
  cases k <;> cases e
def Lo.tells (K : PySem.W.Frag) (F : Hp) : Lo → V → V → List V → List V → Prop
  | .late l rows t ns, x0, x2, vs, ws => x0 = .int l ∧ x2 = .int t ∧ rows.length ≤ big ∧ Paired (Rp.rep K F) vs rows ∧ ns.length ≤ big ∧ Paired (Rp.rep K F) ws ns
  | .gone n m, _, _, vs, ws => vs.length = n ∧ ws.length = m ∧ n ≤ big ∧ m ≤ big
  | _, _, _, _, _ => False
theorem Lo.tells_mono {K : PySem.W.Frag} {F F' : Hp} (i : Inc F F') : ∀ {y : Lo} {x0 x2 : V} {vs ws : List V}, y.tells K F x0 x2 vs ws → y.tells K F' x0 x2 vs ws
  | .late _ _ _ _, _, _, _, _, ⟨a, b, c, d, e, g⟩ => ⟨a, b, c, pairedM i d, e, pairedM i g⟩
  | .gone _ _, _, _, _, _, h => h
  | .wood, _, _, _, _, h => h.elim
  | .nojob, _, _, _, _, h => h.elim
def Lo.rep (K : PySem.W.Frag) (F : Hp) (v : V) : Lo → Prop
  | .late l rows t ns => Rp.rep K F v (Tp4.mk l rows t ns)
  | .wood => Rp.rep K F v (Tl.mk [("no wood" : Str)])
  | .nojob => Rp.rep K F v (Tl.mk [("no job" : Str)])
  | .gone _ _ => True
theorem Lo.rep_mono {K : PySem.W.Frag} {F F' : Hp} {v : V} (i : Inc F F') : ∀ {y : Lo}, y.rep K F v → y.rep K F' v
  | .late _ _ _ _, h => Rp.mono (α := Tp4 Int (List (List Str)) Int (List Str)) i h
  | .wood, h => Rp.mono (α := Tl Str) i h
  | .nojob, h => Rp.mono (α := Tl Str) i h
  | .gone _ _, _ => True.intro
def Lo.word : Lo → Bool
  | .wood => true
  | .nojob => true
  | _ => false
theorem three {α : Type} {q p a b : α} (h : q ∈ [p, a, b]) : q = p ∨ q = a ∨ q = b := by simpa using h
instance owLo : Ow Lo where
  rp := ⟨fun K H v y => Lo.rep K H v y, fun i h => Lo.rep_mono i h⟩
  own K F H v y P := (y.word = true ∧ P = [] ∧ Lo.rep K F v y) ∨ ∃ (p l1 l2 : Addr) (x0 x2 : V) (vs ws : List V), v = .ref p ∧ P = [p, l1, l2] ∧ H p = some (.tup [x0, .ref l1, x2, .ref l2]) ∧ F p = none ∧ H l1 = some (.lst vs) ∧ F l1 = none ∧ H l2 = some (.lst ws) ∧ F l2 = none ∧ y.tells K F x0 x2 vs ws
  mono {K F F' H H' v y P} i h hf r := by
    rcases r with ⟨a, b, c⟩ | ⟨p, l1, l2, x0, x2, vs, ws, ev, eP, h0, f0, h1, f1, h2, f2, rr⟩
    · exact .inl ⟨a, b, Lo.rep_mono i c⟩
    · subst eP
      exact .inr ⟨p, l1, l2, x0, x2, vs, ws, ev, rfl, (h p (by simp)).trans h0, hf p (by simp), (h l1 (by simp)).trans h1, hf l1 (by simp), (h l2 (by simp)).trans h2, hf l2 (by simp), Lo.tells_mono i rr⟩
  out {K F H v y P} r q hq := by
    rcases r with ⟨a, b, c⟩ | ⟨p, l1, l2, x0, x2, vs, ws, ev, eP, h0, f0, h1, f1, h2, f2, rr⟩
    · subst b; cases hq
    · subst eP
      rcases three hq with e | e | e
      · rw [e]; exact ⟨nn h0, f0⟩
      · rw [e]; exact ⟨nn h1, f1⟩
      · rw [e]; exact ⟨nn h2, f2⟩
  fzn {K F H v y P} r := by
    rcases r with ⟨a, b, c⟩ | ⟨p, l1, l2, x0, x2, vs, ws, ev, eP, h0, f0, h1, f1, h2, f2, rr⟩
    · subst b
      exact Lo.rep_mono (fzP_inc fun p hp => by cases hp) c
    · subst eP ev
      have inc : Inc F (fzP F H [p, l1, l2]) := fzP_inc fun q hq => by
        rcases three hq with e | e | e
        · rw [e]; exact f0
        · rw [e]; exact f1
        · rw [e]; exact f2
      cases y with
      | wood => exact rr.elim
      | nojob => exact rr.elim
      | gone n m => exact True.intro
      | late l rows t ns =>
        obtain ⟨rfl, rfl, z1, r1, z2, r2⟩ := rr
        have q1 : Rp.rep K (fzP F H [p, l1, l2]) (.ref l1) rows := ⟨l1, _, rfl, (fzP_in (by simp)).trans h1, z1, vs, rfl, pairedM inc r1⟩
        have q2 : Rp.rep K (fzP F H [p, l1, l2]) (.ref l2) ns := ⟨l2, _, rfl, (fzP_in (by simp)).trans h2, z2, ws, rfl, pairedM inc r2⟩
        exact ⟨p, _, rfl, (fzP_in (by simp)).trans h0, .int l, .ref l1, .int t, .ref l2, rfl, ⟨rfl, True.intro⟩, q1, ⟨rfl, True.intro⟩, q2⟩
  nt {K F H v y P} r q hq ks := by
    rcases r with ⟨a, b, c⟩ | ⟨p, l1, l2, x0, x2, vs, ws, ev, eP, h0, f0, h1, f1, h2, f2, rr⟩
    · subst b; cases hq
    · subst eP
      rcases three hq with e | e | e
      · rw [e, h0]
        intro z
        exact has_ref_nsk (l := l1) (by simp) ks (Option.some.inj z)
      · rw [e, h1]
        intro z
        cases z
      · rw [e, h2]
        intro z
        cases z
theorem less_tl {K : PySem.W.Frag} {F : Hp} {p : Addr} {ks : List (Key × V)} (h : F p = some (.dK ks)) {v : V} {l : List Str} (c : Rp.rep K F v (Tl.mk l)) : Rp.rep K (lessP F p) v (Tl.mk l) := by
  obtain ⟨w, o, e, h1, hz, us, eo, r2⟩ := c
  exact ⟨w, o, e, less_to h (fun l z => by rw [eo] at z; cases z) h1, hz, us, eo, less_sc r2⟩
instance : NoDo Lo where
  less {K F H v y P p ks} h r := by
    rcases r with ⟨a, b, c⟩ | ⟨q, l1, l2, x0, x2, vs, ws, ev, eP, h0, f0, h1, f1, h2, f2, rr⟩
    · refine .inl ⟨a, b, ?_⟩
      cases y with
      | wood => exact less_tl h (l := [("no wood" : Str)]) c
      | nojob => exact less_tl h (l := [("no job" : Str)]) c
      | late l rows t ns => cases a
      | gone n m => cases a
    · refine .inr ⟨q, l1, l2, x0, x2, vs, ws, ev, eP, h0, less_none f0, h1, less_none f1, h2, less_none f2, ?_⟩
      cases y with
      | wood => exact rr.elim
      | nojob => exact rr.elim
      | gone n m => exact rr
      | late l rows t ns => exact ⟨rr.1, rr.2.1, rr.2.2.1, less_strs h rr.2.2.2.1, rr.2.2.2.2.1, less_sc rr.2.2.2.2.2⟩
def Lo.size : Lo → Nat
  | .late _ _ _ _ => 4
  | .gone _ _ => 4
  | _ => 1
def Lo.lt : Lo → Int
  | .late l _ _ _ => l
  | _ => 0
def Lo.rows : Lo → List (List Str)
  | .late _ p _ _ => p
  | _ => []
def Lo.turn : Lo → Int
  | .late _ _ t _ => t
  | _ => 0
def Lo.names : Lo → List Str
  | .late _ _ _ ns => ns
  | _ => []
def Lo.live : Lo → Bool
  | .gone _ _ => false
  | _ => true
def Lo.n1 : Lo → Nat
  | .late _ p _ _ => p.length
  | .gone n _ => n
  | _ => 0
def Lo.n2 : Lo → Nat
  | .late _ _ _ ns => ns.length
  | .gone _ m => m
  | _ => 0
section
variable {X : Cx} {es es1 es2 : List En} {a b c d e : Expr} {pos p p2 : Pos} {i : Nat} {st : Stmt} {y : Lo}
end
/-! try: .., except C1: .., except C2: .. -/
section
variable {X : Cx} {es es1 : List En} {body suite suite' : List Stmt} {b₀ b₁ : Stmt} {np np' pos pos' pos'' : Pos} {γ : Type} {k : γ → Out} {n0 n1 : Str} {C1 C2 : Addr}
end
end Ly
namespace Ly
open PySem PySem.Spec PyProof.Rows L2 TL LamX
/-! an answer whose lists are new -/
def mkA (F : Hp) : Hp := fun a => match F a with
  | some (.lst vs) => some (mL vs)
  | o => o
theorem mkA_lst {F : Hp} {a : Addr} {vs : List V} (h : F a = some (.lst vs)) : mkA F a = some (mL vs) := by unfold mkA; rw [h]
theorem mkA_of {F : Hp} {a : Addr} {o : HO} (h : F a = some o) (n : ∀ vs, o ≠ .lst vs) : mkA F a = some o := by
  unfold mkA
  rw [h]
  split
  · rename_i vs e
    exact absurd (Option.some.inj e) (n vs)
  · rfl
theorem mkA_none {F : Hp} {a : Addr} (h : F a = none) : mkA F a = none := by unfold mkA; rw [h]
theorem mkA_back {F : Hp} {a : Addr} {o : HO} (h : mkA F a = some o) : (F a = some o ∧ ∀ vs, o ≠ .lst vs) ∨ ∃ vs, o = mL vs ∧ F a = some (.lst vs) := by
  unfold mkA at h
  split at h
  · rename_i vs e
    exact .inr ⟨vs, (Option.some.inj h).symm, e⟩
  · rename_i n
    exact .inl ⟨h, fun vs e => n vs (by rw [h, e])⟩
theorem mkA_un {F : Hp} {a : Addr} (h : mkA F a = none) : F a = none := by
  cases q : F a with
  | none => rfl
  | some o =>
    unfold mkA at h
    rw [q] at h
    split at h
    · cases h
    · cases h
theorem mkA_sub {F H : Hp} (s : Sub F H) : Sub (mkA F) H := fun a o h => by
  rcases mkA_back h with ⟨e, _⟩ | ⟨vs, e, k⟩
  · exact s a o e
  · exact .inr (.inr ⟨vs, e, (s a _ k).nd fun z => z⟩)
theorem um_mkA (F : Hp) : um (mkA F) = um F := by
  funext a
  cases q : F a with
  | none =>
    unfold um
    rw [mkA_none q, q]
  | some o =>
    by_cases c : ∃ vs, o = .lst vs
    · obtain ⟨vs, rfl⟩ := c
      rw [um_frz (mkA_lst q), um_of q fun _ _ z => by cases z]
    · have e := mkA_of q fun vs z => c ⟨vs, z⟩
      unfold um
      rw [e, q]
/-- it needs no list of its own -/
class NoL (α : Type) [Rp α] : Prop where
  to : ∀ {K : PySem.W.Frag} {F : Hp} {v : V} {x : α}, Rp.rep K F v x → Rp.rep K (mkA F) v x
instance {α : Type} [Sc α] : NoL α := ⟨fun h => h⟩
instance {α : Type} [Rp α] : NoL (Sn α) := ⟨fun {K F v x} h => by
  show Rp.rep K (um (mkA F)) v x.x
  rw [um_mkA]
  exact h⟩
instance : NoL JobsV := ⟨fun {K F v x} h => by
  obtain ⟨a, o, e, h1, dx, u, w, l, eo, r1, r2, r3⟩ := h
  subst eo
  exact ⟨a, _, e, mkA_of h1 (fun _ z => by cases z), dx, u, w, l, rfl, NoL.to r1, NoL.to r2, NoL.to r3⟩⟩
instance {κ α : Type} [Sc κ] [Ky κ] [Rp α] [NoL α] : NoL (Dct κ α) := ⟨fun {K F v x} h => by
  obtain ⟨a, o, e, h1, hz, nd, ks, eo, rr⟩ := h
  subst eo
  exact ⟨a, _, e, mkA_of h1 (fun _ z => by cases z), hz, nd, ks, rfl, Paired.mapP rr fun _ _ z => ⟨z.1, z.2.1, NoL.to z.2.2⟩⟩⟩
instance {α β : Type} [Rp α] [Rp β] [NoL α] [NoL β] : NoL (α × β) := ⟨fun {K F v x} h => by
  obtain ⟨a, o, e, h1, u, w, eo, r1, r2⟩ := h
  subst eo
  exact ⟨a, _, e, mkA_of h1 (fun _ z => by cases z), u, w, rfl, NoL.to r1, NoL.to r2⟩⟩
inductive NoLs : List En → Prop
  | nil : NoLs []
  | cons {α : Type} [Rp α] [NoL α] (x : α) {as : List En} : NoLs as → NoLs (.fz x :: as)
theorem NoLs.to {K : PySem.W.Frag} {F : Hp} {as : List En} (n : NoLs as) : ∀ {vs : List V}, ArgsOk K F vs as → ArgsOk K (mkA F) vs as := by
  induction n with
  | nil =>
    intro vs h
    cases h
    exact .nil
  | @cons α _ _ x as h ih =>
    intro vs k
    cases k with
    | cons r t => exact .cons (NoL.to (α := α) r) (ih t)
/-- the lists of which it is made -/
class Ft (α : Type) [Rp α] : Prop where
  ft : ∀ {K : PySem.W.Frag} {F : Hp} {v : V} {x : α}, Rp.rep K F v x → ∃ P : List Addr, (∀ p ∈ P, ∃ vs, F p = some (.lst vs) ∧ vs.length ≤ big) ∧ ∀ F' : Hp, (∀ p ∈ P, F' p = F p) → (∀ a t, F a = some (.tup t) → F' a = some (.tup t)) → Rp.rep K F' v x
instance {α : Type} [Sc α] : Ft α := ⟨fun h => ⟨[], fun p hp => (by cases hp), fun _ _ _ => h⟩⟩
theorem ft_all {α : Type} [Rp α] [Ft α] {K : PySem.W.Frag} {F : Hp} : ∀ {vs : List V} {xs : List α}, Paired (Rp.rep K F) vs xs → ∃ P : List Addr, (∀ p ∈ P, ∃ vs, F p = some (.lst vs) ∧ vs.length ≤ big) ∧ ∀ F' : Hp, (∀ p ∈ P, F' p = F p) → (∀ a t, F a = some (.tup t) → F' a = some (.tup t)) → Paired (Rp.rep K F') vs xs
  | _, _, .nil => ⟨[], fun p hp => (by cases hp), fun _ _ _ => .nil⟩
  | _, _, .cons r t => by
    obtain ⟨P, h1, h2⟩ := Ft.ft r
    obtain ⟨Q, k1, k2⟩ := ft_all t
    refine ⟨P ++ Q, fun p hp => ?_, fun F' a b => .cons (h2 F' (fun p hp => a p (List.mem_append_left _ hp)) b) (k2 F' (fun p hp => a p (List.mem_append_right _ hp)) b)⟩
    rcases List.mem_append.mp hp with z | z
    · exact h1 p z
    · exact k1 p z
instance {α : Type} [Rp α] [Ft α] : Ft (List α) := ⟨fun {K F v x} h => by
  obtain ⟨a, o, e, h1, hz, vs, eo, rr⟩ := h
  subst eo
  obtain ⟨P, k1, k2⟩ := ft_all rr
  refine ⟨a :: P, fun p hp => ?_, fun F' q1 q2 => ⟨a, _, e, (q1 a List.mem_cons_self).trans h1, hz, vs, rfl, k2 F' (fun p hp => q1 p (List.mem_cons_of_mem _ hp)) q2⟩⟩
  rcases List.mem_cons.mp hp with z | z
  · rw [z]
    exact ⟨vs, h1, by rw [pairedLen rr]; exact hz⟩
  · exact k1 p z⟩
instance {α β : Type} [Rp α] [Rp β] [Ft α] [Ft β] : Ft (α × β) := ⟨fun {K F v x} h => by
  obtain ⟨a, o, e, h1, u, w, eo, r1, r2⟩ := h
  subst eo
  obtain ⟨P, p1, p2⟩ := Ft.ft r1
  obtain ⟨Q, q1, q2⟩ := Ft.ft r2
  refine ⟨P ++ Q, fun p hp => ?_, fun F' m t => ⟨a, _, e, t a _ h1, u, w, rfl, p2 F' (fun p hp => m p (List.mem_append_left _ hp)) t, q2 F' (fun p hp => m p (List.mem_append_right _ hp)) t⟩⟩
  rcases List.mem_append.mp hp with z | z
  · exact p1 p z
  · exact q1 p z⟩
instance {α β γ δ : Type} [Rp α] [Rp β] [Rp γ] [Rp δ] [Ft α] [Ft β] [Ft γ] [Ft δ] : Ft (Tp4 α β γ δ) := ⟨fun {K F v x} h => by
  obtain ⟨a, o, e, h1, v0, v1, v2, v3, eo, r0, r1, r2, r3⟩ := h
  subst eo
  obtain ⟨P0, a0, b0⟩ := Ft.ft r0
  obtain ⟨P1, a1, b1⟩ := Ft.ft r1
  obtain ⟨P2, a2, b2⟩ := Ft.ft r2
  obtain ⟨P3, a3, b3⟩ := Ft.ft r3
  refine ⟨P0 ++ (P1 ++ (P2 ++ P3)), fun p hp => ?_, fun F' m t => ⟨a, _, e, t a _ h1, v0, v1, v2, v3, rfl, b0 F' (fun p hp => m p (by simp [hp])) t, b1 F' (fun p hp => m p (by simp [hp])) t, b2 F' (fun p hp => m p (by simp [hp])) t, b3 F' (fun p hp => m p (by simp [hp])) t⟩⟩
  rcases List.mem_append.mp hp with z | z
  · exact a0 p z
  · rcases List.mem_append.mp z with z | z
    · exact a1 p z
    · rcases List.mem_append.mp z with z | z
      · exact a2 p z
      · exact a3 p z⟩
/-- a thing all of whose lists are one's own -/
structure Rg (α : Type) where
  x : α
def regP (F H : Hp) (P : List Addr) : Hp := fun a => if a ∈ P then H a else match F a with
  | some (.tup t) => some (.tup t)
  | _ => none
theorem regP_in {F H : Hp} {P : List Addr} {a : Addr} (h : a ∈ P) : regP F H P a = H a := by unfold regP; rw [if_pos h]
theorem regP_tup {F H : Hp} {P : List Addr} {a : Addr} {t : List V} (n : a ∉ P) (h : F a = some (.tup t)) : regP F H P a = some (.tup t) := by unfold regP; rw [if_neg n, h]
theorem regP_back {F H : Hp} {P : List Addr} {a : Addr} {o : HO} (h : regP F H P a = some o) : (a ∈ P ∧ H a = some o) ∨ (a ∉ P ∧ ∃ t, o = .tup t ∧ F a = some (.tup t)) := by
  unfold regP at h
  by_cases c : a ∈ P
  · rw [if_pos c] at h
    exact .inl ⟨c, h⟩
  · rw [if_neg c] at h
    split at h
    · rename_i t e
      exact .inr ⟨c, t, (Option.some.inj h).symm, e⟩
    · cases h
theorem regP_inc {F F' H H' : Hp} {P : List Addr} (hP : ∀ p ∈ P, H' p = H p) (i : ∀ a t, F a = some (.tup t) → F' a = some (.tup t)) : Inc (regP F H P) (regP F' H' P) := fun a o h => by
  rcases regP_back h with ⟨c, e⟩ | ⟨c, t, e, k⟩
  · rw [regP_in c, hP a c]; exact e
  · rw [e]; exact regP_tup c (i a t k)
instance owRg {α : Type} [Rp α] : Ow (Rg α) where
  rp := ⟨fun K H v y => Rp.rep K H v y.x, fun i h => Rp.mono (α := α) i h⟩
  own K F H v y P := (∀ p ∈ P, F p = none ∧ ∃ vs, H p = some (.lst vs) ∧ vs.length ≤ big) ∧ Rp.rep K (regP F H P) v y.x
  mono {K F F' H H' v y P} i h hf r := ⟨fun p hp => ⟨hf p hp, by rw [h p hp]; exact (r.1 p hp).2⟩, Rp.mono (regP_inc h fun a t e => i _ _ e) r.2⟩
  out {K F H v y P} r p hp := by
    obtain ⟨f, vs, h, _⟩ := r.1 p hp
    exact ⟨nn h, f⟩
  fzn {K F H v y P} r := Rp.mono (α := α) (fun a o h => by
    rcases regP_back h with ⟨c, e⟩ | ⟨c, t, e, k⟩
    · rw [fzP_in c]; exact e
    · rw [fzP_out c, e]; exact k) r.2
  nt {K F H v y P} r p hp ks := by
    obtain ⟨_, vs, h, _⟩ := r.1 p hp
    rw [h]
    intro z
    cases z
/-- what stood, and the new tuples -/
def frF (F1 F2 : Hp) (P : List Addr) : Hp := fun a => match F1 a with
  | some o => some o
  | none => if a ∈ P then none else match F2 a with
    | some (.tup t) => some (.tup t)
    | _ => none
theorem frF_old {F1 F2 : Hp} {P : List Addr} {a : Addr} {o : HO} (h : F1 a = some o) : frF F1 F2 P a = some o := by unfold frF; rw [h]
theorem frF_p {F1 F2 : Hp} {P : List Addr} {a : Addr} (h : F1 a = none) (c : a ∈ P) : frF F1 F2 P a = none := by unfold frF; rw [h]; exact if_pos c
theorem frF_n {F1 F2 : Hp} {P : List Addr} {a : Addr} (h : F1 a = none) (c : F2 a = none) : frF F1 F2 P a = none := by
  unfold frF
  rw [h, c]
  by_cases z : a ∈ P
  · exact if_pos z
  · exact if_neg z
theorem frF_tup {F1 F2 : Hp} {P : List Addr} {a : Addr} {t : List V} (h : F1 a = none) (c : a ∉ P) (e : F2 a = some (.tup t)) : frF F1 F2 P a = some (.tup t) := by unfold frF; rw [h, e]; exact if_neg c
theorem frF_back {F1 F2 : Hp} {P : List Addr} {a : Addr} {o : HO} (e : frF F1 F2 P a = some o) : F1 a = some o ∨ F2 a = some o := by
  unfold frF at e
  cases q : F1 a with
  | some u =>
    rw [q] at e
    exact .inl e
  | none =>
    rw [q] at e
    have e' : (if a ∈ P then none else match F2 a with | some (.tup t) => some (.tup t) | _ => none) = some o := e
    by_cases c : a ∈ P
    · rw [if_pos c] at e'; cases e'
    · rw [if_neg c] at e'
      split at e'
      · rename_i t k
        right
        rw [k]; exact e'
      · cases e'
theorem fresh {α : Type} [Rp α] [Ft α] {K : PySem.W.Frag} {F1 H1 F2 H2 : Hp} {v : V} {x : α} (s : Sub F1 H1) (t2 : St0 (mkA F1) H1 F2 H2) (r : Rp.rep K F2 v x) : ∃ F3 P, St0 F1 H1 F3 H2 ∧ Ow.own K F3 H2 v (Rg.mk x) P ∧ P.Nodup ∧ ∀ p ∈ P, H1 p = none := by
  obtain ⟨P0, k1, k2⟩ := Ft.ft r
  have mp : ∀ p, p ∈ LyT.dd P0 ↔ p ∈ P0 := fun p => LyT.mem_dd
  have f1 : ∀ p ∈ P0, F1 p = none := fun p hp => by
    obtain ⟨vs, h, _⟩ := k1 p hp
    cases q : mkA F1 p with
    | none => exact mkA_un q
    | some o =>
      have e := t2.f p o q
      rw [h] at e
      cases e
      rcases mkA_back q with ⟨_, n⟩ | ⟨_, e, _⟩
      · exact absurd rfl (n vs)
      · cases e
  have h2 : ∀ p ∈ P0, ∃ vs, F2 p = some (.lst vs) ∧ H2 p = some (.lst vs) ∧ vs.length ≤ big := fun p hp => by
    obtain ⟨vs, h, z⟩ := k1 p hp
    exact ⟨vs, h, (t2.e p _ h).nd (fun z => z), z⟩
  have h1 : ∀ p ∈ P0, H1 p = none := fun p hp => by
    obtain ⟨vs, e2, e3, _⟩ := h2 p hp
    cases q : H1 p with
    | none => rfl
    | some o =>
      rcases t2.n p (nn q) (mkA_none (f1 p hp)) with w | ⟨ks, w⟩
      · rw [e2] at w; cases w
      · rw [e3] at w; cases w
  refine ⟨frF F1 F2 P0, LyT.dd P0, ⟨fun a o e => frF_old e, t2.h, t2.t, fun a o e => ?_, fun a n1 n2 => ?_, t2.k⟩, ⟨fun p hp => ⟨?_, ?_⟩, ?_⟩, LyT.nodup_dd _, fun p hp => h1 p ((mp p).mp hp)⟩
  · rcases frF_back e with q | q
    · exact (s a o q).inc t2.inc
    · exact t2.e a o q
  · have n2' : F1 a = none := n2
    rcases t2.n a n1 (mkA_none n2') with w | w
    · exact .inl (frF_n n2' w)
    · exact .inr w
  · have hp' := (mp p).mp hp
    exact frF_p (f1 p hp') hp'
  · obtain ⟨vs, _, e3, z⟩ := h2 p ((mp p).mp hp)
    exact ⟨vs, e3, z⟩
  · refine k2 _ (fun p hp => ?_) fun a t e => ?_
    · obtain ⟨vs, e2, e3, _⟩ := h2 p hp
      rw [regP_in ((mp p).mpr hp), e2]; exact e3
    · have c : a ∉ P0 := fun c => by
        obtain ⟨vs, e2, _⟩ := h2 a c
        rw [e] at e2; cases e2
      refine regP_tup (fun z => c ((mp a).mp z)) ?_
      cases q : F1 a with
      | some u =>
        refine (frF_old q).trans ?_
        by_cases l : ∃ vs, u = .lst vs
        · obtain ⟨vs, rfl⟩ := l
          have z := t2.f a _ (mkA_lst q)
          rw [e] at z; cases z
        · have z := t2.f a _ (mkA_of q fun vs y => l ⟨vs, y⟩)
          rw [e] at z
          exact z.symm
      | none => exact frF_tup q c e
section
variable {X : Cx} {es es1 es2 as : List En} {a b e : Expr} {args : List Expr} {pos p p2 : Pos} {α : Type} {j k ig i : Nat} {ps : List Str} {n : Str} {G : List En → En → Prop} {ts : List (Addr × Str)} {bb : Addr} {st : Stmt}
/-- a call whose answer is new -/
theorem n_fr (D : Df X.prog X.w X.K X.mg X.base j n ps (spP X.K G)) (hr : Room j X.A) [Rp α] [Ft α] {x : α} (ha : AJ X es (a :: args) as) (nl : NoLs as) (hG : G as (.fz x)) (hg : Gl X n := by rfl) (hdb : (n == ("__debug__" : Str)) = false := by decide) (he : starEach (a :: args) X.env = (false, eval a X.env) :: starEach args X.env := by rfl) (hpl : (backTo pos (starEach args X.env)).any (·.1) = false := by rfl) :
    NJ X es (.Call (.Name n p) (a :: args) [] pos) (Rg.mk x) := .mk fun f σ F H S Q q =>
  peR (pe_call D.ok hr hg D.mg D.kp D.bd .nil pass0 paW hdb he hpl) (ha f σ F H S _ fun vs F1 H1 t1 r1 => by
    show spP X.K G (vs ++ []) H1 Q _
    rw [List.append_nil]
    refine ⟨as, _, mkA F1, hG, mkA_sub t1.e, nl.to r1, fun v F2 H2 t2 r2 => ?_⟩
    obtain ⟨F3, P, t3, o, nd, nw⟩ := fresh t1.e t2 r2
    exact q v F3 H2 P (t1.trans t3) o nd fun z hz => t1.back (nw z hz))
theorem rg_o {x : α} [Rp α] (hv : PE X e (tVar i)) (h : es[i]? = some (.ow (Rg.mk x)) := by rfl) : RJ X es e x := ⟨(show @RJ X es e (Rg α) Ow.rp (Rg.mk x) from o_var hv h).run⟩
theorem set_any {es : List En} {i m : Nat} {e e' u : En} (hm : (es.set i e')[m]? = some u) (hl : i < es.length) : (m = i ∧ u = e') ∨ (m ≠ i ∧ (es.set i e)[m]? = some u) := by
  by_cases c : m = i
  · subst c
    rw [List.getElem?_set_self hl] at hm
    exact .inl ⟨rfl, (Option.some.inj hm).symm⟩
  · rw [List.getElem?_set_ne (Ne.symm c)] at hm
    exact .inr ⟨c, by rw [List.getElem?_set_ne (Ne.symm c)]; exact hm⟩
theorem Sw.toFz {K : PySem.W.Frag} {f : Fr} {σ : L2.St} {F H : Hp} [Rp α] {x : α} (hl : i < es.length) (S : Sw K f (es.set i (@En.fz (Rg α) Ow.rp (Rg.mk x))) σ F H) : Sw K f (es.set i (.fz x)) σ F H := by
  obtain ⟨Ps, p⟩ := S.env
  refine ⟨S.st, Ps, by rw [← p.len]; simp, fun m e hm => ?_, fun m hm => p.nd m (by simpa using hm), fun m m' z h1 h2 => p.dj m m' z (by simpa using h1) (by simpa using h2), fun m z h1 => p.fr m z (by simpa using h1), fun m z γ r w hm => ?_, fun m m' γ r w hm => ?_⟩
  · rcases set_any hm hl with ⟨c, e1⟩ | ⟨c, h⟩
    · subst c e1
      exact p.ok m (@En.fz (Rg α) Ow.rp (Rg.mk x)) (List.getElem?_set_self hl)
    · exact p.ok m e h
  · rcases set_any hm hl with ⟨c, e1⟩ | ⟨c, h⟩
    · cases e1
    · exact p.nw m z γ r w h
  · rcases set_any hm hl with ⟨c, e1⟩ | ⟨c, h⟩
    · cases e1
    · have z := p.al m m' γ r w h
      rw [List.length_set] at z ⊢
      exact z
theorem thaw_rR {β : Type} [Rp α] [Sc β] {x : α} {y : β} (hi : es[i]? = some (.ow (Rg.mk x))) (h : RJ X (es.set i (.fz x)) e y) (ha : alFree i es = true := by rfl) : RJ X es e y := thaw_r (x := Rg.mk x) hi ⟨fun f σ F H S Q q => h.run f σ F H (S.toFz (get_lt hi)) Q q⟩ ha
end
end Ly
namespace Ly
open PySem PySem.Spec PyProof.Rows L2 TL LamX
/-! what was told is spoilt and forgotten: lists that are one's own, at known addresses -/
structure Lf where
  v : V
  P : List Addr
  q : Addr
  vs : List V
  m : Nat
  top : Option (Addr × List V)
  pr : Bool
/-- an item that leads to one of the lists -/
def Lf.leaf (F : Hp) (x : Lf) (w : V) : Prop := ∃ b ∈ x.P, b ≠ x.q ∧ ((x.pr = false ∧ w = .ref b) ∨ (x.pr = true ∧ ∃ t k, w = .ref t ∧ F t = some (.tup [.int k, .ref b])))
def Lf.head (F : Hp) (x : Lf) : Prop := match x.top with
  | none => x.v = .ref x.q
  | some (t, us) => x.v = .ref t ∧ F t = some (.tup us)
instance owLf : Ow Lf where
  rp := ⟨fun _ _ _ _ => True, fun _ _ => True.intro⟩
  own K F H v x P := v = x.v ∧ P = x.P ∧ x.q ∈ x.P ∧ H x.q = some (.lst x.vs) ∧ (∀ w ∈ x.vs, x.leaf F w) ∧ (∀ p ∈ x.P, F p = none ∧ ∃ us, H p = some (.lst us) ∧ us.length ≤ x.m) ∧ x.head F
  mono {K F F' H H' v x P} i h hf r := by
    obtain ⟨e1, e2, r1, r2, r3, r4, r5⟩ := r
    subst e2
    refine ⟨e1, rfl, r1, (h _ r1).trans r2, fun w hw => ?_, fun p hp => ⟨hf p hp, by rw [h p hp]; exact (r4 p hp).2⟩, ?_⟩
    · obtain ⟨b, b1, b2, b3⟩ := r3 w hw
      refine ⟨b, b1, b2, b3.imp id fun ⟨z, t, k, e, f⟩ => ⟨z, t, k, e, i _ _ f⟩⟩
    · unfold Lf.head at r5 ⊢
      cases z : x.top with
      | none => rw [z] at r5; exact r5
      | some u => rw [z] at r5; exact ⟨r5.1, i _ _ r5.2⟩
  out {K F H v x P} r p hp := by
    obtain ⟨e1, e2, r1, r2, r3, r4, r5⟩ := r
    subst e2
    obtain ⟨f, us, h, _⟩ := r4 p hp
    exact ⟨nn h, f⟩
  fzn _ := True.intro
  nt {K F H v x P} r p hp ks := by
    obtain ⟨e1, e2, r1, r2, r3, r4, r5⟩ := r
    subst e2
    obtain ⟨f, us, h, _⟩ := r4 p hp
    rw [h]
    intro z
    cases z
abbrev enL (o : Option Addr) (L : Lf) : En := match o with
  | none => .ow L
  | some a => .at a L
/-- one more in each -/
def Lf.up (x : Lf) (n : Nat) : Lf := { x with m := x.m + n }
structure AdJ (X : Cx) (es : List En) (e : Expr) (q : Addr) : Prop where
  run : ∀ (f : Fr) (σ : L2.St) (F H : Hp), Sw X.K f es σ F H → ∀ Q : VK, (∀ F' H', St0 F H F' H' → Q (.ref q) H') → wpE X e σ H Q
section
variable {X : Cx} {es es2 : List En} {a b e tg iter : Expr} {body : List Stmt} {pos p2 : Pos} {α : Type} {i j j1 : Nat} {st : Stmt} {L : Lf} {o : Option Addr}
theorem lf_at {f : Fr} {σ : L2.St} {F H : Hp} (S : Sw X.K f es σ F H) (hi : es[i]? = some (enL o L)) : ∃ Ps, EnvP X.K f es σ F H Ps ∧ sl σ i = some L.v ∧ Ps i = L.P ∧ L.q ∈ L.P ∧ H L.q = some (.lst L.vs) ∧ (∀ w ∈ L.vs, L.leaf F w) ∧ (∀ p ∈ L.P, F p = none ∧ ∃ us, H p = some (.lst us) ∧ us.length ≤ L.m) ∧ L.head F ∧ L.P.Nodup := by
  obtain ⟨Ps, q⟩ := S.env
  have ok := q.ok i _ hi
  have nd := q.nd i (get_lt hi)
  cases o with
  | none =>
    obtain ⟨v, e1, ev, eP, r⟩ := ok
    rw [eP] at nd
    exact ⟨Ps, q, by rw [e1, ev], eP, r.1, r.2.1, r.2.2.1, r.2.2.2.1, r.2.2.2.2, nd⟩
  | some a =>
    obtain ⟨e1, ev, eP, r⟩ := ok
    rw [eP] at nd
    exact ⟨Ps, q, by rw [e1, ev], eP, r.1, r.2.1, r.2.2.1, r.2.2.2.1, r.2.2.2.2, nd⟩
/-- one of the lists is changed -/
theorem lf_put {f : Fr} {σ : L2.St} {F H : Hp} (S : Sw X.K f es σ F H) (hi : es[i]? = some (enL o L)) (ha : alFree i es = true) {c : Addr} (hc : c ∈ L.P) (nq : c ≠ L.q) {us : List V} {n : Nat} (hu : us.length ≤ L.m + n) : Sw X.K f (es.set i (enL o (L.up n))) σ F (upd H c (.lst us)) := by
  obtain ⟨Ps, q, e1, eP, r1, r2, r3, r4, r5, nd⟩ := lf_at S hi
  have ow : Ow.own X.K F (upd H c (.lst us)) L.v (L.up n) L.P := ⟨rfl, rfl, r1, (upd_ne (Ne.symm nq)).trans r2, r3, fun p hp => ⟨(r4 p hp).1, by
    by_cases z : p = c
    · rw [z, upd_same]; exact ⟨us, rfl, hu⟩
    · rw [upd_ne z]
      obtain ⟨ws, h, l⟩ := (r4 p hp).2
      exact ⟨ws, h, Nat.le_trans l (Nat.le_add_right _ _)⟩⟩, r5⟩
  refine Sw.mutG S.st q hi eP (P' := L.P) (fun p hp => ?_) (fun p hp _ => upd_ne fun z => hp (by rw [z]; exact hc)) ?_ nd (fun p hp => .inl hp) (noAl_of ha) ?_ ?_
  · by_cases z : p = c
    · rw [z, upd_same]; intro y; cases y
    · rw [upd_ne z]; exact hp
  · cases o with
    | none => exact ⟨_, e1, ow⟩
    | some a =>
      have ok := q.ok i _ hi
      obtain ⟨e2, _⟩ := ok
      have ev : L.v = .ref a := by rw [e1] at e2; exact Option.some.inj e2
      exact ⟨e2, ev ▸ ow⟩
  · intro α r x z
    cases o with
    | none => exact ⟨_, _, _, rfl⟩
    | some a => cases z
  · intro k α r x z
    cases o <;> cases z
theorem sw_setU {f : Fr} {K : PySem.W.Frag} {σ : L2.St} {F H : Hp} {v : V} (S : Sw K f es σ F H) (hj : es[j]? = some .un) (ha : alFree j es = true) : Sw K f es (σ.set j (some v)) F H := by
  obtain ⟨Ps, q⟩ := S.env
  have z := Sw.set (e := .un) (v := v) (P := []) (i := j) S.st q (get_lt hj) rfl List.nodup_nil (fun p hp => by cases hp) (fun _ _ _ p hp => by cases hp) (noAl_of ha) fun _ _ _ _ z => by cases z
  rw [set_of_get hj] at z
  exact z
/-- how an item is set -/
def LfSet (X : Cx) (tg : Expr) (es : List En) (i j : Nat) (o : Option Addr) (L : Lf) : Prop := ∀ (f : Fr) (σ : L2.St) (F H : Hp) (n : Nat) (w : V), Sw X.K f (es.set i (enL o (L.up n))) σ F H → w ∈ L.vs → ∀ Q : L2.St → Hp → Prop, (∀ σ' c, c ∈ L.P → c ≠ L.q → sl σ' j = some (.ref c) → Sw X.K f (es.set i (enL o (L.up n))) σ' F H → Q σ' H) → wpG X tg w σ H Q
def LfBody (X : Cx) (body : List Stmt) (es : List En) (i j : Nat) (o : Option Addr) (L : Lf) : Prop := ∀ (f : Fr) (σ : L2.St) (F H : Hp) (n : Nat) (c : Addr) (D : Ends), n ≤ big → Sw X.K f (es.set i (enL o (L.up n))) σ F H → c ∈ L.P → c ≠ L.q → sl σ j = some (.ref c) → (∀ σ2 F2 H2, Sw X.K f (es.set i (enL o (L.up (n + 1)))) σ2 F2 H2 → D.nx σ2 H2) → wpSs X body D σ H
theorem up_up (x : Lf) (n m : Nat) : (x.up n).up m = x.up (n + m) := by unfold Lf.up; simp [Nat.add_assoc]
theorem s_lfLoop {tst : PassesOwn (model X.prog X.w) X.A X.env X.xe} (hc : X.calm = true) (hit : AdJ X es iter L.q) (hg : LfSet X tg es i j o L) (hb : LfBody X body es i j o L) (hi : es[i]? = some (enL o L)) (hz : L.vs.length ≤ big)
    (hes : es.set i (enL o (L.up L.vs.length)) = es2 := by rfl) (hs : ∀ x, foldedSetIterable iter X.env x = pure x := by intro _; rfl) : E1 X es (.For tg iter body [] pos) es2 := .mk fun f σ F H D S q => by
  subst hes
  refine psR (ps_for tst hc (pi_list peW) pgW pssW hs) (hit.run f σ F H S _ fun F1 H1 t1 => ?_)
  have S1 := S.step t1
  have il := get_lt hi
  have at_ : ∀ n, (es.set i (enL o (L.up n)))[i]? = some (enL o (L.up n)) := fun n => List.getElem?_set_self il
  have lst : ∀ {n : Nat} {σ' : L2.St} {F' H' : Hp}, Sw X.K f (es.set i (enL o (L.up n))) σ' F' H' → H' L.q = some (.lst L.vs) := fun S' => by
    obtain ⟨_, _, _, _, _, r2, _⟩ := lf_at S' (at_ _)
    exact r2
  have S0 : Sw X.K f (es.set i (enL o (L.up 0))) σ F1 H1 := by
    have e : L.up 0 = L := rfl
    rw [e, set_of_get hi]
    exact S1
  refine ⟨L.q, rfl, ⟨L.vs, .inl (.inl (lst S0))⟩, fun k m σ' H' => m = L.vs.length - k ∧ k ≤ L.vs.length ∧ ∃ F', Sw X.K f (es.set i (enL o (L.up k))) σ' F' H', ⟨L.vs.length, by omega, Nat.zero_le _, F1, S0⟩, ?_⟩
  rintro k m σ' H' ⟨em, hkl, F', S'⟩
  have hq := lst S'
  by_cases hlt : k < L.vs.length
  · have e1 := List.getElem?_eq_getElem hlt
    generalize L.vs[k] = w at e1
    refine .inr ⟨⟨L.vs, w, .inl (.inl hq), e1⟩, fun σ2 H2 => ∃ F2, Sw X.K f (es.set i (enL o (L.up (k + 1)))) σ2 F2 H2, fun σ2 H2 ⟨F2, S2⟩ => ⟨m - 1, by omega, by omega, hlt, F2, S2⟩, fun v H2 yv => ?_⟩
    obtain ⟨eH, yv⟩ := yv
    subst eH
    have ev : L.vs[k]? = some v := yv L.vs (.inl (.inl hq))
    rw [e1] at ev
    cases ev
    refine hg f σ' F' _ k w S' (List.mem_of_getElem? e1) _ fun σ4 c hc1 hc2 hc3 S4 => ?_
    exact hb f σ4 F' _ k c _ (by omega) S4 hc1 hc2 hc3 fun σ2 F2 H2 S2 => ⟨F2, S2⟩
  · have e : k = L.vs.length := by omega
    subst e
    exact .inl ⟨⟨L.vs, .inl (.inl hq), Nat.le_refl _⟩, q σ' F' H' S'⟩
theorem lf_pair (hg : PG X tg (gTup X.K 2 (gCons (gName j1) (gCons (gName j) gNil)))) (hp : L.pr = true) (hi : i < es.length) (hj1 : es[j1]? = some .un) (hj : es[j]? = some .un) (hij1 : i ≠ j1) (hij : i ≠ j) (ha1 : ∀ n, alFree j1 (es.set i (enL o (L.up n))) = true) (ha : ∀ n, alFree j (es.set i (enL o (L.up n))) = true) : LfSet X tg es i j o L := fun f σ F H n w S hw Q q => by
  obtain ⟨_, _, _, _, _, _, r3, _⟩ := lf_at S (List.getElem?_set_self hi)
  obtain ⟨c, c1, c2, c3⟩ := r3 w hw
  rcases c3 with ⟨z, _⟩ | ⟨_, t, k, e, ft⟩
  · have z' : L.pr = false := z
    rw [hp] at z'
    cases z'
  · subst e
    have hj1' : (es.set i (enL o (L.up n)))[j1]? = some .un := by rw [List.getElem?_set_ne hij1]; exact hj1
    have hj' : (es.set i (enL o (L.up n)))[j]? = some .un := by rw [List.getElem?_set_ne hij]; exact hj
    have S1 := sw_setU (v := .int k) S hj1' (ha1 n)
    have S2 := sw_setU (v := .ref c) S1 hj' (ha n)
    refine pgR hg ⟨t, _, rfl, .inl (.inl ((S.sub t _ ft).nd fun z => z)), rfl, .int k, _, rfl, .ref c, _, rfl, rfl, q _ c c1 c2 (sl_set ?_) S2⟩
    obtain ⟨Ps, p⟩ := S1.env
    rw [← p.len]
    exact get_lt hj'
theorem lf_clear (hst : PS X st (tDrop (tBM0 X.K "list" rClear (tVar j)))) (hi : i < es.length) (ha : ∀ n, alFree i (es.set i (enL o (L.up n))) = true) : LfBody X [st] es i j o L := fun f σ F H n c D hn S hc nq hj q => by
  obtain ⟨_, _, _, _, _, _, _, r4, _⟩ := lf_at S (List.getElem?_set_self hi)
  obtain ⟨us, hu, hl⟩ := (r4 c hc).2
  refine pssR (pss_one hst) ⟨.ref c, sl_of hj, .inl ⟨rfl, us, .inl (.inl hu)⟩, c, us, rfl, rfl, hu, q _ F _ ?_⟩
  have z := lf_put S (List.getElem?_set_self hi) (ha n) (c := c) hc nq (us := []) (n := 1) (Nat.zero_le _)
  rw [List.set_set, up_up] at z
  exact z
/-! the way to the outer list -/
theorem adj_ix {k} {t : Addr} {us : List V} {c : Int} (hv : PE X a (tVar i)) (hi : es[i]? = some (enL o L)) (ht : L.top = some (t, us)) (hc : atI us c = some (.ref L.q)) : AdJ X es (.Subscript a (.Constant (.int c) k p2) pos) L.q := ⟨fun f σ F H S Q q => by
  obtain ⟨_, _, e1, _, _, _, _, _, r5, _⟩ := lf_at S hi
  unfold Lf.head at r5
  rw [ht] at r5
  exact peR (pe_ix ix_tup hv pe_int (fun _ _ => rfl)) ⟨.ref t, sl_of (by rw [e1, r5.1]), t, us, c, .ref L.q, rfl, rfl, .inl (.inl ((S.sub t _ r5.2).nd fun z => z)), hc, q F H (St0.refl S.sub)⟩⟩
/-- the outer list is changed too: nothing more is said -/
theorem s_lfApp [Rp α] {x : α} (hst : PS X st (tDrop (tBM X.K "list" rAppend (wpE X a) (tCons (wpE X e) tNil)))) (hp : AdJ X es a L.q) (h : FJ X es e x) (hm : L.m ≤ big + big) (hi : es[i]? = some (.ow L)) (hes : es.set i .un = es2 := by rfl) (ha : alFree i es = true := by rfl) : E1 X es st es2 := .mk fun f σ F H D S q =>
  psR hst (by
    subst hes
    refine hp.run f σ F H S _ fun F1 H1 t1 => ?_
    have S1 := S.step t1
    obtain ⟨_, _, _, _, r1, r2, _⟩ := lf_at (o := none) S1 hi
    refine ⟨.inl ⟨rfl, L.vs, .inl (.inl r2)⟩, h f σ F1 H1 S1 _ fun v F2 H2 t2 r => ?_⟩
    have S2 := S1.step t2
    obtain ⟨Ps, p, e1, eP, k1, k2, k3, k4, k5, nd⟩ := lf_at (o := none) S2 hi
    obtain ⟨us, hu, hl⟩ := (k4 L.q k1).2
    rw [k2] at hu
    cases hu
    refine ⟨L.q, L.vs, v, rfl, rfl, k2, ?_, q _ F2 _ (Sw.mutG S2.st p hi eP (P' := []) (fun w hw => ?_) (fun w hw _ => upd_ne fun c => hw (by rw [c]; exact k1)) rfl List.nodup_nil (fun w hw => by cases hw) (noAl_of ha) (fun _ _ _ z => by cases z) fun _ _ _ _ z => by cases z)⟩
    · have : big + big < sizeLine := by decide
      omega
    · by_cases c : w = L.q
      · rw [c, upd_same]; intro c; cases c
      · rw [upd_ne c]; exact hw)
end
end Ly
namespace Ly
open PySem PySem.Spec PyProof.Rows L2 TL LamX
/-! a new answer is opened; what is read of it while it is one's own -/
section
variable {X : Cx} {es es1 es2 : List En} {a b e tg iter : Expr} {sts : List Stmt} {pos p2 : Pos} {α β : Type} {i j : Nat} {st : Stmt} {out : Out}
theorem es_open {ρ : Type} [Ow ρ] {y : ρ} {T : Lf → Prop} (hi : es[i]? = some (.ow y)) (hop : ∀ (K : PySem.W.Frag) (F H : Hp) (v : V) (P : List Addr), Ow.own K F H v y P → ∃ L : Lf, T L ∧ Ow.own K F H v L P) (h : ∀ L, T L → ES X (es.set i (.ow L)) sts out) (ha : alFree i es = true := by rfl) : ES X es sts out := .mk fun f σ F H D S q => by
  obtain ⟨Ps, p⟩ := S.env
  obtain ⟨v, ev, o⟩ := p.ok i _ hi
  obtain ⟨L, tl, o2⟩ := hop _ _ _ _ _ o
  exact (h L tl).run f σ F H D (Sw.mutG S.st p hi rfl (fun _ z => z) (fun _ _ _ => rfl) ⟨v, ev, o2⟩ (p.nd i (get_lt hi)) (fun _ z => .inl z) (noAl_of ha) (fun _ _ _ z => ⟨_, _, _, rfl⟩) fun _ _ _ _ z => by cases z) q
/-- rows, as one told them -/
def RowsT (L : Lf) : Prop := L.top = none ∧ L.pr = false ∧ L.m ≤ big ∧ L.vs.length ≤ big
/-- rows and a paper -/
def PairT (L : Lf) : Prop := L.pr = false ∧ L.m ≤ big ∧ L.vs.length ≤ big ∧ ∃ t us, L.top = some (t, us) ∧ atI us 0 = some (.ref L.q)
theorem tup_in {K : PySem.W.Frag} {F H : Hp} {v : V} {P : List Addr} [Rp α] {x : α} (o : Ow.own K F H v (Rg.mk x) P) {a : Addr} {t : List V} (h : regP F H P a = some (.tup t)) : F a = some (.tup t) := by
  rcases regP_back h with ⟨c, e⟩ | ⟨_, s, z, e⟩
  · obtain ⟨_, us, h2, _⟩ := o.1 a c
    rw [h2] at e; cases e
  · cases z; exact e
/-! while it is one's own: seen, its lists told apart -/
/-- no lists told apart within -/
class NoM (α : Type) [Rp α] : Prop where
  of : ∀ {K : PySem.W.Frag} {F F' : Hp} {v : V} {x : α}, (∀ a o, F a = some o → (∀ ob vs, o ≠ .frz ob (.lst vs)) → F' a = some o) → Rp.rep K F v x → Rp.rep K F' v x
instance [Sc α] : NoM α := ⟨fun _ h => h⟩
theorem nom_all [Rp α] [NoM α] {K : PySem.W.Frag} {F F' : Hp} (i : ∀ a o, F a = some o → (∀ ob vs, o ≠ .frz ob (.lst vs)) → F' a = some o) {vs : List V} {xs : List α} (r : Paired (Rp.rep K F) vs xs) : Paired (Rp.rep K F') vs xs := Paired.mapP r fun _ _ h => NoM.of i h
instance [Rp α] [NoM α] : NoM (List α) := ⟨fun i h => by
  obtain ⟨a, o, e, h1, hz, vs, eo, rr⟩ := h
  subst eo
  exact ⟨a, _, e, i _ _ h1 (fun _ _ z => by cases z), hz, vs, rfl, nom_all i rr⟩⟩
instance [Rp α] [Rp β] [NoM α] [NoM β] : NoM (α × β) := ⟨fun i h => by
  obtain ⟨a, o, e, h1, u, w, eo, r1, r2⟩ := h
  subst eo
  exact ⟨a, _, e, i _ _ h1 (fun _ _ z => by cases z), u, w, rfl, NoM.of i r1, NoM.of i r2⟩⟩
/-- told apart at P -/
def mkP (F H : Hp) (P : List Addr) : Hp := fun a => if a ∈ P then match H a with
    | some (.lst vs) => some (mL vs)
    | _ => none
  else F a
theorem mkP_in {F H : Hp} {P : List Addr} {a : Addr} {vs : List V} (h : a ∈ P) (e : H a = some (.lst vs)) : mkP F H P a = some (mL vs) := by unfold mkP; rw [if_pos h, e]
theorem mkP_out {F H : Hp} {P : List Addr} {a : Addr} (h : a ∉ P) : mkP F H P a = F a := by unfold mkP; rw [if_neg h]
theorem mkP_inc {F H : Hp} {P : List Addr} (h : ∀ p ∈ P, F p = none) : Inc F (mkP F H P) := fun a o e => by
  by_cases c : a ∈ P
  · rw [h a c] at e; cases e
  · rw [mkP_out c]; exact e
theorem Sw.mk1 {K : PySem.W.Frag} {f : Fr} {σ : L2.St} {F H : Hp} [Rp α] {x : α} (S : Sw K f es σ F H) (h : es[i]? = some (.ow (Rg.mk x))) (na : noAl i es) : ∃ P, (∀ p ∈ P, F p = none ∧ ∃ vs, H p = some (.lst vs)) ∧ Sw K f (es.set i (.fz (Sn.mk x))) σ (mkP F H P) H := by
  obtain ⟨Ps, p⟩ := S.env
  obtain ⟨v, ev, r⟩ := p.ok i _ h
  have hi := get_lt h
  have hP : ∀ z ∈ Ps i, F z = none ∧ f.H z = none := fun z hz => ⟨(Ow.out r z hz).2, p.nw i z _ _ _ h hz⟩
  have hL : ∀ z ∈ Ps i, F z = none ∧ ∃ vs, H z = some (.lst vs) := fun z hz => ⟨(hP z hz).1, (r.1 z hz).2.imp fun _ w => w.1⟩
  have inc := mkP_inc (H := H) fun z hz => (hP z hz).1
  have rp : Rp.rep K (mkP F H (Ps i)) v (Sn.mk x) := Rp.mono (α := α) (fun a o e => by
    rcases regP_back e with ⟨c, e2⟩ | ⟨c, t, e2, k⟩
    · obtain ⟨_, vs, h3⟩ := hL a c
      rw [h3] at e2
      cases e2
      exact um_frz (mkP_in c h3)
    · rw [e2]
      exact um_of ((mkP_out c).trans k) fun _ _ z => by cases z) r.2
  have st : Stp f (mkP F H (Ps i)) H := ⟨S.st.f.trans inc, S.st.h, S.st.t, fun a o e => by
    by_cases c : a ∈ Ps i
    · obtain ⟨_, vs, h3⟩ := hL a c
      rw [mkP_in c h3] at e
      cases e
      exact .inr (.inr ⟨vs, rfl, h3⟩)
    · rw [mkP_out c] at e
      exact S.st.e a o e, fun a n1 n2 => by
    by_cases c : a ∈ Ps i
    · exact absurd (hP a c).2 n1
    · rw [mkP_out c]
      exact S.st.n a n1 n2, S.st.k⟩
  refine ⟨Ps i, hL, st, fun m => if m = i then [] else Ps m, by simp [p.len], fun m e' hm => ?_, fun m hm => ?_, fun m m' z h1 h2 p1 p2 => ?_, fun m z h1 p1 => ?_, fun m z γ r w hm p1 => ?_, fun m m' γ r w hm => ?_⟩
  · by_cases z : m = i
    · subst z
      rw [List.getElem?_set_self hi] at hm
      cases hm
      rw [if_pos rfl]; exact ⟨rfl, v, ev, rp⟩
    · rw [List.getElem?_set_ne (Ne.symm z)] at hm
      rw [if_neg z]
      refine (p.ok m e' hm).but inc (fun _ _ => rfl) fun w hw => ?_
      rw [mkP_out fun k => z (p.dj m i w (get_lt hm) hi hw k)]; exact ((p.ok m e' hm).out w hw).2
  · by_cases z : m = i
    · rw [if_pos z]; exact List.nodup_nil
    · rw [if_neg z]; exact p.nd m (by simpa using hm)
  · rw [List.length_set] at h1 h2
    by_cases y : m = i
    · rw [if_pos y] at p1; cases p1
    · rw [if_neg y] at p1
      by_cases y2 : m' = i
      · rw [if_pos y2] at p2; cases p2
      · rw [if_neg y2] at p2; exact p.dj m m' z h1 h2 p1 p2
  · rw [List.length_set] at h1
    by_cases y : m = i
    · rw [if_pos y] at p1; cases p1
    · rw [if_neg y] at p1; exact p.fr m z h1 p1
  · by_cases y : m = i
    · rw [if_pos y] at p1; cases p1
    · rw [if_neg y] at p1
      rw [List.getElem?_set_ne (Ne.symm y)] at hm
      exact p.nw m z γ r w hm p1
  · by_cases y : m = i
    · subst y
      rw [List.getElem?_set_self hi] at hm
      cases hm
    · rw [List.getElem?_set_ne (Ne.symm y)] at hm
      obtain ⟨hk, w', Q, ew, hQ, o⟩ := p.al m m' γ r w hm
      have hki : m' ≠ i := fun z2 => na m γ r w (z2 ▸ hm)
      refine ⟨by rw [List.length_set]; exact hk, w', Q, ew, fun z hz => ?_, ?_⟩
      · rw [if_neg hki]; exact hQ z hz
      · refine Ow.mono inc (fun _ _ => rfl) (fun z hz => ?_) o
        rw [mkP_out fun y => hki (p.dj m' i z hk hi (hQ z hz) y)]; exact (p.out hk z (hQ z hz)).2
/-- what is at P is forgotten -/
def offP (F : Hp) (P : List Addr) : Hp := fun a => if a ∈ P then none else F a
theorem offP_out {F : Hp} {P : List Addr} {a : Addr} (h : a ∉ P) : offP F P a = F a := by unfold offP; rw [if_neg h]
theorem offP_in {F : Hp} {P : List Addr} {a : Addr} (h : a ∈ P) : offP F P a = none := by unfold offP; rw [if_pos h]
theorem offP_none {F : Hp} {P : List Addr} {a : Addr} (h : F a = none) : offP F P a = none := by
  by_cases c : a ∈ P
  · exact offP_in c
  · rw [offP_out c]; exact h
theorem off_step {F H F1 H1 : Hp} {P : List Addr} (s : Sub F H) (hP : ∀ p ∈ P, F p = none ∧ ∃ vs, H p = some (.lst vs)) (t : St0 (mkP F H P) H F1 H1) : St0 F H (offP F1 P) H1 ∧ ∀ a o, F1 a = some o → (∀ ob vs, o ≠ .frz ob (.lst vs)) → offP F1 P a = some o := by
  refine ⟨⟨fun a o e => ?_, t.h, t.t, fun a o e => ?_, fun a n1 n2 => ?_, t.k⟩, fun a o e n => ?_⟩
  · have e' : F a = some o := e
    have c : a ∉ P := fun c => by rw [(hP a c).1] at e'; cases e'
    show offP F1 P a = some o
    rw [offP_out c]
    exact t.f a o ((mkP_out c).trans e')
  · by_cases c : a ∈ P
    · rw [offP_in c] at e; cases e
    · rw [offP_out c] at e
      exact t.e a o e
  · by_cases c : a ∈ P
    · exact .inl (offP_in c)
    · rcases t.n a n1 ((mkP_out c).trans n2) with w | w
      · exact .inl (offP_none w)
      · exact .inr w
  · have c : a ∉ P := fun c => by
      obtain ⟨_, vs, h⟩ := hP a c
      have z := t.f a _ (mkP_in c h)
      rw [e] at z
      cases z
      exact n _ _ rfl
    rw [offP_out c]; exact e
theorem thaw_mN [Rp α] [Rp β] [NoM β] {x : α} {y : List β} (hi : es[i]? = some (.ow (Rg.mk x))) (h : NJ X (es.set i (.fz (Sn.mk x))) e y) (ha : alFree i es = true := by rfl) : NJ X es e y := .mk fun f σ F H S Q q => by
  obtain ⟨P, hP, S'⟩ := S.mk1 hi (noAl_of ha)
  exact h f σ _ H S' Q fun v F1 H1 P1 t r nd nw => by
    obtain ⟨t2, k⟩ := off_step S.sub hP t
    obtain ⟨a, vs, ev, h1, rr, hz, eP⟩ := lst_of r
    have f1 := (Ow.out r a (by rw [eP]; simp)).2
    exact q v _ H1 P1 t2 ⟨a, _, ev, eP, h1, offP_none f1, hz, vs, rfl, nom_all k rr⟩ nd nw
/-- the items of a list that is seen -/
theorem h_listSS [Rp α] {xs : List α} (h : SL X es iter xs) : IH X tg es iter (xs.map Sn.mk) := fun f σ F H S R q =>
  piR (pi_list peW) (h.run f σ F H S _ fun p vs F1 H1 t1 h1 rr hz => ⟨p, rfl, ⟨vs, .inl h1⟩, q _ F1 H1 t1 ⟨by rw [List.length_map]; exact hz, fun i F2 H2 i2 j2 s2 => by
    have hH2 : Rd H2 p (.lst vs) := rd_inc h1 j2
    have rr2 : Paired (Rp.rep X.K (um F2)) vs xs := pairedM (um_inc i2) rr
    refine ⟨fun ei => ⟨vs, .inl hH2, by rw [pairedLen rr2]; rw [List.length_map] at ei; omega⟩, fun x hx => ?_⟩
    rw [List.getElem?_map] at hx
    cases e : xs[i]? with
    | none => rw [e] at hx; cases hx
    | some y =>
      rw [e] at hx
      cases hx
      obtain ⟨w, hw, rw_⟩ := pairedGet rr2 e
      refine ⟨⟨vs, w, .inl hH2, hw⟩, fun v' H' y => ?_⟩
      obtain ⟨eH, y⟩ := y
      subst eH
      have ev : vs[i]? = some v' := y vs (.inl hH2)
      rw [hw] at ev
      cases ev
      exact ⟨F2, St0.refl s2, rw_⟩⟩⟩)
theorem f_sn2 [Rp α] [Rp β] {k} {x : α × β} (ha : FJ X es a (Sn.mk x)) : FJ X es (.Subscript a (.Constant (.int 1) k p2) pos) (Sn.mk x.2) := .mk fun f σ F H S Q q =>
  peR (pe_ix ix_tup peW pe_int (fun _ _ => rfl)) (ha f σ F H S _ fun v F1 H1 t1 r1 => by
    obtain ⟨p, o, e, h1, u, w, eo, r2, r3⟩ := (show Rp.rep X.K (um F1) v x from r1)
    subst eo
    exact ⟨p, _, 1, w, e, rfl, .inl (.inl ((t1.e p _ (um_tup h1)).nd fun z => z)), rfl, q _ F1 H1 t1 r3⟩)
instance noDoRg [Rp α] : NoDo (Rg α) where
  less {K F H v y P p ks} h r := ⟨fun c hc => ⟨less_none (r.1 c hc).1, (r.1 c hc).2⟩, Rp.mono (fun c o e => by
    rcases regP_back e with ⟨c1, e2⟩ | ⟨c1, t, e2, k⟩
    · rw [regP_in c1]; exact e2
    · rw [e2]
      exact regP_tup c1 (less_to h (fun l z => by cases z) k)) r.2⟩
end
section
variable {X : Cx} {es : List En} {a b c : Expr} {pos apos : Pos} {α β κ : Type}
end
end Ly
namespace Ly
open PySem PySem.Spec PyProof.Rows L2 TL LamX
/-! an answer whose lists are new, the tables lent -/
section
variable {X : Cx} {es es1 es2 as : List En} {a b c e tg iter : Expr} {args : List Expr} {body : List Stmt} {pos p p2 : Pos} {α : Type} {j k ig i : Nat} {ps : List Str} {n : Str} {GG : List En → En → Prop} {ts : List (Addr × Str)} {bb : Addr} {st : Stmt}
/-! what is walked is held in a slot that the program does not see -/
end
end Ly
namespace Ly
open PySem PySem.Spec PyProof.Rows L2 TL LamX
/-! a list of two different things -/
structure Two (α β : Type) where
  a : α
  b : β
deriving DecidableEq
instance rpTwo {α β : Type} [Rp α] [Rp β] : Rp (Two α β) where
  rep K H v x := ∃ p u w, v = .ref p ∧ H p = some (.lst [u, w]) ∧ Rp.rep K H u x.a ∧ Rp.rep K H w x.b
  mono i h := by
    obtain ⟨p, u, w, e, h1, h2, h3⟩ := h
    exact ⟨p, u, w, e, i _ _ h1, Rp.mono i h2, Rp.mono i h3⟩
instance datTwo {α β : Type} [Rp α] [DecidableEq α] [Rp β] [DecidableEq β] {n m : Nat} [DatN α n] [DatN β m] : DatN (Two α β) (max n m + 1) where
  d x := .list [Dat.d x.a, Dat.d x.b]
  dp {K F H v x} s r := by
    obtain ⟨p, u, w, e, h1, r1, r2⟩ := r
    rw [e]
    exact .lst (.inl (.inl ((s p _ h1).nd fun z => z))) (.cons (Dat.dp s r1) (.cons (Dat.dp s r2) .nil))
  lay {K F v x} r := by
    obtain ⟨p, u, w, e, h1, r1, r2⟩ := r
    refine layAll fun d hd => ?_
    rcases List.mem_cons.mp hd with z | hd
    · rw [z]; exact Dat.lay r1
    · rw [List.mem_singleton.mp hd]; exact Dat.lay r2
  eq x y := by
    show (PyData.eqv (Dat.d x.a) (Dat.d y.a) && (PyData.eqv (Dat.d x.b) (Dat.d y.b) && true)) = _
    rw [Dat.eq, Dat.eq, Bool.eq_iff_iff]
    cases x
    cases y
    simp
  dep x := by
    show PyData.depthAll [Dat.d x.a, Dat.d x.b] + 1 ≤ _
    refine Nat.succ_le_succ (depAll fun d hd => ?_)
    rcases List.mem_cons.mp hd with z | hd
    · rw [z]; exact Nat.le_trans (DatN.dep x.a) (Nat.le_max_left _ _)
    · rw [List.mem_singleton.mp hd]; exact Nat.le_trans (DatN.dep x.b) (Nat.le_max_right _ _)
/-- seen through tuples alone -/
class Tu (α : Type) [Rp α] : Prop where
  of : ∀ {K : PySem.W.Frag} {F F' : Hp} {v : V} {x : α}, (∀ a t, F a = some (.tup t) → F' a = some (.tup t)) → Rp.rep K F v x → Rp.rep K F' v x
instance [Sc α] : Tu α := ⟨fun _ h => h⟩
instance [Rp α] [Rp β] [Tu α] [Tu β] : Tu (α × β) := ⟨fun i h => by
  obtain ⟨a, o, e, h1, u, w, eo, r1, r2⟩ := h
  subst eo
  exact ⟨a, _, e, i _ _ h1, u, w, rfl, Tu.of i r1, Tu.of i r2⟩⟩
/-- no list -/
class Nol (α : Type) [Rp α] : Prop where
  no : ∀ {K : PySem.W.Frag} {F : Hp} {a : Addr} {x : α} {vs : List V}, Rp.rep K F (.ref a) x → F a ≠ some (.lst vs)
instance : Nol Str := ⟨fun h => by
  have := h.1
  cases this⟩
instance [Rp α] [Rp β] : Nol (α × β) := ⟨fun h z => by
  obtain ⟨a, o, e, h1, u, w, eo, r1, r2⟩ := h
  subst eo
  cases e
  rw [h1] at z
  cases z⟩
/-- jobs whose lists are no lists told apart -/
structure JobsP where
  j : JobsV
instance clJobsP : Cl JobsP where
  cell K H o x := ∃ dx v w l, o = .ins (CJ K) dx (jF v w l) ∧ Rp.rep K H v x.j.row ∧ Rp.rep K H w x.j.pairs ∧ Rp.rep K H l x.j.later
  mono {K H H' o x} i h := by
    obtain ⟨dx, v, w, l, e, h1, h2, h3⟩ := h
    exact ⟨dx, v, w, l, e, Rp.mono i h1, Rp.mono i h2, Rp.mono i h3⟩
instance {κ α : Type} [Sc κ] [Ky κ] [Rp α] [NoM α] : NoM (Dct κ α) := ⟨fun i h => by
  obtain ⟨a, o, e, h1, hz, nd, ks, eo, rr⟩ := h
  subst eo
  exact ⟨a, _, e, i _ _ h1 (fun _ _ z => by cases z), hz, nd, ks, rfl, Paired.mapP rr fun _ _ z => ⟨z.1, z.2.1, NoM.of i z.2.2⟩⟩⟩
instance : NoM JobsP := ⟨fun i h => by
  obtain ⟨a, o, e, h1, dx, u, w, l, eo, r1, r2, r3⟩ := h
  subst eo
  exact ⟨a, _, e, i _ _ h1 (fun _ _ z => by cases z), dx, u, w, l, rfl, NoM.of i r1, NoM.of i r2, NoM.of i r3⟩⟩
section
variable {X : Cx} {es es1 es2 as : List En} {a b c e : Expr} {args : List Expr} {pos p p2 : Pos} {α β : Type} {i j k : Nat} {ps : List Str} {st : Stmt} {L : Lf} {q : Addr}
/-! opened, then changed, and no more is said -/
def TwoT (L : Lf) : Prop := L.top = none ∧ L.pr = false ∧ L.m ≤ big ∧ ∃ c1 c2, L.vs = [.ref c1, .ref c2] ∧ (c1 ∈ L.P ∧ c1 ≠ L.q) ∧ c2 ∈ L.P ∧ c2 ≠ L.q
end
end Ly
namespace Ly
open PySem PySem.Spec PyProof.Rows L2 TL LamX
/-! what is told of windows: read, opened, emptied -/
namespace Told
def first : Told → Int
  | .plan _ => 0
  | .crowd a _ _ => a
def last : Told → Int
  | .plan _ => 0
  | .crowd _ z _ => z
def len : Told → Int
  | .plan _ => 2
  | .crowd _ _ _ => 4
def gone : Told → Told
  | .plan l => .plan l
  | .crowd a z _ => .crowd a z []
end Told
section
variable {X : Cx} {es es1 es2 : List En} {a b c d e tg iter : Expr} {pos p p2 : Pos} {α β γ δ : Type} {i j k : Nat} {st : Stmt}
theorem f_rows {kk} {x : Told} (hx : x.isCrowd = false) (ha : FJ X es a x) : FJ X es (.Subscript a (.Constant (.int 1) kk p2) pos) x.rows := by
  cases x with
  | plan l => exact f_tp2b (show FJ X es a (("plan" : Str), l) from ⟨ha.run⟩)
  | crowd x y ns => cases hx
theorem r_first {kk} {x : Told} (hx : x.isCrowd = true) (ha : FJ X es a x) : RJ X es (.Subscript a (.Constant (.int 1) kk p2) pos) x.first := by
  cases x with
  | plan l => cases hx
  | crowd x y ns => exact (f_tp4b (show FJ X es a (Tp4.mk ("crowd" : Str) x y ns) from ⟨ha.run⟩)).rd
theorem r_last {kk} {x : Told} (hx : x.isCrowd = true) (ha : FJ X es a x) : RJ X es (.Subscript a (.Constant (.int 2) kk p2) pos) x.last := by
  cases x with
  | plan l => cases hx
  | crowd x y ns => exact (f_tp4c (show FJ X es a (Tp4.mk ("crowd" : Str) x y ns) from ⟨ha.run⟩)).rd
theorem r_lenTold {x : Told} (hg : Gl X "len") (hm : X.mg "len" = none) (ha : FJ X es a x) (s1 : starEach [a] X.env = (false, eval a X.env) :: starEach [] X.env := by rfl) : RJ X es (.Call (.Name "len" p) [a] [] pos) x.len := by
  cases x with
  | plan l => exact r_lenN (m := 2) rfl hg hm (show FJ X es a (("plan" : Str), l) from ⟨ha.run⟩).rd s1
  | crowd x y ns => exact r_lenN (m := 4) rfl hg hm (show FJ X es a (Tp4.mk ("crowd" : Str) x y ns) from ⟨ha.run⟩).rd s1
/-! seen -/
theorem f_snRows {kk} {x : Told} (hx : x.isCrowd = false) (ha : FJ X es a (Sn.mk x)) : FJ X es (.Subscript a (.Constant (.int 1) kk p2) pos) (Sn.mk x.rows) := by
  cases x with
  | plan l => exact f_sn2 (x := (("plan" : Str), l)) (show FJ X es a (Sn.mk (("plan" : Str), l)) from ⟨ha.run⟩)
  | crowd x y ns => cases hx
theorem f_sn4d [Rp α] [Rp β] [Rp γ] [Rp δ] {kk} {x : Tp4 α β γ δ} (ha : FJ X es a (Sn.mk x)) : FJ X es (.Subscript a (.Constant (.int 3) kk p2) pos) (Sn.mk x.d) := .mk fun f σ F H S Q q =>
  peR (pe_ix ix_tup peW pe_int (fun _ _ => rfl)) (ha f σ F H S _ fun v F1 H1 t1 r1 => by
    obtain ⟨p, o, e, h1, v0, v1, v2, v3, eo, g0, g1, g2, g3⟩ := (show Rp.rep X.K (um F1) v x from r1)
    subst eo
    exact ⟨p, _, 3, v3, e, rfl, .inl (.inl ((t1.e p _ (um_tup h1)).nd fun z => z)), rfl, q _ F1 H1 t1 g3⟩)
theorem f_snNames {kk} {x : Told} (hx : x.isCrowd = true) (ha : FJ X es a (Sn.mk x)) : FJ X es (.Subscript a (.Constant (.int 3) kk p2) pos) (Sn.mk x.names) := by
  cases x with
  | plan l => cases hx
  | crowd x y ns => exact f_sn4d (x := Tp4.mk ("crowd" : Str) x y ns) (show FJ X es a (Sn.mk (Tp4.mk ("crowd" : Str) x y ns)) from ⟨ha.run⟩)
/-- for n, row in .. over pairs that are seen -/
theorem ct_tup2S {vs : List Nat} [Sc α] [Rp β] {x : Sn (α × β)} (hg : PG X tg (gTup X.K 2 (gCons (gName i) (gCons (gName j) gNil)))) (hv : i ∈ vs ∧ j ∈ vs) (hl : i < es.length ∧ j < es.length) (hal : noAls es = true := by rfl) : CT X tg vs es x ((es.set i (.fz x.x.1)).set j (.fz (Sn.mk x.x.2))) := fun f σ F H v S r Q q => by
  obtain ⟨p, o, e, h1, u, w, eo, r1, r2⟩ := (show Rp.rep X.K (um F) v x.x from r)
  subst eo
  exact pgR hg ⟨p, _, e, .inl (.inl ((S.sub p _ (um_tup h1)).nd fun z => z)), rfl, u, _, rfl, w, _, rfl, rfl, q _ F H ((S.setF hl.1 (show Rp.rep X.K F u x.x.1 from r1) (noAls_of hal _)).setF (by simpa using hl.2) (show Rp.rep X.K F w (Sn.mk x.x.2) from r2) (noAls_of (noAls_set hal) _)) (St0.refl S.sub) (by rw [wipe_set hv.2, wipe_set hv.1])⟩
end
section
variable {X : Cx} {es es1 es2 : List En} {i : Nat} {α β : Type}
theorem thaw_mNRd [Rp α] [Rp β] [NoM β] {x : α} {y : List β} {t : TE} (hi : es[i]? = some (.ow (Rg.mk x))) (h : NRd X.K (es.set i (.fz (Sn.mk x))) t y) (ha : alFree i es = true := by rfl) : NRd X.K es t y := .mk fun f σ F H S Q q => by
  obtain ⟨P, hP, S'⟩ := S.mk1 hi (noAl_of ha)
  exact h.run f σ _ H S' Q fun v F1 H1 P1 t r nd nw => by
    obtain ⟨t2, k⟩ := off_step S.sub hP t
    obtain ⟨a, vs, ev, h1, rr, hz, eP⟩ := lst_of r
    have f1 := (Ow.out r a (by rw [eP]; simp)).2
    exact q v _ H1 P1 t2 ⟨a, _, ev, eP, h1, offP_none f1, hz, vs, rfl, nom_all k rr⟩ nd nw
end
instance : KindOf Told := ⟨"tuple", fun {K F H v x} s r => by
  cases x with
  | plan l => exact KindOf.ty (α := Str × List (Int × List Str)) (x := (("plan" : Str), l)) s r
  | crowd a z ns => exact KindOf.ty (α := Tp4 Str Int Int (List Str)) (x := Tp4.mk ("crowd" : Str) a z ns) s r⟩
instance : Ft Told := ⟨fun {K F v x} h => by
  cases x with
  | plan l => exact Ft.ft (α := Str × List (Int × List Str)) (x := (("plan" : Str), l)) h
  | crowd a z ns => exact Ft.ft (α := Tp4 Str Int Int (List Str)) (x := Tp4.mk ("crowd" : Str) a z ns) h⟩
instance datTp4' {α β γ δ : Type} [Rp α] [DecidableEq α] [Rp β] [DecidableEq β] [Rp γ] [DecidableEq γ] [Rp δ] [DecidableEq δ] [DecidableEq (Tp4 α β γ δ)] {n m l o : Nat} [DatN α n] [DatN β m] [DatN γ l] [DatN δ o] : DatN (Tp4 α β γ δ) (max n (max m (max l o)) + 1) where
  d x := .tuple [Dat.d x.a, Dat.d x.b, Dat.d x.c, Dat.d x.d]
  dp {K F H v x} s r := by
    obtain ⟨p, o, e, h1, v0, v1, v2, v3, eo, r0, r1, r2, r3⟩ := r
    subst eo
    rw [e]
    exact .tup (.inl (.inl ((s p _ h1).nd fun z => z))) (.cons (Dat.dp s r0) (.cons (Dat.dp s r1) (.cons (Dat.dp s r2) (.cons (Dat.dp s r3) .nil))))
  lay {K F v x} r := by
    obtain ⟨p, o, e, h1, v0, v1, v2, v3, eo, r0, r1, r2, r3⟩ := r
    subst eo
    show ((Dat.d x.a).canLay0 && ((Dat.d x.b).canLay0 && ((Dat.d x.c).canLay0 && ((Dat.d x.d).canLay0 && true)))) = true
    rw [Dat.lay r0, Dat.lay r1, Dat.lay r2, Dat.lay r3]; rfl
  eq x y := by
    show (PyData.eqv (Dat.d x.a) (Dat.d y.a) && (PyData.eqv (Dat.d x.b) (Dat.d y.b) && (PyData.eqv (Dat.d x.c) (Dat.d y.c) && (PyData.eqv (Dat.d x.d) (Dat.d y.d) && true)))) = _
    rw [Dat.eq, Dat.eq, Dat.eq, Dat.eq, Bool.eq_iff_iff]
    cases x
    cases y
    simp
  dep x := by
    have b0 := DatN.dep x.a
    have b1 := DatN.dep x.b
    have b2 := DatN.dep x.c
    have b3 := DatN.dep x.d
    show max (Dat.d x.a).depth (max (Dat.d x.b).depth (max (Dat.d x.c).depth (max (Dat.d x.d).depth 0))) + 1 ≤ _
    omega
def toldD : Told → PyData
  | .plan l => Dat.d (α := Str × List (Int × List Str)) (("plan" : Str), l)
  | .crowd a z ns => Dat.d (α := Tp4 Str Int Int (List Str)) (Tp4.mk ("crowd" : Str) a z ns)
instance datTold : DatN Told 4 where
  d := toldD
  dp {K F H v x} s r := by
    cases x with
    | plan l => exact Dat.dp (α := Str × List (Int × List Str)) s r
    | crowd a z ns => exact Dat.dp (α := Tp4 Str Int Int (List Str)) s r
  lay {K F v x} r := by
    cases x with
    | plan l => exact Dat.lay (α := Str × List (Int × List Str)) (x := (("plan" : Str), l)) r
    | crowd a z ns => exact Dat.lay (α := Tp4 Str Int Int (List Str)) (x := Tp4.mk ("crowd" : Str) a z ns) r
  eq x y := by
    cases x with
    | plan l =>
      cases y with
      | plan m =>
        refine (Dat.eq (α := Str × List (Int × List Str)) (("plan" : Str), l) (("plan" : Str), m)).trans ?_
        rw [Bool.eq_iff_iff, decide_eq_true_iff, decide_eq_true_iff]
        simp
      | crowd a z ns =>
        show (PyData.eqv (Dat.d ("plan" : Str)) (Dat.d ("crowd" : Str)) && PyData.eqvAll [Dat.d l] [Dat.d a, Dat.d z, Dat.d ns]) = _
        rw [Dat.eq]
        rfl
    | crowd a z ns =>
      cases y with
      | plan m =>
        show (PyData.eqv (Dat.d ("crowd" : Str)) (Dat.d ("plan" : Str)) && PyData.eqvAll [Dat.d a, Dat.d z, Dat.d ns] [Dat.d m]) = _
        rw [Dat.eq]
        rfl
      | crowd a' z' ns' =>
        refine (Dat.eq (α := Tp4 Str Int Int (List Str)) (Tp4.mk ("crowd" : Str) a z ns) (Tp4.mk ("crowd" : Str) a' z' ns')).trans ?_
        rw [Bool.eq_iff_iff, decide_eq_true_iff, decide_eq_true_iff]
        simp
  dep x := by
    cases x with
    | plan l => exact Nat.le_trans (DatN.dep (α := Str × List (Int × List Str)) (("plan" : Str), l)) (by decide)
    | crowd a z ns => exact Nat.le_trans (DatN.dep (α := Tp4 Str Int Int (List Str)) (Tp4.mk ("crowd" : Str) a z ns)) (by decide)
/-- the rows of a plan, by turns -/
def ToldT (L : Lf) : Prop := L.pr = true ∧ L.m ≤ big ∧ L.vs.length ≤ big ∧ ∃ t us, L.top = some (t, us) ∧ atI us 1 = some (.ref L.q)
theorem open_told {x : Told} (hx : x.isCrowd = false) (K : PySem.W.Frag) (F H : Hp) (v : V) (P : List Addr) (o : Ow.own K F H v (Rg.mk x) P) : ∃ L : Lf, ToldT L ∧ Ow.own K F H v L P := by
  cases x with
  | crowd a z ns => cases hx
  | plan l =>
    have tin : ∀ {a : Addr} {t : List V}, regP F H P a = some (.tup t) → F a = some (.tup t) := fun h => tup_in o h
    obtain ⟨k, t, u, e, h1, v0, v1, eo, r0, r1⟩ := o
    subst eo e
    have ft := tin h1
    obtain ⟨q, u, e, h2, hz, vs, eo, rr⟩ := r1
    subst e eo
    rcases regP_back h2 with ⟨c1, h3⟩ | ⟨_, _, z, _⟩
    · refine ⟨⟨.ref t, P, q, vs, big, some (t, [v0, .ref q]), true⟩, ⟨rfl, Nat.le_refl _, by show vs.length ≤ big; rw [pairedLen rr]; exact hz, t, _, rfl, rfl⟩, rfl, rfl, c1, h3, fun w hw => ?_, k, rfl, ft⟩
      obtain ⟨n, hn⟩ := List.mem_iff_getElem?.mp hw
      have hl : n < l.length := by
        rw [← pairedLen rr]
        exact (List.getElem?_eq_some_iff.mp hn).1
      obtain ⟨w', hw', r⟩ := pairedGet rr (List.getElem?_eq_getElem hl)
      rw [hn] at hw'
      cases hw'
      obtain ⟨tt, o, e, g1, y0, y1, eo, s0, s1⟩ := r
      subst e eo
      have e0 : y0 = .int (l[n]).1 := s0.1
      subst e0
      obtain ⟨c, o, e, g2, hz2, us, eo, s2⟩ := s1
      subst e eo
      rcases regP_back g2 with ⟨c2, g3⟩ | ⟨_, _, z, _⟩
      · refine ⟨c, c2, fun z => ?_, .inr ⟨rfl, tt, _, rfl, tin g1⟩⟩
        have z : c = q := z
        rw [z, h3] at g3
        cases g3
        obtain ⟨m, hm⟩ := List.mem_iff_getElem?.mp hw
        have hm2 : m < ((l[n]).2).length := by
          rw [← pairedLen s2]
          exact (List.getElem?_eq_some_iff.mp hm).1
        obtain ⟨w2, hw2, r3⟩ := pairedGet s2 (List.getElem?_eq_getElem hm2)
        rw [hm] at hw2
        cases hw2
        have := r3.1
        cases this
      · cases z
    · cases z
section
variable {X : Cx} {es es1 es2 : List En} {a b c d e tg iter : Expr} {pos p p2 : Pos} {i j k : Nat} {st : Stmt}
/-- the names of a crowd are emptied -/
theorem s_toldClr {kk} {x : Told} (hst : PS X st (tDrop (tBM0 X.K "list" rClear (wpE X (.Subscript a (.Constant (.int 3) kk p2) pos))))) (hx : x.isCrowd = true) (hv : PE X a (tVar i)) (hi : es[i]? = some (.ow (Rg.mk x))) (hes : es.set i (.ow (Rg.mk x.gone)) = es2 := by rfl) (ha : alFree i es = true := by rfl) : E1 X es st es2 := .mk fun f σ F H D S q =>
  psR hst (by
    subst hes
    cases x with
    | plan l => cases hx
    | crowd z0 z1 ns =>
    obtain ⟨Ps, pp⟩ := S.env
    obtain ⟨v, ev, o⟩ := pp.ok i _ hi
    have hil := get_lt hi
    have o' := o
    have nw : ∀ z ∈ Ps i, f.H z = none := fun z hz => pp.nw i z _ _ _ hi hz
    have ft : ∀ {a : Addr} {t : List V}, regP F H (Ps i) a = some (.tup t) → F a = some (.tup t) := fun h => tup_in o h
    obtain ⟨k0, t, u, e, h1, v0, v1, v2, v3, eo, r0, r1, r2, r3⟩ := o
    subst eo e
    have h1 := ft h1
    obtain ⟨q3, u, e, h2, hz, vs, eo, rr⟩ := r3
    subst e eo
    rcases regP_back h2 with ⟨c1, h3⟩ | ⟨_, _, z, _⟩
    · have tH : H t = some (.tup [v0, v1, v2, .ref q3]) := (S.sub t _ h1).nd fun z => z
      have nt : t ∉ Ps i := fun z => by
        have := (Ow.out o' t z).2
        rw [h1] at this
        cases this
      refine peR (pe_ix ix_tup hv pe_int (fun _ _ => rfl)) ⟨.ref t, sl_of ev, t, [v0, v1, v2, .ref q3], 3, .ref q3, rfl, rfl, .inl (.inl tH), rfl, ?_⟩
      refine ⟨.inl ⟨rfl, vs, .inl (.inl h3)⟩, q3, vs, rfl, rfl, h3, q _ F _ ?_⟩
      refine Sw.mutG S.st pp hi rfl (P' := Ps i) (fun w hw => ?_) (fun w hw _ => upd_ne fun c => hw (by rw [c]; exact c1)) ⟨_, ev, fun p hp => ?_, t, _, rfl, ?_, v0, v1, v2, .ref q3, rfl, ?_, ?_, ?_, q3, _, rfl, (regP_in c1).trans upd_same, Nat.zero_le _, [], rfl, .nil⟩ (pp.nd i hil) (fun w hw => .inl hw) (noAl_of ha) (fun _ _ _ _ => ⟨_, _, _, rfl⟩) fun _ _ _ _ z => by cases z
      · by_cases c : w = q3
        · rw [c, upd_same]; intro c; cases c
        · rw [upd_ne c]; exact hw
      · refine ⟨(k0 p hp).1, ?_⟩
        by_cases c : p = q3
        · rw [c, upd_same]; exact ⟨[], rfl, Nat.zero_le _⟩
        · rw [upd_ne c]; exact (k0 p hp).2
      · exact regP_tup nt h1
      · exact r0
      · exact r1
      · exact r2
    · cases z)
end
end Ly
namespace Lw
open PySem PySem.Spec PyProof.Rows L2 Ly TL
def top (i : Nat) : Stmt := PySem.Challenge.pw_levelbench_k71_whole_windows_or_a_crowd.main.body.getD i (.Pass ⟨0, 0, 0, 0⟩)
end Lw
namespace Lh
open PySem PySem.Spec PyProof.Rows L2 Ly TL Lw
def d_m_cell : He.DefD := ⟨("_law_cell", none), "_law_cell", "_law_cell", defArgs (top 22), defBody (top 22), defScope (top 22), [], []⟩
def d_m_purse : He.DefD := ⟨("_law_purse", none), "_law_purse", "_law_purse", defArgs (top 19), defBody (top 19), defScope (top 19), [], []⟩
def d_m_take : He.DefD := ⟨("_law_take", none), "_law_take", "_law_take", defArgs (top 20), defBody (top 20), defScope (top 20), [], []⟩
def d_m_far : He.DefD := ⟨("_law_far", none), "_law_far", "_law_far", defArgs (top 24), defBody (top 24), defScope (top 24), [], []⟩
def d_m_names : He.DefD := ⟨("_law_names", none), "_law_names", "_law_names", defArgs (top 21), defBody (top 21), defScope (top 21), [], []⟩
def d_m_windows : He.DefD := ⟨("_law_windows", none), "_law_windows", "_law_windows", defArgs (top 25), defBody (top 25), defScope (top 25), [], []⟩
def d_m_benches : He.DefD := ⟨("_law_benches", none), "_law_benches", "_law_benches", defArgs (top 23), defBody (top 23), defScope (top 23), [], []⟩
def d_p_is_whole : He.DefD := ⟨("is_whole", none), "is_whole", "is_whole", defArgs (top 6), defBody (top 6), defScope (top 6), [], []⟩
def d_p_want_benches : He.DefD := ⟨("want_benches", none), "want_benches", "want_benches", defArgs (top 7), defBody (top 7), defScope (top 7), [], []⟩
def d_p_is_plan_word : He.DefD := ⟨("is_plan_word", none), "is_plan_word", "is_plan_word", defArgs (top 11), defBody (top 11), defScope (top 11), [], []⟩
def d_p_is_window : He.DefD := ⟨("is_window", none), "is_window", "is_window", defArgs (top 14), defBody (top 14), defScope (top 14), [], []⟩
def d_p_want_windows : He.DefD := ⟨("want_windows", none), "want_windows", "want_windows", defArgs (top 15), defBody (top 15), defScope (top 15), [], []⟩
def d_p_crowd_to : He.DefD := ⟨("crowd_to", none), "crowd_to", "crowd_to", defArgs (top 16), defBody (top 16), defScope (top 16), [], []⟩
def d_p_windowed : He.DefD := ⟨("windowed", none), "windowed", "windowed", defArgs (top 17), defBody (top 17), defScope (top 17), [], []⟩
def d_m_whole : He.DefD := ⟨("_law_whole", none), "_law_whole", "_law_whole", defArgs (top 26), defBody (top 26), defScope (top 26), [], []⟩
def d_m_is_plan : He.DefD := ⟨("_law_is_plan", none), "_law_is_plan", "_law_is_plan", defArgs (top 27), defBody (top 27), defScope (top 27), [], []⟩
def d_m_is_crowd : He.DefD := ⟨("_law_is_crowd", none), "_law_is_crowd", "_law_is_crowd", defArgs (top 28), defBody (top 28), defScope (top 28), [], []⟩
def d_m_is_answer : He.DefD := ⟨("_law_is_answer", none), "_law_is_answer", "_law_is_answer", defArgs (top 29), defBody (top 29), defScope (top 29), [], []⟩
def d_m_right : He.DefD := ⟨("_law_right", none), "_law_right", "_law_right", defArgs (top 30), defBody (top 30), defScope (top 30), [], []⟩
def d_m_law : He.DefD := ⟨("law", none), "law", "law", defArgs (top 31), defBody (top 31), defScope (top 31), [], []⟩
def fn : List He.DefD := ([d_m_cell, d_m_purse, d_m_take, d_m_far, d_m_names, d_m_windows, d_m_benches, d_p_is_whole, d_p_want_benches, d_p_is_plan_word, d_p_is_window, d_p_want_windows, d_p_crowd_to, d_p_windowed, d_m_whole, d_m_is_plan, d_m_is_crowd, d_m_is_answer, d_m_right, d_m_law] : List He.DefD)
def fa : List He.Fa := ([.glo "_law_cell", .glo "_law_purse", .glo "_law_take", .glo "_law_far", .glo "_law_names", .glo "_law_windows", .glo "_law_benches", .glo "is_whole", .glo "want_benches", .glo "is_plan_word", .glo "is_window", .glo "want_windows", .glo "crowd_to", .glo "windowed", .glo "_law_whole", .glo "_law_is_plan", .glo "_law_is_crowd", .glo "_law_is_answer", .glo "_law_right", .glo "law", .int "LONGEST_WORD" 8, .int "MOST_JOBS" 20, .str "PLAN_LETTERS" "abcdefghijklmnopqrstuvwxyz", .free "all", .free "any", .free "bool", .free "dict", .free "int", .free "isinstance", .free "len"] : List He.Fa) ++ ([.free "list", .free "max", .free "min", .free "range", .free "sorted", .free "str", .free "tuple"] : List He.Fa)
abbrev R : PySem.W.OpenRow := PySem.W.OpenLaw.row PySem.Challenge.rw_levelbench_k71_whole_windows_or_a_crowd
abbrev hk : PySem.W.Hook := He.hookD 5 fa fn
def ob (s : PySem.W.SharedT) : He.AlD := He.obsDG 5 fa fn (HandSHeadRun.getT s)
theorem ob_eq (s : PySem.W.SharedT) : ob s = hk.obs s.abs := He.obsDG_eq (HandSHeadRun.getT_eq s)
def loose : List PySem.Str := ([("BenchError" : PySem.Str), ("TooMany" : PySem.Str), ("NoBench" : PySem.Str), ("NoWindow" : PySem.Str), ("is_whole" : PySem.Str), ("want_benches" : PySem.Str), ("PLAN_LETTERS" : PySem.Str), ("LONGEST_WORD" : PySem.Str), ("is_plan_word" : PySem.Str), ("MOST_JOBS" : PySem.Str), ("is_window" : PySem.Str), ("want_windows" : PySem.Str), ("crowd_to" : PySem.Str), ("windowed" : PySem.Str), ("_law_purse" : PySem.Str), ("_law_take" : PySem.Str), ("_law_names" : PySem.Str), ("_law_cell" : PySem.Str), ("_law_benches" : PySem.Str), ("_law_far" : PySem.Str), ("_law_windows" : PySem.Str), ("_law_whole" : PySem.Str), ("_law_is_plan" : PySem.Str), ("_law_is_crowd" : PySem.Str), ("_law_is_answer" : PySem.Str), ("_law_right" : PySem.Str)] : List PySem.Str)
set_option maxHeartbeats 0 in
theorem run (w : World) : HandSHeadRun.RunEq R (PySem.W.view R.prog [31]) hk ob 20000 loose w := by
  intro os
  kernel_rfl
end Lh
namespace Lw
open PySem PySem.Spec PyProof.Rows L2 Ly TL
abbrev FnP (K : PySem.W.Frag) (x : Str) (st : Stmt) (f : Addr) (fd : FuncData) : Prop := FunD K x x (defArgs st) (defBody st) (defScope st) [] [] f fd
abbrev FnM (K : PySem.W.Frag) (x q : Str) (st : Stmt) (f : Addr) (fd : FuncData) : Prop := FunD K x q (defArgs st) (defBody st) (defScope st) [] [] f fd
structure Bn (mg : Str → Option Value) : Prop where
  g_LONGEST_WORD : ∃ t, mg "LONGEST_WORD" = some (.int 8 t)
  g_MOST_JOBS : ∃ t, mg "MOST_JOBS" = some (.int 20 t)
  g_PLAN_LETTERS : ∃ t, mg "PLAN_LETTERS" = some (.str "abcdefghijklmnopqrstuvwxyz" t)
  n_all : mg "all" = none
  n_any : mg "any" = none
  n_bool : mg "bool" = none
  n_dict : mg "dict" = none
  n_int : mg "int" = none
  n_isinstance : mg "isinstance" = none
  n_len : mg "len" = none
  n_list : mg "list" = none
  n_max : mg "max" = none
  n_min : mg "min" = none
  n_range : mg "range" = none
  n_sorted : mg "sorted" = none
  n_str : mg "str" = none
  n_tuple : mg "tuple" = none
section

variable {P : Program} {w : World} {K : PySem.W.Frag} {mg : Str → Option Value} {base : Heap}
/-! law: cell -/
def m_cell (script : Scr) (k : Int) : Int :=
  (bif (decide (k < (script.ns.length : Int))) then (getI script.ns k) else (0 : Int))
def ok_m_cell (script : Scr) (k : Int) : Prop :=
  ((decide (k < (script.ns.length : Int))) = true → (okI script.ns k) ∧ True) ∧ True
abbrev N_m_cell : List Str := (["_law_script", "_law_k"] : List Str)
abbrev st_m_cell : Stmt := top 22
theorem sc_m_cell : FnScope N_m_cell ["_law_script", "_law_k"] (defScope st_m_cell) := ⟨rfl, rfl, rfl, by decide +kernel, rfl, by decide +kernel, by decide +kernel⟩
def G_m_cell (as : List En) (r : En) : Prop := ∃ (script : Scr) (k : Int), ok_m_cell script k ∧ as = [.fz script, .fz k] ∧ r = .fz (m_cell script k)
set_option maxRecDepth 100000 in
theorem w_m_cell (B : Bn mg) 
    {f : Addr} {fd : FuncData} (F : FnP K "_law_cell" st_m_cell f fd) : FnOk P w K mg base CX0 1 f fd ["_law_script", "_law_k"] (spP K G_m_cell) := by
  refine fn_pure F sc_m_cell (by decide) (fun as r h => by obtain ⟨script, k, hok, rfl, _⟩ := h; rfl) (fun cdv A outer s H E hr as r h => ?_)
  obtain ⟨script, k, hok, rfl, rfl⟩ := h
  refine ⟨(fun (m : Int) => Out.rt (.fz m)) (m_cell script k), rfl, ?_⟩
  show ES _ [.fz script, .fz k] _ ((fun (m : Int) => Out.rt (.fz m)) (bif (decide (k < (script.ns.length : Int))) then (getI script.ns k) else (0 : Int)))
  have hok : ((decide (k < (script.ns.length : Int))) = true → (okI script.ns k) ∧ True) ∧ True := hok
  exact es_one (s_ret (ps_ret peW) (f_ife (t_lt (r_var (pv 1)) (r_lenScr (by rfl) B.n_len (FJ.rd (f_var (pv 0))))) (fun hc => RJ.sc (r_ixScr (((hok.1) hc).1) (FJ.rd (f_var (pv 0))) (r_var (pv 1)))) (fun hc => RJ.sc (r_int))))
/-! law: purse -/
def m_purse (cell : Int) (k : Int) : Pu :=
  (pipe (((((cell % (2147483629 : Int)) * (48271 : Int)) + ((k * k) * (69623 : Int))) + (11 : Int)) % (2147483647 : Int)) fun (number : Int) =>
  (Pu.mk (if (cell - ((10 : Int) ^ (18 : Int).toNat)) > (0 : Int) then (cell - ((10 : Int) ^ (18 : Int).toNat)) else (0 : Int)) ((number * number) % (2147483629 : Int))))
def ok_m_purse (cell : Int) (k : Int) : Prop :=
  (CMul k k) ∧ (pipe (((((cell % (2147483629 : Int)) * (48271 : Int)) + ((k * k) * (69623 : Int))) + (11 : Int)) % (2147483647 : Int)) fun (number : Int) =>
  (CMul number number) ∧ True)
abbrev N_m_purse : List Str := (["_law_cell_here", "_law_k", "_law_number"] : List Str)
abbrev st_m_purse : Stmt := top 19
theorem sc_m_purse : FnScope N_m_purse ["_law_cell_here", "_law_k"] (defScope st_m_purse) := ⟨rfl, rfl, rfl, by decide +kernel, rfl, by decide +kernel, by decide +kernel⟩
def G_m_purse (as : List En) (r : En) : Prop := ∃ (cell : Int) (k : Int), ok_m_purse cell k ∧ as = [.fz cell, .fz k] ∧ r = .ow (m_purse cell k)
set_option maxRecDepth 100000 in
theorem w_m_purse (B : Bn mg) 
    {f : Addr} {fd : FuncData} (F : FnP K "_law_purse" st_m_purse f fd) : FnOk P w K mg base CX0 1 f fd ["_law_cell_here", "_law_k"] (spP K G_m_purse) := by
  refine fn_pure F sc_m_purse (by decide) (fun as r h => by obtain ⟨cell, k, hok, rfl, _⟩ := h; rfl) (fun cdv A outer s H E hr as r h => ?_)
  obtain ⟨cell, k, hok, rfl, rfl⟩ := h
  refine ⟨(fun (m : Pu) => Out.rt (.ow m)) (m_purse cell k), rfl, ?_⟩
  show ES _ [.fz cell, .fz k, .un] _ ((fun (m : Pu) => Out.rt (.ow m)) (pipe (((((cell % (2147483629 : Int)) * (48271 : Int)) + ((k * k) * (69623 : Int))) + (11 : Int)) % (2147483647 : Int)) fun (number : Int) =>
  (Pu.mk (if (cell - ((10 : Int) ^ (18 : Int).toNat)) > (0 : Int) then (cell - ((10 : Int) ^ (18 : Int).toNat)) else (0 : Int)) ((number * number) % (2147483629 : Int)))))
  have hok : (CMul k k) ∧ (pipe (((((cell % (2147483629 : Int)) * (48271 : Int)) + ((k * k) * (69623 : Int))) + (11 : Int)) % (2147483647 : Int)) fun (number : Int) =>
  (CMul number number) ∧ True) := hok
  exact es_cons (s_asg (ps_set (i := 2) sc_m_purse.nd rfl (.inl rfl) peW) (RJ.sc (r_mod (by decide) (r_add (r_add (r_mul (.inr ⟨by decide, by decide⟩) (r_mod (by decide) (r_var (pv 0)) (r_int)) (r_int)) (r_mul (.inr ⟨by decide, by decide⟩) (r_mul (hok.1) (r_var (pv 1)) (r_var (pv 1))) (r_int))) (r_int)) (r_int))))
     (es_gen (k := (fun (m : Pu) => Out.rt (.ow m))) (fun (number : Int) => [.fz cell, .fz k, .fz number]) fun number h =>
     have ok := ok_gen hok.2 h; es_one (s_retN (ps_ret peW) (n_pu (r_max2 (by rfl) (by rfl) B.n_max (r_int) (r_sub (r_var (pv 0)) (r_pow ⟨by decide, by decide, by decide⟩ (r_int) (r_int)))) (r_mod (by decide) (r_mul (ok.1) (r_var (pv 2)) (r_var (pv 2))) (r_int)))))
/-! law: take -/
def m_take (purse : Pu) (many : Int) : (Int × Pu) :=
  (bif (decide (purse.a > (0 : Int))) then (pipe (purse.a % many) fun (digit : Int) =>
  (pipe (Pu.mk (purse.a / many) purse.b) fun (purse_1 : Pu) =>
  (digit, purse_1))) else
  (pipe (Pu.mk purse.a (((purse.b * (39373 : Int)) + (7919 : Int)) % (2147483629 : Int))) fun (purse_2 : Pu) =>
  (((((purse_2.b * purse_2.b) % (2147483563 : Int)) / (11 : Int)) % many), purse_2)))
def ok_m_take (purse : Pu) (many : Int) : Prop :=
  okIf (decide (purse.a > (0 : Int))) ((0 < many) ∧ (pipe (purse.a % many) fun (digit : Int) =>
  (CDivW purse.a many) ∧ True)) ((pipe (Pu.mk purse.a (((purse.b * (39373 : Int)) + (7919 : Int)) % (2147483629 : Int))) fun (purse_2 : Pu) =>
  (CMul purse_2.b purse_2.b) ∧ (0 < many) ∧ True))
abbrev N_m_take : List Str := (["_law_purse_here", "_law_many", "_law_digit"] : List Str)
abbrev st_m_take : Stmt := top 20
theorem sc_m_take : FnScope N_m_take ["_law_purse_here", "_law_many"] (defScope st_m_take) := ⟨rfl, rfl, rfl, by decide +kernel, rfl, by decide +kernel, by decide +kernel⟩
def G_m_take (purse : Pu) (as : List En) (p2 : Pu) (r : En) : Prop := ∃ (many : Int), ok_m_take purse many ∧ as = [.fz many] ∧ r = .fz (m_take purse many).1 ∧ p2 = (m_take purse many).2
set_option maxRecDepth 100000 in
theorem w_m_take (B : Bn mg) 
    {f : Addr} {fd : FuncData} (F : FnP K "_law_take" st_m_take f fd) : FnOk P w K mg base CX0 1 f fd ["_law_purse_here", "_law_many"] (spU K G_m_take) := by
  refine fn_lent F sc_m_take (by decide) (fun _ as _ r h => by obtain ⟨many, hok, rfl, _, _⟩ := h; rfl) (fun cdv A outer s H E hr pa purse as p2 r h => ?_)
  obtain ⟨many, hok, rfl, rfl, rfl⟩ := h
  refine ⟨(fun (m : (Int × Pu)) => Out.ru pa owCl m.2 (.fz m.1)) (m_take purse many), .inl rfl, ?_⟩
  refine es_ruO (w := fun (m : Int) => En.fz m) ?_
  show ES _ [.at pa purse, .fz many, .un] _ ((ruO pa owCl (fun (m : Int) => En.fz m)) (bif (decide (purse.a > (0 : Int))) then (pipe (purse.a % many) fun (digit : Int) =>
  (pipe (Pu.mk (purse.a / many) purse.b) fun (purse_1 : Pu) =>
  (digit, purse_1))) else
  (pipe (Pu.mk purse.a (((purse.b * (39373 : Int)) + (7919 : Int)) % (2147483629 : Int))) fun (purse_2 : Pu) =>
  (((((purse_2.b * purse_2.b) % (2147483563 : Int)) / (11 : Int)) % many), purse_2))))
  have hok : okIf (decide (purse.a > (0 : Int))) ((0 < many) ∧ (pipe (purse.a % many) fun (digit : Int) =>
  (CDivW purse.a many) ∧ True)) ((pipe (Pu.mk purse.a (((purse.b * (39373 : Int)) + (7919 : Int)) % (2147483629 : Int))) fun (purse_2 : Pu) =>
  (CMul purse_2.b purse_2.b) ∧ (0 < many) ∧ True)) := hok
  exact es_ifr (k := (ruO pa owCl (fun (m : Int) => En.fz m))) (m1 := (pipe (purse.a % many) fun (digit : Int) =>
     (pipe (Pu.mk (purse.a / many) purse.b) fun (purse_1 : Pu) =>
     (digit, purse_1)))) (TJ.x (t_gt (r_pu0 ((a_var (pv 0)))) (r_int))) (by first | rfl | exact ruO_ends | exact xcO_ends fun _ => rfl | exact xuO_ends fun _ => rfl) (fun hb => have ok := hok.1 hb; es_cons (s_asg (ps_set (i := 2) sc_m_take.nd rfl (.inl rfl) peW) (RJ.sc (r_mod (ok.1) (r_pu0 ((a_var (pv 0)))) (r_var (pv 1)))))
     (es_gen (k := (ruO pa owCl (fun (m : Int) => En.fz m))) (fun (digit : Int) => [.at pa purse, .fz many, .fz digit]) fun digit h =>
     have ok_2 := ok_gen ok.2 h; es_cons (s_setPu0 (ps_asg peW (pg_sub (pv 0) pe_int set_list)) (RJ.xs (r_div (ok_2.1) (r_pu0 ((a_var (pv 0)))) (r_var (pv 1)))) rfl (.at _))
     (es_gen (k := (ruO pa owCl (fun (m : Int) => En.fz m))) (fun (purse_1 : Pu) => [.at pa purse_1, .fz many, .fz digit]) fun purse_1 h_1 =>
     es_ru (es_one (u_ret (i := 0) (ps_ret peW) (RJ.xs (r_var (pv 2))))))))
     (fun hb => have ok_1 := hok.2 hb; es_cons (s_setPu1 (ps_asg peW (pg_sub (pv 0) pe_int set_list)) (RJ.xs (r_mod (by decide) (r_add (r_mul (.inr ⟨by decide, by decide⟩) (r_pu1 ((a_var (pv 0)))) (r_int)) (r_int)) (r_int))) rfl (.at _))
     (es_gen (k := (ruO pa owCl (fun (m : Int) => En.fz m))) (fun (purse_2 : Pu) => [.at pa purse_2, .fz many, .un]) fun purse_2 h_2 =>
     have ok_4 := ok_gen ok_1 h_2; es_ru (es_one (u_ret (i := 0) (ps_ret peW) (RJ.xs (r_mod (ok_4.2.1) (r_div ⟨by decide, by decide +kernel⟩ (r_mod (by decide) (r_mul (ok_4.1) (r_pu1 ((a_var (pv 0)))) (r_pu1 ((a_var (pv 0))))) (r_int)) (r_int)) (r_var (pv 1))))))))
/-! law: far -/
def m_far (purse : Pu) : (Int × Pu) :=
  (bif (decide ((m_take purse (2 : Int)).1 = (0 : Int))) then (((m_take (m_take purse (2 : Int)).2 ((2 : Int) * ((10 : Int) ^ (59 : Int).toNat))).1 - ((10 : Int) ^ (59 : Int).toNat)), (m_take (m_take purse (2 : Int)).2 ((2 : Int) * ((10 : Int) ^ (59 : Int).toNat))).2) else
  (pipe (getI ([(100 : Int), ((10 : Int) ^ (6 : Int).toNat), ((10 : Int) ^ (12 : Int).toNat), ((10 : Int) ^ (18 : Int).toNat), ((10 : Int) ^ (30 : Int).toNat), ((10 : Int) ^ (58 : Int).toNat)] : (List Int)) (m_take (m_take purse (2 : Int)).2 (6 : Int)).1) fun (size : Int) =>
  (pipe (m_take (m_take purse (2 : Int)).2 (6 : Int)).2 fun (purse_1 : Pu) =>
  ((((m_take purse_1 (19 : Int)).1 - (9 : Int)) * size), (m_take purse_1 (19 : Int)).2))))
def ok_m_far (purse : Pu) : Prop :=
  (ok_m_take purse (2 : Int)) ∧ okIf (decide ((m_take purse (2 : Int)).1 = (0 : Int))) ((ok_m_take (m_take purse (2 : Int)).2 ((2 : Int) * ((10 : Int) ^ (59 : Int).toNat))) ∧ True) ((ok_m_take (m_take purse (2 : Int)).2 (6 : Int)) ∧ (okI ([(100 : Int), ((10 : Int) ^ (6 : Int).toNat), ((10 : Int) ^ (12 : Int).toNat), ((10 : Int) ^ (18 : Int).toNat), ((10 : Int) ^ (30 : Int).toNat), ((10 : Int) ^ (58 : Int).toNat)] : (List Int)) (m_take (m_take purse (2 : Int)).2 (6 : Int)).1) ∧ (pipe (getI ([(100 : Int), ((10 : Int) ^ (6 : Int).toNat), ((10 : Int) ^ (12 : Int).toNat), ((10 : Int) ^ (18 : Int).toNat), ((10 : Int) ^ (30 : Int).toNat), ((10 : Int) ^ (58 : Int).toNat)] : (List Int)) (m_take (m_take purse (2 : Int)).2 (6 : Int)).1) fun (size : Int) =>
  (pipe (m_take (m_take purse (2 : Int)).2 (6 : Int)).2 fun (purse_1 : Pu) =>
  (ok_m_take purse_1 (19 : Int)) ∧ (CMul ((m_take purse_1 (19 : Int)).1 - (9 : Int)) size) ∧ True)))
abbrev N_m_far : List Str := (["_law_purse_here", "_law_size"] : List Str)
abbrev st_m_far : Stmt := top 24
theorem sc_m_far : FnScope N_m_far ["_law_purse_here"] (defScope st_m_far) := ⟨rfl, rfl, rfl, by decide +kernel, rfl, by decide +kernel, by decide +kernel⟩
def G_m_far (purse : Pu) (as : List En) (p2 : Pu) (r : En) : Prop := ∃ (_u : Unit), ok_m_far purse ∧ as = [] ∧ r = .fz (m_far purse).1 ∧ p2 = (m_far purse).2
set_option maxRecDepth 100000 in
theorem w_m_far (B : Bn mg) (D_m_take : Df P w K mg base 1 "_law_take" ["_law_purse_here", "_law_many"] (spU K G_m_take))
    {f : Addr} {fd : FuncData} (F : FnP K "_law_far" st_m_far f fd) : FnOk P w K mg base CX0 2 f fd ["_law_purse_here"] (spU K G_m_far) := by
  refine fn_lent F sc_m_far (by decide) (fun _ as _ r h => by obtain ⟨_u, hok, rfl, _, _⟩ := h; rfl) (fun cdv A outer s H E hr pa purse as p2 r h => ?_)
  obtain ⟨_u, hok, rfl, rfl, rfl⟩ := h
  refine ⟨(fun (m : (Int × Pu)) => Out.ru pa owCl m.2 (.fz m.1)) (m_far purse), .inl rfl, ?_⟩
  refine es_ruO (w := fun (m : Int) => En.fz m) ?_
  show ES _ [.at pa purse, .un] _ ((ruO pa owCl (fun (m : Int) => En.fz m)) (bif (decide ((m_take purse (2 : Int)).1 = (0 : Int))) then (((m_take (m_take purse (2 : Int)).2 ((2 : Int) * ((10 : Int) ^ (59 : Int).toNat))).1 - ((10 : Int) ^ (59 : Int).toNat)), (m_take (m_take purse (2 : Int)).2 ((2 : Int) * ((10 : Int) ^ (59 : Int).toNat))).2) else
  (pipe (getI ([(100 : Int), ((10 : Int) ^ (6 : Int).toNat), ((10 : Int) ^ (12 : Int).toNat), ((10 : Int) ^ (18 : Int).toNat), ((10 : Int) ^ (30 : Int).toNat), ((10 : Int) ^ (58 : Int).toNat)] : (List Int)) (m_take (m_take purse (2 : Int)).2 (6 : Int)).1) fun (size : Int) =>
  (pipe (m_take (m_take purse (2 : Int)).2 (6 : Int)).2 fun (purse_1 : Pu) =>
  ((((m_take purse_1 (19 : Int)).1 - (9 : Int)) * size), (m_take purse_1 (19 : Int)).2)))))
  have hok : (ok_m_take purse (2 : Int)) ∧ okIf (decide ((m_take purse (2 : Int)).1 = (0 : Int))) ((ok_m_take (m_take purse (2 : Int)).2 ((2 : Int) * ((10 : Int) ^ (59 : Int).toNat))) ∧ True) ((ok_m_take (m_take purse (2 : Int)).2 (6 : Int)) ∧ (okI ([(100 : Int), ((10 : Int) ^ (6 : Int).toNat), ((10 : Int) ^ (12 : Int).toNat), ((10 : Int) ^ (18 : Int).toNat), ((10 : Int) ^ (30 : Int).toNat), ((10 : Int) ^ (58 : Int).toNat)] : (List Int)) (m_take (m_take purse (2 : Int)).2 (6 : Int)).1) ∧ (pipe (getI ([(100 : Int), ((10 : Int) ^ (6 : Int).toNat), ((10 : Int) ^ (12 : Int).toNat), ((10 : Int) ^ (18 : Int).toNat), ((10 : Int) ^ (30 : Int).toNat), ((10 : Int) ^ (58 : Int).toNat)] : (List Int)) (m_take (m_take purse (2 : Int)).2 (6 : Int)).1) fun (size : Int) =>
  (pipe (m_take (m_take purse (2 : Int)).2 (6 : Int)).2 fun (purse_1 : Pu) =>
  (ok_m_take purse_1 (19 : Int)) ∧ (CMul ((m_take purse_1 (19 : Int)).1 - (9 : Int)) size) ∧ True))) := hok
  exact es_ifr (k := (ruO pa owCl (fun (m : Int) => En.fz m))) (m1 := (((m_take (m_take purse (2 : Int)).2 ((2 : Int) * ((10 : Int) ^ (59 : Int).toNat))).1 - ((10 : Int) ^ (59 : Int).toNat)), (m_take (m_take purse (2 : Int)).2 ((2 : Int) * ((10 : Int) ^ (59 : Int).toNat))).2)) (es1 := [.at pa (m_take purse (2 : Int)).2, .un]) (xt_eq (xU D_m_take (hr.mono (by decide)) (pv 0) (xa_cons (RJ.xs (r_int)) (xa_nil)) (.at _) rfl (.at _) rfl (⟨_, (hok.1), rfl, rfl, rfl⟩)) (RJ.xs (r_int))) (by first | rfl | exact ruO_ends | exact xcO_ends fun _ => rfl | exact xuO_ends fun _ => rfl) (fun hb => have ok := hok.2.1 hb; es_ru (es_one (u_ret (i := 0) (ps_ret peW) (x_sub (xU D_m_take (hr.mono (by decide)) (pv 0) (xa_cons (RJ.xs (r_mul (.inl ⟨by decide, by decide⟩) (r_int) (r_pow ⟨by decide, by decide, by decide⟩ (r_int) (r_int)))) (xa_nil)) (.at _) rfl (.at _) rfl (⟨_, (ok.1), rfl, rfl, rfl⟩)) (RJ.xs (r_pow ⟨by decide, by decide, by decide⟩ (r_int) (r_int)))))))
     (fun hb => have ok_1 := hok.2.2 hb; es_cons (s_asgX (ps_set (i := 1) sc_m_far.nd rfl (.inl rfl) peW) (x_ix (ok_1.2.1) (FJ.x (NJ.frz (n_disp (α := Int) (la_cons (RJ.sc (r_int)) (la_cons (RJ.sc (r_pow ⟨by decide, by decide, by decide⟩ (r_int) (r_int))) (la_cons (RJ.sc (r_pow ⟨by decide, by decide, by decide⟩ (r_int) (r_int))) (la_cons (RJ.sc (r_pow ⟨by decide, by decide, by decide⟩ (r_int) (r_int))) (la_cons (RJ.sc (r_pow ⟨by decide, by decide, by decide⟩ (r_int) (r_int))) (la_cons (RJ.sc (r_pow ⟨by decide, by decide, by decide⟩ (r_int) (r_int))) (la_nil)))))))))) (xU D_m_take (hr.mono (by decide)) (pv 0) (xa_cons (RJ.xs (r_int)) (xa_nil)) (.at _) rfl (.at _) rfl (⟨_, (ok_1.1), rfl, rfl, rfl⟩))))
     (es_gen (k := (ruO pa owCl (fun (m : Int) => En.fz m))) (fun (size : Int) => [.at pa (m_take (m_take purse (2 : Int)).2 (6 : Int)).2, .fz size]) fun size h =>
     have ok_2 := ok_gen ok_1.2.2 h; es_gen (k := (ruO pa owCl (fun (m : Int) => En.fz m))) (fun (purse_1 : Pu) => [.at pa purse_1, .fz size]) fun purse_1 h_1 =>
     have ok_3 := ok_gen ok_2 h_1; es_ru (es_one (u_ret (i := 0) (ps_ret peW) (x_mul (ok_3.2.1) (x_sub (xU D_m_take (hr.mono (by decide)) (pv 0) (xa_cons (RJ.xs (r_int)) (xa_nil)) (.at _) rfl (.at _) rfl (⟨_, (ok_3.1), rfl, rfl, rfl⟩)) (RJ.xs (r_int))) (RJ.xs (r_var (pv 1))))))))
/-! law: names -/
def m_names_L2 (letters : Str) (st_1 : (Str × Pu)) (j : Int) : (Str × Pu) :=
  (pipe st_1.1 fun (word_1 : Str) => (pipe st_1.2 fun (purse_2 : Pu) => (pipe (word_1 ++ (chI letters (m_take purse_2 (26 : Int)).1)) fun (word_2 : Str) =>
  (pipe (m_take purse_2 (26 : Int)).2 fun (purse_3 : Pu) =>
  (word_2, purse_3)))))
def m_names_L1 (letters : Str) (st : (Pu × (List Str))) (k : Int) : (Pu × (List Str)) :=
  (pipe st.1 fun (purse_1 : Pu) => (pipe st.2 fun (found_1 : (List Str)) => (pipe ("" : Str) fun (word : Str) =>
  (pipe (List.foldl (m_names_L2 letters) (word, (m_take (m_take purse_1 (2 : Int)).2 (8 : Int)).2) (rangeL 0 ((1 : Int) + ((m_take purse_1 (2 : Int)).1 * (m_take (m_take purse_1 (2 : Int)).2 (8 : Int)).1)))) fun (st_1 : (Str × Pu)) =>
  (pipe st_1.1 fun (word_3 : Str) => (pipe st_1.2 fun (purse_4 : Pu) => (pipe (bif (decide (word_3 ∈ found_1)) then (pipe (getI (given (fun (letter : Str) => (!(decide (letter ∈ found_1)))) (fun (letter : Str) => letter) (signsOf letters)) (0 : Int)) fun (word_4 : Str) =>
  word_4) else word_3) fun (st_2 : Str) =>
  (pipe (found_1 ++ [st_2]) fun (found_2 : (List Str)) =>
  (purse_4, found_2)))))))))
def m_names (purse : Pu) (many : Int) : ((List Str) × Pu) :=
  (pipe ("abcdefghijklmnopqrstuvwxyz" : Str) fun (letters : Str) =>
  (pipe ([] : (List Str)) fun (found : (List Str)) =>
  (pipe (List.foldl (m_names_L1 letters) (purse, found) (rangeL 0 many)) fun (st : (Pu × (List Str))) =>
  (pipe st.1 fun (purse_5 : Pu) => (pipe st.2 fun (found_3 : (List Str)) => (found_3, purse_5))))))
def ok_m_names (purse : Pu) (many : Int) : Prop :=
  (pipe ("abcdefghijklmnopqrstuvwxyz" : Str) fun (letters : Str) =>
  (pipe ([] : (List Str)) fun (found : (List Str)) =>
  (-(2 ^ 62) ≤ many ∧ many < 2 ^ 62) ∧ (∀ (st : (Pu × (List Str))) (k : Int), AtF (m_names_L1 letters) (rangeL 0 many) (purse, found) st k → (pipe st.1 fun (purse_1 : Pu) => (pipe st.2 fun (found_1 : (List Str)) => (pipe ("" : Str) fun (word : Str) =>
  (ok_m_take purse_1 (2 : Int)) ∧ (ok_m_take (m_take purse_1 (2 : Int)).2 (8 : Int)) ∧ (CMul (m_take purse_1 (2 : Int)).1 (m_take (m_take purse_1 (2 : Int)).2 (8 : Int)).1) ∧ (-(2 ^ 62) ≤ ((1 : Int) + ((m_take purse_1 (2 : Int)).1 * (m_take (m_take purse_1 (2 : Int)).2 (8 : Int)).1)) ∧ ((1 : Int) + ((m_take purse_1 (2 : Int)).1 * (m_take (m_take purse_1 (2 : Int)).2 (8 : Int)).1)) < 2 ^ 62) ∧ (∀ (st_1 : (Str × Pu)) (j : Int), AtF (m_names_L2 letters) (rangeL 0 ((1 : Int) + ((m_take purse_1 (2 : Int)).1 * (m_take (m_take purse_1 (2 : Int)).2 (8 : Int)).1))) (word, (m_take (m_take purse_1 (2 : Int)).2 (8 : Int)).2) st_1 j → (pipe st_1.1 fun (word_1 : Str) => (pipe st_1.2 fun (purse_2 : Pu) => (ok_m_take purse_2 (26 : Int)) ∧ (okC letters (m_take purse_2 (26 : Int)).1) ∧ ((word_1 ++ (chI letters (m_take purse_2 (26 : Int)).1)).length ≤ sbig) ∧ True))) ∧
  (pipe (List.foldl (m_names_L2 letters) (word, (m_take (m_take purse_1 (2 : Int)).2 (8 : Int)).2) (rangeL 0 ((1 : Int) + ((m_take purse_1 (2 : Int)).1 * (m_take (m_take purse_1 (2 : Int)).2 (8 : Int)).1)))) fun (st_1 : (Str × Pu)) =>
  (pipe st_1.1 fun (word_3 : Str) => (pipe st_1.2 fun (purse_4 : Pu) => (okIf (decide (word_3 ∈ found_1)) ((okI (given (fun (letter : Str) => (!(decide (letter ∈ found_1)))) (fun (letter : Str) => letter) (signsOf letters)) (0 : Int)) ∧ True) (True)) ∧ (pipe (bif (decide (word_3 ∈ found_1)) then (pipe (getI (given (fun (letter : Str) => (!(decide (letter ∈ found_1)))) (fun (letter : Str) => letter) (signsOf letters)) (0 : Int)) fun (word_4 : Str) =>
  word_4) else word_3) fun (st_2 : Str) =>
  (found_1.length < big) ∧ True)))))))) ∧
  True))
abbrev N_m_names : List Str := (["_law_purse_here", "_law_many", "_law_letters", "_law_found", "_law_k", "_law_word", "_law_j", "_law_letter"] : List Str)
abbrev st_m_names : Stmt := top 21
theorem sc_m_names : FnScope N_m_names ["_law_purse_here", "_law_many"] (defScope st_m_names) := ⟨rfl, rfl, rfl, by decide +kernel, rfl, by decide +kernel, by decide +kernel⟩
def G_m_names (purse : Pu) (as : List En) (p2 : Pu) (r : En) : Prop := ∃ (many : Int), ok_m_names purse many ∧ as = [.fz many] ∧ r = .ow (m_names purse many).1 ∧ p2 = (m_names purse many).2
set_option maxRecDepth 100000 in
theorem w_m_names (B : Bn mg) (D_m_take : Df P w K mg base 1 "_law_take" ["_law_purse_here", "_law_many"] (spU K G_m_take))
    {f : Addr} {fd : FuncData} (F : FnP K "_law_names" st_m_names f fd) : FnOk P w K mg base CX0 2 f fd ["_law_purse_here", "_law_many"] (spU K G_m_names) := by
  refine fn_lent F sc_m_names (by decide) (fun _ as _ r h => by obtain ⟨many, hok, rfl, _, _⟩ := h; rfl) (fun cdv A outer s H E hr pa purse as p2 r h => ?_)
  obtain ⟨many, hok, rfl, rfl, rfl⟩ := h
  refine ⟨(fun (m : ((List Str) × Pu)) => Out.ru pa owCl m.2 (.ow m.1)) (m_names purse many), .inl rfl, ?_⟩
  refine es_ruO (w := fun (m : (List Str)) => En.ow m) ?_
  show ES _ [.at pa purse, .fz many, .un, .un, .un, .un, .un, .un] _ ((ruO pa owCl (fun (m : (List Str)) => En.ow m)) (pipe ("abcdefghijklmnopqrstuvwxyz" : Str) fun (letters : Str) =>
  (pipe ([] : (List Str)) fun (found : (List Str)) =>
  (pipe (List.foldl (m_names_L1 letters) (purse, found) (rangeL 0 many)) fun (st : (Pu × (List Str))) =>
  (pipe st.1 fun (purse_5 : Pu) => (pipe st.2 fun (found_3 : (List Str)) => (found_3, purse_5)))))))
  have hok : (pipe ("abcdefghijklmnopqrstuvwxyz" : Str) fun (letters : Str) =>
  (pipe ([] : (List Str)) fun (found : (List Str)) =>
  (-(2 ^ 62) ≤ many ∧ many < 2 ^ 62) ∧ (∀ (st : (Pu × (List Str))) (k : Int), AtF (m_names_L1 letters) (rangeL 0 many) (purse, found) st k → (pipe st.1 fun (purse_1 : Pu) => (pipe st.2 fun (found_1 : (List Str)) => (pipe ("" : Str) fun (word : Str) =>
  (ok_m_take purse_1 (2 : Int)) ∧ (ok_m_take (m_take purse_1 (2 : Int)).2 (8 : Int)) ∧ (CMul (m_take purse_1 (2 : Int)).1 (m_take (m_take purse_1 (2 : Int)).2 (8 : Int)).1) ∧ (-(2 ^ 62) ≤ ((1 : Int) + ((m_take purse_1 (2 : Int)).1 * (m_take (m_take purse_1 (2 : Int)).2 (8 : Int)).1)) ∧ ((1 : Int) + ((m_take purse_1 (2 : Int)).1 * (m_take (m_take purse_1 (2 : Int)).2 (8 : Int)).1)) < 2 ^ 62) ∧ (∀ (st_1 : (Str × Pu)) (j : Int), AtF (m_names_L2 letters) (rangeL 0 ((1 : Int) + ((m_take purse_1 (2 : Int)).1 * (m_take (m_take purse_1 (2 : Int)).2 (8 : Int)).1))) (word, (m_take (m_take purse_1 (2 : Int)).2 (8 : Int)).2) st_1 j → (pipe st_1.1 fun (word_1 : Str) => (pipe st_1.2 fun (purse_2 : Pu) => (ok_m_take purse_2 (26 : Int)) ∧ (okC letters (m_take purse_2 (26 : Int)).1) ∧ ((word_1 ++ (chI letters (m_take purse_2 (26 : Int)).1)).length ≤ sbig) ∧ True))) ∧
  (pipe (List.foldl (m_names_L2 letters) (word, (m_take (m_take purse_1 (2 : Int)).2 (8 : Int)).2) (rangeL 0 ((1 : Int) + ((m_take purse_1 (2 : Int)).1 * (m_take (m_take purse_1 (2 : Int)).2 (8 : Int)).1)))) fun (st_1 : (Str × Pu)) =>
  (pipe st_1.1 fun (word_3 : Str) => (pipe st_1.2 fun (purse_4 : Pu) => (okIf (decide (word_3 ∈ found_1)) ((okI (given (fun (letter : Str) => (!(decide (letter ∈ found_1)))) (fun (letter : Str) => letter) (signsOf letters)) (0 : Int)) ∧ True) (True)) ∧ (pipe (bif (decide (word_3 ∈ found_1)) then (pipe (getI (given (fun (letter : Str) => (!(decide (letter ∈ found_1)))) (fun (letter : Str) => letter) (signsOf letters)) (0 : Int)) fun (word_4 : Str) =>
  word_4) else word_3) fun (st_2 : Str) =>
  (found_1.length < big) ∧ True)))))))) ∧
  True)) := hok
  exact es_cons (s_asg (ps_set (i := 2) sc_m_names.nd rfl (.inl rfl) peW) (RJ.sc (r_str)))
     (es_gen (k := (ruO pa owCl (fun (m : (List Str)) => En.ow m))) (fun (letters : Str) => [.at pa purse, .fz many, .fz letters, .un, .un, .un, .un, .un]) fun letters h =>
     have ok := ok_gen hok h; es_cons (s_asgN (ps_set (i := 3) sc_m_names.nd rfl (.inr rfl) peW) (n_disp (α := Str) (la_nil)))
     (es_gen (k := (ruO pa owCl (fun (m : (List Str)) => En.ow m))) (fun (found : (List Str)) => [.at pa purse, .fz many, .fz letters, .ow found, .un, .un, .un, .un]) fun found h_1 =>
     have ok_1 := ok_gen ok h_1; es_cons (s_forF (tst := PassesOwn.never) (esf := (fun (st : (Pu × (List Str))) => [.at pa st.1, .fz many, .fz letters, .ow st.2, .un, .un, .un, .un])) (est := fun st k => [.at pa st.1, .fz many, .fz letters, .ow st.2, .fz k, .un, .un, .un]) (g := (m_names_L1 letters)) (y0 := (purse, found)) rfl (i_range1 (by rfl) B.n_range (ok_1.1) (RJ.xs (r_var (pv 1)))) (fun st k => g_name (pg_name (i := 4) sc_m_names.nd rfl (.inl rfl)) (Nat.le_of_ble_eq_true rfl))
     (fun st k hat => have ok_2 := ok_1.2.1 st k hat; es_nxO (esf := (fun (st : (Pu × (List Str))) => [.at pa st.1, .fz many, .fz letters, .ow st.2, .un, .un, .un, .un])) (es_gen (k := (nxO (fun (st : (Pu × (List Str))) => [.at pa st.1, .fz many, .fz letters, .ow st.2, .un, .un, .un, .un]))) (fun (purse_1 : Pu) => [.at pa purse_1, .fz many, .fz letters, .ow st.2, .fz k, .un, .un, .un]) fun purse_1 h_2 => have ok_3 := ok_gen ok_2 h_2; es_gen (k := (nxO (fun (st : (Pu × (List Str))) => [.at pa st.1, .fz many, .fz letters, .ow st.2, .un, .un, .un, .un]))) (fun (found_1 : (List Str)) => [.at pa purse_1, .fz many, .fz letters, .ow found_1, .fz k, .un, .un, .un]) fun found_1 h_3 => have ok_4 := ok_gen ok_3 h_3; es_cons (s_asg (ps_set (i := 5) sc_m_names.nd rfl (.inl rfl) peW) (RJ.sc (r_str)))
     (es_gen (k := (nxO (fun (st : (Pu × (List Str))) => [.at pa st.1, .fz many, .fz letters, .ow st.2, .un, .un, .un, .un]))) (fun (word : Str) => [.at pa purse_1, .fz many, .fz letters, .ow found_1, .fz k, .fz word, .un, .un]) fun word h_4 =>
     have ok_5 := ok_gen ok_4 h_4; es_cons (s_forF (tst := PassesOwn.never) (esf := (fun (st_1 : (Str × Pu)) => [.at pa st_1.2, .fz many, .fz letters, .ow found_1, .fz k, .fz st_1.1, .un, .un])) (est := fun st_1 j => [.at pa st_1.2, .fz many, .fz letters, .ow found_1, .fz k, .fz st_1.1, .fz j, .un]) (g := (m_names_L2 letters)) (y0 := (word, (m_take (m_take purse_1 (2 : Int)).2 (8 : Int)).2)) rfl (i_range1 (by rfl) B.n_range (ok_5.2.2.2.1) (x_add (RJ.xs (r_int)) (x_mul (ok_5.2.2.1) (xU D_m_take (hr.mono (by decide)) (pv 0) (xa_cons (RJ.xs (r_int)) (xa_nil)) (.at _) rfl (.at _) rfl (⟨_, (ok_5.1), rfl, rfl, rfl⟩)) (xU D_m_take (hr.mono (by decide)) (pv 0) (xa_cons (RJ.xs (r_int)) (xa_nil)) (.at _) rfl (.at _) rfl (⟨_, (ok_5.2.1), rfl, rfl, rfl⟩))))) (fun st_1 j => g_name (pg_name (i := 6) sc_m_names.nd rfl (.inl rfl)) (Nat.le_of_ble_eq_true rfl))
     (fun st_1 j hat_1 => have ok_6 := ok_5.2.2.2.2.1 st_1 j hat_1; es_nxO (esf := (fun (st_1 : (Str × Pu)) => [.at pa st_1.2, .fz many, .fz letters, .ow found_1, .fz k, .fz st_1.1, .un, .un])) (es_gen (k := (nxO (fun (st_1 : (Str × Pu)) => [.at pa st_1.2, .fz many, .fz letters, .ow found_1, .fz k, .fz st_1.1, .un, .un]))) (fun (word_1 : Str) => [.at pa st_1.2, .fz many, .fz letters, .ow found_1, .fz k, .fz word_1, .fz j, .un]) fun word_1 h_5 => have ok_7 := ok_gen ok_6 h_5; es_gen (k := (nxO (fun (st_1 : (Str × Pu)) => [.at pa st_1.2, .fz many, .fz letters, .ow found_1, .fz k, .fz st_1.1, .un, .un]))) (fun (purse_2 : Pu) => [.at pa purse_2, .fz many, .fz letters, .ow found_1, .fz k, .fz word_1, .fz j, .un]) fun purse_2 h_6 => have ok_8 := ok_gen ok_7 h_6; es_cons (s_asgX (ps_set (i := 5) sc_m_names.nd rfl (.inl rfl) peW) (x_cat (ok_8.2.2.1) (RJ.xs (r_var (pv 5))) (x_ixS (ok_8.2.1) (RJ.xs (r_var (pv 2))) (xU D_m_take (hr.mono (by decide)) (pv 0) (xa_cons (RJ.xs (r_int)) (xa_nil)) (.at _) rfl (.at _) rfl (⟨_, (ok_8.1), rfl, rfl, rfl⟩)))))
     (es_gen (k := (nxO (fun (st_1 : (Str × Pu)) => [.at pa st_1.2, .fz many, .fz letters, .ow found_1, .fz k, .fz st_1.1, .un, .un]))) (fun (word_2 : Str) => [.at pa (m_take purse_2 (26 : Int)).2, .fz many, .fz letters, .ow found_1, .fz k, .fz word_2, .fz j, .un]) fun word_2 h_7 =>
     es_gen (k := (nxO (fun (st_1 : (Str × Pu)) => [.at pa st_1.2, .fz many, .fz letters, .ow found_1, .fz k, .fz st_1.1, .un, .un]))) (fun (purse_3 : Pu) => [.at pa purse_3, .fz many, .fz letters, .ow found_1, .fz k, .fz word_2, .fz j, .un]) fun purse_3 h_8 =>
     es_nilO ⟨.inr rfl, .inr rfl, .inr rfl, .inr rfl, .inr rfl, .inr rfl, .inl rfl, .inl rfl, trivial⟩))))
     (es_gen (k := (nxO (fun (st : (Pu × (List Str))) => [.at pa st.1, .fz many, .fz letters, .ow st.2, .un, .un, .un, .un]))) (fun (st_1 : (Str × Pu)) => [.at pa st_1.2, .fz many, .fz letters, .ow found_1, .fz k, .fz st_1.1, .un, .un]) fun st_1 h_9 =>
     have ok_11 := ok_gen ok_5.2.2.2.2.2 h_9; es_gen (k := (nxO (fun (st : (Pu × (List Str))) => [.at pa st.1, .fz many, .fz letters, .ow st.2, .un, .un, .un, .un]))) (fun (word_3 : Str) => [.at pa st_1.2, .fz many, .fz letters, .ow found_1, .fz k, .fz word_3, .un, .un]) fun word_3 h_10 => have ok_12 := ok_gen ok_11 h_10; es_gen (k := (nxO (fun (st : (Pu × (List Str))) => [.at pa st.1, .fz many, .fz letters, .ow st.2, .un, .un, .un, .un]))) (fun (purse_4 : Pu) => [.at pa purse_4, .fz many, .fz letters, .ow found_1, .fz k, .fz word_3, .un, .un]) fun purse_4 h_11 => have ok_13 := ok_gen ok_12 h_11; es_cons (s_ifeO (m1 := (pipe (getI (given (fun (letter : Str) => (!(decide (letter ∈ found_1)))) (fun (letter : Str) => letter) (signsOf letters)) (0 : Int)) fun (word_4 : Str) =>
     word_4)) (m2 := word_3) (fun (st_2 : Str) => [.at pa purse_4, .fz many, .fz letters, .ow found_1, .fz k, .fz st_2, .un, .un]) (TJ.x (t_in (r_var (pv 5)) ((o_var (pv 3))))) (fun hb => have ok_14 := (ok_13.1).1 hb; es_cons (s_asg (ps_set (i := 5) sc_m_names.nd rfl (.inl rfl) peW) (f_ix (ok_14.1) (NJ.frz ((rd_lc (vs := [7]) (est := fun letter => [.at pa purse_4, .fz many, .fz letters, .ow found_1, .fz k, .fz word_3, .un, .fz letter]) (p := fun (letter : Str) => (!(decide (letter ∈ found_1)))) (g := fun (letter : Str) => letter) (h_str (r_var (pv 2))) rfl (fun _ _ _ _ _ letter => ct_name (pg_name (i := 7) sc_m_names.nd rfl (Or.inl rfl)) (by decide) (Nat.le_of_ble_eq_true rfl)) (fun _ _ _ _ _ letter hx => if_one (t_nin (r_var (pv 7)) ((o_var (pv 3))))) (fun _ _ _ _ _ letter hx hp => RJ.sc (r_var (pv 7)))).nj (pe_lcW (own := [("_law_letter", 7)]) rfl sc_m_names.nd (blkOk_by (N := N_m_names) (sc := defScope st_m_names) (by decide +kernel))))) (r_int)))
     (es_gen (k := (nxO (fun (st_2 : Str) => [.at pa purse_4, .fz many, .fz letters, .ow found_1, .fz k, .fz st_2, .un, .un]))) (fun (word_4 : Str) => [.at pa purse_4, .fz many, .fz letters, .ow found_1, .fz k, .fz word_4, .un, .un]) fun word_4 h_12 =>
     es_nilO ⟨.inr rfl, .inr rfl, .inr rfl, .inr rfl, .inr rfl, .inr rfl, .inl rfl, .inl rfl, trivial⟩)) (fun hb => es_nilO ⟨.inr rfl, .inr rfl, .inr rfl, .inr rfl, .inr rfl, .inr rfl, .inl rfl, .inl rfl, trivial⟩))
     (es_gen (k := (nxO (fun (st : (Pu × (List Str))) => [.at pa st.1, .fz many, .fz letters, .ow st.2, .un, .un, .un, .un]))) (fun (st_2 : Str) => [.at pa purse_4, .fz many, .fz letters, .ow found_1, .fz k, .fz st_2, .un, .un]) fun st_2 h_13 =>
     have ok_17 := ok_gen ok_13.2 h_13; es_cons (s_app (α := Str) (ps_expr (pe_bm PySem.F.plainAttrs_list PySem.F.slot_list_append PySem.F.type_list_append mt_append (pv 3) (pa_cons peW pa_nil))) (RJ.xs (r_var (pv 5))) ⟨_, _, rfl, .ow⟩ rfl .ow (ok_17.1))
     (es_gen (k := (nxO (fun (st : (Pu × (List Str))) => [.at pa st.1, .fz many, .fz letters, .ow st.2, .un, .un, .un, .un]))) (fun (found_2 : (List Str)) => [.at pa purse_4, .fz many, .fz letters, .ow found_2, .fz k, .fz st_2, .un, .un]) fun found_2 h_14 =>
     es_nilO ⟨.inr rfl, .inr rfl, .inr rfl, .inr rfl, .inl rfl, .inl rfl, .inl rfl, .inl rfl, trivial⟩)))))))
     (es_gen (k := (ruO pa owCl (fun (m : (List Str)) => En.ow m))) (fun (st : (Pu × (List Str))) => [.at pa st.1, .fz many, .fz letters, .ow st.2, .un, .un, .un, .un]) fun st h_15 =>
     es_gen (k := (ruO pa owCl (fun (m : (List Str)) => En.ow m))) (fun (purse_5 : Pu) => [.at pa purse_5, .fz many, .fz letters, .ow st.2, .un, .un, .un, .un]) fun purse_5 h_16 => es_gen (k := (ruO pa owCl (fun (m : (List Str)) => En.ow m))) (fun (found_3 : (List Str)) => [.at pa purse_5, .fz many, .fz letters, .ow found_3, .un, .un, .un, .un]) fun found_3 h_17 => es_ru (es_one (u_retO (i := 0) (ps_ret peW) (pv 3))))))
/-! law: windows -/
def m_windows_L1 (far : Int) (wide : Int) (apart : Bool) (st : (Pu × (Dct Str (Int × Int)))) (name : Str) : (Pu × (Dct Str (Int × Int))) :=
  (pipe st.1 fun (purse_4 : Pu) => (pipe st.2 fun (windows_1 : (Dct Str (Int × Int))) => (pipe (far + (m_take (m_take purse_4 (3 : Int)).2 (getI ([(3 : Int), (8 : Int), (24 : Int)] : (List Int)) (m_take purse_4 (3 : Int)).1)).1) fun (start : Int) =>
  (pipe (m_take (m_take purse_4 (3 : Int)).2 (getI ([(3 : Int), (8 : Int), (24 : Int)] : (List Int)) (m_take purse_4 (3 : Int)).1)).2 fun (purse_5 : Pu) =>
  (pipe (bif (apart && (decide ((m_take purse_5 (3 : Int)).1 = (0 : Int)))) then (pipe (m_far (bif apart then (m_take purse_5 (3 : Int)).2 else purse_5)).1 fun (start_1 : Int) =>
  (pipe (m_far (bif apart then (m_take purse_5 (3 : Int)).2 else purse_5)).2 fun (purse_6 : Pu) =>
  (start_1, purse_6))) else (start, (bif apart then (m_take purse_5 (3 : Int)).2 else purse_5))) fun (st_1 : (Int × Pu)) =>
  (pipe st_1.1 fun (start_2 : Int) => (pipe st_1.2 fun (purse_7 : Pu) => (pipe (start_2 + (m_take purse_7 (wide + (2 : Int))).1) fun (end_ : Int) =>
  (pipe (m_take purse_7 (wide + (2 : Int))).2 fun (purse_8 : Pu) =>
  (pipe (bif (decide ((m_take purse_8 (12 : Int)).1 = (0 : Int))) then (pipe ((start_2 - (1 : Int)) - (m_take (m_take purse_8 (12 : Int)).2 (30 : Int)).1) fun (end__1 : Int) =>
  (pipe (m_take (m_take purse_8 (12 : Int)).2 (30 : Int)).2 fun (purse_9 : Pu) =>
  (end__1, purse_9))) else (end_, (m_take purse_8 (12 : Int)).2)) fun (st_2 : (Int × Pu)) =>
  (pipe st_2.1 fun (end__2 : Int) => (pipe st_2.2 fun (purse_10 : Pu) => (pipe (putD windows_1 name (start_2, end__2)) fun (windows_2 : (Dct Str (Int × Int))) =>
  (purse_10, windows_2))))))))))))))
def m_windows (purse : Pu) : ((Dct Str (Int × Int)) × Pu) :=
  (pipe (getI ([(0 : Int), (0 : Int), (0 : Int), (m_far purse).1] : (List Int)) (m_take (m_far purse).2 (4 : Int)).1) fun (far : Int) =>
  (pipe (m_take (m_far purse).2 (4 : Int)).2 fun (purse_1 : Pu) =>
  (pipe (getI ([(2 : Int), (2 : Int), (4 : Int), (4 : Int), (8 : Int), (8 : Int), (20 : Int), ((10 : Int) ^ (58 : Int).toNat)] : (List Int)) (m_take purse_1 (8 : Int)).1) fun (wide : Int) =>
  (pipe (m_take purse_1 (8 : Int)).2 fun (purse_2 : Pu) =>
  (pipe (decide ((m_take purse_2 (4 : Int)).1 = (0 : Int))) fun (apart : Bool) =>
  (pipe (m_take purse_2 (4 : Int)).2 fun (purse_3 : Pu) =>
  (pipe (Dct.mk [] : (Dct Str (Int × Int))) fun (windows : (Dct Str (Int × Int))) =>
  (pipe (List.foldl (m_windows_L1 far wide apart) ((m_names (m_take purse_3 (21 : Int)).2 (m_take purse_3 (21 : Int)).1).2, windows) (m_names (m_take purse_3 (21 : Int)).2 (m_take purse_3 (21 : Int)).1).1) fun (st : (Pu × (Dct Str (Int × Int)))) =>
  (pipe st.1 fun (purse_11 : Pu) => (pipe st.2 fun (windows_3 : (Dct Str (Int × Int))) => (windows_3, purse_11)))))))))))
def ok_m_windows (purse : Pu) : Prop :=
  (ok_m_far purse) ∧ (ok_m_take (m_far purse).2 (4 : Int)) ∧ (okI ([(0 : Int), (0 : Int), (0 : Int), (m_far purse).1] : (List Int)) (m_take (m_far purse).2 (4 : Int)).1) ∧ (pipe (getI ([(0 : Int), (0 : Int), (0 : Int), (m_far purse).1] : (List Int)) (m_take (m_far purse).2 (4 : Int)).1) fun (far : Int) =>
  (pipe (m_take (m_far purse).2 (4 : Int)).2 fun (purse_1 : Pu) =>
  (ok_m_take purse_1 (8 : Int)) ∧ (okI ([(2 : Int), (2 : Int), (4 : Int), (4 : Int), (8 : Int), (8 : Int), (20 : Int), ((10 : Int) ^ (58 : Int).toNat)] : (List Int)) (m_take purse_1 (8 : Int)).1) ∧ (pipe (getI ([(2 : Int), (2 : Int), (4 : Int), (4 : Int), (8 : Int), (8 : Int), (20 : Int), ((10 : Int) ^ (58 : Int).toNat)] : (List Int)) (m_take purse_1 (8 : Int)).1) fun (wide : Int) =>
  (pipe (m_take purse_1 (8 : Int)).2 fun (purse_2 : Pu) =>
  (ok_m_take purse_2 (4 : Int)) ∧ (pipe (decide ((m_take purse_2 (4 : Int)).1 = (0 : Int))) fun (apart : Bool) =>
  (pipe (m_take purse_2 (4 : Int)).2 fun (purse_3 : Pu) =>
  (pipe (Dct.mk [] : (Dct Str (Int × Int))) fun (windows : (Dct Str (Int × Int))) =>
  (ok_m_take purse_3 (21 : Int)) ∧ (ok_m_names (m_take purse_3 (21 : Int)).2 (m_take purse_3 (21 : Int)).1) ∧ (∀ (st : (Pu × (Dct Str (Int × Int)))) (name : Str), AtF (m_windows_L1 far wide apart) (m_names (m_take purse_3 (21 : Int)).2 (m_take purse_3 (21 : Int)).1).1 ((m_names (m_take purse_3 (21 : Int)).2 (m_take purse_3 (21 : Int)).1).2, windows) st name → (pipe st.1 fun (purse_4 : Pu) => (pipe st.2 fun (windows_1 : (Dct Str (Int × Int))) => (ok_m_take purse_4 (3 : Int)) ∧ (okI ([(3 : Int), (8 : Int), (24 : Int)] : (List Int)) (m_take purse_4 (3 : Int)).1) ∧ (ok_m_take (m_take purse_4 (3 : Int)).2 (getI ([(3 : Int), (8 : Int), (24 : Int)] : (List Int)) (m_take purse_4 (3 : Int)).1)) ∧ (pipe (far + (m_take (m_take purse_4 (3 : Int)).2 (getI ([(3 : Int), (8 : Int), (24 : Int)] : (List Int)) (m_take purse_4 (3 : Int)).1)).1) fun (start : Int) =>
  (pipe (m_take (m_take purse_4 (3 : Int)).2 (getI ([(3 : Int), (8 : Int), (24 : Int)] : (List Int)) (m_take purse_4 (3 : Int)).1)).2 fun (purse_5 : Pu) =>
  (apart = true → (ok_m_take purse_5 (3 : Int)) ∧ True) ∧ (okIf (apart && (decide ((m_take purse_5 (3 : Int)).1 = (0 : Int)))) ((ok_m_far (bif apart then (m_take purse_5 (3 : Int)).2 else purse_5)) ∧ True) (True)) ∧ (pipe (bif (apart && (decide ((m_take purse_5 (3 : Int)).1 = (0 : Int)))) then (pipe (m_far (bif apart then (m_take purse_5 (3 : Int)).2 else purse_5)).1 fun (start_1 : Int) =>
  (pipe (m_far (bif apart then (m_take purse_5 (3 : Int)).2 else purse_5)).2 fun (purse_6 : Pu) =>
  (start_1, purse_6))) else (start, (bif apart then (m_take purse_5 (3 : Int)).2 else purse_5))) fun (st_1 : (Int × Pu)) =>
  (pipe st_1.1 fun (start_2 : Int) => (pipe st_1.2 fun (purse_7 : Pu) => (ok_m_take purse_7 (wide + (2 : Int))) ∧ (pipe (start_2 + (m_take purse_7 (wide + (2 : Int))).1) fun (end_ : Int) =>
  (pipe (m_take purse_7 (wide + (2 : Int))).2 fun (purse_8 : Pu) =>
  (ok_m_take purse_8 (12 : Int)) ∧ (okIf (decide ((m_take purse_8 (12 : Int)).1 = (0 : Int))) ((ok_m_take (m_take purse_8 (12 : Int)).2 (30 : Int)) ∧ True) (True)) ∧ (pipe (bif (decide ((m_take purse_8 (12 : Int)).1 = (0 : Int))) then (pipe ((start_2 - (1 : Int)) - (m_take (m_take purse_8 (12 : Int)).2 (30 : Int)).1) fun (end__1 : Int) =>
  (pipe (m_take (m_take purse_8 (12 : Int)).2 (30 : Int)).2 fun (purse_9 : Pu) =>
  (end__1, purse_9))) else (end_, (m_take purse_8 (12 : Int)).2)) fun (st_2 : (Int × Pu)) =>
  (pipe st_2.1 fun (end__2 : Int) => (pipe st_2.2 fun (purse_10 : Pu) => (windows_1.l.length < big) ∧ True))))))))))))) ∧
  True)))))))
abbrev N_m_windows : List Str := (["_law_purse_here", "_law_far_here", "_law_wide", "_law_apart", "_law_windows_here", "_law_name", "_law_start", "_law_end"] : List Str)
abbrev st_m_windows : Stmt := top 25
theorem sc_m_windows : FnScope N_m_windows ["_law_purse_here"] (defScope st_m_windows) := ⟨rfl, rfl, rfl, by decide +kernel, rfl, by decide +kernel, by decide +kernel⟩
def G_m_windows (purse : Pu) (as : List En) (p2 : Pu) (r : En) : Prop := ∃ (_u : Unit), ok_m_windows purse ∧ as = [] ∧ r = .ow (m_windows purse).1 ∧ p2 = (m_windows purse).2
set_option maxRecDepth 100000 in
theorem w_m_windows (B : Bn mg) (D_m_take : Df P w K mg base 1 "_law_take" ["_law_purse_here", "_law_many"] (spU K G_m_take)) (D_m_far : Df P w K mg base 2 "_law_far" ["_law_purse_here"] (spU K G_m_far)) (D_m_names : Df P w K mg base 2 "_law_names" ["_law_purse_here", "_law_many"] (spU K G_m_names))
    {f : Addr} {fd : FuncData} (F : FnP K "_law_windows" st_m_windows f fd) : FnOk P w K mg base CX0 3 f fd ["_law_purse_here"] (spU K G_m_windows) := by
  refine fn_lent F sc_m_windows (by decide) (fun _ as _ r h => by obtain ⟨_u, hok, rfl, _, _⟩ := h; rfl) (fun cdv A outer s H E hr pa purse as p2 r h => ?_)
  obtain ⟨_u, hok, rfl, rfl, rfl⟩ := h
  refine ⟨(fun (m : ((Dct Str (Int × Int)) × Pu)) => Out.ru pa owCl m.2 (.ow m.1)) (m_windows purse), .inl rfl, ?_⟩
  refine es_ruO (w := fun (m : (Dct Str (Int × Int))) => En.ow m) ?_
  show ES _ [.at pa purse, .un, .un, .un, .un, .un, .un, .un] _ ((ruO pa owCl (fun (m : (Dct Str (Int × Int))) => En.ow m)) (pipe (getI ([(0 : Int), (0 : Int), (0 : Int), (m_far purse).1] : (List Int)) (m_take (m_far purse).2 (4 : Int)).1) fun (far : Int) =>
  (pipe (m_take (m_far purse).2 (4 : Int)).2 fun (purse_1 : Pu) =>
  (pipe (getI ([(2 : Int), (2 : Int), (4 : Int), (4 : Int), (8 : Int), (8 : Int), (20 : Int), ((10 : Int) ^ (58 : Int).toNat)] : (List Int)) (m_take purse_1 (8 : Int)).1) fun (wide : Int) =>
  (pipe (m_take purse_1 (8 : Int)).2 fun (purse_2 : Pu) =>
  (pipe (decide ((m_take purse_2 (4 : Int)).1 = (0 : Int))) fun (apart : Bool) =>
  (pipe (m_take purse_2 (4 : Int)).2 fun (purse_3 : Pu) =>
  (pipe (Dct.mk [] : (Dct Str (Int × Int))) fun (windows : (Dct Str (Int × Int))) =>
  (pipe (List.foldl (m_windows_L1 far wide apart) ((m_names (m_take purse_3 (21 : Int)).2 (m_take purse_3 (21 : Int)).1).2, windows) (m_names (m_take purse_3 (21 : Int)).2 (m_take purse_3 (21 : Int)).1).1) fun (st : (Pu × (Dct Str (Int × Int)))) =>
  (pipe st.1 fun (purse_11 : Pu) => (pipe st.2 fun (windows_3 : (Dct Str (Int × Int))) => (windows_3, purse_11))))))))))))
  have hok : (ok_m_far purse) ∧ (ok_m_take (m_far purse).2 (4 : Int)) ∧ (okI ([(0 : Int), (0 : Int), (0 : Int), (m_far purse).1] : (List Int)) (m_take (m_far purse).2 (4 : Int)).1) ∧ (pipe (getI ([(0 : Int), (0 : Int), (0 : Int), (m_far purse).1] : (List Int)) (m_take (m_far purse).2 (4 : Int)).1) fun (far : Int) =>
  (pipe (m_take (m_far purse).2 (4 : Int)).2 fun (purse_1 : Pu) =>
  (ok_m_take purse_1 (8 : Int)) ∧ (okI ([(2 : Int), (2 : Int), (4 : Int), (4 : Int), (8 : Int), (8 : Int), (20 : Int), ((10 : Int) ^ (58 : Int).toNat)] : (List Int)) (m_take purse_1 (8 : Int)).1) ∧ (pipe (getI ([(2 : Int), (2 : Int), (4 : Int), (4 : Int), (8 : Int), (8 : Int), (20 : Int), ((10 : Int) ^ (58 : Int).toNat)] : (List Int)) (m_take purse_1 (8 : Int)).1) fun (wide : Int) =>
  (pipe (m_take purse_1 (8 : Int)).2 fun (purse_2 : Pu) =>
  (ok_m_take purse_2 (4 : Int)) ∧ (pipe (decide ((m_take purse_2 (4 : Int)).1 = (0 : Int))) fun (apart : Bool) =>
  (pipe (m_take purse_2 (4 : Int)).2 fun (purse_3 : Pu) =>
  (pipe (Dct.mk [] : (Dct Str (Int × Int))) fun (windows : (Dct Str (Int × Int))) =>
  (ok_m_take purse_3 (21 : Int)) ∧ (ok_m_names (m_take purse_3 (21 : Int)).2 (m_take purse_3 (21 : Int)).1) ∧ (∀ (st : (Pu × (Dct Str (Int × Int)))) (name : Str), AtF (m_windows_L1 far wide apart) (m_names (m_take purse_3 (21 : Int)).2 (m_take purse_3 (21 : Int)).1).1 ((m_names (m_take purse_3 (21 : Int)).2 (m_take purse_3 (21 : Int)).1).2, windows) st name → (pipe st.1 fun (purse_4 : Pu) => (pipe st.2 fun (windows_1 : (Dct Str (Int × Int))) => (ok_m_take purse_4 (3 : Int)) ∧ (okI ([(3 : Int), (8 : Int), (24 : Int)] : (List Int)) (m_take purse_4 (3 : Int)).1) ∧ (ok_m_take (m_take purse_4 (3 : Int)).2 (getI ([(3 : Int), (8 : Int), (24 : Int)] : (List Int)) (m_take purse_4 (3 : Int)).1)) ∧ (pipe (far + (m_take (m_take purse_4 (3 : Int)).2 (getI ([(3 : Int), (8 : Int), (24 : Int)] : (List Int)) (m_take purse_4 (3 : Int)).1)).1) fun (start : Int) =>
  (pipe (m_take (m_take purse_4 (3 : Int)).2 (getI ([(3 : Int), (8 : Int), (24 : Int)] : (List Int)) (m_take purse_4 (3 : Int)).1)).2 fun (purse_5 : Pu) =>
  (apart = true → (ok_m_take purse_5 (3 : Int)) ∧ True) ∧ (okIf (apart && (decide ((m_take purse_5 (3 : Int)).1 = (0 : Int)))) ((ok_m_far (bif apart then (m_take purse_5 (3 : Int)).2 else purse_5)) ∧ True) (True)) ∧ (pipe (bif (apart && (decide ((m_take purse_5 (3 : Int)).1 = (0 : Int)))) then (pipe (m_far (bif apart then (m_take purse_5 (3 : Int)).2 else purse_5)).1 fun (start_1 : Int) =>
  (pipe (m_far (bif apart then (m_take purse_5 (3 : Int)).2 else purse_5)).2 fun (purse_6 : Pu) =>
  (start_1, purse_6))) else (start, (bif apart then (m_take purse_5 (3 : Int)).2 else purse_5))) fun (st_1 : (Int × Pu)) =>
  (pipe st_1.1 fun (start_2 : Int) => (pipe st_1.2 fun (purse_7 : Pu) => (ok_m_take purse_7 (wide + (2 : Int))) ∧ (pipe (start_2 + (m_take purse_7 (wide + (2 : Int))).1) fun (end_ : Int) =>
  (pipe (m_take purse_7 (wide + (2 : Int))).2 fun (purse_8 : Pu) =>
  (ok_m_take purse_8 (12 : Int)) ∧ (okIf (decide ((m_take purse_8 (12 : Int)).1 = (0 : Int))) ((ok_m_take (m_take purse_8 (12 : Int)).2 (30 : Int)) ∧ True) (True)) ∧ (pipe (bif (decide ((m_take purse_8 (12 : Int)).1 = (0 : Int))) then (pipe ((start_2 - (1 : Int)) - (m_take (m_take purse_8 (12 : Int)).2 (30 : Int)).1) fun (end__1 : Int) =>
  (pipe (m_take (m_take purse_8 (12 : Int)).2 (30 : Int)).2 fun (purse_9 : Pu) =>
  (end__1, purse_9))) else (end_, (m_take purse_8 (12 : Int)).2)) fun (st_2 : (Int × Pu)) =>
  (pipe st_2.1 fun (end__2 : Int) => (pipe st_2.2 fun (purse_10 : Pu) => (windows_1.l.length < big) ∧ True))))))))))))) ∧
  True))))))) := hok
  exact es_cons (s_asgX (ps_set (i := 1) sc_m_windows.nd rfl (.inl rfl) peW) (x_ix (hok.2.2.1) (YJ.frz (y_disp (xla_cons (RJ.xs (r_int)) (xla_cons (RJ.xs (r_int)) (xla_cons (RJ.xs (r_int)) (xla_cons (xU D_m_far (hr.mono (by decide)) (pv 0) (xa_nil) (.at _) rfl (.at _) rfl (⟨(), (hok.1), rfl, rfl, rfl⟩)) (xla_nil))))))) (xU D_m_take (hr.mono (by decide)) (pv 0) (xa_cons (RJ.xs (r_int)) (xa_nil)) (.at _) rfl (.at _) rfl (⟨_, (hok.2.1), rfl, rfl, rfl⟩))))
     (es_gen (k := (ruO pa owCl (fun (m : (Dct Str (Int × Int))) => En.ow m))) (fun (far : Int) => [.at pa (m_take (m_far purse).2 (4 : Int)).2, .fz far, .un, .un, .un, .un, .un, .un]) fun far h =>
     have ok := ok_gen hok.2.2.2 h; es_gen (k := (ruO pa owCl (fun (m : (Dct Str (Int × Int))) => En.ow m))) (fun (purse_1 : Pu) => [.at pa purse_1, .fz far, .un, .un, .un, .un, .un, .un]) fun purse_1 h_1 =>
     have ok_1 := ok_gen ok h_1; es_cons (s_asgX (ps_set (i := 2) sc_m_windows.nd rfl (.inl rfl) peW) (x_ix (ok_1.2.1) (FJ.x (NJ.frz (n_disp (α := Int) (la_cons (RJ.sc (r_int)) (la_cons (RJ.sc (r_int)) (la_cons (RJ.sc (r_int)) (la_cons (RJ.sc (r_int)) (la_cons (RJ.sc (r_int)) (la_cons (RJ.sc (r_int)) (la_cons (RJ.sc (r_int)) (la_cons (RJ.sc (r_pow ⟨by decide, by decide, by decide⟩ (r_int) (r_int))) (la_nil)))))))))))) (xU D_m_take (hr.mono (by decide)) (pv 0) (xa_cons (RJ.xs (r_int)) (xa_nil)) (.at _) rfl (.at _) rfl (⟨_, (ok_1.1), rfl, rfl, rfl⟩))))
     (es_gen (k := (ruO pa owCl (fun (m : (Dct Str (Int × Int))) => En.ow m))) (fun (wide : Int) => [.at pa (m_take purse_1 (8 : Int)).2, .fz far, .fz wide, .un, .un, .un, .un, .un]) fun wide h_2 =>
     have ok_2 := ok_gen ok_1.2.2 h_2; es_gen (k := (ruO pa owCl (fun (m : (Dct Str (Int × Int))) => En.ow m))) (fun (purse_2 : Pu) => [.at pa purse_2, .fz far, .fz wide, .un, .un, .un, .un, .un]) fun purse_2 h_3 =>
     have ok_3 := ok_gen ok_2 h_3; es_cons (s_asgX (ps_set (i := 3) sc_m_windows.nd rfl (.inl rfl) peW) (x_eq (xU D_m_take (hr.mono (by decide)) (pv 0) (xa_cons (RJ.xs (r_int)) (xa_nil)) (.at _) rfl (.at _) rfl (⟨_, (ok_3.1), rfl, rfl, rfl⟩)) (RJ.xs (r_int))))
     (es_gen (k := (ruO pa owCl (fun (m : (Dct Str (Int × Int))) => En.ow m))) (fun (apart : Bool) => [.at pa (m_take purse_2 (4 : Int)).2, .fz far, .fz wide, .fz apart, .un, .un, .un, .un]) fun apart h_4 =>
     have ok_4 := ok_gen ok_3.2 h_4; es_gen (k := (ruO pa owCl (fun (m : (Dct Str (Int × Int))) => En.ow m))) (fun (purse_3 : Pu) => [.at pa purse_3, .fz far, .fz wide, .fz apart, .un, .un, .un, .un]) fun purse_3 h_5 =>
     have ok_5 := ok_gen ok_4 h_5; es_cons (s_asgN (ps_set (i := 4) sc_m_windows.nd rfl (.inl rfl) peW) (n_dnew (κ := Str) (α := (Int × Int))))
     (es_gen (k := (ruO pa owCl (fun (m : (Dct Str (Int × Int))) => En.ow m))) (fun (windows : (Dct Str (Int × Int))) => [.at pa purse_3, .fz far, .fz wide, .fz apart, .ow windows, .un, .un, .un]) fun windows h_6 =>
     have ok_6 := ok_gen ok_5 h_6; es_cons (s_forF (tst := PassesOwn.never) (esf := (fun (st : (Pu × (Dct Str (Int × Int)))) => [.at pa st.1, .fz far, .fz wide, .fz apart, .ow st.2, .un, .un, .un])) (est := fun st name => [.at pa st.1, .fz far, .fz wide, .fz apart, .ow st.2, .fz name, .un, .un]) (g := (m_windows_L1 far wide apart)) (y0 := ((m_names (m_take purse_3 (21 : Int)).2 (m_take purse_3 (21 : Int)).1).2, windows)) rfl (i_list (YJ.frz (yU D_m_names (hr.mono (by decide)) (pv 0) (xa_cons (xU D_m_take (hr.mono (by decide)) (pv 0) (xa_cons (RJ.xs (r_int)) (xa_nil)) (.at _) rfl (.at _) rfl (⟨_, (ok_6.1), rfl, rfl, rfl⟩)) (xa_nil)) (.at _) rfl (.at _) rfl (⟨_, (ok_6.2.1), rfl, rfl, rfl⟩)))) (fun st name => g_name (pg_name (i := 5) sc_m_windows.nd rfl (.inl rfl)) (Nat.le_of_ble_eq_true rfl))
     (fun st name hat => have ok_7 := ok_6.2.2.1 st name hat; es_nxO (esf := (fun (st : (Pu × (Dct Str (Int × Int)))) => [.at pa st.1, .fz far, .fz wide, .fz apart, .ow st.2, .un, .un, .un])) (es_gen (k := (nxO (fun (st : (Pu × (Dct Str (Int × Int)))) => [.at pa st.1, .fz far, .fz wide, .fz apart, .ow st.2, .un, .un, .un]))) (fun (purse_4 : Pu) => [.at pa purse_4, .fz far, .fz wide, .fz apart, .ow st.2, .fz name, .un, .un]) fun purse_4 h_7 => have ok_8 := ok_gen ok_7 h_7; es_gen (k := (nxO (fun (st : (Pu × (Dct Str (Int × Int)))) => [.at pa st.1, .fz far, .fz wide, .fz apart, .ow st.2, .un, .un, .un]))) (fun (windows_1 : (Dct Str (Int × Int))) => [.at pa purse_4, .fz far, .fz wide, .fz apart, .ow windows_1, .fz name, .un, .un]) fun windows_1 h_8 => have ok_9 := ok_gen ok_8 h_8; es_cons (s_asgX (ps_set (i := 6) sc_m_windows.nd rfl (.inl rfl) peW) (x_add (RJ.xs (r_var (pv 1))) (xU D_m_take (hr.mono (by decide)) (pv 0) (xa_cons (x_ix (ok_9.2.1) (FJ.x (NJ.frz (n_disp (α := Int) (la_cons (RJ.sc (r_int)) (la_cons (RJ.sc (r_int)) (la_cons (RJ.sc (r_int)) (la_nil))))))) (xU D_m_take (hr.mono (by decide)) (pv 0) (xa_cons (RJ.xs (r_int)) (xa_nil)) (.at _) rfl (.at _) rfl (⟨_, (ok_9.1), rfl, rfl, rfl⟩))) (xa_nil)) (.at _) rfl (.at _) rfl (⟨_, (ok_9.2.2.1), rfl, rfl, rfl⟩))))
     (es_gen (k := (nxO (fun (st : (Pu × (Dct Str (Int × Int)))) => [.at pa st.1, .fz far, .fz wide, .fz apart, .ow st.2, .un, .un, .un]))) (fun (start : Int) => [.at pa (m_take (m_take purse_4 (3 : Int)).2 (getI ([(3 : Int), (8 : Int), (24 : Int)] : (List Int)) (m_take purse_4 (3 : Int)).1)).2, .fz far, .fz wide, .fz apart, .ow windows_1, .fz name, .fz start, .un]) fun start h_9 =>
     have ok_10 := ok_gen ok_9.2.2.2 h_9; es_gen (k := (nxO (fun (st : (Pu × (Dct Str (Int × Int)))) => [.at pa st.1, .fz far, .fz wide, .fz apart, .ow st.2, .un, .un, .un]))) (fun (purse_5 : Pu) => [.at pa purse_5, .fz far, .fz wide, .fz apart, .ow windows_1, .fz name, .fz start, .un]) fun purse_5 h_10 =>
     have ok_11 := ok_gen ok_10 h_10; es_cons (s_ifeO (m1 := (pipe (m_far (bif apart then (m_take purse_5 (3 : Int)).2 else purse_5)).1 fun (start_1 : Int) =>
     (pipe (m_far (bif apart then (m_take purse_5 (3 : Int)).2 else purse_5)).2 fun (purse_6 : Pu) =>
     (start_1, purse_6)))) (m2 := (start, (bif apart then (m_take purse_5 (3 : Int)).2 else purse_5))) (fun (st_1 : (Int × Pu)) => [.at pa st_1.2, .fz far, .fz wide, .fz apart, .ow windows_1, .fz name, .fz st_1.1, .un]) (es1 := [.at pa (bif apart then (m_take purse_5 (3 : Int)).2 else purse_5), .fz far, .fz wide, .fz apart, .ow windows_1, .fz name, .fz start, .un]) (xt_and (p1 := purse_5) (p2 := (m_take purse_5 (3 : Int)).2) (fun (pu : Pu) => [.at pa pu, .fz far, .fz wide, .fz apart, .ow windows_1, .fz name, .fz start, .un]) (TJ.x (t_val (r_var (pv 3)))) (fun hb => xt_eq (xU D_m_take (hr.mono (by decide)) (pv 0) (xa_cons (RJ.xs (r_int)) (xa_nil)) (.at _) rfl (.at _) rfl (⟨_, (((ok_11.1) hb).1), rfl, rfl, rfl⟩)) (RJ.xs (r_int)))) (fun hb_1 => have ok_12 := (ok_11.2.1).1 hb_1; es_cons (s_asgX (ps_set (i := 6) sc_m_windows.nd rfl (.inl rfl) peW) (xU D_m_far (hr.mono (by decide)) (pv 0) (xa_nil) (.at _) rfl (.at _) rfl (⟨(), (ok_12.1), rfl, rfl, rfl⟩)))
     (es_gen (k := (nxO (fun (st_1 : (Int × Pu)) => [.at pa st_1.2, .fz far, .fz wide, .fz apart, .ow windows_1, .fz name, .fz st_1.1, .un]))) (fun (start_1 : Int) => [.at pa (m_far (bif apart then (m_take purse_5 (3 : Int)).2 else purse_5)).2, .fz far, .fz wide, .fz apart, .ow windows_1, .fz name, .fz start_1, .un]) fun start_1 h_11 =>
     es_gen (k := (nxO (fun (st_1 : (Int × Pu)) => [.at pa st_1.2, .fz far, .fz wide, .fz apart, .ow windows_1, .fz name, .fz st_1.1, .un]))) (fun (purse_6 : Pu) => [.at pa purse_6, .fz far, .fz wide, .fz apart, .ow windows_1, .fz name, .fz start_1, .un]) fun purse_6 h_12 =>
     es_nilO ⟨.inr rfl, .inr rfl, .inr rfl, .inr rfl, .inr rfl, .inr rfl, .inr rfl, .inl rfl, trivial⟩)) (fun hb_1 => es_nilO ⟨.inr rfl, .inr rfl, .inr rfl, .inr rfl, .inr rfl, .inr rfl, .inr rfl, .inl rfl, trivial⟩))
     (es_gen (k := (nxO (fun (st : (Pu × (Dct Str (Int × Int)))) => [.at pa st.1, .fz far, .fz wide, .fz apart, .ow st.2, .un, .un, .un]))) (fun (st_1 : (Int × Pu)) => [.at pa st_1.2, .fz far, .fz wide, .fz apart, .ow windows_1, .fz name, .fz st_1.1, .un]) fun st_1 h_13 =>
     have ok_16 := ok_gen ok_11.2.2 h_13; es_gen (k := (nxO (fun (st : (Pu × (Dct Str (Int × Int)))) => [.at pa st.1, .fz far, .fz wide, .fz apart, .ow st.2, .un, .un, .un]))) (fun (start_2 : Int) => [.at pa st_1.2, .fz far, .fz wide, .fz apart, .ow windows_1, .fz name, .fz start_2, .un]) fun start_2 h_14 => have ok_17 := ok_gen ok_16 h_14; es_gen (k := (nxO (fun (st : (Pu × (Dct Str (Int × Int)))) => [.at pa st.1, .fz far, .fz wide, .fz apart, .ow st.2, .un, .un, .un]))) (fun (purse_7 : Pu) => [.at pa purse_7, .fz far, .fz wide, .fz apart, .ow windows_1, .fz name, .fz start_2, .un]) fun purse_7 h_15 => have ok_18 := ok_gen ok_17 h_15; es_cons (s_asgX (ps_set (i := 7) sc_m_windows.nd rfl (.inl rfl) peW) (x_add (RJ.xs (r_var (pv 6))) (xU D_m_take (hr.mono (by decide)) (pv 0) (xa_cons (RJ.xs (r_add (r_var (pv 2)) (r_int))) (xa_nil)) (.at _) rfl (.at _) rfl (⟨_, (ok_18.1), rfl, rfl, rfl⟩))))
     (es_gen (k := (nxO (fun (st : (Pu × (Dct Str (Int × Int)))) => [.at pa st.1, .fz far, .fz wide, .fz apart, .ow st.2, .un, .un, .un]))) (fun (end_ : Int) => [.at pa (m_take purse_7 (wide + (2 : Int))).2, .fz far, .fz wide, .fz apart, .ow windows_1, .fz name, .fz start_2, .fz end_]) fun end_ h_16 =>
     have ok_19 := ok_gen ok_18.2 h_16; es_gen (k := (nxO (fun (st : (Pu × (Dct Str (Int × Int)))) => [.at pa st.1, .fz far, .fz wide, .fz apart, .ow st.2, .un, .un, .un]))) (fun (purse_8 : Pu) => [.at pa purse_8, .fz far, .fz wide, .fz apart, .ow windows_1, .fz name, .fz start_2, .fz end_]) fun purse_8 h_17 =>
     have ok_20 := ok_gen ok_19 h_17; es_cons (s_ifeO (m1 := (pipe ((start_2 - (1 : Int)) - (m_take (m_take purse_8 (12 : Int)).2 (30 : Int)).1) fun (end__1 : Int) =>
     (pipe (m_take (m_take purse_8 (12 : Int)).2 (30 : Int)).2 fun (purse_9 : Pu) =>
     (end__1, purse_9)))) (m2 := (end_, (m_take purse_8 (12 : Int)).2)) (fun (st_2 : (Int × Pu)) => [.at pa st_2.2, .fz far, .fz wide, .fz apart, .ow windows_1, .fz name, .fz start_2, .fz st_2.1]) (es1 := [.at pa (m_take purse_8 (12 : Int)).2, .fz far, .fz wide, .fz apart, .ow windows_1, .fz name, .fz start_2, .fz end_]) (xt_eq (xU D_m_take (hr.mono (by decide)) (pv 0) (xa_cons (RJ.xs (r_int)) (xa_nil)) (.at _) rfl (.at _) rfl (⟨_, (ok_20.1), rfl, rfl, rfl⟩)) (RJ.xs (r_int))) (fun hb_2 => have ok_21 := (ok_20.2.1).1 hb_2; es_cons (s_asgX (ps_set (i := 7) sc_m_windows.nd rfl (.inl rfl) peW) (x_sub (RJ.xs (r_sub (r_var (pv 6)) (r_int))) (xU D_m_take (hr.mono (by decide)) (pv 0) (xa_cons (RJ.xs (r_int)) (xa_nil)) (.at _) rfl (.at _) rfl (⟨_, (ok_21.1), rfl, rfl, rfl⟩))))
     (es_gen (k := (nxO (fun (st_2 : (Int × Pu)) => [.at pa st_2.2, .fz far, .fz wide, .fz apart, .ow windows_1, .fz name, .fz start_2, .fz st_2.1]))) (fun (end__1 : Int) => [.at pa (m_take (m_take purse_8 (12 : Int)).2 (30 : Int)).2, .fz far, .fz wide, .fz apart, .ow windows_1, .fz name, .fz start_2, .fz end__1]) fun end__1 h_18 =>
     es_gen (k := (nxO (fun (st_2 : (Int × Pu)) => [.at pa st_2.2, .fz far, .fz wide, .fz apart, .ow windows_1, .fz name, .fz start_2, .fz st_2.1]))) (fun (purse_9 : Pu) => [.at pa purse_9, .fz far, .fz wide, .fz apart, .ow windows_1, .fz name, .fz start_2, .fz end__1]) fun purse_9 h_19 =>
     es_nilO ⟨.inr rfl, .inr rfl, .inr rfl, .inr rfl, .inr rfl, .inr rfl, .inr rfl, .inr rfl, trivial⟩)) (fun hb_2 => es_nilO ⟨.inr rfl, .inr rfl, .inr rfl, .inr rfl, .inr rfl, .inr rfl, .inr rfl, .inr rfl, trivial⟩))
     (es_gen (k := (nxO (fun (st : (Pu × (Dct Str (Int × Int)))) => [.at pa st.1, .fz far, .fz wide, .fz apart, .ow st.2, .un, .un, .un]))) (fun (st_2 : (Int × Pu)) => [.at pa st_2.2, .fz far, .fz wide, .fz apart, .ow windows_1, .fz name, .fz start_2, .fz st_2.1]) fun st_2 h_20 =>
     have ok_25 := ok_gen ok_20.2.2 h_20; es_gen (k := (nxO (fun (st : (Pu × (Dct Str (Int × Int)))) => [.at pa st.1, .fz far, .fz wide, .fz apart, .ow st.2, .un, .un, .un]))) (fun (end__2 : Int) => [.at pa st_2.2, .fz far, .fz wide, .fz apart, .ow windows_1, .fz name, .fz start_2, .fz end__2]) fun end__2 h_21 => have ok_26 := ok_gen ok_25 h_21; es_gen (k := (nxO (fun (st : (Pu × (Dct Str (Int × Int)))) => [.at pa st.1, .fz far, .fz wide, .fz apart, .ow st.2, .un, .un, .un]))) (fun (purse_10 : Pu) => [.at pa purse_10, .fz far, .fz wide, .fz apart, .ow windows_1, .fz name, .fz start_2, .fz end__2]) fun purse_10 h_22 => have ok_27 := ok_gen ok_26 h_22; es_cons (s_dput (by exact hr.units) (ps_dput (un1 (by exact hr.units)) (pv 4) peW peW (by rfl)) (FJ.x (f_tup2 (RJ.sc (r_var (pv 6))) (RJ.sc (r_var (pv 7))))) (RJ.xs (r_var (pv 5))) rfl .ow (ok_27.1) (h0 := ⟨_, _, rfl, .ow⟩))
     (es_gen (k := (nxO (fun (st : (Pu × (Dct Str (Int × Int)))) => [.at pa st.1, .fz far, .fz wide, .fz apart, .ow st.2, .un, .un, .un]))) (fun (windows_2 : (Dct Str (Int × Int))) => [.at pa purse_10, .fz far, .fz wide, .fz apart, .ow windows_2, .fz name, .fz start_2, .fz end__2]) fun windows_2 h_23 =>
     es_nilO ⟨.inr rfl, .inr rfl, .inr rfl, .inr rfl, .inr rfl, .inl rfl, .inl rfl, .inl rfl, trivial⟩))))))))
     (es_gen (k := (ruO pa owCl (fun (m : (Dct Str (Int × Int))) => En.ow m))) (fun (st : (Pu × (Dct Str (Int × Int)))) => [.at pa st.1, .fz far, .fz wide, .fz apart, .ow st.2, .un, .un, .un]) fun st h_24 =>
     es_gen (k := (ruO pa owCl (fun (m : (Dct Str (Int × Int))) => En.ow m))) (fun (purse_11 : Pu) => [.at pa purse_11, .fz far, .fz wide, .fz apart, .ow st.2, .un, .un, .un]) fun purse_11 h_25 => es_gen (k := (ruO pa owCl (fun (m : (Dct Str (Int × Int))) => En.ow m))) (fun (windows_3 : (Dct Str (Int × Int))) => [.at pa purse_11, .fz far, .fz wide, .fz apart, .ow windows_3, .un, .un, .un]) fun windows_3 h_26 => es_ru (es_one (u_retO (i := 0) (ps_ret peW) (pv 4))))))))
/-! law: benches -/
def m_benches (purse : Pu) : (Int × Pu) :=
  (bif (decide ((m_take purse (8 : Int)).1 = (0 : Int))) then (((1 : Int) + (m_take (m_take purse (8 : Int)).2 (((10 : Int) ^ (60 : Int).toNat) - (1 : Int))).1), (m_take (m_take purse (8 : Int)).2 (((10 : Int) ^ (60 : Int).toNat) - (1 : Int))).2) else
  (((1 : Int) + (m_take (m_take purse (8 : Int)).2 (4 : Int)).1), (m_take (m_take purse (8 : Int)).2 (4 : Int)).2))
def ok_m_benches (purse : Pu) : Prop :=
  (ok_m_take purse (8 : Int)) ∧ okIf (decide ((m_take purse (8 : Int)).1 = (0 : Int))) ((ok_m_take (m_take purse (8 : Int)).2 (((10 : Int) ^ (60 : Int).toNat) - (1 : Int))) ∧ True) ((ok_m_take (m_take purse (8 : Int)).2 (4 : Int)) ∧ True)
abbrev N_m_benches : List Str := (["_law_purse_here"] : List Str)
abbrev st_m_benches : Stmt := top 23
theorem sc_m_benches : FnScope N_m_benches ["_law_purse_here"] (defScope st_m_benches) := ⟨rfl, rfl, rfl, by decide +kernel, rfl, by decide +kernel, by decide +kernel⟩
def G_m_benches (purse : Pu) (as : List En) (p2 : Pu) (r : En) : Prop := ∃ (_u : Unit), ok_m_benches purse ∧ as = [] ∧ r = .fz (m_benches purse).1 ∧ p2 = (m_benches purse).2
set_option maxRecDepth 100000 in
theorem w_m_benches (B : Bn mg) (D_m_take : Df P w K mg base 1 "_law_take" ["_law_purse_here", "_law_many"] (spU K G_m_take))
    {f : Addr} {fd : FuncData} (F : FnP K "_law_benches" st_m_benches f fd) : FnOk P w K mg base CX0 2 f fd ["_law_purse_here"] (spU K G_m_benches) := by
  refine fn_lent F sc_m_benches (by decide) (fun _ as _ r h => by obtain ⟨_u, hok, rfl, _, _⟩ := h; rfl) (fun cdv A outer s H E hr pa purse as p2 r h => ?_)
  obtain ⟨_u, hok, rfl, rfl, rfl⟩ := h
  refine ⟨(fun (m : (Int × Pu)) => Out.ru pa owCl m.2 (.fz m.1)) (m_benches purse), .inl rfl, ?_⟩
  refine es_ruO (w := fun (m : Int) => En.fz m) ?_
  show ES _ [.at pa purse] _ ((ruO pa owCl (fun (m : Int) => En.fz m)) (bif (decide ((m_take purse (8 : Int)).1 = (0 : Int))) then (((1 : Int) + (m_take (m_take purse (8 : Int)).2 (((10 : Int) ^ (60 : Int).toNat) - (1 : Int))).1), (m_take (m_take purse (8 : Int)).2 (((10 : Int) ^ (60 : Int).toNat) - (1 : Int))).2) else
  (((1 : Int) + (m_take (m_take purse (8 : Int)).2 (4 : Int)).1), (m_take (m_take purse (8 : Int)).2 (4 : Int)).2)))
  have hok : (ok_m_take purse (8 : Int)) ∧ okIf (decide ((m_take purse (8 : Int)).1 = (0 : Int))) ((ok_m_take (m_take purse (8 : Int)).2 (((10 : Int) ^ (60 : Int).toNat) - (1 : Int))) ∧ True) ((ok_m_take (m_take purse (8 : Int)).2 (4 : Int)) ∧ True) := hok
  exact es_ifr (k := (ruO pa owCl (fun (m : Int) => En.fz m))) (m1 := (((1 : Int) + (m_take (m_take purse (8 : Int)).2 (((10 : Int) ^ (60 : Int).toNat) - (1 : Int))).1), (m_take (m_take purse (8 : Int)).2 (((10 : Int) ^ (60 : Int).toNat) - (1 : Int))).2)) (es1 := [.at pa (m_take purse (8 : Int)).2]) (xt_eq (xU D_m_take (hr.mono (by decide)) (pv 0) (xa_cons (RJ.xs (r_int)) (xa_nil)) (.at _) rfl (.at _) rfl (⟨_, (hok.1), rfl, rfl, rfl⟩)) (RJ.xs (r_int))) (by first | rfl | exact ruO_ends | exact xcO_ends fun _ => rfl | exact xuO_ends fun _ => rfl) (fun hb => have ok := hok.2.1 hb; es_ru (es_one (u_ret (i := 0) (ps_ret peW) (x_add (RJ.xs (r_int)) (xU D_m_take (hr.mono (by decide)) (pv 0) (xa_cons (RJ.xs (r_sub (r_pow ⟨by decide, by decide, by decide⟩ (r_int) (r_int)) (r_int))) (xa_nil)) (.at _) rfl (.at _) rfl (⟨_, (ok.1), rfl, rfl, rfl⟩))))))
     (fun hb => have ok_1 := hok.2.2 hb; es_ru (es_one (u_ret (i := 0) (ps_ret peW) (x_add (RJ.xs (r_int)) (xU D_m_take (hr.mono (by decide)) (pv 0) (xa_cons (RJ.xs (r_int)) (xa_nil)) (.at _) rfl (.at _) rfl (⟨_, (ok_1.1), rfl, rfl, rfl⟩))))))
/-! is_whole -/
def p_is_whole (thing : Int) : Bool :=
  (true && (!false))
abbrev N_p_is_whole : List Str := (["thing"] : List Str)
abbrev st_p_is_whole : Stmt := top 6
theorem sc_p_is_whole : FnScope N_p_is_whole ["thing"] (defScope st_p_is_whole) := ⟨rfl, rfl, rfl, by decide +kernel, rfl, by decide +kernel, by decide +kernel⟩
def G_p_is_whole (as : List En) (r : En) : Prop := ∃ (thing : Int), as = [.fz thing] ∧ r = .fz (p_is_whole thing)
set_option maxRecDepth 100000 in
theorem w_p_is_whole (B : Bn mg) 
    {f : Addr} {fd : FuncData} (F : FnP K "is_whole" st_p_is_whole f fd) : FnOk P w K mg base CX0 1 f fd ["thing"] (spP K G_p_is_whole) := by
  refine fn_pure F sc_p_is_whole (by decide) (fun as r h => by obtain ⟨thing, rfl, _⟩ := h; rfl) (fun cdv A outer s H E hr as r h => ?_)
  obtain ⟨thing, rfl, rfl⟩ := h
  refine ⟨(fun (m : Bool) => Out.rt (.fz m)) (p_is_whole thing), rfl, ?_⟩
  show ES _ [.fz thing] _ ((fun (m : Bool) => Out.rt (.fz m)) (true && (!false)))
  exact es_one (s_ret (ps_ret peW) (RJ.sc (r_and (r_isiInt (by rfl) B.n_isinstance (by rfl) B.n_int (r_var (pv 0))) (fun hb => r_and1 (r_not (r_isiBoolI (by rfl) B.n_isinstance (by rfl) B.n_bool (r_var (pv 0))))))))
/-! want_benches -/
def p_want_benches (benches : Int) : Unit :=
  ()
def ok_p_want_benches (benches : Int) : Prop :=
  (((!(p_is_whole benches)) || (decide (benches < (1 : Int)))) = false) ∧ True
abbrev N_p_want_benches : List Str := (["benches"] : List Str)
abbrev st_p_want_benches : Stmt := top 7
theorem sc_p_want_benches : FnScope N_p_want_benches ["benches"] (defScope st_p_want_benches) := ⟨rfl, rfl, rfl, by decide +kernel, rfl, by decide +kernel, by decide +kernel⟩
def G_p_want_benches (as : List En) (r : En) : Prop := ∃ (benches : Int), ok_p_want_benches benches ∧ as = [.fz benches] ∧ r = .fz (p_want_benches benches)
set_option maxRecDepth 100000 in
theorem w_p_want_benches (B : Bn mg) (D_p_is_whole : Df P w K mg base 1 "is_whole" ["thing"] (spP K G_p_is_whole))
    {f : Addr} {fd : FuncData} (F : FnP K "want_benches" st_p_want_benches f fd) : FnOk P w K mg base CX0 2 f fd ["benches"] (spP K G_p_want_benches) := by
  refine fn_pure F sc_p_want_benches (by decide) (fun as r h => by obtain ⟨benches, hok, rfl, _⟩ := h; rfl) (fun cdv A outer s H E hr as r h => ?_)
  obtain ⟨benches, hok, rfl, rfl⟩ := h
  refine ⟨(fun (_ : Unit) => Out.en) (p_want_benches benches), rfl, ?_⟩
  show ES _ [.fz benches] _ ((fun (_ : Unit) => Out.en) ())
  have hok : (((!(p_is_whole benches)) || (decide (benches < (1 : Int)))) = false) ∧ True := hok
  exact es_ifx (hok.1) (TJ.x (w_t (w_or (t_not (t_val (FJ.rd (fD D_p_is_whole (hr.mono (by decide)) (a_cons (RJ.sc (r_var (pv 0))) (a_nil)) (⟨_, rfl, rfl⟩))))) (fun hb => w_or1 (t_lt (r_var (pv 0)) (r_int))))))
     (es_end)
/-! is_plan_word -/
def p_is_plan_word (word : Str) : Bool :=
  ((decide ((1 : Int) ≤ (word.length : Int)) && decide ((word.length : Int) ≤ (8 : Int))) && ((given (fun (letter : Str) => true) (fun (letter : Str) => (decide ((sgnOf letter) ∈ ("abcdefghijklmnopqrstuvwxyz" : Str).cps.toList))) (signsOf word)).all id))
def ok_p_is_plan_word (word : Str) : Prop :=
  ((decide ((1 : Int) ≤ (word.length : Int)) && decide ((word.length : Int) ≤ (8 : Int))) = true → (∀ letter ∈ (signsOf word), true = true → (letter = sgn (sgnOf letter)) ∧ True) ∧ True) ∧ True
abbrev N_p_is_plan_word : List Str := (["word", "letter"] : List Str)
abbrev st_p_is_plan_word : Stmt := top 11
theorem sc_p_is_plan_word : FnScope N_p_is_plan_word ["word"] (defScope st_p_is_plan_word) := ⟨rfl, rfl, rfl, by decide +kernel, rfl, by decide +kernel, by decide +kernel⟩
def G_p_is_plan_word (as : List En) (r : En) : Prop := ∃ (word : Str), ok_p_is_plan_word word ∧ as = [.fz word] ∧ r = .fz (p_is_plan_word word)
set_option maxRecDepth 100000 in
theorem w_p_is_plan_word (B : Bn mg) 
    {f : Addr} {fd : FuncData} (F : FnP K "is_plan_word" st_p_is_plan_word f fd) : FnOk P w K mg base CX0 1 f fd ["word"] (spP K G_p_is_plan_word) := by
  refine fn_pure F sc_p_is_plan_word (by decide) (fun as r h => by obtain ⟨word, hok, rfl, _⟩ := h; rfl) (fun cdv A outer s H E hr as r h => ?_)
  obtain ⟨word, hok, rfl, rfl⟩ := h
  refine ⟨(fun (m : Bool) => Out.rt (.fz m)) (p_is_plan_word word), rfl, ?_⟩
  show ES _ [.fz word, .un] _ ((fun (m : Bool) => Out.rt (.fz m)) ((decide ((1 : Int) ≤ (word.length : Int)) && decide ((word.length : Int) ≤ (8 : Int))) && ((given (fun (letter : Str) => true) (fun (letter : Str) => (decide ((sgnOf letter) ∈ ("abcdefghijklmnopqrstuvwxyz" : Str).cps.toList))) (signsOf word)).all id)))
  have hok : ((decide ((1 : Int) ≤ (word.length : Int)) && decide ((word.length : Int) ≤ (8 : Int))) = true → (∀ letter ∈ (signsOf word), true = true → (letter = sgn (sgnOf letter)) ∧ True) ∧ True) ∧ True := hok
  exact es_one (s_ret (ps_ret peW) (RJ.sc (r_and (r_ltle (r_int) (r_lenS (by rfl) B.n_len (r_var (pv 0))) (r_gint B.g_LONGEST_WORD)) (fun hb => r_and1 (r_all (by rfl) (by rfl) B.n_all (((rd_lc (vs := [1]) (est := fun letter => [.fz word, .fz letter]) (p := fun (letter : Str) => true) (g := fun (letter : Str) => (decide ((sgnOf letter) ∈ ("abcdefghijklmnopqrstuvwxyz" : Str).cps.toList))) (h_str (r_var (pv 0))) rfl (fun _ _ _ _ _ letter => ct_name (pg_name (i := 1) sc_p_is_plan_word.nd rfl (Or.inl rfl)) (by decide) (Nat.le_of_ble_eq_true rfl)) (fun _ _ _ _ _ letter hx => if_nil) (fun _ _ _ _ _ letter hx hp => RJ.sc (r_sign (isSgn (((((hok.1) hb).1) letter hx hp).1) (r_var (pv 1))) (r_gstr B.g_PLAN_LETTERS)))).nj (pe_lcW (own := [("letter", 1)]) rfl sc_p_is_plan_word.nd (blkOk_by (N := N_p_is_plan_word) (sc := defScope st_p_is_plan_word) (by decide +kernel)))).lr))))))
/-! is_window -/
def p_is_window (thing : (Int × Int)) : Bool :=
  (true && ((decide ((2 : Int) = (2 : Int))) && ((p_is_whole thing.1) && (p_is_whole thing.2))))
abbrev N_p_is_window : List Str := (["thing"] : List Str)
abbrev st_p_is_window : Stmt := top 14
theorem sc_p_is_window : FnScope N_p_is_window ["thing"] (defScope st_p_is_window) := ⟨rfl, rfl, rfl, by decide +kernel, rfl, by decide +kernel, by decide +kernel⟩
def G_p_is_window (as : List En) (r : En) : Prop := ∃ (thing : (Int × Int)), as = [.fz thing] ∧ r = .fz (p_is_window thing)
set_option maxRecDepth 100000 in
theorem w_p_is_window (B : Bn mg) (D_p_is_whole : Df P w K mg base 1 "is_whole" ["thing"] (spP K G_p_is_whole))
    {f : Addr} {fd : FuncData} (F : FnP K "is_window" st_p_is_window f fd) : FnOk P w K mg base CX0 2 f fd ["thing"] (spP K G_p_is_window) := by
  refine fn_pure F sc_p_is_window (by decide) (fun as r h => by obtain ⟨thing, rfl, _⟩ := h; rfl) (fun cdv A outer s H E hr as r h => ?_)
  obtain ⟨thing, rfl, rfl⟩ := h
  refine ⟨(fun (m : Bool) => Out.rt (.fz m)) (p_is_window thing), rfl, ?_⟩
  show ES _ [.fz thing] _ ((fun (m : Bool) => Out.rt (.fz m)) (true && ((decide ((2 : Int) = (2 : Int))) && ((p_is_whole thing.1) && (p_is_whole thing.2)))))
  exact es_one (s_ret (ps_ret peW) (RJ.sc (r_and (r_isi (α := (Int × Int)) "tuple" "tuple" (k := true) (by decide +kernel) (fun K => kit_ty (by decide +kernel)) (by rfl) B.n_isinstance (by rfl) B.n_tuple (FJ.rd (f_var (pv 0)))) (fun hb => r_and (r_eq (r_lenN (m := (2 : Int)) rfl (by rfl) B.n_len (FJ.rd (f_var (pv 0)))) (r_int)) (fun hb_1 => r_and (FJ.rd (fD D_p_is_whole (hr.mono (by decide)) (a_cons (f_tp2a (f_var (pv 0))) (a_nil)) (⟨_, rfl, rfl⟩))) (fun hb_2 => r_and1 (FJ.rd (fD D_p_is_whole (hr.mono (by decide)) (a_cons (f_tp2b (f_var (pv 0))) (a_nil)) (⟨_, rfl, rfl⟩)))))))))
/-! want_windows -/
def p_want_windows_L1 (st : Unit) (x : (Str × (Int × Int))) : Unit :=
  (pipe x.1 fun (name : Str) =>
  (pipe x.2 fun (window : (Int × Int)) =>
  ()))
def p_want_windows (windows : (Dct Str (Int × Int))) : Unit :=
  (pipe (List.foldl p_want_windows_L1 () windows.l) fun (st : Unit) =>
  ())
def ok_p_want_windows (windows : (Dct Str (Int × Int))) : Prop :=
  ((decide ((windows.l.length : Int) > (20 : Int))) = false) ∧ (∀ (st : Unit) (x : (Str × (Int × Int))), AtF p_want_windows_L1 windows.l () st x → (pipe x.1 fun (name : Str) =>
  (pipe x.2 fun (window : (Int × Int)) =>
  ((!true) = false → (ok_p_is_plan_word name) ∧ True) ∧ (((!true) || ((!(p_is_plan_word name)) || (!(p_is_window window)))) = false) ∧ True))) ∧
  True
abbrev N_p_want_windows : List Str := (["windows", "name", "window"] : List Str)
abbrev st_p_want_windows : Stmt := top 15
theorem sc_p_want_windows : FnScope N_p_want_windows ["windows"] (defScope st_p_want_windows) := ⟨rfl, rfl, rfl, by decide +kernel, rfl, by decide +kernel, by decide +kernel⟩
def G_p_want_windows (as : List En) (r : En) : Prop := ∃ (windows : (Dct Str (Int × Int))), ok_p_want_windows windows ∧ as = [.fz windows] ∧ r = .fz (p_want_windows windows)
set_option maxRecDepth 100000 in
theorem w_p_want_windows (B : Bn mg) (D_p_is_plan_word : Df P w K mg base 1 "is_plan_word" ["word"] (spP K G_p_is_plan_word)) (D_p_is_window : Df P w K mg base 2 "is_window" ["thing"] (spP K G_p_is_window))
    {f : Addr} {fd : FuncData} (F : FnP K "want_windows" st_p_want_windows f fd) : FnOk P w K mg base CX0 3 f fd ["windows"] (spP K G_p_want_windows) := by
  refine fn_pure F sc_p_want_windows (by decide) (fun as r h => by obtain ⟨windows, hok, rfl, _⟩ := h; rfl) (fun cdv A outer s H E hr as r h => ?_)
  obtain ⟨windows, hok, rfl, rfl⟩ := h
  refine ⟨(fun (_ : Unit) => Out.en) (p_want_windows windows), rfl, ?_⟩
  show ES _ [.fz windows, .un, .un] _ ((fun (_ : Unit) => Out.en) (pipe (List.foldl p_want_windows_L1 () windows.l) fun (st : Unit) =>
  ()))
  have hok : ((decide ((windows.l.length : Int) > (20 : Int))) = false) ∧ (∀ (st : Unit) (x : (Str × (Int × Int))), AtF p_want_windows_L1 windows.l () st x → (pipe x.1 fun (name : Str) =>
  (pipe x.2 fun (window : (Int × Int)) =>
  ((!true) = false → (ok_p_is_plan_word name) ∧ True) ∧ (((!true) || ((!(p_is_plan_word name)) || (!(p_is_window window)))) = false) ∧ True))) ∧
  True := hok
  exact es_ifx (hok.1) (TJ.x (t_gt (r_lenD (κ := Str) (α := (Int × Int)) (by rfl) B.n_len (FJ.rd (f_var (pv 0)))) (r_gint B.g_MOST_JOBS)))
     (es_cons (s_forKF (tst := PassesOwn.never) (esf := (fun (st : Unit) => [.fz windows, .un, .un])) (est := fun st x => [.fz windows, .fz x.1, .fz x.2]) (g := p_want_windows_L1) (y0 := ()) rfl (k_items (p_var (pv 0))) (fun st x => g_tup2 (pg_tup rfl (pgs_cons (pg_name (i := 1) sc_p_want_windows.nd rfl (.inl rfl)) (pgs_cons (pg_name (i := 2) sc_p_want_windows.nd rfl (.inl rfl)) pgs_nil))) ⟨Nat.le_of_ble_eq_true rfl, Nat.le_of_ble_eq_true rfl⟩)
     (fun st x hat => have ok := hok.2.1 st x hat; es_nxO (m := ()) (esf := (fun (st : Unit) => [.fz windows, .un, .un])) (es_gen (k := (nxO (fun (st : Unit) => [.fz windows, .un, .un]))) (m := fun (name : Str) => (pipe x.2 fun (window : (Int × Int)) =>
     ())) (x := x.1) (fun (name : Str) => [.fz windows, .fz name, .fz x.2]) fun name h =>
     have ok_1 := ok_gen ok h; es_gen (k := (nxO (fun (st : Unit) => [.fz windows, .un, .un]))) (m := fun (window : (Int × Int)) => ()) (x := x.2) (fun (window : (Int × Int)) => [.fz windows, .fz name, .fz window]) fun window h_1 =>
     have ok_2 := ok_gen ok_1 h_1; es_ifx (ok_2.2.1) (TJ.x (w_t (w_or (t_not (t_val (r_isiStr (by rfl) B.n_isinstance (by rfl) B.n_str (r_var (pv 1))))) (fun hb_1 => w_or (t_not (t_val (FJ.rd (fD D_p_is_plan_word (hr.mono (by decide)) (a_cons (RJ.sc (r_var (pv 1))) (a_nil)) (⟨_, (((ok_2.1) hb_1).1), rfl, rfl⟩))))) (fun hb_2 => w_or1 (t_not (t_val (FJ.rd (fD D_p_is_window (hr.mono (by decide)) (a_cons (f_var (pv 2)) (a_nil)) (⟨_, rfl, rfl⟩))))))))))
     (es_nilO ⟨.inr rfl, .inl rfl, .inl rfl, trivial⟩))))
     (es_gen (k := (fun (_ : Unit) => Out.en)) (m := fun (st : Unit) => ()) (x := (List.foldl p_want_windows_L1 () windows.l)) (fun (st : Unit) => [.fz windows, .un, .un]) fun st h_2 =>
     es_end))
/-! crowd_to -/
def p_crowd_to_L1 (benches : Int) (windows : (Dct Str (Int × Int))) (rows : (Dct Int (List Str))) (end_ : Int) (st : ((List Str) × Int)) : (Fl ((List Str) × Int) Told) :=
  (pipe st.1 fun (row_1 : (List Str)) => (pipe st.2 fun (first_1 : Int) => (pipe (getD rows (first_1 - (1 : Int))) fun (here : (List Str)) =>
  (bif ((decide ((here.length : Int) < benches)) || ((given (fun (name : Str) => true) (fun (name : Str) => (decide ((getD windows name).2 > end_))) here).any id)) then (Fl.bk (row_1, first_1)) else
  (pipe (row_1 ++ here) fun (row_2 : (List Str)) =>
  (pipe (first_1 - (1 : Int)) fun (first_2 : Int) =>
  (Fl.nx (row_2, first_2))))))))
def p_crowd_to (benches : Int) (windows : (Dct Str (Int × Int))) (rows : (Dct Int (List Str))) (late : Str) : Told :=
  (pipe (getD windows late).1 fun (start : Int) =>
  (pipe (getD windows late).2 fun (end_ : Int) =>
  (bif (decide (end_ < start)) then (Told.crowd start end_ ([late] : (List Str))) else
  (pipe ([late] : (List Str)) fun (row : (List Str)) =>
  (pipe (end_ + (1 : Int)) fun (first : Int) =>
  (Fl.elim (whFl (fun (st : ((List Str) × Int)) => (hasD rows (st.2 - (1 : Int)))) (p_crowd_to_L1 benches windows rows end_) 1000000 (row, first)) (fun (st : ((List Str) × Int)) =>
  (pipe st.1 fun (row_3 : (List Str)) => (pipe st.2 fun (first_3 : Int) => (Told.crowd first_3 end_ row_3)))) (fun r => r)))))))
def ok_p_crowd_to (benches : Int) (windows : (Dct Str (Int × Int))) (rows : (Dct Int (List Str))) (late : Str) : Prop :=
  (hasD windows late = true) ∧ (pipe (getD windows late).1 fun (start : Int) =>
  (pipe (getD windows late).2 fun (end_ : Int) =>
  okIf (decide (end_ < start)) (True) ((pipe ([late] : (List Str)) fun (row : (List Str)) =>
  (pipe (end_ + (1 : Int)) fun (first : Int) =>
  (whOk (fun (st : ((List Str) × Int)) => (hasD rows (st.2 - (1 : Int)))) (p_crowd_to_L1 benches windows rows end_) (fun (st : ((List Str) × Int)) => (pipe st.1 fun (row_1 : (List Str)) => (pipe st.2 fun (first_1 : Int) => (hasD rows (first_1 - (1 : Int)) = true) ∧ (pipe (getD rows (first_1 - (1 : Int))) fun (here : (List Str)) =>
  ((decide ((here.length : Int) < benches)) = false → (∀ name ∈ here, true = true → (hasD windows name = true) ∧ True) ∧ True) ∧ okIf ((decide ((here.length : Int) < benches)) || ((given (fun (name : Str) => true) (fun (name : Str) => (decide ((getD windows name).2 > end_))) here).any id)) (True) (((row_1 ++ here).length ≤ big) ∧ True))))) 1000000 (row, first)) ∧
  True)))))
abbrev N_p_crowd_to : List Str := (["benches", "windows", "rows", "late", "start", "end", "row", "first", "here", "name"] : List Str)
abbrev st_p_crowd_to : Stmt := top 16
theorem sc_p_crowd_to : FnScope N_p_crowd_to ["benches", "windows", "rows", "late"] (defScope st_p_crowd_to) := ⟨rfl, rfl, rfl, by decide +kernel, rfl, by decide +kernel, by decide +kernel⟩
def G_p_crowd_to (as : List En) (r : En) : Prop := ∃ (benches : Int) (windows : (Dct Str (Int × Int))) (rows : (Dct Int (List Str))) (late : Str), ok_p_crowd_to benches windows rows late ∧ as = [.fz benches, .fz windows, .fz rows, .fz late] ∧ r = .fz (p_crowd_to benches windows rows late)
set_option maxRecDepth 100000 in
theorem w_p_crowd_to (B : Bn mg) 
    {f : Addr} {fd : FuncData} (F : FnP K "crowd_to" st_p_crowd_to f fd) : FnOk P w K mg base CX0 1 f fd ["benches", "windows", "rows", "late"] (spP K G_p_crowd_to) := by
  refine fn_pure F sc_p_crowd_to (by decide) (fun as r h => by obtain ⟨benches, windows, rows, late, hok, rfl, _⟩ := h; rfl) (fun cdv A outer s H E hr as r h => ?_)
  obtain ⟨benches, windows, rows, late, hok, rfl, rfl⟩ := h
  refine ⟨(fun (m : Told) => Out.rt (.fz m)) (p_crowd_to benches windows rows late), rfl, ?_⟩
  show ES _ [.fz benches, .fz windows, .fz rows, .fz late, .un, .un, .un, .un, .un, .un] _ ((fun (m : Told) => Out.rt (.fz m)) (pipe (getD windows late).1 fun (start : Int) =>
  (pipe (getD windows late).2 fun (end_ : Int) =>
  (bif (decide (end_ < start)) then (Told.crowd start end_ ([late] : (List Str))) else
  (pipe ([late] : (List Str)) fun (row : (List Str)) =>
  (pipe (end_ + (1 : Int)) fun (first : Int) =>
  (Fl.elim (whFl (fun (st : ((List Str) × Int)) => (hasD rows (st.2 - (1 : Int)))) (p_crowd_to_L1 benches windows rows end_) 1000000 (row, first)) (fun (st : ((List Str) × Int)) =>
  (pipe st.1 fun (row_3 : (List Str)) => (pipe st.2 fun (first_3 : Int) => (Told.crowd first_3 end_ row_3)))) (fun r => r))))))))
  have hok : (hasD windows late = true) ∧ (pipe (getD windows late).1 fun (start : Int) =>
  (pipe (getD windows late).2 fun (end_ : Int) =>
  okIf (decide (end_ < start)) (True) ((pipe ([late] : (List Str)) fun (row : (List Str)) =>
  (pipe (end_ + (1 : Int)) fun (first : Int) =>
  (whOk (fun (st : ((List Str) × Int)) => (hasD rows (st.2 - (1 : Int)))) (p_crowd_to_L1 benches windows rows end_) (fun (st : ((List Str) × Int)) => (pipe st.1 fun (row_1 : (List Str)) => (pipe st.2 fun (first_1 : Int) => (hasD rows (first_1 - (1 : Int)) = true) ∧ (pipe (getD rows (first_1 - (1 : Int))) fun (here : (List Str)) =>
  ((decide ((here.length : Int) < benches)) = false → (∀ name ∈ here, true = true → (hasD windows name = true) ∧ True) ∧ True) ∧ okIf ((decide ((here.length : Int) < benches)) || ((given (fun (name : Str) => true) (fun (name : Str) => (decide ((getD windows name).2 > end_))) here).any id)) (True) (((row_1 ++ here).length ≤ big) ∧ True))))) 1000000 (row, first)) ∧
  True))))) := hok
  exact es_cons (s_asgG (ps_asg peW pgW) (f_dget (by exact hr.units) (hok.1) (f_var (pv 1)) (r_var (pv 3))) (g_tup2 (pg_tup rfl (pgs_cons (pg_name (i := 4) sc_p_crowd_to.nd rfl (.inl rfl)) (pgs_cons (pg_name (i := 5) sc_p_crowd_to.nd rfl (.inr rfl)) pgs_nil))) ⟨Nat.le_of_ble_eq_true rfl, Nat.le_of_ble_eq_true rfl⟩))
     (es_gen (k := (fun (m : Told) => Out.rt (.fz m))) (fun (start : Int) => [.fz benches, .fz windows, .fz rows, .fz late, .fz start, .fz (getD windows late).2, .un, .un, .un, .un]) fun start h =>
     have ok := ok_gen hok.2 h; es_gen (k := (fun (m : Told) => Out.rt (.fz m))) (fun (end_ : Int) => [.fz benches, .fz windows, .fz rows, .fz late, .fz start, .fz end_, .un, .un, .un, .un]) fun end_ h_1 =>
     have ok_1 := ok_gen ok h_1; es_ifr (k := (fun (m : Told) => Out.rt (.fz m))) (m1 := (Told.crowd start end_ ([late] : (List Str)))) (TJ.x (t_lt (r_var (pv 5)) (r_var (pv 4)))) (by first | rfl | exact ruO_ends | exact xcO_ends fun _ => rfl | exact xuO_ends fun _ => rfl) (fun hb => es_one (s_ret (ps_ret peW) (f_crowd (f_tup4 (RJ.sc (r_str)) (RJ.sc (r_var (pv 4))) (RJ.sc (r_var (pv 5))) (NJ.frz (n_disp (α := Str) (la_cons (RJ.sc (r_var (pv 3))) (la_nil))))))))
     (fun hb => have ok_3 := ok_1.2 hb; es_cons (s_asgN (ps_set (i := 6) sc_p_crowd_to.nd rfl (.inl rfl) peW) (n_disp (α := Str) (la_cons (RJ.sc (r_var (pv 3))) (la_nil))))
     (es_gen (k := (fun (m : Told) => Out.rt (.fz m))) (fun (row : (List Str)) => [.fz benches, .fz windows, .fz rows, .fz late, .fz start, .fz end_, .ow row, .un, .un, .un]) fun row h_2 =>
     have ok_4 := ok_gen ok_3 h_2; es_cons (s_asg (ps_set (i := 7) sc_p_crowd_to.nd rfl (.inl rfl) peW) (RJ.sc (r_add (r_var (pv 5)) (r_int))))
     (es_gen (k := (fun (m : Told) => Out.rt (.fz m))) (fun (first : Int) => [.fz benches, .fz windows, .fz rows, .fz late, .fz start, .fz end_, .ow row, .fz first, .un, .un]) fun first h_3 =>
     have ok_5 := ok_gen ok_4 h_3; es_seq (k := (fun (m : Told) => Out.rt (.fz m))) (esf := (fun (st : ((List Str) × Int)) => [.fz benches, .fz windows, .fz rows, .fz late, .fz start, .fz end_, .ow st.1, .fz st.2, .un, .un])) (kr := fun r => (fun (m : Told) => Out.rt (.fz m)) r) (rr := fun r => r) (s_while (tst := PassesOwn.never) (esf := (fun (st : ((List Str) × Int)) => [.fz benches, .fz windows, .fz rows, .fz late, .fz start, .fz end_, .ow st.1, .fz st.2, .un, .un])) (cf := (fun (st : ((List Str) × Int)) => (hasD rows (st.2 - (1 : Int))))) (g := (p_crowd_to_L1 benches windows rows end_)) (y0 := (row, first)) (kr := fun r => (fun (m : Told) => Out.rt (.fz m)) r) 1000000 ok_5.1 rfl (fun _ => by first | rfl | exact ruO_rets | exact xcO_rets fun _ => rfl | exact xuO_rets fun _ => rfl) (fun st => t_din (by exact hr.units) (r_sub (r_var (pv 7)) (r_int)) (FJ.rd (f_var (pv 2)))) (fun st ok_6 hc =>
     es_gen (k := (flO (fun (st : ((List Str) × Int)) => [.fz benches, .fz windows, .fz rows, .fz late, .fz start, .fz end_, .ow st.1, .fz st.2, .un, .un]) (fun r => (fun (m : Told) => Out.rt (.fz m)) r))) (fun (row_1 : (List Str)) => [.fz benches, .fz windows, .fz rows, .fz late, .fz start, .fz end_, .ow row_1, .fz st.2, .un, .un]) fun row_1 h_4 => have ok_7 := ok_gen ok_6 h_4; es_gen (k := (flO (fun (st : ((List Str) × Int)) => [.fz benches, .fz windows, .fz rows, .fz late, .fz start, .fz end_, .ow st.1, .fz st.2, .un, .un]) (fun r => (fun (m : Told) => Out.rt (.fz m)) r))) (fun (first_1 : Int) => [.fz benches, .fz windows, .fz rows, .fz late, .fz start, .fz end_, .ow row_1, .fz first_1, .un, .un]) fun first_1 h_5 => have ok_8 := ok_gen ok_7 h_5; es_cons (s_asg (ps_set (i := 8) sc_p_crowd_to.nd rfl (.inl rfl) peW) (f_dget (by exact hr.units) (ok_8.1) (f_var (pv 2)) (r_sub (r_var (pv 7)) (r_int))))
     (es_gen (k := (flO (fun (st : ((List Str) × Int)) => [.fz benches, .fz windows, .fz rows, .fz late, .fz start, .fz end_, .ow st.1, .fz st.2, .un, .un]) (fun r => (fun (m : Told) => Out.rt (.fz m)) r))) (fun (here : (List Str)) => [.fz benches, .fz windows, .fz rows, .fz late, .fz start, .fz end_, .ow row_1, .fz first_1, .fz here, .un]) fun here h_6 =>
     have ok_9 := ok_gen ok_8.2 h_6; es_ifr (k := (flO (fun (st : ((List Str) × Int)) => [.fz benches, .fz windows, .fz rows, .fz late, .fz start, .fz end_, .ow st.1, .fz st.2, .un, .un]) (fun r => (fun (m : Told) => Out.rt (.fz m)) r))) (m1 := (Fl.bk (row_1, first_1))) (TJ.x (w_t (w_or (t_lt (r_len (by rfl) B.n_len (FJ.rd (f_var (pv 8)))) (r_var (pv 0))) (fun hb_1 => w_or1 (t_val (r_any (by rfl) (by rfl) B.n_any (((rd_lc (vs := [9]) (est := fun name => [.fz benches, .fz windows, .fz rows, .fz late, .fz start, .fz end_, .ow row_1, .fz first_1, .fz here, .fz name]) (p := fun (name : Str) => true) (g := fun (name : Str) => (decide ((getD windows name).2 > end_))) (h_list ((f_var (pv 8)).lr)) rfl (fun _ _ _ _ _ name => ct_name (pg_name (i := 9) sc_p_crowd_to.nd rfl (Or.inl rfl)) (by decide) (Nat.le_of_ble_eq_true rfl)) (fun _ _ _ _ _ name hx => if_nil) (fun _ _ _ _ _ name hx hp => RJ.sc (r_gt (FJ.rd (f_tp2b (f_dget (by exact hr.units) (((((ok_9.1) hb_1).1) name hx hp).1) (f_var (pv 1)) (r_var (pv 9))))) (r_var (pv 5))))).nj (pe_lcW (own := [("name", 9)]) rfl sc_p_crowd_to.nd (blkOk_by (N := N_p_crowd_to) (sc := defScope st_p_crowd_to) (by decide +kernel)))).lr))))))) (by first | rfl | exact ruO_ends | exact xcO_ends fun _ => rfl | exact xuO_ends fun _ => rfl) (fun hb_2 => (by exact es_brk ⟨.inr rfl, .inr rfl, .inr rfl, .inr rfl, .inr rfl, .inr rfl, .inr rfl, .inr rfl, .inl rfl, .inl rfl, trivial⟩))
     (fun hb_2 => have ok_11 := ok_9.2.2 hb_2; es_cons (s_ext (α := Str) (ps_expr (pe_bm PySem.F.plainAttrs_list PySem.F.slot_list_extend PySem.F.type_list_extend mt_extend (pv 6) (pa_cons peW pa_nil))) ((f_var (pv 8)).lr) ⟨_, _, rfl, .ow⟩ rfl .ow (ok_11.1))
     (es_gen (k := (flO (fun (st : ((List Str) × Int)) => [.fz benches, .fz windows, .fz rows, .fz late, .fz start, .fz end_, .ow st.1, .fz st.2, .un, .un]) (fun r => (fun (m : Told) => Out.rt (.fz m)) r))) (fun (row_2 : (List Str)) => [.fz benches, .fz windows, .fz rows, .fz late, .fz start, .fz end_, .ow row_2, .fz first_1, .fz here, .un]) fun row_2 h_7 =>
     es_cons (s_aug (g := fun i j => i - j) (ps_aug (i := 7) sc_p_crowd_to.nd rfl (.inl rfl) peW ip_sub) (RJ.xs (r_int)) rfl rfl)
     (es_gen (k := (flO (fun (st : ((List Str) × Int)) => [.fz benches, .fz windows, .fz rows, .fz late, .fz start, .fz end_, .ow st.1, .fz st.2, .un, .un]) (fun r => (fun (m : Told) => Out.rt (.fz m)) r))) (fun (first_2 : Int) => [.fz benches, .fz windows, .fz rows, .fz late, .fz start, .fz end_, .ow row_2, .fz first_2, .fz here, .un]) fun first_2 h_8 =>
     (by exact es_nil ⟨.inr rfl, .inr rfl, .inr rfl, .inr rfl, .inr rfl, .inr rfl, .inr rfl, .inr rfl, .inl rfl, .inl rfl, trivial⟩))))))) (fun _ => by first | rfl | exact ruO_rets | exact xcO_rets fun _ => rfl | exact xuO_rets fun _ => rfl) (fun _ => by first | rfl | exact ruO_rets | exact xcO_rets fun _ => rfl | exact xuO_rets fun _ => rfl) (fun st h_9 =>
     es_gen (k := (fun (m : Told) => Out.rt (.fz m))) (fun (row_3 : (List Str)) => [.fz benches, .fz windows, .fz rows, .fz late, .fz start, .fz end_, .ow row_3, .fz st.2, .un, .un]) fun row_3 h_10 => es_gen (k := (fun (m : Told) => Out.rt (.fz m))) (fun (first_3 : Int) => [.fz benches, .fz windows, .fz rows, .fz late, .fz start, .fz end_, .ow row_3, .fz first_3, .un, .un]) fun first_3 h_11 => es_one (s_retX (ps_ret peW) (x_crowd (x_tup4 (RJ.xs (r_str)) (RJ.xs (r_var (pv 7))) (RJ.xs (r_var (pv 5))) ((x_frz (pv 6)))))))))))
/-! windowed -/
def p_windowed_L2 (benches : Int) (windows : (Dct Str (Int × Int))) (rows_1 : (Dct Int (List Str))) (turn_2 : (Option Int)) (st_1 : Unit) (x_2 : (Tp3 Int Int Str)) : (Fl Unit Told) :=
  (pipe x_2.a fun (end_ : Int) =>
  (pipe x_2.b fun (start : Int) =>
  (pipe x_2.c fun (name : Str) =>
  (bif (decide (end_ < (Option.getD turn_2 default))) then (Fl.rt (p_crowd_to benches windows rows_1 name)) else
  (Fl.nx ())))))
def p_windowed_L1 (benches : Int) (windows : (Dct Str (Int × Int))) (st : ((Option Int) × (Dct Int (List Str)) × (List (Tp3 Int Int Str)))) : (Fl ((Option Int) × (Dct Int (List Str)) × (List (Tp3 Int Int Str))) Told) :=
  (pipe st.1 fun (turn_1 : (Option Int)) => (pipe st.2.1 fun (rows_1 : (Dct Int (List Str))) => (pipe st.2.2 fun (left_1 : (List (Tp3 Int Int Str))) => (pipe (minI (given (fun (x_1 : (Tp3 Int Int Str)) => true) (fun (x_1 : (Tp3 Int Int Str)) => x_1.b) left_1)) fun (least : Int) =>
  (pipe (some (bif (!turn_1.isSome) then least else (if least > ((Option.getD turn_1 default) + (1 : Int)) then least else ((Option.getD turn_1 default) + (1 : Int))))) fun (turn_2 : (Option Int)) =>
  (Fl.elim (forFl (p_windowed_L2 benches windows rows_1 turn_2) left_1 ()) (fun (st_1 : Unit) =>
  (pipe (cutX (given (fun (x_3 : (Tp3 Int Int Str)) => (decide (x_3.b ≤ (Option.getD turn_2 default)))) (fun (x_3 : (Tp3 Int Int Str)) => x_3.c) left_1) none (some benches)) fun (row : (List Str)) =>
  (pipe (putD rows_1 (Option.getD turn_2 default) row) fun (rows_2 : (Dct Int (List Str))) =>
  (pipe (given (fun (one : (Tp3 Int Int Str)) => (!(decide (one.c ∈ row)))) (fun (one : (Tp3 Int Int Str)) => one) left_1) fun (left_2 : (List (Tp3 Int Int Str))) =>
  (Fl.nx (turn_2, rows_2, left_2)))))) (fun r => (Fl.rt r))))))))
def p_windowed (benches : Int) (windows : (Dct Str (Int × Int))) : Told :=
  (pipe (srtR none (given (fun (x : (Str × (Int × Int))) => true) (fun (x : (Str × (Int × Int))) => (Tp3.mk x.2.2 x.2.1 x.1)) windows.l)) fun (left : (List (Tp3 Int Int Str))) =>
  (pipe (Dct.mk [] : (Dct Int (List Str))) fun (rows : (Dct Int (List Str))) =>
  (pipe (none : (Option Int)) fun (turn : (Option Int)) =>
  (Fl.elim (whFl (fun (st : ((Option Int) × (Dct Int (List Str)) × (List (Tp3 Int Int Str)))) => (!(eqb st.2.2 ([] : (List (Tp3 Int Int Str)))))) (p_windowed_L1 benches windows) 1000000 (turn, rows, left)) (fun (st : ((Option Int) × (Dct Int (List Str)) × (List (Tp3 Int Int Str)))) =>
  (pipe st.1 fun (turn_3 : (Option Int)) => (pipe st.2.1 fun (rows_3 : (Dct Int (List Str))) => (pipe st.2.2 fun (left_3 : (List (Tp3 Int Int Str))) => (Told.plan (given (fun (number_1 : Int) => true) (fun (number_1 : Int) => (number_1, (getD rows_3 number_1))) (srtR none (keysD rows_3)))))))) (fun r => r)))))
def ok_p_windowed (benches : Int) (windows : (Dct Str (Int × Int))) : Prop :=
  (ok_p_want_benches benches) ∧ (ok_p_want_windows windows) ∧ (pipe (srtR none (given (fun (x : (Str × (Int × Int))) => true) (fun (x : (Str × (Int × Int))) => (Tp3.mk x.2.2 x.2.1 x.1)) windows.l)) fun (left : (List (Tp3 Int Int Str))) =>
  (pipe (Dct.mk [] : (Dct Int (List Str))) fun (rows : (Dct Int (List Str))) =>
  (pipe (none : (Option Int)) fun (turn : (Option Int)) =>
  (whOk (fun (st : ((Option Int) × (Dct Int (List Str)) × (List (Tp3 Int Int Str)))) => (!(eqb st.2.2 ([] : (List (Tp3 Int Int Str)))))) (p_windowed_L1 benches windows) (fun (st : ((Option Int) × (Dct Int (List Str)) × (List (Tp3 Int Int Str)))) => (pipe st.1 fun (turn_1 : (Option Int)) => (pipe st.2.1 fun (rows_1 : (Dct Int (List Str))) => (pipe st.2.2 fun (left_1 : (List (Tp3 Int Int Str))) => (0 < (given (fun (x_1 : (Tp3 Int Int Str)) => true) (fun (x_1 : (Tp3 Int Int Str)) => x_1.b) left_1).length) ∧ (pipe (minI (given (fun (x_1 : (Tp3 Int Int Str)) => true) (fun (x_1 : (Tp3 Int Int Str)) => x_1.b) left_1)) fun (least : Int) =>
  ((!turn_1.isSome) = false → (turn_1.isSome = true) ∧ True) ∧ (pipe (some (bif (!turn_1.isSome) then least else (if least > ((Option.getD turn_1 default) + (1 : Int)) then least else ((Option.getD turn_1 default) + (1 : Int))))) fun (turn_2 : (Option Int)) =>
  (∀ (st_1 : Unit) (x_2 : (Tp3 Int Int Str)), At (p_windowed_L2 benches windows rows_1 turn_2) left_1 () st_1 x_2 → (pipe x_2.a fun (end_ : Int) =>
  (pipe x_2.b fun (start : Int) =>
  (pipe x_2.c fun (name : Str) =>
  (turn_2.isSome = true) ∧ okIf (decide (end_ < (Option.getD turn_2 default))) ((ok_p_crowd_to benches windows rows_1 name) ∧ True) (True))))) ∧
  (∀ (st_1 : Unit), ((forFl (p_windowed_L2 benches windows rows_1 turn_2) left_1 ()) = .nx st_1 ∨ (forFl (p_windowed_L2 benches windows rows_1 turn_2) left_1 ()) = .bk st_1) →
  (∀ x_3 ∈ left_1, (turn_2.isSome = true) ∧ True) ∧ (pipe (cutX (given (fun (x_3 : (Tp3 Int Int Str)) => (decide (x_3.b ≤ (Option.getD turn_2 default)))) (fun (x_3 : (Tp3 Int Int Str)) => x_3.c) left_1) none (some benches)) fun (row : (List Str)) =>
  (turn_2.isSome = true) ∧ (rows_1.l.length < big) ∧ True)))))))) 1000000 (turn, rows, left)) ∧
  (∀ (st : ((Option Int) × (Dct Int (List Str)) × (List (Tp3 Int Int Str)))), ((whFl (fun (st : ((Option Int) × (Dct Int (List Str)) × (List (Tp3 Int Int Str)))) => (!(eqb st.2.2 ([] : (List (Tp3 Int Int Str)))))) (p_windowed_L1 benches windows) 1000000 (turn, rows, left)) = .nx st ∨ (whFl (fun (st : ((Option Int) × (Dct Int (List Str)) × (List (Tp3 Int Int Str)))) => (!(eqb st.2.2 ([] : (List (Tp3 Int Int Str)))))) (p_windowed_L1 benches windows) 1000000 (turn, rows, left)) = .bk st) →
  (pipe st.1 fun (turn_3 : (Option Int)) => (pipe st.2.1 fun (rows_3 : (Dct Int (List Str))) => (pipe st.2.2 fun (left_3 : (List (Tp3 Int Int Str))) => (∀ number_1 ∈ (srtR none (keysD rows_3)), true = true → (hasD rows_3 number_1 = true) ∧ True) ∧ True)))))))
abbrev N_p_windowed : List Str := (["benches", "windows", "name", "start", "end", "left", "rows", "turn", "least", "row", "one", "number"] : List Str)
abbrev st_p_windowed : Stmt := top 17
theorem sc_p_windowed : FnScope N_p_windowed ["benches", "windows"] (defScope st_p_windowed) := ⟨rfl, rfl, rfl, by decide +kernel, rfl, by decide +kernel, by decide +kernel⟩
def G_p_windowed (as : List En) (r : En) : Prop := ∃ (benches : Int) (windows : (Dct Str (Int × Int))), ok_p_windowed benches windows ∧ as = [.fz benches, .fz windows] ∧ r = .fz (p_windowed benches windows)
set_option maxRecDepth 100000 in
theorem w_p_windowed (B : Bn mg) (D_p_want_benches : Df P w K mg base 2 "want_benches" ["benches"] (spP K G_p_want_benches)) (D_p_want_windows : Df P w K mg base 3 "want_windows" ["windows"] (spP K G_p_want_windows)) (D_p_crowd_to : Df P w K mg base 1 "crowd_to" ["benches", "windows", "rows", "late"] (spP K G_p_crowd_to))
    {f : Addr} {fd : FuncData} (F : FnP K "windowed" st_p_windowed f fd) : FnOk P w K mg base CX0 4 f fd ["benches", "windows"] (spP K G_p_windowed) := by
  refine fn_pure F sc_p_windowed (by decide) (fun as r h => by obtain ⟨benches, windows, hok, rfl, _⟩ := h; rfl) (fun cdv A outer s H E hr as r h => ?_)
  obtain ⟨benches, windows, hok, rfl, rfl⟩ := h
  refine ⟨(fun (m : Told) => Out.rt (.fz m)) (p_windowed benches windows), rfl, ?_⟩
  show ES _ [.fz benches, .fz windows, .un, .un, .un, .un, .un, .un, .un, .un, .un, .un] _ ((fun (m : Told) => Out.rt (.fz m)) (pipe (srtR none (given (fun (x : (Str × (Int × Int))) => true) (fun (x : (Str × (Int × Int))) => (Tp3.mk x.2.2 x.2.1 x.1)) windows.l)) fun (left : (List (Tp3 Int Int Str))) =>
  (pipe (Dct.mk [] : (Dct Int (List Str))) fun (rows : (Dct Int (List Str))) =>
  (pipe (none : (Option Int)) fun (turn : (Option Int)) =>
  (Fl.elim (whFl (fun (st : ((Option Int) × (Dct Int (List Str)) × (List (Tp3 Int Int Str)))) => (!(eqb st.2.2 ([] : (List (Tp3 Int Int Str)))))) (p_windowed_L1 benches windows) 1000000 (turn, rows, left)) (fun (st : ((Option Int) × (Dct Int (List Str)) × (List (Tp3 Int Int Str)))) =>
  (pipe st.1 fun (turn_3 : (Option Int)) => (pipe st.2.1 fun (rows_3 : (Dct Int (List Str))) => (pipe st.2.2 fun (left_3 : (List (Tp3 Int Int Str))) => (Told.plan (given (fun (number_1 : Int) => true) (fun (number_1 : Int) => (number_1, (getD rows_3 number_1))) (srtR none (keysD rows_3)))))))) (fun r => r))))))
  have hok : (ok_p_want_benches benches) ∧ (ok_p_want_windows windows) ∧ (pipe (srtR none (given (fun (x : (Str × (Int × Int))) => true) (fun (x : (Str × (Int × Int))) => (Tp3.mk x.2.2 x.2.1 x.1)) windows.l)) fun (left : (List (Tp3 Int Int Str))) =>
  (pipe (Dct.mk [] : (Dct Int (List Str))) fun (rows : (Dct Int (List Str))) =>
  (pipe (none : (Option Int)) fun (turn : (Option Int)) =>
  (whOk (fun (st : ((Option Int) × (Dct Int (List Str)) × (List (Tp3 Int Int Str)))) => (!(eqb st.2.2 ([] : (List (Tp3 Int Int Str)))))) (p_windowed_L1 benches windows) (fun (st : ((Option Int) × (Dct Int (List Str)) × (List (Tp3 Int Int Str)))) => (pipe st.1 fun (turn_1 : (Option Int)) => (pipe st.2.1 fun (rows_1 : (Dct Int (List Str))) => (pipe st.2.2 fun (left_1 : (List (Tp3 Int Int Str))) => (0 < (given (fun (x_1 : (Tp3 Int Int Str)) => true) (fun (x_1 : (Tp3 Int Int Str)) => x_1.b) left_1).length) ∧ (pipe (minI (given (fun (x_1 : (Tp3 Int Int Str)) => true) (fun (x_1 : (Tp3 Int Int Str)) => x_1.b) left_1)) fun (least : Int) =>
  ((!turn_1.isSome) = false → (turn_1.isSome = true) ∧ True) ∧ (pipe (some (bif (!turn_1.isSome) then least else (if least > ((Option.getD turn_1 default) + (1 : Int)) then least else ((Option.getD turn_1 default) + (1 : Int))))) fun (turn_2 : (Option Int)) =>
  (∀ (st_1 : Unit) (x_2 : (Tp3 Int Int Str)), At (p_windowed_L2 benches windows rows_1 turn_2) left_1 () st_1 x_2 → (pipe x_2.a fun (end_ : Int) =>
  (pipe x_2.b fun (start : Int) =>
  (pipe x_2.c fun (name : Str) =>
  (turn_2.isSome = true) ∧ okIf (decide (end_ < (Option.getD turn_2 default))) ((ok_p_crowd_to benches windows rows_1 name) ∧ True) (True))))) ∧
  (∀ (st_1 : Unit), ((forFl (p_windowed_L2 benches windows rows_1 turn_2) left_1 ()) = .nx st_1 ∨ (forFl (p_windowed_L2 benches windows rows_1 turn_2) left_1 ()) = .bk st_1) →
  (∀ x_3 ∈ left_1, (turn_2.isSome = true) ∧ True) ∧ (pipe (cutX (given (fun (x_3 : (Tp3 Int Int Str)) => (decide (x_3.b ≤ (Option.getD turn_2 default)))) (fun (x_3 : (Tp3 Int Int Str)) => x_3.c) left_1) none (some benches)) fun (row : (List Str)) =>
  (turn_2.isSome = true) ∧ (rows_1.l.length < big) ∧ True)))))))) 1000000 (turn, rows, left)) ∧
  (∀ (st : ((Option Int) × (Dct Int (List Str)) × (List (Tp3 Int Int Str)))), ((whFl (fun (st : ((Option Int) × (Dct Int (List Str)) × (List (Tp3 Int Int Str)))) => (!(eqb st.2.2 ([] : (List (Tp3 Int Int Str)))))) (p_windowed_L1 benches windows) 1000000 (turn, rows, left)) = .nx st ∨ (whFl (fun (st : ((Option Int) × (Dct Int (List Str)) × (List (Tp3 Int Int Str)))) => (!(eqb st.2.2 ([] : (List (Tp3 Int Int Str)))))) (p_windowed_L1 benches windows) 1000000 (turn, rows, left)) = .bk st) →
  (pipe st.1 fun (turn_3 : (Option Int)) => (pipe st.2.1 fun (rows_3 : (Dct Int (List Str))) => (pipe st.2.2 fun (left_3 : (List (Tp3 Int Int Str))) => (∀ number_1 ∈ (srtR none (keysD rows_3)), true = true → (hasD rows_3 number_1 = true) ∧ True) ∧ True))))))) := hok
  exact es_cons (s_drop (ps_expr peW) (FJ.x (fD D_p_want_benches (hr.mono (by decide)) (a_cons (RJ.sc (r_var (pv 0))) (a_nil)) (⟨_, (hok.1), rfl, rfl⟩))))
     (es_cons (s_drop (ps_expr peW) (FJ.x (fD D_p_want_windows (hr.mono (by decide)) (a_cons (f_var (pv 1)) (a_nil)) (⟨_, (hok.2.1), rfl, rfl⟩))))
     (es_cons (s_asg (ps_set (i := 5) sc_p_windowed.nd rfl (.inl rfl) peW) (NJ.frz (n_sorted (by rfl) B.n_sorted (((rd_lcK (vs := [2, 3, 4]) (est := fun x => [.fz benches, .fz windows, .fz x.1, .fz x.2.1, .fz x.2.2, .un, .un, .un, .un, .un, .un, .un]) (p := fun (x : (Str × (Int × Int))) => true) (g := fun (x : (Str × (Int × Int))) => (Tp3.mk x.2.2 x.2.1 x.1)) (k_items (p_var (pv 1))) rfl (fun _ _ _ _ _ x => ct_tupn (pg_tup rfl (pgs_cons (pg_name (i := 2) sc_p_windowed.nd rfl (Or.inl rfl)) (pgs_cons (pg_tup rfl (pgs_cons (pg_name (i := 3) sc_p_windowed.nd rfl (Or.inl rfl)) (pgs_cons (pg_name (i := 4) sc_p_windowed.nd rfl (Or.inl rfl)) pgs_nil))) pgs_nil))) (by decide) ⟨Nat.le_of_ble_eq_true rfl, Nat.le_of_ble_eq_true rfl, Nat.le_of_ble_eq_true rfl⟩) (fun _ _ _ _ _ x hx => if_nil) (fun _ _ _ _ _ x hx hp => f_tup3 (RJ.sc (r_var (pv 4))) (RJ.sc (r_var (pv 3))) (RJ.sc (r_var (pv 2))))).nj (pe_or (pe_lcW (own := [("name", 2), ("start", 3), ("end", 4)]) rfl sc_p_windowed.nd (blkOk_by (N := N_p_windowed) (sc := defScope st_p_windowed) (by decide +kernel))))).lr))))
     (es_gen (k := (fun (m : Told) => Out.rt (.fz m))) (fun (left : (List (Tp3 Int Int Str))) => [.fz benches, .fz windows, .un, .un, .un, .fz left, .un, .un, .un, .un, .un, .un]) fun left h =>
     have ok := ok_gen hok.2.2 h; es_cons (s_asgN (ps_set (i := 6) sc_p_windowed.nd rfl (.inr rfl) peW) (n_dnew (κ := Int) (α := (List Str))))
     (es_gen (k := (fun (m : Told) => Out.rt (.fz m))) (fun (rows : (Dct Int (List Str))) => [.fz benches, .fz windows, .un, .un, .un, .fz left, .ow rows, .un, .un, .un, .un, .un]) fun rows h_1 =>
     have ok_1 := ok_gen ok h_1; es_cons (s_asg (ps_set (i := 7) sc_p_windowed.nd rfl (.inr rfl) peW) (RJ.sc (r_none)))
     (es_gen (k := (fun (m : Told) => Out.rt (.fz m))) (fun (turn : (Option Int)) => [.fz benches, .fz windows, .un, .un, .un, .fz left, .ow rows, .fz turn, .un, .un, .un, .un]) fun turn h_2 =>
     have ok_2 := ok_gen ok_1 h_2; es_seq (k := (fun (m : Told) => Out.rt (.fz m))) (esf := (fun (st : ((Option Int) × (Dct Int (List Str)) × (List (Tp3 Int Int Str)))) => [.fz benches, .fz windows, .un, .un, .un, .fz st.2.2, .ow st.2.1, .fz st.1, .un, .un, .un, .un])) (kr := fun r => (fun (m : Told) => Out.rt (.fz m)) r) (rr := fun r => r) (s_while (tst := PassesOwn.never) (esf := (fun (st : ((Option Int) × (Dct Int (List Str)) × (List (Tp3 Int Int Str)))) => [.fz benches, .fz windows, .un, .un, .un, .fz st.2.2, .ow st.2.1, .fz st.1, .un, .un, .un, .un])) (cf := (fun (st : ((Option Int) × (Dct Int (List Str)) × (List (Tp3 Int Int Str)))) => (!(eqb st.2.2 ([] : (List (Tp3 Int Int Str))))))) (g := (p_windowed_L1 benches windows)) (y0 := (turn, rows, left)) (kr := fun r => (fun (m : Told) => Out.rt (.fz m)) r) 1000000 ok_2.1 rfl (fun _ => by first | rfl | exact ruO_rets | exact xcO_rets fun _ => rfl | exact xuO_rets fun _ => rfl) (fun st => t_neB (by exact hr.units) (FJ.rd (f_var (pv 5))) (NJ.rd (n_disp (α := (Tp3 Int Int Str)) (la_nil)))) (fun st ok_3 hc =>
     es_gen (k := (flO (fun (st : ((Option Int) × (Dct Int (List Str)) × (List (Tp3 Int Int Str)))) => [.fz benches, .fz windows, .un, .un, .un, .fz st.2.2, .ow st.2.1, .fz st.1, .un, .un, .un, .un]) (fun r => (fun (m : Told) => Out.rt (.fz m)) r))) (fun (turn_1 : (Option Int)) => [.fz benches, .fz windows, .un, .un, .un, .fz st.2.2, .ow st.2.1, .fz turn_1, .un, .un, .un, .un]) fun turn_1 h_3 => have ok_4 := ok_gen ok_3 h_3; es_gen (k := (flO (fun (st : ((Option Int) × (Dct Int (List Str)) × (List (Tp3 Int Int Str)))) => [.fz benches, .fz windows, .un, .un, .un, .fz st.2.2, .ow st.2.1, .fz st.1, .un, .un, .un, .un]) (fun r => (fun (m : Told) => Out.rt (.fz m)) r))) (fun (rows_1 : (Dct Int (List Str))) => [.fz benches, .fz windows, .un, .un, .un, .fz st.2.2, .ow rows_1, .fz turn_1, .un, .un, .un, .un]) fun rows_1 h_4 => have ok_5 := ok_gen ok_4 h_4; es_gen (k := (flO (fun (st : ((Option Int) × (Dct Int (List Str)) × (List (Tp3 Int Int Str)))) => [.fz benches, .fz windows, .un, .un, .un, .fz st.2.2, .ow st.2.1, .fz st.1, .un, .un, .un, .un]) (fun r => (fun (m : Told) => Out.rt (.fz m)) r))) (fun (left_1 : (List (Tp3 Int Int Str))) => [.fz benches, .fz windows, .un, .un, .un, .fz left_1, .ow rows_1, .fz turn_1, .un, .un, .un, .un]) fun left_1 h_5 => have ok_6 := ok_gen ok_5 h_5; es_cons (s_asg (ps_set (i := 8) sc_p_windowed.nd rfl (.inl rfl) peW) (RJ.sc (r_minL (by rfl) (by rfl) B.n_min (ok_6.1) (((rd_lc (vs := [4, 3, 2]) (est := fun x_1 => [.fz benches, .fz windows, .fz x_1.c, .fz x_1.b, .fz x_1.a, .fz left_1, .ow rows_1, .fz turn_1, .un, .un, .un, .un]) (p := fun (x_1 : (Tp3 Int Int Str)) => true) (g := fun (x_1 : (Tp3 Int Int Str)) => x_1.b) (h_list ((f_var (pv 5)).lr)) rfl (fun _ _ _ _ _ x_1 => ct_tup3 (pg_tup rfl (pgs_cons (pg_name (i := 4) sc_p_windowed.nd rfl (Or.inl rfl)) (pgs_cons (pg_name (i := 3) sc_p_windowed.nd rfl (Or.inl rfl)) (pgs_cons (pg_name (i := 2) sc_p_windowed.nd rfl (Or.inl rfl)) pgs_nil)))) (by decide) ⟨Nat.le_of_ble_eq_true rfl, Nat.le_of_ble_eq_true rfl, Nat.le_of_ble_eq_true rfl⟩) (fun _ _ _ _ _ x_1 hx_1 => if_nil) (fun _ _ _ _ _ x_1 hx_1 hp_1 => RJ.sc (r_var (pv 3)))).nj (pe_lcW (own := [("end", 4), ("start", 3), ("name", 2)]) rfl sc_p_windowed.nd (blkOk_by (N := N_p_windowed) (sc := defScope st_p_windowed) (by decide +kernel)))).lr))))
     (es_gen (k := (flO (fun (st : ((Option Int) × (Dct Int (List Str)) × (List (Tp3 Int Int Str)))) => [.fz benches, .fz windows, .un, .un, .un, .fz st.2.2, .ow st.2.1, .fz st.1, .un, .un, .un, .un]) (fun r => (fun (m : Told) => Out.rt (.fz m)) r))) (fun (least : Int) => [.fz benches, .fz windows, .un, .un, .un, .fz left_1, .ow rows_1, .fz turn_1, .fz least, .un, .un, .un]) fun least h_6 =>
     have ok_7 := ok_gen ok_6.2 h_6; es_cons (s_asg (ps_set (i := 7) sc_p_windowed.nd rfl (.inr rfl) peW) (RJ.sc (r_some (FJ.rd (f_ife (t_isNone (r_var (pv 7))) (fun hc_1 => RJ.sc (r_var (pv 8))) (fun hc_1 => RJ.sc (r_max2 (by rfl) (by rfl) B.n_max (r_add (r_the (((ok_7.1) hc_1).1) (r_var (pv 7))) (r_int)) (r_var (pv 8)))))))))
     (es_gen (k := (flO (fun (st : ((Option Int) × (Dct Int (List Str)) × (List (Tp3 Int Int Str)))) => [.fz benches, .fz windows, .un, .un, .un, .fz st.2.2, .ow st.2.1, .fz st.1, .un, .un, .un, .un]) (fun r => (fun (m : Told) => Out.rt (.fz m)) r))) (fun (turn_2 : (Option Int)) => [.fz benches, .fz windows, .un, .un, .un, .fz left_1, .ow rows_1, .fz turn_2, .fz least, .un, .un, .un]) fun turn_2 h_7 =>
     have ok_8 := ok_gen ok_7.2 h_7; es_seq (k := (flO (fun (st : ((Option Int) × (Dct Int (List Str)) × (List (Tp3 Int Int Str)))) => [.fz benches, .fz windows, .un, .un, .un, .fz st.2.2, .ow st.2.1, .fz st.1, .un, .un, .un, .un]) (fun r => (fun (m : Told) => Out.rt (.fz m)) r))) (esf := (fun (st_1 : Unit) => [.fz benches, .fz windows, .un, .un, .un, .fz left_1, .ow rows_1, .fz turn_2, .fz least, .un, .un, .un])) (kr := fun r => (fun (m : Told) => Out.rt (.fz m)) r) (rr := fun r => (Fl.rt r)) (s_for (tst := PassesOwn.never) (esf := (fun (st_1 : Unit) => [.fz benches, .fz windows, .un, .un, .un, .fz left_1, .ow rows_1, .fz turn_2, .fz least, .un, .un, .un])) (est := fun st_1 x_2 => [.fz benches, .fz windows, .fz x_2.c, .fz x_2.b, .fz x_2.a, .fz left_1, .ow rows_1, .fz turn_2, .fz least, .un, .un, .un]) (g := (p_windowed_L2 benches windows rows_1 turn_2)) (y0 := ()) (kr := fun r => (fun (m : Told) => Out.rt (.fz m)) r) rfl (i_list (FJ.x (f_var (pv 5)))) (fun st_1 x_2 => g_tup3 (pg_tup rfl (pgs_cons (pg_name (i := 4) sc_p_windowed.nd rfl (.inl rfl)) (pgs_cons (pg_name (i := 3) sc_p_windowed.nd rfl (.inl rfl)) (pgs_cons (pg_name (i := 2) sc_p_windowed.nd rfl (.inl rfl)) pgs_nil)))) ⟨Nat.le_of_ble_eq_true rfl, Nat.le_of_ble_eq_true rfl, Nat.le_of_ble_eq_true rfl⟩) (fun _ => by first | rfl | exact ruO_rets | exact xcO_rets fun _ => rfl | exact xuO_rets fun _ => rfl)
     (fun st_1 x_2 hat => have ok_9 := ok_8.1 st_1 x_2 hat; es_gen (k := (flO (fun (st_1 : Unit) => [.fz benches, .fz windows, .un, .un, .un, .fz left_1, .ow rows_1, .fz turn_2, .fz least, .un, .un, .un]) (fun r => (fun (m : Told) => Out.rt (.fz m)) r))) (fun (end_ : Int) => [.fz benches, .fz windows, .fz x_2.c, .fz x_2.b, .fz end_, .fz left_1, .ow rows_1, .fz turn_2, .fz least, .un, .un, .un]) fun end_ h_8 =>
     have ok_10 := ok_gen ok_9 h_8; es_gen (k := (flO (fun (st_1 : Unit) => [.fz benches, .fz windows, .un, .un, .un, .fz left_1, .ow rows_1, .fz turn_2, .fz least, .un, .un, .un]) (fun r => (fun (m : Told) => Out.rt (.fz m)) r))) (fun (start : Int) => [.fz benches, .fz windows, .fz x_2.c, .fz start, .fz end_, .fz left_1, .ow rows_1, .fz turn_2, .fz least, .un, .un, .un]) fun start h_9 =>
     have ok_11 := ok_gen ok_10 h_9; es_gen (k := (flO (fun (st_1 : Unit) => [.fz benches, .fz windows, .un, .un, .un, .fz left_1, .ow rows_1, .fz turn_2, .fz least, .un, .un, .un]) (fun r => (fun (m : Told) => Out.rt (.fz m)) r))) (fun (name : Str) => [.fz benches, .fz windows, .fz name, .fz start, .fz end_, .fz left_1, .ow rows_1, .fz turn_2, .fz least, .un, .un, .un]) fun name h_10 =>
     have ok_12 := ok_gen ok_11 h_10; es_ifr (k := (flO (fun (st_1 : Unit) => [.fz benches, .fz windows, .un, .un, .un, .fz left_1, .ow rows_1, .fz turn_2, .fz least, .un, .un, .un]) (fun r => (fun (m : Told) => Out.rt (.fz m)) r))) (m1 := (Fl.rt (p_crowd_to benches windows rows_1 name))) (TJ.x (t_lt (r_var (pv 4)) (r_the (ok_12.1) (r_var (pv 7))))) (by first | rfl | exact ruO_ends | exact xcO_ends fun _ => rfl | exact xuO_ends fun _ => rfl) (fun hb => have ok_13 := ok_12.2.1 hb; es_frz (i := 6) (es1 := [.fz benches, .fz windows, .fz name, .fz start, .fz end_, .fz left_1, .fz rows_1, .fz turn_2, .fz least, .un, .un, .un]) rfl (es_one (s_ret (ps_ret peW) (fD D_p_crowd_to (hr.mono (by decide)) (a_cons (RJ.sc (r_var (pv 0))) (a_cons (f_var (pv 1)) (a_cons (f_var (pv 6)) (a_cons (RJ.sc (r_var (pv 2))) (a_nil))))) (⟨_, _, _, _, (ok_13.1), rfl, rfl⟩)))))
     (fun hb => (by exact es_nil ⟨.inr rfl, .inr rfl, .inl rfl, .inl rfl, .inl rfl, .inr rfl, .inr rfl, .inr rfl, .inr rfl, .inl rfl, .inl rfl, .inl rfl, trivial⟩)))) (fun _ => by first | rfl | exact ruO_rets | exact xcO_rets fun _ => rfl | exact xuO_rets fun _ => rfl) (fun _ => by first | rfl | exact ruO_rets | exact xcO_rets fun _ => rfl | exact xuO_rets fun _ => rfl) (fun st_1 h_11 =>
     have ok_15 := ok_8.2 st_1 h_11; es_cons (s_asg (ps_set (i := 9) sc_p_windowed.nd rfl (.inr rfl) peW) (NJ.frz (n_slice (((rd_lc (vs := [4, 3, 2]) (est := fun x_3 => [.fz benches, .fz windows, .fz x_3.c, .fz x_3.b, .fz x_3.a, .fz left_1, .ow rows_1, .fz turn_2, .fz least, .un, .un, .un]) (p := fun (x_3 : (Tp3 Int Int Str)) => (decide (x_3.b ≤ (Option.getD turn_2 default)))) (g := fun (x_3 : (Tp3 Int Int Str)) => x_3.c) (h_list ((f_var (pv 5)).lr)) rfl (fun _ _ _ _ _ x_3 => ct_tup3 (pg_tup rfl (pgs_cons (pg_name (i := 4) sc_p_windowed.nd rfl (Or.inl rfl)) (pgs_cons (pg_name (i := 3) sc_p_windowed.nd rfl (Or.inl rfl)) (pgs_cons (pg_name (i := 2) sc_p_windowed.nd rfl (Or.inl rfl)) pgs_nil)))) (by decide) ⟨Nat.le_of_ble_eq_true rfl, Nat.le_of_ble_eq_true rfl, Nat.le_of_ble_eq_true rfl⟩) (fun _ _ _ _ _ x_3 hx_2 => if_one (t_le (r_var (pv 3)) (r_the (((ok_15.1) x_3 hx_2).1) (r_var (pv 7))))) (fun _ _ _ _ _ x_3 hx_2 hp_2 => RJ.sc (r_var (pv 2)))).nj (pe_lcW (own := [("end", 4), ("start", 3), ("name", 2)]) rfl sc_p_windowed.nd (blkOk_by (N := N_p_windowed) (sc := defScope st_p_windowed) (by decide +kernel)))).lr) .no (.some (r_var (pv 0))))))
     (es_gen (k := (flO (fun (st : ((Option Int) × (Dct Int (List Str)) × (List (Tp3 Int Int Str)))) => [.fz benches, .fz windows, .un, .un, .un, .fz st.2.2, .ow st.2.1, .fz st.1, .un, .un, .un, .un]) (fun r => (fun (m : Told) => Out.rt (.fz m)) r))) (fun (row : (List Str)) => [.fz benches, .fz windows, .un, .un, .un, .fz left_1, .ow rows_1, .fz turn_2, .fz least, .fz row, .un, .un]) fun row h_12 =>
     have ok_16 := ok_gen ok_15.2 h_12; es_cons (s_dput (by exact hr.units) (ps_dput (un1 (by exact hr.units)) (pv 6) peW peW (by rfl)) (FJ.x (f_var (pv 9))) (RJ.xs (r_the (ok_16.1) (r_var (pv 7)))) rfl .ow (ok_16.2.1) (h0 := ⟨_, _, rfl, .ow⟩))
     (es_gen (k := (flO (fun (st : ((Option Int) × (Dct Int (List Str)) × (List (Tp3 Int Int Str)))) => [.fz benches, .fz windows, .un, .un, .un, .fz st.2.2, .ow st.2.1, .fz st.1, .un, .un, .un, .un]) (fun r => (fun (m : Told) => Out.rt (.fz m)) r))) (fun (rows_2 : (Dct Int (List Str))) => [.fz benches, .fz windows, .un, .un, .un, .fz left_1, .ow rows_2, .fz turn_2, .fz least, .fz row, .un, .un]) fun rows_2 h_13 =>
     es_cons (s_asgRdF (ps_lcW (i := 5) (own := [("one", 10)]) rfl sc_p_windowed.nd rfl rfl (sw_true rfl rfl rfl (by decide +kernel)) (blkOk_by (N := N_p_windowed) (sc := defScope st_p_windowed) (by decide +kernel))) (rd_lc (vs := [10]) (est := fun one => [.fz benches, .fz windows, .un, .un, .un, .fz left_1, .ow rows_2, .fz turn_2, .fz least, .fz row, .fz one, .un]) (p := fun (one : (Tp3 Int Int Str)) => (!(decide (one.c ∈ row)))) (g := fun (one : (Tp3 Int Int Str)) => one) (h_list ((f_var (pv 5)).lr)) rfl (fun _ _ _ _ _ one => ct_name (pg_name (i := 10) sc_p_windowed.nd rfl (Or.inl rfl)) (by decide) (Nat.le_of_ble_eq_true rfl)) (fun _ _ _ _ _ one hx_3 => if_one (t_nin (FJ.rd (f_tp3c (f_var (pv 10)))) (FJ.rd (f_var (pv 9))))) (fun _ _ _ _ _ one hx_3 hp_3 => f_var (pv 10))))
     (es_gen (k := (flO (fun (st : ((Option Int) × (Dct Int (List Str)) × (List (Tp3 Int Int Str)))) => [.fz benches, .fz windows, .un, .un, .un, .fz st.2.2, .ow st.2.1, .fz st.1, .un, .un, .un, .un]) (fun r => (fun (m : Told) => Out.rt (.fz m)) r))) (fun (left_2 : (List (Tp3 Int Int Str))) => [.fz benches, .fz windows, .un, .un, .un, .fz left_2, .ow rows_2, .fz turn_2, .fz least, .fz row, .un, .un]) fun left_2 h_14 =>
     (by exact es_nil ⟨.inr rfl, .inr rfl, .inl rfl, .inl rfl, .inl rfl, .inr rfl, .inr rfl, .inr rfl, .inl rfl, .inl rfl, .inl rfl, .inl rfl, trivial⟩))))))))) (fun _ => by first | rfl | exact ruO_rets | exact xcO_rets fun _ => rfl | exact xuO_rets fun _ => rfl) (fun _ => by first | rfl | exact ruO_rets | exact xcO_rets fun _ => rfl | exact xuO_rets fun _ => rfl) (fun st h_15 =>
     have ok_19 := ok_2.2 st h_15; es_gen (k := (fun (m : Told) => Out.rt (.fz m))) (fun (turn_3 : (Option Int)) => [.fz benches, .fz windows, .un, .un, .un, .fz st.2.2, .ow st.2.1, .fz turn_3, .un, .un, .un, .un]) fun turn_3 h_16 => have ok_20 := ok_gen ok_19 h_16; es_gen (k := (fun (m : Told) => Out.rt (.fz m))) (fun (rows_3 : (Dct Int (List Str))) => [.fz benches, .fz windows, .un, .un, .un, .fz st.2.2, .ow rows_3, .fz turn_3, .un, .un, .un, .un]) fun rows_3 h_17 => have ok_21 := ok_gen ok_20 h_17; es_gen (k := (fun (m : Told) => Out.rt (.fz m))) (fun (left_3 : (List (Tp3 Int Int Str))) => [.fz benches, .fz windows, .un, .un, .un, .fz left_3, .ow rows_3, .fz turn_3, .un, .un, .un, .un]) fun left_3 h_18 => have ok_22 := ok_gen ok_21 h_18; es_frz (i := 6) (es1 := [.fz benches, .fz windows, .un, .un, .un, .fz left_3, .fz rows_3, .fz turn_3, .un, .un, .un, .un]) rfl (es_one (s_ret (ps_ret peW) (f_plan (f_tup2 (RJ.sc (r_str)) (NJ.frz ((rd_lc (vs := [11]) (est := fun number_1 => [.fz benches, .fz windows, .un, .un, .un, .fz left_3, .fz rows_3, .fz turn_3, .un, .un, .un, .fz number_1]) (p := fun (number_1 : Int) => true) (g := fun (number_1 : Int) => (number_1, (getD rows_3 number_1))) (h_list ((n_sortedD (by rfl) (by rfl) B.n_sorted (FJ.rd (f_var (pv 6)))).lr)) rfl (fun _ _ _ _ _ number_1 => ct_name (pg_name (i := 11) sc_p_windowed.nd rfl (Or.inl rfl)) (by decide) (Nat.le_of_ble_eq_true rfl)) (fun _ _ _ _ _ number_1 hx_5 => if_nil) (fun _ _ _ _ _ number_1 hx_5 hp_5 => f_tup2 (RJ.sc (r_var (pv 11))) (f_dget (by exact hr.units) (((ok_22.1) number_1 hx_5 hp_5).1) (f_var (pv 6)) (r_var (pv 11))))).nj (pe_lcW (own := [("number", 11)]) rfl sc_p_windowed.nd (blkOk_by (N := N_p_windowed) (sc := defScope st_p_windowed) (by decide +kernel)))))))))))))))
/-! law: whole -/
def m_whole (found : Int) : Bool :=
  (true && (!false))
abbrev N_m_whole : List Str := (["_law_found"] : List Str)
abbrev st_m_whole : Stmt := top 26
theorem sc_m_whole : FnScope N_m_whole ["_law_found"] (defScope st_m_whole) := ⟨rfl, rfl, rfl, by decide +kernel, rfl, by decide +kernel, by decide +kernel⟩
def G_m_whole (as : List En) (r : En) : Prop := ∃ (found : Int), as = [.fz found] ∧ r = .fz (m_whole found)
set_option maxRecDepth 100000 in
theorem w_m_whole (B : Bn mg) 
    {f : Addr} {fd : FuncData} (F : FnP K "_law_whole" st_m_whole f fd) : FnOk P w K mg base CX0 1 f fd ["_law_found"] (spP K G_m_whole) := by
  refine fn_pure F sc_m_whole (by decide) (fun as r h => by obtain ⟨found, rfl, _⟩ := h; rfl) (fun cdv A outer s H E hr as r h => ?_)
  obtain ⟨found, rfl, rfl⟩ := h
  refine ⟨(fun (m : Bool) => Out.rt (.fz m)) (m_whole found), rfl, ?_⟩
  show ES _ [.fz found] _ ((fun (m : Bool) => Out.rt (.fz m)) (true && (!false)))
  exact es_one (s_ret (ps_ret peW) (RJ.sc (r_and (r_isiInt (by rfl) B.n_isinstance (by rfl) B.n_int (r_var (pv 0))) (fun hb => r_and1 (r_not (r_isiBoolI (by rfl) B.n_isinstance (by rfl) B.n_bool (r_var (pv 0))))))))
/-! law: is_plan -/
def m_is_plan_L2 (windows : (Dct Str (Int × Int))) (pair : (Int × (List Str))) (st_1 : (List Str)) (name : Str) : (Fl (List Str) Bool) :=
  (bif ((decide (name ∈ st_1)) || ((!(hasD windows name)) || (!(decide ((getD windows name).1 ≤ pair.1) && decide (pair.1 ≤ (getD windows name).2))))) then (Fl.rt false) else
  (pipe (st_1 ++ [name]) fun (done_2 : (List Str)) =>
  (Fl.nx done_2)))
def m_is_plan_L1 (benches : Int) (windows : (Dct Str (Int × Int))) (st : ((List Str) × (Option Int))) (pair : (Int × (List Str))) : (Fl ((List Str) × (Option Int)) Bool) :=
  (pipe st.1 fun (done_1 : (List Str)) => (pipe st.2 fun (ahead_1 : (Option Int)) => (bif ((!true) || ((!(decide ((2 : Int) = (2 : Int)))) || ((!(m_whole pair.1)) || (!true)))) then (Fl.rt false) else
  (bif ((decide (pair.2 = ([] : (List Str)))) || ((decide ((pair.2.length : Int) > benches)) || (ahead_1.isSome && (decide (pair.1 ≤ (Option.getD ahead_1 default)))))) then (Fl.rt false) else
  (Fl.elim (forFl (m_is_plan_L2 windows pair) pair.2 done_1) (fun (st_1 : (List Str)) =>
  (pipe (some pair.1) fun (ahead_2 : (Option Int)) =>
  (Fl.nx (st_1, ahead_2)))) (fun r => (Fl.rt r)))))))
def m_is_plan (benches : Int) (windows : (Dct Str (Int × Int))) (turns : (List (Int × (List Str)))) : Bool :=
  (pipe ([] : (List Str)) fun (done : (List Str)) =>
  (pipe (none : (Option Int)) fun (ahead : (Option Int)) =>
  (Fl.elim (forFl (m_is_plan_L1 benches windows) turns (done, ahead)) (fun (st : ((List Str) × (Option Int))) =>
  (pipe st.1 fun (done_3 : (List Str)) => (pipe st.2 fun (ahead_3 : (Option Int)) => (decide ((done_3.length : Int) = (windows.l.length : Int)))))) (fun r => r))))
def ok_m_is_plan (benches : Int) (windows : (Dct Str (Int × Int))) (turns : (List (Int × (List Str)))) : Prop :=
  (pipe ([] : (List Str)) fun (done : (List Str)) =>
  (pipe (none : (Option Int)) fun (ahead : (Option Int)) =>
  (∀ (st : ((List Str) × (Option Int))) (pair : (Int × (List Str))), At (m_is_plan_L1 benches windows) turns (done, ahead) st pair → (pipe st.1 fun (done_1 : (List Str)) => (pipe st.2 fun (ahead_1 : (Option Int)) => okIf ((!true) || ((!(decide ((2 : Int) = (2 : Int)))) || ((!(m_whole pair.1)) || (!true)))) (True) (((decide (pair.2 = ([] : (List Str)))) = false → ((decide ((pair.2.length : Int) > benches)) = false → (ahead_1.isSome = true → (ahead_1.isSome = true) ∧ True) ∧ True) ∧ True) ∧ okIf ((decide (pair.2 = ([] : (List Str)))) || ((decide ((pair.2.length : Int) > benches)) || (ahead_1.isSome && (decide (pair.1 ≤ (Option.getD ahead_1 default)))))) (True) ((∀ (st_1 : (List Str)) (name : Str), At (m_is_plan_L2 windows pair) pair.2 done_1 st_1 name → ((decide (name ∈ st_1)) = false → ((!(hasD windows name)) = false → (hasD windows name = true) ∧ (hasD windows name = true) ∧ True) ∧ True) ∧ okIf ((decide (name ∈ st_1)) || ((!(hasD windows name)) || (!(decide ((getD windows name).1 ≤ pair.1) && decide (pair.1 ≤ (getD windows name).2))))) (True) ((st_1.length < big) ∧ True)) ∧
  True))))) ∧
  True))
abbrev N_m_is_plan : List Str := (["_law_benches_here", "_law_windows_here", "_law_turns", "_law_done", "_law_ahead", "_law_pair", "_law_name"] : List Str)
abbrev st_m_is_plan : Stmt := top 27
theorem sc_m_is_plan : FnScope N_m_is_plan ["_law_benches_here", "_law_windows_here", "_law_turns"] (defScope st_m_is_plan) := ⟨rfl, rfl, rfl, by decide +kernel, rfl, by decide +kernel, by decide +kernel⟩
def G_m_is_plan (as : List En) (r : En) : Prop := ∃ (benches : Int) (windows : (Dct Str (Int × Int))) (turns : (List (Int × (List Str)))), ok_m_is_plan benches windows turns ∧ as = [.fz benches, .fz windows, .fz turns] ∧ r = .fz (m_is_plan benches windows turns)
set_option maxRecDepth 100000 in
theorem w_m_is_plan (B : Bn mg) (D_m_whole : Df P w K mg base 1 "_law_whole" ["_law_found"] (spP K G_m_whole))
    {f : Addr} {fd : FuncData} (F : FnP K "_law_is_plan" st_m_is_plan f fd) : FnOk P w K mg base CX0 2 f fd ["_law_benches_here", "_law_windows_here", "_law_turns"] (spP K G_m_is_plan) := by
  refine fn_pure F sc_m_is_plan (by decide) (fun as r h => by obtain ⟨benches, windows, turns, hok, rfl, _⟩ := h; rfl) (fun cdv A outer s H E hr as r h => ?_)
  obtain ⟨benches, windows, turns, hok, rfl, rfl⟩ := h
  refine ⟨(fun (m : Bool) => Out.rt (.fz m)) (m_is_plan benches windows turns), rfl, ?_⟩
  show ES _ [.fz benches, .fz windows, .fz turns, .un, .un, .un, .un] _ ((fun (m : Bool) => Out.rt (.fz m)) (pipe ([] : (List Str)) fun (done : (List Str)) =>
  (pipe (none : (Option Int)) fun (ahead : (Option Int)) =>
  (Fl.elim (forFl (m_is_plan_L1 benches windows) turns (done, ahead)) (fun (st : ((List Str) × (Option Int))) =>
  (pipe st.1 fun (done_3 : (List Str)) => (pipe st.2 fun (ahead_3 : (Option Int)) => (decide ((done_3.length : Int) = (windows.l.length : Int)))))) (fun r => r)))))
  have hok : (pipe ([] : (List Str)) fun (done : (List Str)) =>
  (pipe (none : (Option Int)) fun (ahead : (Option Int)) =>
  (∀ (st : ((List Str) × (Option Int))) (pair : (Int × (List Str))), At (m_is_plan_L1 benches windows) turns (done, ahead) st pair → (pipe st.1 fun (done_1 : (List Str)) => (pipe st.2 fun (ahead_1 : (Option Int)) => okIf ((!true) || ((!(decide ((2 : Int) = (2 : Int)))) || ((!(m_whole pair.1)) || (!true)))) (True) (((decide (pair.2 = ([] : (List Str)))) = false → ((decide ((pair.2.length : Int) > benches)) = false → (ahead_1.isSome = true → (ahead_1.isSome = true) ∧ True) ∧ True) ∧ True) ∧ okIf ((decide (pair.2 = ([] : (List Str)))) || ((decide ((pair.2.length : Int) > benches)) || (ahead_1.isSome && (decide (pair.1 ≤ (Option.getD ahead_1 default)))))) (True) ((∀ (st_1 : (List Str)) (name : Str), At (m_is_plan_L2 windows pair) pair.2 done_1 st_1 name → ((decide (name ∈ st_1)) = false → ((!(hasD windows name)) = false → (hasD windows name = true) ∧ (hasD windows name = true) ∧ True) ∧ True) ∧ okIf ((decide (name ∈ st_1)) || ((!(hasD windows name)) || (!(decide ((getD windows name).1 ≤ pair.1) && decide (pair.1 ≤ (getD windows name).2))))) (True) ((st_1.length < big) ∧ True)) ∧
  True))))) ∧
  True)) := hok
  exact es_cons (s_asgN (ps_set (i := 3) sc_m_is_plan.nd rfl (.inl rfl) peW) (n_disp (α := Str) (la_nil)))
     (es_gen (k := (fun (m : Bool) => Out.rt (.fz m))) (fun (done : (List Str)) => [.fz benches, .fz windows, .fz turns, .ow done, .un, .un, .un]) fun done h =>
     have ok := ok_gen hok h; es_cons (s_asg (ps_set (i := 4) sc_m_is_plan.nd rfl (.inl rfl) peW) (RJ.sc (r_none)))
     (es_gen (k := (fun (m : Bool) => Out.rt (.fz m))) (fun (ahead : (Option Int)) => [.fz benches, .fz windows, .fz turns, .ow done, .fz ahead, .un, .un]) fun ahead h_1 =>
     have ok_1 := ok_gen ok h_1; es_seq (k := (fun (m : Bool) => Out.rt (.fz m))) (esf := (fun (st : ((List Str) × (Option Int))) => [.fz benches, .fz windows, .fz turns, .ow st.1, .fz st.2, .un, .un])) (kr := fun r => (fun (m : Bool) => Out.rt (.fz m)) r) (rr := fun r => r) (s_for (tst := PassesOwn.never) (esf := (fun (st : ((List Str) × (Option Int))) => [.fz benches, .fz windows, .fz turns, .ow st.1, .fz st.2, .un, .un])) (est := fun st pair => [.fz benches, .fz windows, .fz turns, .ow st.1, .fz st.2, .fz pair, .un]) (g := (m_is_plan_L1 benches windows)) (y0 := (done, ahead)) (kr := fun r => (fun (m : Bool) => Out.rt (.fz m)) r) rfl (i_list (FJ.x (f_var (pv 2)))) (fun st pair => g_name (pg_name (i := 5) sc_m_is_plan.nd rfl (.inl rfl)) (Nat.le_of_ble_eq_true rfl)) (fun _ => by first | rfl | exact ruO_rets | exact xcO_rets fun _ => rfl | exact xuO_rets fun _ => rfl)
     (fun st pair hat => have ok_2 := ok_1.1 st pair hat; es_gen (k := (flO (fun (st : ((List Str) × (Option Int))) => [.fz benches, .fz windows, .fz turns, .ow st.1, .fz st.2, .un, .un]) (fun r => (fun (m : Bool) => Out.rt (.fz m)) r))) (fun (done_1 : (List Str)) => [.fz benches, .fz windows, .fz turns, .ow done_1, .fz st.2, .fz pair, .un]) fun done_1 h_2 => have ok_3 := ok_gen ok_2 h_2; es_gen (k := (flO (fun (st : ((List Str) × (Option Int))) => [.fz benches, .fz windows, .fz turns, .ow st.1, .fz st.2, .un, .un]) (fun r => (fun (m : Bool) => Out.rt (.fz m)) r))) (fun (ahead_1 : (Option Int)) => [.fz benches, .fz windows, .fz turns, .ow done_1, .fz ahead_1, .fz pair, .un]) fun ahead_1 h_3 => have ok_4 := ok_gen ok_3 h_3; es_ifr (k := (flO (fun (st : ((List Str) × (Option Int))) => [.fz benches, .fz windows, .fz turns, .ow st.1, .fz st.2, .un, .un]) (fun r => (fun (m : Bool) => Out.rt (.fz m)) r))) (m1 := (Fl.rt false)) (TJ.x (w_t (w_or (t_not (t_val (r_isi (α := (Int × (List Str))) "tuple" "tuple" (k := true) (by decide +kernel) (fun K => kit_ty (by decide +kernel)) (by rfl) B.n_isinstance (by rfl) B.n_tuple (FJ.rd (f_var (pv 5)))))) (fun hb => w_or (t_ne (r_lenN (m := (2 : Int)) rfl (by rfl) B.n_len (FJ.rd (f_var (pv 5)))) (r_int)) (fun hb_1 => w_or (t_not (t_val (FJ.rd (fD D_m_whole (hr.mono (by decide)) (a_cons (f_tp2a (f_var (pv 5))) (a_nil)) (⟨_, rfl, rfl⟩))))) (fun hb_2 => w_or1 (t_not (t_val (r_isiList (β := Str) (by rfl) B.n_isinstance (by rfl) B.n_list (FJ.rd (f_tp2b (f_var (pv 5))))))))))))) (by first | rfl | exact ruO_ends | exact xcO_ends fun _ => rfl | exact xuO_ends fun _ => rfl) (fun hb_3 => es_one (s_ret (ps_ret peW) (RJ.sc (r_bl))))
     (fun hb_3 => have ok_6 := ok_4.2 hb_3; es_ifr (k := (flO (fun (st : ((List Str) × (Option Int))) => [.fz benches, .fz windows, .fz turns, .ow st.1, .fz st.2, .un, .un]) (fun r => (fun (m : Bool) => Out.rt (.fz m)) r))) (m1 := (Fl.rt false)) (TJ.x (w_t (w_or (t_eqD (by exact hr.units) (FJ.rd (f_tp2b (f_var (pv 5)))) (NJ.rd (n_disp (α := Str) (la_nil)))) (fun hb_4 => w_or (t_gt (r_len (by rfl) B.n_len (FJ.rd (f_tp2b (f_var (pv 5))))) (r_var (pv 0))) (fun hb_5 => w_or1 (w_t (w_and (t_isntNone (r_var (pv 4))) (fun hb_6 => w_and1 (t_le (FJ.rd (f_tp2a (f_var (pv 5)))) (r_the (((((((ok_6.1) hb_4).1) hb_5).1) hb_6).1) (r_var (pv 4)))))))))))) (by first | rfl | exact ruO_ends | exact xcO_ends fun _ => rfl | exact xuO_ends fun _ => rfl) (fun hb_7 => es_one (s_ret (ps_ret peW) (RJ.sc (r_bl))))
     (fun hb_7 => have ok_8 := ok_6.2.2 hb_7; es_seq (k := (flO (fun (st : ((List Str) × (Option Int))) => [.fz benches, .fz windows, .fz turns, .ow st.1, .fz st.2, .un, .un]) (fun r => (fun (m : Bool) => Out.rt (.fz m)) r))) (esf := (fun (st_1 : (List Str)) => [.fz benches, .fz windows, .fz turns, .ow st_1, .fz ahead_1, .fz pair, .un])) (kr := fun r => (fun (m : Bool) => Out.rt (.fz m)) r) (rr := fun r => (Fl.rt r)) (s_for (tst := PassesOwn.never) (esf := (fun (st_1 : (List Str)) => [.fz benches, .fz windows, .fz turns, .ow st_1, .fz ahead_1, .fz pair, .un])) (est := fun st_1 name => [.fz benches, .fz windows, .fz turns, .ow st_1, .fz ahead_1, .fz pair, .fz name]) (g := (m_is_plan_L2 windows pair)) (y0 := done_1) (kr := fun r => (fun (m : Bool) => Out.rt (.fz m)) r) rfl (i_list (FJ.x (f_tp2b (f_var (pv 5))))) (fun st_1 name => g_name (pg_name (i := 6) sc_m_is_plan.nd rfl (.inl rfl)) (Nat.le_of_ble_eq_true rfl)) (fun _ => by first | rfl | exact ruO_rets | exact xcO_rets fun _ => rfl | exact xuO_rets fun _ => rfl)
     (fun st_1 name hat_1 => have ok_9 := ok_8.1 st_1 name hat_1; es_ifr (k := (flO (fun (st_1 : (List Str)) => [.fz benches, .fz windows, .fz turns, .ow st_1, .fz ahead_1, .fz pair, .un]) (fun r => (fun (m : Bool) => Out.rt (.fz m)) r))) (m1 := (Fl.rt false)) (TJ.x (w_t (w_or (t_in (r_var (pv 6)) ((o_var (pv 3)))) (fun hb_8 => w_or (t_dnin (by exact hr.units) (r_var (pv 6)) (FJ.rd (f_var (pv 1)))) (fun hb_9 => w_or1 (t_not (t_ltle (FJ.rd (f_tp2a (f_dget (by exact hr.units) (((((ok_9.1) hb_8).1) hb_9).1) (f_var (pv 1)) (r_var (pv 6))))) (FJ.rd (f_tp2a (f_var (pv 5)))) (FJ.rd (f_tp2b (f_dget (by exact hr.units) (((((ok_9.1) hb_8).1) hb_9).2.1) (f_var (pv 1)) (r_var (pv 6)))))))))))) (by first | rfl | exact ruO_ends | exact xcO_ends fun _ => rfl | exact xuO_ends fun _ => rfl) (fun hb_10 => es_one (s_ret (ps_ret peW) (RJ.sc (r_bl))))
     (fun hb_10 => have ok_11 := ok_9.2.2 hb_10; es_cons (s_app (α := Str) (ps_expr (pe_bm PySem.F.plainAttrs_list PySem.F.slot_list_append PySem.F.type_list_append mt_append (pv 3) (pa_cons peW pa_nil))) (RJ.xs (r_var (pv 6))) ⟨_, _, rfl, .ow⟩ rfl .ow (ok_11.1))
     (es_gen (k := (flO (fun (st_1 : (List Str)) => [.fz benches, .fz windows, .fz turns, .ow st_1, .fz ahead_1, .fz pair, .un]) (fun r => (fun (m : Bool) => Out.rt (.fz m)) r))) (fun (done_2 : (List Str)) => [.fz benches, .fz windows, .fz turns, .ow done_2, .fz ahead_1, .fz pair, .fz name]) fun done_2 h_4 =>
     (by exact es_nil ⟨.inr rfl, .inr rfl, .inr rfl, .inr rfl, .inr rfl, .inr rfl, .inl rfl, trivial⟩))))) (fun _ => by first | rfl | exact ruO_rets | exact xcO_rets fun _ => rfl | exact xuO_rets fun _ => rfl) (fun _ => by first | rfl | exact ruO_rets | exact xcO_rets fun _ => rfl | exact xuO_rets fun _ => rfl) (fun st_1 h_5 =>
     es_cons (s_asg (ps_set (i := 4) sc_m_is_plan.nd rfl (.inl rfl) peW) (RJ.sc (r_some (FJ.rd (f_tp2a (f_var (pv 5)))))))
     (es_gen (k := (flO (fun (st : ((List Str) × (Option Int))) => [.fz benches, .fz windows, .fz turns, .ow st.1, .fz st.2, .un, .un]) (fun r => (fun (m : Bool) => Out.rt (.fz m)) r))) (fun (ahead_2 : (Option Int)) => [.fz benches, .fz windows, .fz turns, .ow st_1, .fz ahead_2, .fz pair, .un]) fun ahead_2 h_6 =>
     (by exact es_nil ⟨.inr rfl, .inr rfl, .inr rfl, .inr rfl, .inr rfl, .inl rfl, .inl rfl, trivial⟩))))))) (fun _ => by first | rfl | exact ruO_rets | exact xcO_rets fun _ => rfl | exact xuO_rets fun _ => rfl) (fun _ => by first | rfl | exact ruO_rets | exact xcO_rets fun _ => rfl | exact xuO_rets fun _ => rfl) (fun st h_7 =>
     es_gen (k := (fun (m : Bool) => Out.rt (.fz m))) (fun (done_3 : (List Str)) => [.fz benches, .fz windows, .fz turns, .ow done_3, .fz st.2, .un, .un]) fun done_3 h_8 => es_gen (k := (fun (m : Bool) => Out.rt (.fz m))) (fun (ahead_3 : (Option Int)) => [.fz benches, .fz windows, .fz turns, .ow done_3, .fz ahead_3, .un, .un]) fun ahead_3 h_9 => es_one (s_ret (ps_ret peW) (RJ.sc (r_eq (r_len (by rfl) B.n_len ((o_var (pv 3)))) (r_lenD (κ := Str) (α := (Int × Int)) (by rfl) B.n_len (FJ.rd (f_var (pv 1))))))))))
/-! law: is_crowd -/
def m_is_crowd_L1 (windows : (Dct Str (Int × Int))) (told : Told) (st : Unit) (k : Int) : (Fl Unit Bool) :=
  (pipe (getI told.names k) fun (name : Str) =>
  (bif ((decide (name ∈ (cutX told.names none (some k)))) || (!(hasD windows name))) then (Fl.rt false) else
  (bif ((decide ((getD windows name).1 < told.first)) || (decide ((getD windows name).2 > told.last))) then (Fl.rt false) else
  (Fl.nx ()))))
def m_is_crowd (benches : Int) (windows : (Dct Str (Int × Int))) (told : Told) : Bool :=
  (bif ((!(decide (told.len = (4 : Int)))) || ((!(m_whole told.first)) || ((!(m_whole told.last)) || (!true)))) then false else
  (Fl.elim (forFl (m_is_crowd_L1 windows told) (rangeL 0 (told.names.length : Int)) ()) (fun (st : Unit) =>
  (decide ((told.names.length : Int) > (benches * (if ((told.last - told.first) + (1 : Int)) > (0 : Int) then ((told.last - told.first) + (1 : Int)) else (0 : Int)))))) (fun r => r)))
def ok_m_is_crowd (benches : Int) (windows : (Dct Str (Int × Int))) (told : Told) : Prop :=
  ((!(decide (told.len = (4 : Int)))) = false → (told.isCrowd = true) ∧ ((!(m_whole told.first)) = false → (told.isCrowd = true) ∧ ((!(m_whole told.last)) = false → (told.isCrowd = true) ∧ True) ∧ True) ∧ True) ∧ okIf ((!(decide (told.len = (4 : Int)))) || ((!(m_whole told.first)) || ((!(m_whole told.last)) || (!true)))) (True) ((told.isCrowd = true) ∧ (-(2 ^ 62) ≤ (told.names.length : Int) ∧ (told.names.length : Int) < 2 ^ 62) ∧ (∀ (st : Unit) (k : Int), At (m_is_crowd_L1 windows told) (rangeL 0 (told.names.length : Int)) () st k → (told.isCrowd = true) ∧ (okI told.names k) ∧ (pipe (getI told.names k) fun (name : Str) =>
  (told.isCrowd = true) ∧ okIf ((decide (name ∈ (cutX told.names none (some k)))) || (!(hasD windows name))) (True) ((hasD windows name = true) ∧ (told.isCrowd = true) ∧ ((decide ((getD windows name).1 < told.first)) = false → (hasD windows name = true) ∧ (told.isCrowd = true) ∧ True) ∧ True))) ∧
  (∀ (st : Unit), ((forFl (m_is_crowd_L1 windows told) (rangeL 0 (told.names.length : Int)) ()) = .nx st ∨ (forFl (m_is_crowd_L1 windows told) (rangeL 0 (told.names.length : Int)) ()) = .bk st) →
  (told.isCrowd = true) ∧ (told.isCrowd = true) ∧ (told.isCrowd = true) ∧ (CMulW benches (if ((told.last - told.first) + (1 : Int)) > (0 : Int) then ((told.last - told.first) + (1 : Int)) else (0 : Int))) ∧ True))
abbrev N_m_is_crowd : List Str := (["_law_benches_here", "_law_windows_here", "_law_told", "_law_k", "_law_name"] : List Str)
abbrev st_m_is_crowd : Stmt := top 28
theorem sc_m_is_crowd : FnScope N_m_is_crowd ["_law_benches_here", "_law_windows_here", "_law_told"] (defScope st_m_is_crowd) := ⟨rfl, rfl, rfl, by decide +kernel, rfl, by decide +kernel, by decide +kernel⟩
def G_m_is_crowd (as : List En) (r : En) : Prop := ∃ (benches : Int) (windows : (Dct Str (Int × Int))) (told : Told), ok_m_is_crowd benches windows told ∧ as = [.fz benches, .fz windows, .fz told] ∧ r = .fz (m_is_crowd benches windows told)
set_option maxRecDepth 100000 in
theorem w_m_is_crowd (B : Bn mg) (D_m_whole : Df P w K mg base 1 "_law_whole" ["_law_found"] (spP K G_m_whole))
    {f : Addr} {fd : FuncData} (F : FnP K "_law_is_crowd" st_m_is_crowd f fd) : FnOk P w K mg base CX0 2 f fd ["_law_benches_here", "_law_windows_here", "_law_told"] (spP K G_m_is_crowd) := by
  refine fn_pure F sc_m_is_crowd (by decide) (fun as r h => by obtain ⟨benches, windows, told, hok, rfl, _⟩ := h; rfl) (fun cdv A outer s H E hr as r h => ?_)
  obtain ⟨benches, windows, told, hok, rfl, rfl⟩ := h
  refine ⟨(fun (m : Bool) => Out.rt (.fz m)) (m_is_crowd benches windows told), rfl, ?_⟩
  show ES _ [.fz benches, .fz windows, .fz told, .un, .un] _ ((fun (m : Bool) => Out.rt (.fz m)) (bif ((!(decide (told.len = (4 : Int)))) || ((!(m_whole told.first)) || ((!(m_whole told.last)) || (!true)))) then false else
  (Fl.elim (forFl (m_is_crowd_L1 windows told) (rangeL 0 (told.names.length : Int)) ()) (fun (st : Unit) =>
  (decide ((told.names.length : Int) > (benches * (if ((told.last - told.first) + (1 : Int)) > (0 : Int) then ((told.last - told.first) + (1 : Int)) else (0 : Int)))))) (fun r => r))))
  have hok : ((!(decide (told.len = (4 : Int)))) = false → (told.isCrowd = true) ∧ ((!(m_whole told.first)) = false → (told.isCrowd = true) ∧ ((!(m_whole told.last)) = false → (told.isCrowd = true) ∧ True) ∧ True) ∧ True) ∧ okIf ((!(decide (told.len = (4 : Int)))) || ((!(m_whole told.first)) || ((!(m_whole told.last)) || (!true)))) (True) ((told.isCrowd = true) ∧ (-(2 ^ 62) ≤ (told.names.length : Int) ∧ (told.names.length : Int) < 2 ^ 62) ∧ (∀ (st : Unit) (k : Int), At (m_is_crowd_L1 windows told) (rangeL 0 (told.names.length : Int)) () st k → (told.isCrowd = true) ∧ (okI told.names k) ∧ (pipe (getI told.names k) fun (name : Str) =>
  (told.isCrowd = true) ∧ okIf ((decide (name ∈ (cutX told.names none (some k)))) || (!(hasD windows name))) (True) ((hasD windows name = true) ∧ (told.isCrowd = true) ∧ ((decide ((getD windows name).1 < told.first)) = false → (hasD windows name = true) ∧ (told.isCrowd = true) ∧ True) ∧ True))) ∧
  (∀ (st : Unit), ((forFl (m_is_crowd_L1 windows told) (rangeL 0 (told.names.length : Int)) ()) = .nx st ∨ (forFl (m_is_crowd_L1 windows told) (rangeL 0 (told.names.length : Int)) ()) = .bk st) →
  (told.isCrowd = true) ∧ (told.isCrowd = true) ∧ (told.isCrowd = true) ∧ (CMulW benches (if ((told.last - told.first) + (1 : Int)) > (0 : Int) then ((told.last - told.first) + (1 : Int)) else (0 : Int))) ∧ True)) := hok
  exact es_ifr (k := (fun (m : Bool) => Out.rt (.fz m))) (m1 := false) (TJ.x (w_t (w_or (t_ne (r_lenTold (by rfl) B.n_len (f_var (pv 2))) (r_int)) (fun hb => w_or (t_not (t_val (FJ.rd (fD D_m_whole (hr.mono (by decide)) (a_cons (RJ.sc (r_first (((hok.1) hb).1) (f_var (pv 2)))) (a_nil)) (⟨_, rfl, rfl⟩))))) (fun hb_1 => w_or (t_not (t_val (FJ.rd (fD D_m_whole (hr.mono (by decide)) (a_cons (RJ.sc (r_last (((((hok.1) hb).2.1) hb_1).1) (f_var (pv 2)))) (a_nil)) (⟨_, rfl, rfl⟩))))) (fun hb_2 => w_or1 (t_not (t_val (r_isiList (β := Str) (by rfl) B.n_isinstance (by rfl) B.n_list (FJ.rd (f_names (((((((hok.1) hb).2.1) hb_1).2.1) hb_2).1) (f_var (pv 2))))))))))))) (by first | rfl | exact ruO_ends | exact xcO_ends fun _ => rfl | exact xuO_ends fun _ => rfl) (fun hb_3 => es_one (s_ret (ps_ret peW) (RJ.sc (r_bl))))
     (fun hb_3 => have ok_1 := hok.2.2 hb_3; es_seq (k := (fun (m : Bool) => Out.rt (.fz m))) (esf := (fun (st : Unit) => [.fz benches, .fz windows, .fz told, .un, .un])) (kr := fun r => (fun (m : Bool) => Out.rt (.fz m)) r) (rr := fun r => r) (s_for (tst := PassesOwn.never) (esf := (fun (st : Unit) => [.fz benches, .fz windows, .fz told, .un, .un])) (est := fun st k => [.fz benches, .fz windows, .fz told, .fz k, .un]) (g := (m_is_crowd_L1 windows told)) (y0 := ()) (kr := fun r => (fun (m : Bool) => Out.rt (.fz m)) r) rfl (i_range1 (by rfl) B.n_range (ok_1.2.1) (RJ.xs (r_len (by rfl) B.n_len (FJ.rd (f_names (ok_1.1) (f_var (pv 2))))))) (fun st k => g_name (pg_name (i := 3) sc_m_is_crowd.nd rfl (.inl rfl)) (Nat.le_of_ble_eq_true rfl)) (fun _ => by first | rfl | exact ruO_rets | exact xcO_rets fun _ => rfl | exact xuO_rets fun _ => rfl)
     (fun st k hat => have ok_2 := ok_1.2.2.1 st k hat; es_cons (s_asg (ps_set (i := 4) sc_m_is_crowd.nd rfl (.inl rfl) peW) (f_ix (ok_2.2.1) (f_names (ok_2.1) (f_var (pv 2))) (r_var (pv 3))))
     (es_gen (k := (flO (fun (st : Unit) => [.fz benches, .fz windows, .fz told, .un, .un]) (fun r => (fun (m : Bool) => Out.rt (.fz m)) r))) (fun (name : Str) => [.fz benches, .fz windows, .fz told, .fz k, .fz name]) fun name h =>
     have ok_3 := ok_gen ok_2.2.2 h; es_ifr (k := (flO (fun (st : Unit) => [.fz benches, .fz windows, .fz told, .un, .un]) (fun r => (fun (m : Bool) => Out.rt (.fz m)) r))) (m1 := (Fl.rt false)) (TJ.x (w_t (w_or (t_in (r_var (pv 4)) (NJ.rd (n_slice ((f_names (ok_3.1) (f_var (pv 2))).lr) .no (.some (r_var (pv 3)))))) (fun hb_4 => w_or1 (t_dnin (by exact hr.units) (r_var (pv 4)) (FJ.rd (f_var (pv 1)))))))) (by first | rfl | exact ruO_ends | exact xcO_ends fun _ => rfl | exact xuO_ends fun _ => rfl) (fun hb_5 => es_one (s_ret (ps_ret peW) (RJ.sc (r_bl))))
     (fun hb_5 => have ok_5 := ok_3.2.2 hb_5; es_ifr (k := (flO (fun (st : Unit) => [.fz benches, .fz windows, .fz told, .un, .un]) (fun r => (fun (m : Bool) => Out.rt (.fz m)) r))) (m1 := (Fl.rt false)) (TJ.x (w_t (w_or (t_lt (FJ.rd (f_tp2a (f_dget (by exact hr.units) (ok_5.1) (f_var (pv 1)) (r_var (pv 4))))) (r_first (ok_5.2.1) (f_var (pv 2)))) (fun hb_6 => w_or1 (t_gt (FJ.rd (f_tp2b (f_dget (by exact hr.units) (((ok_5.2.2.1) hb_6).1) (f_var (pv 1)) (r_var (pv 4))))) (r_last (((ok_5.2.2.1) hb_6).2.1) (f_var (pv 2)))))))) (by first | rfl | exact ruO_ends | exact xcO_ends fun _ => rfl | exact xuO_ends fun _ => rfl) (fun hb_7 => es_one (s_ret (ps_ret peW) (RJ.sc (r_bl))))
     (fun hb_7 => (by exact es_nil ⟨.inr rfl, .inr rfl, .inr rfl, .inl rfl, .inl rfl, trivial⟩)))))) (fun _ => by first | rfl | exact ruO_rets | exact xcO_rets fun _ => rfl | exact xuO_rets fun _ => rfl) (fun _ => by first | rfl | exact ruO_rets | exact xcO_rets fun _ => rfl | exact xuO_rets fun _ => rfl) (fun st h_1 =>
     have ok_8 := ok_1.2.2.2 st h_1; es_one (s_ret (ps_ret peW) (RJ.sc (r_gt (r_len (by rfl) B.n_len (FJ.rd (f_names (ok_8.1) (f_var (pv 2))))) (r_mulW (ok_8.2.2.2.1) (r_var (pv 0)) (r_max2 (by rfl) (by rfl) B.n_max (r_int) (r_add (r_sub (r_last (ok_8.2.1) (f_var (pv 2))) (r_first (ok_8.2.2.1) (f_var (pv 2)))) (r_int)))))))))
/-! law: is_answer -/
def m_is_answer (benches : Int) (windows : (Dct Str (Int × Int))) (told : Told) : Bool :=
  (bif ((!true) || (decide (told.len < (2 : Int)))) then false else
  (bif (decide (told.kind = ("plan" : Str))) then ((decide (told.len = (2 : Int))) && (true && (m_is_plan benches windows told.rows))) else
  ((decide (told.kind = ("crowd" : Str))) && (m_is_crowd benches windows told))))
def ok_m_is_answer (benches : Int) (windows : (Dct Str (Int × Int))) (told : Told) : Prop :=
  okIf ((!true) || (decide (told.len < (2 : Int)))) (True) (okIf (decide (told.kind = ("plan" : Str))) (((decide (told.len = (2 : Int))) = true → (told.isCrowd = false) ∧ (true = true → (told.isCrowd = false) ∧ (ok_m_is_plan benches windows told.rows) ∧ True) ∧ True) ∧ True) (((decide (told.kind = ("crowd" : Str))) = true → (ok_m_is_crowd benches windows told) ∧ True) ∧ True))
abbrev N_m_is_answer : List Str := (["_law_benches_here", "_law_windows_here", "_law_told"] : List Str)
abbrev st_m_is_answer : Stmt := top 29
theorem sc_m_is_answer : FnScope N_m_is_answer ["_law_benches_here", "_law_windows_here", "_law_told"] (defScope st_m_is_answer) := ⟨rfl, rfl, rfl, by decide +kernel, rfl, by decide +kernel, by decide +kernel⟩
def G_m_is_answer (as : List En) (r : En) : Prop := ∃ (benches : Int) (windows : (Dct Str (Int × Int))) (told : Told), ok_m_is_answer benches windows told ∧ as = [.fz benches, .fz windows, .fz told] ∧ r = .fz (m_is_answer benches windows told)
set_option maxRecDepth 100000 in
theorem w_m_is_answer (B : Bn mg) (D_m_is_plan : Df P w K mg base 2 "_law_is_plan" ["_law_benches_here", "_law_windows_here", "_law_turns"] (spP K G_m_is_plan)) (D_m_is_crowd : Df P w K mg base 2 "_law_is_crowd" ["_law_benches_here", "_law_windows_here", "_law_told"] (spP K G_m_is_crowd))
    {f : Addr} {fd : FuncData} (F : FnP K "_law_is_answer" st_m_is_answer f fd) : FnOk P w K mg base CX0 3 f fd ["_law_benches_here", "_law_windows_here", "_law_told"] (spP K G_m_is_answer) := by
  refine fn_pure F sc_m_is_answer (by decide) (fun as r h => by obtain ⟨benches, windows, told, hok, rfl, _⟩ := h; rfl) (fun cdv A outer s H E hr as r h => ?_)
  obtain ⟨benches, windows, told, hok, rfl, rfl⟩ := h
  refine ⟨(fun (m : Bool) => Out.rt (.fz m)) (m_is_answer benches windows told), rfl, ?_⟩
  show ES _ [.fz benches, .fz windows, .fz told] _ ((fun (m : Bool) => Out.rt (.fz m)) (bif ((!true) || (decide (told.len < (2 : Int)))) then false else
  (bif (decide (told.kind = ("plan" : Str))) then ((decide (told.len = (2 : Int))) && (true && (m_is_plan benches windows told.rows))) else
  ((decide (told.kind = ("crowd" : Str))) && (m_is_crowd benches windows told)))))
  have hok : okIf ((!true) || (decide (told.len < (2 : Int)))) (True) (okIf (decide (told.kind = ("plan" : Str))) (((decide (told.len = (2 : Int))) = true → (told.isCrowd = false) ∧ (true = true → (told.isCrowd = false) ∧ (ok_m_is_plan benches windows told.rows) ∧ True) ∧ True) ∧ True) (((decide (told.kind = ("crowd" : Str))) = true → (ok_m_is_crowd benches windows told) ∧ True) ∧ True)) := hok
  exact es_ifr (k := (fun (m : Bool) => Out.rt (.fz m))) (m1 := false) (TJ.x (w_t (w_or (t_not (t_val (r_isi (α := Told) "tuple" "tuple" (k := true) (by decide +kernel) (fun K => kit_ty (by decide +kernel)) (by rfl) B.n_isinstance (by rfl) B.n_tuple (FJ.rd (f_var (pv 2)))))) (fun hb => w_or1 (t_lt (r_lenTold (by rfl) B.n_len (f_var (pv 2))) (r_int)))))) (by first | rfl | exact ruO_ends | exact xcO_ends fun _ => rfl | exact xuO_ends fun _ => rfl) (fun hb_1 => es_one (s_ret (ps_ret peW) (RJ.sc (r_bl))))
     (fun hb_1 => have ok_1 := hok.2 hb_1; es_ifr (k := (fun (m : Bool) => Out.rt (.fz m))) (m1 := ((decide (told.len = (2 : Int))) && (true && (m_is_plan benches windows told.rows)))) (TJ.x (t_eq (r_kind (f_var (pv 2))) (r_str))) (by first | rfl | exact ruO_ends | exact xcO_ends fun _ => rfl | exact xuO_ends fun _ => rfl) (fun hb_2 => have ok_2 := ok_1.1 hb_2; es_one (s_ret (ps_ret peW) (RJ.sc (r_and (r_eq (r_lenTold (by rfl) B.n_len (f_var (pv 2))) (r_int)) (fun hb_3 => r_and (r_isiList (β := (Int × (List Str))) (by rfl) B.n_isinstance (by rfl) B.n_list (FJ.rd (f_rows (((ok_2.1) hb_3).1) (f_var (pv 2))))) (fun hb_4 => r_and1 (FJ.rd (fD D_m_is_plan (hr.mono (by decide)) (a_cons (RJ.sc (r_var (pv 0))) (a_cons (f_var (pv 1)) (a_cons (f_rows (((((ok_2.1) hb_3).2.1) hb_4).1) (f_var (pv 2))) (a_nil)))) (⟨_, _, _, (((((ok_2.1) hb_3).2.1) hb_4).2.1), rfl, rfl⟩)))))))))
     (fun hb_2 => have ok_3 := ok_1.2 hb_2; es_one (s_ret (ps_ret peW) (RJ.sc (r_and (r_eq (r_kind (f_var (pv 2))) (r_str)) (fun hb_5 => r_and1 (FJ.rd (fD D_m_is_crowd (hr.mono (by decide)) (a_cons (RJ.sc (r_var (pv 0))) (a_cons (f_var (pv 1)) (a_cons (f_var (pv 2)) (a_nil)))) (⟨_, _, _, (((ok_3.1) hb_5).1), rfl, rfl⟩)))))))))
/-! law: right -/
def m_right (benches : Int) (windows : (Dct Str (Int × Int))) : Bool :=
  (pipe windows fun (handed : (Dct Str (Int × Int))) =>
  (pipe (p_windowed benches handed) fun (first : Told) =>
  (bif ((!(m_is_answer benches windows first)) || (!(eqb handed windows))) then false else
  (bif (decide (first.kind = ("plan" : Str))) then (pipe (given (fun (x : (Sn (Int × (List Str)))) => true) (fun (x : (Sn (Int × (List Str)))) => (x.x.1, x.x.2)) (List.map Sn.mk first.rows)) fun (kept : (List (Int × (List Str)))) =>
  (decide ((p_windowed benches handed) = (Told.plan kept)))) else
  (pipe first.names fun (kept_1 : (List Str)) =>
  (pipe first.gone fun (first_1 : Told) =>
  (decide ((p_windowed benches handed) = (Told.crowd first_1.first first_1.last kept_1)))))))))
def ok_m_right (benches : Int) (windows : (Dct Str (Int × Int))) : Prop :=
  (pipe windows fun (handed : (Dct Str (Int × Int))) =>
  (ok_p_windowed benches handed) ∧ (pipe (p_windowed benches handed) fun (first : Told) =>
  (ok_m_is_answer benches windows first) ∧ okIf ((!(m_is_answer benches windows first)) || (!(eqb handed windows))) (True) (okIf (decide (first.kind = ("plan" : Str))) ((first.isCrowd = false) ∧ (pipe (given (fun (x : (Sn (Int × (List Str)))) => true) (fun (x : (Sn (Int × (List Str)))) => (x.x.1, x.x.2)) (List.map Sn.mk first.rows)) fun (kept : (List (Int × (List Str)))) =>
  (first.isCrowd = false) ∧ (ok_p_windowed benches handed) ∧ True)) ((first.isCrowd = true) ∧ (pipe first.names fun (kept_1 : (List Str)) =>
  (first.isCrowd = true) ∧ (pipe first.gone fun (first_1 : Told) =>
  (ok_p_windowed benches handed) ∧ (first_1.isCrowd = true) ∧ (first_1.isCrowd = true) ∧ True))))))
abbrev N_m_right : List Str := (["_law_benches_here", "_law_windows_here", "_law_handed", "_law_first", "_law_turn", "_law_row", "_law_kept"] : List Str)
abbrev st_m_right : Stmt := top 30
theorem sc_m_right : FnScope N_m_right ["_law_benches_here", "_law_windows_here"] (defScope st_m_right) := ⟨rfl, rfl, rfl, by decide +kernel, rfl, by decide +kernel, by decide +kernel⟩
def G_m_right (as : List En) (r : En) : Prop := ∃ (benches : Int) (windows : (Dct Str (Int × Int))), ok_m_right benches windows ∧ as = [.fz benches, .fz windows] ∧ r = .fz (m_right benches windows)
set_option maxRecDepth 100000 in
theorem w_m_right (B : Bn mg) (D_p_windowed : Df P w K mg base 4 "windowed" ["benches", "windows"] (spP K G_p_windowed)) (D_m_is_answer : Df P w K mg base 3 "_law_is_answer" ["_law_benches_here", "_law_windows_here", "_law_told"] (spP K G_m_is_answer))
    {f : Addr} {fd : FuncData} (F : FnP K "_law_right" st_m_right f fd) : FnOk P w K mg base CX0 5 f fd ["_law_benches_here", "_law_windows_here"] (spP K G_m_right) := by
  refine fn_pure F sc_m_right (by decide) (fun as r h => by obtain ⟨benches, windows, hok, rfl, _⟩ := h; rfl) (fun cdv A outer s H E hr as r h => ?_)
  obtain ⟨benches, windows, hok, rfl, rfl⟩ := h
  refine ⟨(fun (m : Bool) => Out.rt (.fz m)) (m_right benches windows), rfl, ?_⟩
  show ES _ [.fz benches, .fz windows, .un, .un, .un, .un, .un] _ ((fun (m : Bool) => Out.rt (.fz m)) (pipe windows fun (handed : (Dct Str (Int × Int))) =>
  (pipe (p_windowed benches handed) fun (first : Told) =>
  (bif ((!(m_is_answer benches windows first)) || (!(eqb handed windows))) then false else
  (bif (decide (first.kind = ("plan" : Str))) then (pipe (given (fun (x : (Sn (Int × (List Str)))) => true) (fun (x : (Sn (Int × (List Str)))) => (x.x.1, x.x.2)) (List.map Sn.mk first.rows)) fun (kept : (List (Int × (List Str)))) =>
  (decide ((p_windowed benches handed) = (Told.plan kept)))) else
  (pipe first.names fun (kept_1 : (List Str)) =>
  (pipe first.gone fun (first_1 : Told) =>
  (decide ((p_windowed benches handed) = (Told.crowd first_1.first first_1.last kept_1))))))))))
  have hok : (pipe windows fun (handed : (Dct Str (Int × Int))) =>
  (ok_p_windowed benches handed) ∧ (pipe (p_windowed benches handed) fun (first : Told) =>
  (ok_m_is_answer benches windows first) ∧ okIf ((!(m_is_answer benches windows first)) || (!(eqb handed windows))) (True) (okIf (decide (first.kind = ("plan" : Str))) ((first.isCrowd = false) ∧ (pipe (given (fun (x : (Sn (Int × (List Str)))) => true) (fun (x : (Sn (Int × (List Str)))) => (x.x.1, x.x.2)) (List.map Sn.mk first.rows)) fun (kept : (List (Int × (List Str)))) =>
  (first.isCrowd = false) ∧ (ok_p_windowed benches handed) ∧ True)) ((first.isCrowd = true) ∧ (pipe first.names fun (kept_1 : (List Str)) =>
  (first.isCrowd = true) ∧ (pipe first.gone fun (first_1 : Told) =>
  (ok_p_windowed benches handed) ∧ (first_1.isCrowd = true) ∧ (first_1.isCrowd = true) ∧ True)))))) := hok
  exact es_cons (s_asg (ps_set (i := 2) sc_m_right.nd rfl (.inl rfl) peW) (NJ.frz (n_dictof (by rfl) B.n_dict (f_var (pv 1)))))
     (es_gen (k := (fun (m : Bool) => Out.rt (.fz m))) (fun (handed : (Dct Str (Int × Int))) => [.fz benches, .fz windows, .fz handed, .un, .un, .un, .un]) fun handed h =>
     have ok := ok_gen hok h; es_cons (s_asgN (ps_set (i := 3) sc_m_right.nd rfl (.inl rfl) peW) (n_fr D_p_windowed (hr.mono (by decide)) (a_cons (RJ.sc (r_var (pv 0))) (a_cons (f_var (pv 2)) (a_nil))) (.cons _ (.cons _ .nil)) (⟨_, _, (ok.1), rfl, rfl⟩)))
     (es_gen (k := (fun (m : Bool) => Out.rt (.fz m))) (fun (first : Told) => [.fz benches, .fz windows, .fz handed, .ow (Rg.mk first), .un, .un, .un]) fun first h_1 =>
     have ok_1 := ok_gen ok.2 h_1; es_ifr (k := (fun (m : Bool) => Out.rt (.fz m))) (m1 := false) (TJ.x (w_t (w_or (t_not (t_val (rD D_m_is_answer (hr.mono (by decide)) (b_cons (r_var (pv 0)) (b_cons (FJ.rd (f_var (pv 1))) (b_cons ((rg_o (pv 3))) (b_nil)))) (⟨_, _, _, (ok_1.1), rfl, rfl⟩)))) (fun hb => w_or1 (t_neB (by exact hr.units) (FJ.rd (f_var (pv 2))) (FJ.rd (f_var (pv 1)))))))) (by first | rfl | exact ruO_ends | exact xcO_ends fun _ => rfl | exact xuO_ends fun _ => rfl) (fun hb_1 => es_one (s_ret (ps_ret peW) (RJ.sc (r_bl))))
     (fun hb_1 => have ok_3 := ok_1.2.2 hb_1; es_ifr (k := (fun (m : Bool) => Out.rt (.fz m))) (m1 := (pipe (given (fun (x : (Sn (Int × (List Str)))) => true) (fun (x : (Sn (Int × (List Str)))) => (x.x.1, x.x.2)) (List.map Sn.mk first.rows)) fun (kept : (List (Int × (List Str)))) =>
     (decide ((p_windowed benches handed) = (Told.plan kept))))) (TJ.x (t_eq (thaw_rR (i := 3) rfl (r_kind (f_var (pv 3)))) (r_str))) (by first | rfl | exact ruO_ends | exact xcO_ends fun _ => rfl | exact xuO_ends fun _ => rfl) (fun hb_2 => have ok_4 := ok_3.1 hb_2; es_cons (s_asgRdF (ps_lcW (i := 6) (own := [("_law_turn", 4), ("_law_row", 5)]) rfl sc_m_right.nd rfl rfl (sw_true rfl rfl rfl (by decide +kernel)) (blkOk_by (N := N_m_right) (sc := defScope st_m_right) (by decide +kernel))) (thaw_mNRd (i := 3) rfl (rd_lc (vs := [4, 5]) (est := fun x => [.fz benches, .fz windows, .fz handed, .fz (Sn.mk first), .fz x.x.1, .fz (Sn.mk x.x.2), .un]) (p := fun (x : (Sn (Int × (List Str)))) => true) (g := fun (x : (Sn (Int × (List Str)))) => (x.x.1, x.x.2)) (h_listSS (sl_of_ (f_snRows (ok_4.1) (f_var (pv 3))))) rfl (fun _ _ _ _ _ x => ct_tup2S (pg_tup rfl (pgs_cons (pg_name (i := 4) sc_m_right.nd rfl (Or.inl rfl)) (pgs_cons (pg_name (i := 5) sc_m_right.nd rfl (Or.inl rfl)) pgs_nil))) (by decide) ⟨Nat.le_of_ble_eq_true rfl, Nat.le_of_ble_eq_true rfl⟩) (fun _ _ _ _ _ x hx => if_nil) (fun _ _ _ _ _ x hx hp => f_tup2 (RJ.sc (r_var (pv 4))) (NJ.frz (n_listofS (by rfl) B.n_list (sl_of_ (f_var (pv 5)))))))))
     (es_gen (k := (fun (m : Bool) => Out.rt (.fz m))) (fun (kept : (List (Int × (List Str)))) => [.fz benches, .fz windows, .fz handed, .ow (Rg.mk first), .un, .un, .fz kept]) fun kept h_2 =>
     have ok_6 := ok_gen ok_4.2 h_2; es_open (T := ToldT) (i := 3) rfl (open_told (ok_6.1)) (fun L hL => es_cons (s_lfLoop (tst := PassesOwn.never) (o := none) (i := 3) (j := 5) (es2 := [.fz benches, .fz windows, .fz handed, .ow (L.up L.vs.length), .un, .un, .fz kept]) rfl (Exists.elim hL.2.2.2 fun _ h9 => Exists.elim h9 fun _ h8 => adj_ix (o := none) (c := 1) (pv 3) rfl h8.1 h8.2) (lf_pair (o := none) (pg_tup rfl (pgs_cons (pg_name (i := 4) sc_m_right.nd rfl (.inl rfl)) (pgs_cons (pg_name (i := 5) sc_m_right.nd rfl (.inl rfl)) pgs_nil))) hL.1 (Nat.le_of_ble_eq_true rfl) rfl rfl (by decide) (by decide) (fun _ => rfl) (fun _ => rfl)) (lf_clear (o := none) (ps_expr (pe_bm0 PySem.F.plainAttrs_list PySem.F.slot_list_clear PySem.F.type_list_clear mt_clear (pv 5))) (Nat.le_of_ble_eq_true rfl) (fun _ => rfl)) rfl hL.2.2.1)
     (es_cons (s_lfApp (i := 3) (es2 := [.fz benches, .fz windows, .fz handed, .un, .un, .un, .fz kept]) (ps_expr (pe_bm PySem.F.plainAttrs_list PySem.F.slot_list_append PySem.F.type_list_append mt_append peW (pa_cons peW pa_nil))) (Exists.elim hL.2.2.2 fun _ h9 => Exists.elim h9 fun _ h8 => adj_ix (o := none) (c := 1) (pv 3) rfl h8.1 h8.2) (RJ.sc (r_non)) (Nat.add_le_add hL.2.1 hL.2.2.1) rfl)
     (es_one (s_ret (ps_ret peW) (RJ.sc (r_eqD (by exact hr.units) (FJ.rd (fD D_p_windowed (hr.mono (by decide)) (a_cons (RJ.sc (r_var (pv 0))) (a_cons (f_var (pv 2)) (a_nil))) (⟨_, _, (ok_6.2.1), rfl, rfl⟩))) (FJ.rd (f_plan (f_tup2 (RJ.sc (r_str)) (f_var (pv 6)))))))))))))
     (fun hb_2 => have ok_5 := ok_3.2 hb_2; es_cons (s_asg (ps_set (i := 6) sc_m_right.nd rfl (.inl rfl) peW) (NJ.frz (thaw_mN (i := 3) rfl (n_listofS (by rfl) B.n_list (sl_of_ (f_snNames (ok_5.1) (f_var (pv 3))))))))
     (es_gen (k := (fun (m : Bool) => Out.rt (.fz m))) (fun (kept_1 : (List Str)) => [.fz benches, .fz windows, .fz handed, .ow (Rg.mk first), .un, .un, .fz kept_1]) fun kept_1 h_3 =>
     have ok_7 := ok_gen ok_5.2 h_3; es_cons (s_toldClr (i := 3) (ps_expr (pe_bm0 PySem.F.plainAttrs_list PySem.F.slot_list_clear PySem.F.type_list_clear mt_clear peW)) (ok_7.1) (pv 3) rfl)
     (es_gen (k := (fun (m : Bool) => Out.rt (.fz m))) (fun (first_1 : Told) => [.fz benches, .fz windows, .fz handed, .ow (Rg.mk first_1), .un, .un, .fz kept_1]) fun first_1 h_4 =>
     have ok_8 := ok_gen ok_7.2 h_4; es_one (s_ret (ps_ret peW) (RJ.sc (r_eqD (by exact hr.units) (FJ.rd (fD D_p_windowed (hr.mono (by decide)) (a_cons (RJ.sc (r_var (pv 0))) (a_cons (f_var (pv 2)) (a_nil))) (⟨_, _, (ok_8.1), rfl, rfl⟩))) (FJ.rd (f_crowd (f_tup4 (RJ.sc (r_str)) (RJ.sc (thaw_rR (i := 3) rfl (r_first (ok_8.2.1) (f_var (pv 3))))) (RJ.sc (thaw_rR (i := 3) rfl (r_last (ok_8.2.2.1) (f_var (pv 3))))) (f_var (pv 6))))))))))))))
/-! law -/
def m_law_L1 (script : Scr) (st : Unit) (k : Int) : (Fl Unit Bool) :=
  (pipe (m_windows (m_purse (m_cell script k) (1 : Int))).1 fun (windows : (Dct Str (Int × Int))) =>
  (bif (!(m_right (m_benches (m_purse (m_cell script (k + (1 : Int))) (2 : Int))).1 windows)) then (Fl.rt false) else
  (Fl.nx ())))
def m_law (script : Scr) : Bool :=
  (Fl.elim (forFl (m_law_L1 script) (rangeS (0 : Int) (if (if (12 : Int) < (script.ns.length : Int) then (12 : Int) else (script.ns.length : Int)) > (1 : Int) then (if (12 : Int) < (script.ns.length : Int) then (12 : Int) else (script.ns.length : Int)) else (1 : Int)) (2 : Int)) ()) (fun (st : Unit) =>
  true) (fun r => r))
def ok_m_law (script : Scr) : Prop :=
  (-(2 ^ 50) ≤ (0 : Int) ∧ (0 : Int) < 2 ^ 50 ∧ -(2 ^ 50) ≤ (if (if (12 : Int) < (script.ns.length : Int) then (12 : Int) else (script.ns.length : Int)) > (1 : Int) then (if (12 : Int) < (script.ns.length : Int) then (12 : Int) else (script.ns.length : Int)) else (1 : Int)) ∧ (if (if (12 : Int) < (script.ns.length : Int) then (12 : Int) else (script.ns.length : Int)) > (1 : Int) then (if (12 : Int) < (script.ns.length : Int) then (12 : Int) else (script.ns.length : Int)) else (1 : Int)) < 2 ^ 50) ∧ (∀ (st : Unit) (k : Int), At (m_law_L1 script) (rangeS (0 : Int) (if (if (12 : Int) < (script.ns.length : Int) then (12 : Int) else (script.ns.length : Int)) > (1 : Int) then (if (12 : Int) < (script.ns.length : Int) then (12 : Int) else (script.ns.length : Int)) else (1 : Int)) (2 : Int)) () st k → (ok_m_cell script k) ∧ (ok_m_purse (m_cell script k) (1 : Int)) ∧ (ok_m_windows (m_purse (m_cell script k) (1 : Int))) ∧ (pipe (m_windows (m_purse (m_cell script k) (1 : Int))).1 fun (windows : (Dct Str (Int × Int))) =>
  (ok_m_cell script (k + (1 : Int))) ∧ (ok_m_purse (m_cell script (k + (1 : Int))) (2 : Int)) ∧ (ok_m_benches (m_purse (m_cell script (k + (1 : Int))) (2 : Int))) ∧ (ok_m_right (m_benches (m_purse (m_cell script (k + (1 : Int))) (2 : Int))).1 windows) ∧ True)) ∧
  True
abbrev N_m_law : List Str := (["_law_script", "_law_k", "_law_windows_here"] : List Str)
abbrev st_m_law : Stmt := top 31
theorem sc_m_law : FnScope N_m_law ["_law_script"] (defScope st_m_law) := ⟨rfl, rfl, rfl, by decide +kernel, rfl, by decide +kernel, by decide +kernel⟩
def G_m_law (as : List En) (r : En) : Prop := ∃ (script : Scr), ok_m_law script ∧ as = [.fz script] ∧ r = .fz (m_law script)
set_option maxRecDepth 100000 in
theorem w_m_law (B : Bn mg) (D_m_cell : Df P w K mg base 1 "_law_cell" ["_law_script", "_law_k"] (spP K G_m_cell)) (D_m_purse : Df P w K mg base 1 "_law_purse" ["_law_cell_here", "_law_k"] (spP K G_m_purse)) (D_m_windows : Df P w K mg base 3 "_law_windows" ["_law_purse_here"] (spU K G_m_windows)) (D_m_benches : Df P w K mg base 2 "_law_benches" ["_law_purse_here"] (spU K G_m_benches)) (D_m_right : Df P w K mg base 5 "_law_right" ["_law_benches_here", "_law_windows_here"] (spP K G_m_right))
    {f : Addr} {fd : FuncData} (F : FnP K "law" st_m_law f fd) : FnOk P w K mg base CX0 6 f fd ["_law_script"] (spP K G_m_law) := by
  refine fn_pure F sc_m_law (by decide) (fun as r h => by obtain ⟨script, hok, rfl, _⟩ := h; rfl) (fun cdv A outer s H E hr as r h => ?_)
  obtain ⟨script, hok, rfl, rfl⟩ := h
  refine ⟨(fun (m : Bool) => Out.rt (.fz m)) (m_law script), rfl, ?_⟩
  show ES _ [.fz script, .un, .un] _ ((fun (m : Bool) => Out.rt (.fz m)) (Fl.elim (forFl (m_law_L1 script) (rangeS (0 : Int) (if (if (12 : Int) < (script.ns.length : Int) then (12 : Int) else (script.ns.length : Int)) > (1 : Int) then (if (12 : Int) < (script.ns.length : Int) then (12 : Int) else (script.ns.length : Int)) else (1 : Int)) (2 : Int)) ()) (fun (st : Unit) =>
  true) (fun r => r)))
  have hok : (-(2 ^ 50) ≤ (0 : Int) ∧ (0 : Int) < 2 ^ 50 ∧ -(2 ^ 50) ≤ (if (if (12 : Int) < (script.ns.length : Int) then (12 : Int) else (script.ns.length : Int)) > (1 : Int) then (if (12 : Int) < (script.ns.length : Int) then (12 : Int) else (script.ns.length : Int)) else (1 : Int)) ∧ (if (if (12 : Int) < (script.ns.length : Int) then (12 : Int) else (script.ns.length : Int)) > (1 : Int) then (if (12 : Int) < (script.ns.length : Int) then (12 : Int) else (script.ns.length : Int)) else (1 : Int)) < 2 ^ 50) ∧ (∀ (st : Unit) (k : Int), At (m_law_L1 script) (rangeS (0 : Int) (if (if (12 : Int) < (script.ns.length : Int) then (12 : Int) else (script.ns.length : Int)) > (1 : Int) then (if (12 : Int) < (script.ns.length : Int) then (12 : Int) else (script.ns.length : Int)) else (1 : Int)) (2 : Int)) () st k → (ok_m_cell script k) ∧ (ok_m_purse (m_cell script k) (1 : Int)) ∧ (ok_m_windows (m_purse (m_cell script k) (1 : Int))) ∧ (pipe (m_windows (m_purse (m_cell script k) (1 : Int))).1 fun (windows : (Dct Str (Int × Int))) =>
  (ok_m_cell script (k + (1 : Int))) ∧ (ok_m_purse (m_cell script (k + (1 : Int))) (2 : Int)) ∧ (ok_m_benches (m_purse (m_cell script (k + (1 : Int))) (2 : Int))) ∧ (ok_m_right (m_benches (m_purse (m_cell script (k + (1 : Int))) (2 : Int))).1 windows) ∧ True)) ∧
  True := hok
  exact es_seq (k := (fun (m : Bool) => Out.rt (.fz m))) (esf := (fun (st : Unit) => [.fz script, .un, .un])) (kr := fun r => (fun (m : Bool) => Out.rt (.fz m)) r) (rr := fun r => r) (s_for (tst := PassesOwn.never) (esf := (fun (st : Unit) => [.fz script, .un, .un])) (est := fun st k => [.fz script, .fz k, .un]) (g := (m_law_L1 script)) (y0 := ()) (kr := fun r => (fun (m : Bool) => Out.rt (.fz m)) r) rfl (i_range3 (by rfl) B.n_range ⟨by decide, by decide⟩ (hok.1) (RJ.xs (r_int)) (RJ.xs (r_max2 (by rfl) (by rfl) B.n_max (r_int) (r_min2 (by rfl) (by rfl) B.n_min (r_lenScr (by rfl) B.n_len (FJ.rd (f_var (pv 0)))) (r_int)))) (RJ.xs (r_int))) (fun st k => g_name (pg_name (i := 1) sc_m_law.nd rfl (.inl rfl)) (Nat.le_of_ble_eq_true rfl)) (fun _ => by first | rfl | exact ruO_rets | exact xcO_rets fun _ => rfl | exact xuO_rets fun _ => rfl)
     (fun st k hat => have ok := hok.2.1 st k hat; es_cons (s_asg (ps_set (i := 2) sc_m_law.nd rfl (.inl rfl) peW) (NJ.frz (nUt D_m_windows (hr.mono (by decide)) (nD D_m_purse (hr.mono (by decide)) (a_cons (fD D_m_cell (hr.mono (by decide)) (a_cons (f_var (pv 0)) (a_cons (RJ.sc (r_var (pv 1))) (a_nil))) (⟨_, _, (ok.1), rfl, rfl⟩)) (a_cons (RJ.sc (r_int)) (a_nil))) (⟨_, _, (ok.2.1), rfl, rfl⟩)) (a_nil) (⟨(), (ok.2.2.1), rfl, rfl, rfl⟩))))
     (es_gen (k := (flO (fun (st : Unit) => [.fz script, .un, .un]) (fun r => (fun (m : Bool) => Out.rt (.fz m)) r))) (fun (windows : (Dct Str (Int × Int))) => [.fz script, .fz k, .fz windows]) fun windows h =>
     have ok_1 := ok_gen ok.2.2.2 h; es_ifr (k := (flO (fun (st : Unit) => [.fz script, .un, .un]) (fun r => (fun (m : Bool) => Out.rt (.fz m)) r))) (m1 := (Fl.rt false)) (TJ.x (t_not (t_val (FJ.rd (fD D_m_right (hr.mono (by decide)) (a_cons (fUt D_m_benches (hr.mono (by decide)) (nD D_m_purse (hr.mono (by decide)) (a_cons (fD D_m_cell (hr.mono (by decide)) (a_cons (f_var (pv 0)) (a_cons (RJ.sc (r_add (r_var (pv 1)) (r_int))) (a_nil))) (⟨_, _, (ok_1.1), rfl, rfl⟩)) (a_cons (RJ.sc (r_int)) (a_nil))) (⟨_, _, (ok_1.2.1), rfl, rfl⟩)) (a_nil) (⟨(), (ok_1.2.2.1), rfl, rfl, rfl⟩)) (a_cons (f_var (pv 2)) (a_nil))) (⟨_, _, (ok_1.2.2.2.1), rfl, rfl⟩)))))) (by first | rfl | exact ruO_ends | exact xcO_ends fun _ => rfl | exact xuO_ends fun _ => rfl) (fun hb => es_one (s_ret (ps_ret peW) (RJ.sc (r_bl))))
     (fun hb => (by exact es_nil ⟨.inr rfl, .inl rfl, .inl rfl, trivial⟩))))) (fun _ => by first | rfl | exact ruO_rets | exact xcO_rets fun _ => rfl | exact xuO_rets fun _ => rfl) (fun _ => by first | rfl | exact ruO_rets | exact xcO_rets fun _ => rfl | exact xuO_rets fun _ => rfl) (fun st h_1 =>
     es_one (s_ret (ps_ret peW) (RJ.sc (r_bl))))
end
end Lw
namespace Lw
open PySem PySem.Spec PyProof.Rows L2 Ly TL
theorem take_eq (p : Pu) (n : Int) : m_take p n = takeV p n := rfl
theorem take_ok (p : Pu) {n : Int} (h : 0 < n) (h2 : n < 2 ^ 250) : ok_m_take p n := by
  unfold ok_m_take
  simp only [pipe_eq]
  exact ⟨fun _ => ⟨h, divW_of h h2, trivial⟩, fun _ => ⟨mod_small _ (by decide) (by decide), h, trivial⟩⟩
theorem take_lt (p : Pu) {n : Int} (h : 0 < n) : 0 ≤ (m_take p n).1 ∧ (m_take p n).1 < n := by
  rw [take_eq]; exact takeV_lt p h
theorem purse_ok (c : Int) {k : Int} (h : -(2 ^ 64) < k ∧ k < 2 ^ 64) : ok_m_purse c k := by
  unfold ok_m_purse
  simp only [pipe_eq]
  exact ⟨.inl h, mod_small _ (by decide) (by decide), trivial⟩
theorem cell_ok (s : Scr) {k : Int} (h : 0 ≤ k) : ok_m_cell s k := by
  refine ⟨fun e => ⟨okI_of h ?_, trivial⟩, trivial⟩
  exact of_decide_eq_true e
abbrev abc : Str := "abcdefghijklmnopqrstuvwxyz"
theorem abc_tl : ∀ c ∈ tl abc, 97 ≤ c ∧ c ≤ 122 := by decide
theorem abc_all : ∀ c : Nat, 97 ≤ c ∧ c ≤ 122 → c ∈ tl abc := by
  intro c h
  have : c < 123 := by omega
  have key : ∀ c < 123, 97 ≤ c → c ∈ tl abc := by decide
  exact key c this h.1
/-- a NAME -/
def good (w : Str) : Prop := 1 ≤ (tl w).length ∧ (tl w).length ≤ 8 ∧ ∀ c ∈ tl w, 97 ≤ c ∧ c ≤ 122
theorem abc_okC (p : Pu) : okC abc (m_take p 26).1 := okC_of (take_lt p (by decide)).1 (take_lt p (by decide)).2
theorem nodup_len {α : Type} [DecidableEq α] : ∀ {l m : List α}, l.Nodup → (∀ x ∈ l, x ∈ m) → l.length ≤ m.length
  | [], m, _, _ => Nat.zero_le _
  | x :: l, m, h, s => by
    have hx := s x List.mem_cons_self
    have h2 := List.nodup_cons.mp h
    have z := nodup_len (l := l) (m := m.erase x) h2.2 fun y hy => (List.mem_erase_of_ne fun e => h2.1 (by rw [← e]; exact hy)).mpr (s y (List.mem_cons_of_mem _ hy))
    rw [List.length_erase_of_mem hx] at z
    have : 0 < m.length := List.length_pos_of_mem hx
    rw [List.length_cons]; omega
end Lw
namespace Lw
open PySem PySem.Spec PyProof.Rows L2 Ly TL
/-! names -/
def IW (k : Nat) (st : Str × Pu) : Prop := (tl st.1).length = k ∧ ∀ c ∈ tl st.1, 97 ≤ c ∧ c ≤ 122
theorem IW_0 (p : Pu) : IW 0 (("" : Str), p) := ⟨rfl, fun c hc => by cases hc⟩
theorem word_step {k : Nat} {st : Str × Pu} {i : Int} (h : IW k st) : IW (k + 1) (m_names_L2 abc st i) := by
  unfold m_names_L2
  simp only [pipe_eq]
  obtain ⟨c, hc, e⟩ := chI_of (abc_okC st.2)
  show (tl (st.1 ++ chI abc (m_take st.2 26).1)).length = k + 1 ∧ ∀ c ∈ tl (st.1 ++ chI abc (m_take st.2 26).1), 97 ≤ c ∧ c ≤ 122
  rw [e, tl_append, tl_sgn]
  refine ⟨by rw [List.length_append, h.1]; rfl, fun d hd => ?_⟩
  rcases List.mem_append.mp hd with hd | hd
  · exact h.2 d hd
  · rw [List.mem_singleton.mp hd]; exact abc_tl c hc
theorem word_len (p : Pu) : 0 ≤ (m_take p 2).1 * (m_take (m_take p 2).2 8).1 ∧ (m_take p 2).1 * (m_take (m_take p 2).2 8).1 ≤ 7 := by
  have t1 := take_lt p (n := 2) (by decide)
  have t2 := take_lt (m_take p 2).2 (n := 8) (by decide)
  generalize (m_take p 2).1 = a at t1
  generalize (m_take (m_take p 2).2 8).1 = b at t2
  have h1 : a * b ≤ 1 * 7 := Int.mul_le_mul (by omega) (by omega) (by omega) (by omega)
  exact ⟨Int.mul_nonneg t1.1 t2.1, by omega⟩
theorem letters_free {found : List Str} (h : found.length < 26) : okI (given (fun (letter : Str) => (!(decide (letter ∈ found)))) (fun (letter : Str) => letter) (signsOf abc)) 0 := by
  have e : (signsOf abc).length = 26 := rfl
  have nd : (signsOf abc).Nodup := by decide
  refine okI_of (by decide) ?_
  unfold given
  rw [List.length_map]
  cases q : (signsOf abc).filter fun letter => !(decide (letter ∈ found)) with
  | cons x r => simp
  | nil =>
    have z := nodup_len nd fun x hx => by
      have w := List.filter_eq_nil_iff.mp q x hx
      simpa using w
    omega
theorem letters_get {found : List Str} (h : found.length < 26) : getI (given (fun (letter : Str) => (!(decide (letter ∈ found)))) (fun (letter : Str) => letter) (signsOf abc)) 0 ∉ found ∧ good (getI (given (fun (letter : Str) => (!(decide (letter ∈ found)))) (fun (letter : Str) => letter) (signsOf abc)) 0) := by
  have m := getI_mem (letters_free h)
  generalize getI (given (fun (letter : Str) => (!(decide (letter ∈ found)))) (fun (letter : Str) => letter) (signsOf abc)) 0 = w at m ⊢
  unfold given at m
  obtain ⟨w', m2, rfl⟩ := List.mem_map.mp m
  obtain ⟨h1, h2⟩ := List.mem_filter.mp m2
  refine ⟨by simpa using h2, ?_⟩
  obtain ⟨c, hc, rfl⟩ := List.mem_map.mp h1
  have hc := abc_tl c hc
  refine ⟨Nat.le_refl _, by show 1 ≤ 8; decide, fun d hd => ?_⟩
  have e : d = c := List.mem_singleton.mp hd
  rw [e]; exact hc
def IN (k : Nat) (st : Pu × List Str) : Prop := st.2.length = k ∧ st.2.Nodup ∧ ∀ w ∈ st.2, good w
theorem IN_0 (p : Pu) : IN 0 (p, []) := ⟨rfl, List.nodup_nil, fun w hw => by cases hw⟩
theorem names_step {k : Nat} {st : Pu × List Str} {i : Int} (hk : k < 26) (h : IN k st) : IN (k + 1) (m_names_L1 abc st i) := by
  unfold m_names_L1
  simp only [pipe_eq]
  have t := word_len st.1
  have z := fold_inv IW (g := m_names_L2 abc) (xs := rangeL 0 (1 + ((m_take st.1 2).1 * (m_take (m_take st.1 2).2 8).1))) (n := 0) (IW_0 (m_take (m_take st.1 2).2 8).2) fun k y x _ _ hy => word_step hy
  rw [rangeL_len] at z
  generalize List.foldl (m_names_L2 abc) _ _ = s1 at z ⊢
  have gw : good s1.1 := ⟨by rw [z.1]; omega, by rw [z.1]; omega, z.2⟩
  have key : ∀ w : Str, w ∉ st.2 → good w → IN (k + 1) (s1.2, st.2 ++ [w]) := fun w h1 h2 => by
    refine ⟨by rw [List.length_append, h.1]; rfl, ?_, fun v hv => ?_⟩
    · refine List.nodup_append.mpr ⟨h.2.1, by simp, fun a ha b hb => ?_⟩
      rw [List.mem_singleton.mp hb]
      exact fun e => h1 (e ▸ ha)
    · rcases List.mem_append.mp hv with hv | hv
      · exact h.2.2 v hv
      · rw [List.mem_singleton.mp hv]; exact h2
  by_cases c : s1.1 ∈ st.2
  · rw [decide_eq_true c]
    have z2 := letters_get (found := st.2) (by rw [h.1]; exact hk)
    exact key _ z2.1 z2.2
  · rw [decide_eq_false c]
    exact key _ c gw
theorem names_good (p : Pu) {n : Int} (h : 0 ≤ n ∧ n ≤ 26) : (m_names p n).1.length = n.toNat ∧ (m_names p n).1.Nodup ∧ ∀ w ∈ (m_names p n).1, good w := by
  unfold m_names
  simp only [pipe_eq]
  have z := fold_inv (fun k st => k ≤ 26 → IN k st) (g := m_names_L1 abc) (xs := rangeL 0 n) (y := (p, [])) (n := 0) (fun _ => IN_0 p) fun k y x _ hk hy h2 => names_step (by omega) (hy (by omega))
  rw [rangeL_len] at z
  obtain ⟨z1, z2, z3⟩ := z (by omega)
  exact ⟨by rw [z1]; omega, z2, z3⟩
theorem names_ok (p : Pu) {n : Int} (h : 0 ≤ n ∧ n ≤ 26) : ok_m_names p n := by
  unfold ok_m_names
  simp only [pipe_eq]
  refine ⟨⟨by omega, by omega⟩, fun st k hat => ?_, trivial⟩
  obtain ⟨_, n1, hn1, _, i1⟩ := atF_inv (fun k st => k ≤ 26 → IN k st) hat (fun _ => IN_0 p) fun k y x _ hk hy h2 => names_step (by omega) (hy (by omega))
  rw [rangeL_len] at hn1
  have i1 := i1 (by omega)
  have t := word_len st.1
  refine ⟨take_ok _ (by decide) (by decide), take_ok _ (by decide) (by decide), ?_, ⟨by omega, by omega⟩, fun st3 i hat3 => ?_, ?_, ?_, trivial⟩
  · have t1 := take_lt st.1 (n := 2) (by decide)
    exact .inl ⟨by omega, by omega⟩
  · obtain ⟨_, n3, hn3, _, i3⟩ := atF_inv IW hat3 (IW_0 _) fun k y x _ _ hy => word_step hy
    rw [rangeL_len] at hn3
    refine ⟨take_ok _ (by decide) (by decide), abc_okC _, ?_, trivial⟩
    obtain ⟨c, hc, e⟩ := chI_of (abc_okC st3.2)
    rw [len_app, strlen, i3.1, e]
    show _ + 1 ≤ _
    have : sbig = 900000 := rfl
    omega
  · exact ⟨fun _ => ⟨letters_free (by rw [i1.1]; omega), trivial⟩, fun _ => trivial⟩
  · rw [i1.1]; show _ < 1000000; omega
end Lw
namespace Lw
open PySem PySem.Spec PyProof.Rows L2 Ly TL
/-! plain lemmas, used in several laws -/
abbrev B60 : Int := 1000000000000000000000000000000000000000000000000000000000000
theorem e60 : ((10 : Int) ^ (60 : Int).toNat) = B60 := by decide +kernel
theorem take_snoc {α : Type} {ns : List α} {k : Nat} {x : α} (h : ns[k]? = some x) : ns.take (k + 1) = ns.take k ++ [x] := by
  rw [List.take_succ, h]; rfl
theorem nodup_fresh {ns : List Str} (nd : ns.Nodup) {k : Nat} {x : Str} (h : ns[k]? = some x) : x ∉ ns.take k := by
  have z : (ns.take (k + 1)).Nodup := nd.sublist (List.take_sublist _ _)
  rw [take_snoc h] at z
  exact fun e => (List.nodup_append.mp z).2.2 x e x (List.mem_singleton.mpr rfl) rfl
theorem fold_at {β α : Type} {g : β → α → β} {xs : List α} (I : Nat → β → Prop) {y : β} (h0 : I 0 y) (hs : ∀ k y x, xs[k]? = some x → I k y → I (k + 1) (g y x)) : ∀ n, n ≤ xs.length → I n ((xs.take n).foldl g y)
  | 0, _ => h0
  | n + 1, hn => by
    have hx : xs[n]? = some (xs[n]'hn) := List.getElem?_eq_getElem hn
    rw [take_snoc hx, List.foldl_append]
    exact hs n _ _ hx (fold_at I h0 hs n (by omega))
theorem fold_end {β α : Type} {g : β → α → β} {xs : List α} (I : Nat → β → Prop) {y : β} (h0 : I 0 y) (hs : ∀ k y x, xs[k]? = some x → I k y → I (k + 1) (g y x)) : I xs.length (xs.foldl g y) := by
  have z := fold_at I h0 hs xs.length (Nat.le_refl _)
  rw [List.take_length] at z; exact z
theorem atF_at {β α : Type} {g : β → α → β} {xs : List α} (I : Nat → β → Prop) {y0 y : β} {x : α} (h : AtF g xs y0 y x) (h0 : I 0 y0) (hs : ∀ k y x, xs[k]? = some x → I k y → I (k + 1) (g y x)) : ∃ k, xs[k]? = some x ∧ I k y := by
  obtain ⟨pre, post, e, h⟩ := h
  subst e
  have z := fold_at I h0 hs pre.length (by rw [List.length_append]; omega)
  rw [List.take_left] at z
  exact ⟨pre.length, by simp, h ▸ z⟩
theorem mem_signs {z w : Str} (h : w ∈ signsOf z) : ∃ c ∈ tl z, w = sgn c := by
  obtain ⟨c, hc, e⟩ := List.mem_map.mp h
  exact ⟨c, hc, e.symm⟩
theorem word_ok (w : Str) : ok_p_is_plan_word w := by
  refine ⟨fun _ => ⟨fun l hl _ => ?_, trivial⟩, trivial⟩
  obtain ⟨c, _, e⟩ := mem_signs hl
  exact ⟨by rw [e, sgnOf_sgn], trivial⟩
theorem word_good {w : Str} (h : good w) : p_is_plan_word w = true := by
  unfold p_is_plan_word
  rw [strlen, given_all, Bool.and_eq_true, Bool.and_eq_true, decide_eq_true_eq, decide_eq_true_eq, all_id]
  refine ⟨⟨by have := h.1; omega, by have := h.2.1; omega⟩, fun b hb => ?_⟩
  obtain ⟨l, hl, e⟩ := List.mem_map.mp hb
  obtain ⟨c, hc, e2⟩ := mem_signs hl
  rw [← e, e2, sgnOf_sgn]
  exact decide_eq_true (abc_all c (h.2.2 c hc))
theorem mem_rangeS {lo hi c k : Int} (hc : 0 ≤ c) (h : k ∈ rangeS lo hi c) : lo ≤ k := by
  obtain ⟨i, _, e⟩ := List.mem_map.mp h
  rw [← e]
  have := Int.mul_nonneg (Int.natCast_nonneg i) hc
  omega
theorem more {b : Int} (hb : 1 ≤ b ∧ b < B60) : b ≤ (if (b + (1 : Int)) < (((10 : Int) ^ (60 : Int).toNat) - (1 : Int)) then (b + (1 : Int)) else (((10 : Int) ^ (60 : Int).toNat) - (1 : Int))) ∧ (if (b + (1 : Int)) < (((10 : Int) ^ (60 : Int).toNat) - (1 : Int)) then (b + (1 : Int)) else (((10 : Int) ^ (60 : Int).toNat) - (1 : Int))) < 2 ^ 250 := by
  rw [e60]
  have e : B60 < 2 ^ 250 := by decide +kernel
  split <;> omega
theorem benches_good (p : Pu) : 1 ≤ (m_benches p).1 ∧ (m_benches p).1 < B60 := by
  unfold m_benches
  have e : ((10 : Int) ^ (60 : Int).toNat - 1) = B60 - 1 := by decide +kernel
  rw [e]
  have t1 := take_lt (m_take p 8).2 (n := B60 - 1) (by decide +kernel)
  have t2 := take_lt (m_take p 8).2 (n := 4) (by decide)
  cases decide ((m_take p 8).1 = 0) with
  | true => show 1 ≤ 1 + (m_take (m_take p 8).2 (B60 - 1)).1 ∧ 1 + (m_take (m_take p 8).2 (B60 - 1)).1 < B60; omega
  | false =>
    show 1 ≤ 1 + (m_take (m_take p 8).2 4).1 ∧ 1 + (m_take (m_take p 8).2 4).1 < B60
    have : (5 : Int) < B60 := by decide +kernel
    omega
theorem benches_ok (p : Pu) : ok_m_benches p := by
  unfold ok_m_benches
  exact ⟨take_ok _ (by decide) (by decide), fun _ => ⟨take_ok _ (by decide +kernel) (by decide +kernel), trivial⟩, fun _ => ⟨take_ok _ (by decide) (by decide), trivial⟩⟩
end Lw
namespace Lw
open PySem PySem.Spec PyProof.Rows L2 Ly TL
/-! the earliest end first -/
abbrev Wd : Type := Dct Str (Int × Int)
abbrev Rw : Type := Dct Int (List Str)
abbrev Lf : Type := List (Tp3 Int Int Str)
def okW (W : Wd) : Prop := W.l.length ≤ 20 ∧ (W.l.map (·.1)).Nodup ∧ ∀ x ∈ W.l, good x.1
/-- at the turn t the name with the window s, e was rightly passed over -/
def Past (b : Int) (W : Wd) (rows : Rw) (s e t : Int) : Prop := (look rows.l t = none → t < s) ∧ ∀ r, look rows.l t = some r → s ≤ t → (r.length : Int) = b ∧ ∀ m ∈ r, ∃ sm em, look W.l m = some (sm, em) ∧ em ≤ e
structure EI (b : Int) (W : Wd) (turn : Option Int) (rows : Rw) (left : Lf) : Prop where
  srt : left.Pairwise fun x y => x.a ≤ y.a
  nd : (left.map (·.c)).Nodup
  mem : ∀ x ∈ left, look W.l x.c = some (x.b, x.a)
  all : ∀ n ∈ keysD W, n ∈ left.map (·.c) ∨ ∃ t r, look rows.l t = some r ∧ n ∈ r
  rk : (keysD rows).Nodup
  sz : rows.l.length + left.length ≤ 20
  rw : ∀ t r, look rows.l t = some r → (r.length : Int) ≤ b ∧ r.Nodup ∧ ∀ n ∈ r, n ∉ left.map (·.c) ∧ ∃ s e, look W.l n = some (s, e) ∧ s ≤ t ∧ t ≤ e
  dj : ∀ t r t' r' n, look rows.l t = some r → look rows.l t' = some r' → n ∈ r → n ∈ r' → t = t'
  hi : ∀ t r, look rows.l t = some r → ∃ T, turn = some T ∧ t ≤ T
  p1 : ∀ T, turn = some T → ∀ x ∈ left, ∀ t ≤ T, Past b W rows x.b x.a t
  p2 : ∀ t r n s e, look rows.l t = some r → n ∈ r → look W.l n = some (s, e) → ∀ u < t, Past b W rows s e u
/-- the turn to come -/
def NextT (turn : Option Int) (least T' : Int) : Prop := (turn = none ∧ T' = least) ∨ ∃ T, turn = some T ∧ T < T' ∧ least ≤ T' ∧ (T' = T + 1 ∨ T' = least)
theorem EI.past {b : Int} {W : Wd} {turn : Option Int} {rows : Rw} {left : Lf} (h : EI b W turn rows left) {least T' : Int} (hl : ∀ x ∈ left, least ≤ x.b) (hT : NextT turn least T') : look rows.l T' = none ∧ ∀ x ∈ left, ∀ t < T', Past b W rows x.b x.a t := by
  have none_of : ∀ t, (∀ T, turn = some T → T < t) → look rows.l t = none := fun t ht => by
    cases q : look rows.l t with
    | none => rfl
    | some r =>
      obtain ⟨T, e, hle⟩ := h.hi t r q
      have := ht T e
      omega
  have some_no : ∀ t x, look rows.l t = none → t < x → ∀ e, Past b W rows x e t := fun t x q hx e => ⟨fun _ => hx, fun r hr => by rw [q] at hr; cases hr⟩
  rcases hT with ⟨e, e2⟩ | ⟨T, e, hlt, hle, e2⟩
  · refine ⟨none_of _ fun T q => (by rw [e] at q; cases q), fun x hx t ht => ?_⟩
    have := hl x hx
    exact some_no t x.b (none_of t fun T q => (by rw [e] at q; cases q)) (by omega) x.a
  · refine ⟨none_of _ fun T2 q => (by rw [e] at q; cases q; exact hlt), fun x hx t ht => ?_⟩
    by_cases c : t ≤ T
    · exact h.p1 T e x hx t c
    · have := hl x hx
      exact some_no t x.b (none_of t fun T2 q => (by rw [e] at q; cases q; omega)) (by omega) x.a
/-- the row of a turn -/
def rowOf (b : Int) (left : Lf) (T' : Int) : Lf := (left.filter fun x => decide (x.b ≤ T')).take b.toNat
theorem EI.step {b : Int} (hb : 1 ≤ b) {W : Wd} {turn : Option Int} {rows : Rw} {left : Lf} (h : EI b W turn rows left) {least T' : Int} (hl : ∀ x ∈ left, least ≤ x.b) (hm : ∃ x ∈ left, x.b = least) (hT : NextT turn least T') (hc : ∀ x ∈ left, T' ≤ x.a) :
    EI b W (some T') (putD rows T' ((rowOf b left T').map (·.c))) (left.filter fun x => !(decide (x.c ∈ (rowOf b left T').map (·.c)))) ∧ (left.filter fun x => !(decide (x.c ∈ (rowOf b left T').map (·.c)))).length < left.length := by
  obtain ⟨hn, hp⟩ := h.past hl hT
  have hlT : least ≤ T' := by
    rcases hT with ⟨_, e⟩ | ⟨T, e, hlt, hle, e2⟩ <;> omega
  have hhi : ∀ t r, look rows.l t = some r → t < T' := fun t r q => by
    obtain ⟨T, e, hle⟩ := h.hi t r q
    rcases hT with ⟨e1, _⟩ | ⟨T2, e1, hlt, _, _⟩
    · rw [e1] at e; cases e
    · rw [e1] at e; cases e; omega
  have fsub : (left.filter fun x => decide (x.b ≤ T')).Sublist left := List.filter_sublist
  have rsub : (rowOf b left T').Sublist left := (List.take_sublist _ _).trans fsub
  have fR : ∀ x ∈ rowOf b left T', x ∈ left ∧ x.b ≤ T' := fun x hx => by
    have z := List.mem_filter.mp (List.mem_of_mem_take hx)
    exact ⟨z.1, of_decide_eq_true z.2⟩
  have lk : ∀ t, look (putD rows T' ((rowOf b left T').map (·.c))).l t = if t = T' then some ((rowOf b left T').map (·.c)) else look rows.l t := fun t => look_putL
  have lkT : look (putD rows T' ((rowOf b left T').map (·.c))).l T' = some ((rowOf b left T').map (·.c)) := by rw [lk, if_pos rfl]
  have lkN : ∀ t, t ≠ T' → look (putD rows T' ((rowOf b left T').map (·.c))).l t = look rows.l t := fun t ht => by rw [lk, if_neg ht]
  have pp : ∀ s e t, t ≠ T' → Past b W rows s e t → Past b W (putD rows T' ((rowOf b left T').map (·.c))) s e t := fun s e t ht z => by
    unfold Past
    rw [lkN t ht]; exact z
  have lsub : (left.filter fun x => !(decide (x.c ∈ (rowOf b left T').map (·.c)))).Sublist left := List.filter_sublist
  have lmem : ∀ x, x ∈ (left.filter fun x => !(decide (x.c ∈ (rowOf b left T').map (·.c)))) → x ∈ left ∧ x.c ∉ (rowOf b left T').map (·.c) := fun x hx => by
    have z := List.mem_filter.mp hx
    refine ⟨z.1, fun e => ?_⟩
    have z2 := z.2
    rw [decide_eq_true e] at z2
    cases z2
  have dec : (left.filter fun x => !(decide (x.c ∈ (rowOf b left T').map (·.c)))).length < left.length := by
    obtain ⟨x0, hx0, e0⟩ := hm
    have hF : x0 ∈ left.filter fun x => decide (x.b ≤ T') := List.mem_filter.mpr ⟨hx0, decide_eq_true (by omega)⟩
    have hne : 0 < (rowOf b left T').length := by
      unfold rowOf
      rw [List.length_take]
      have := List.length_pos_of_mem hF
      omega
    obtain ⟨y, hy⟩ := List.exists_mem_of_length_pos hne
    refine List.length_filter_lt_length_iff_exists.mpr ⟨y, (fR y hy).1, ?_⟩
    rw [decide_eq_true (List.mem_map_of_mem hy)]
    exact Bool.false_ne_true
  refine ⟨⟨h.srt.sublist lsub, h.nd.sublist (lsub.map _), fun x hx => h.mem x (lmem x hx).1, fun n hk => ?_, putL_keys h.rk, ?_, fun t r q => ?_, fun t r t' r' n q q' hr hr' => ?_, fun t r q => ?_, fun T eT x hx t ht => ?_, fun t r n s e q hr hw u hu => ?_⟩, dec⟩
  · rcases h.all n hk with c | ⟨t, r, q, hr⟩
    · obtain ⟨x, hx, e⟩ := List.mem_map.mp c
      by_cases c2 : n ∈ (rowOf b left T').map (·.c)
      · exact .inr ⟨T', _, lkT, c2⟩
      · refine .inl (List.mem_map.mpr ⟨x, List.mem_filter.mpr ⟨hx, ?_⟩, e⟩)
        have e : x.c = n := e
        rw [e, decide_eq_false c2]; rfl
    · refine .inr ⟨t, r, ?_, hr⟩
      rw [lkN t fun e => (by rw [e, hn] at q; cases q)]
      exact q
  · have z : (putD rows T' ((rowOf b left T').map (·.c))).l.length ≤ rows.l.length + 1 := by
      show (putL rows.l T' _).length ≤ _
      unfold putL
      split
      · rw [List.length_map]; omega
      · rw [List.length_append]; exact Nat.le_refl _
    have := h.sz
    omega
  · by_cases c : t = T'
    · subst c
      rw [lkT] at q
      cases q
      refine ⟨?_, h.nd.sublist (rsub.map _), fun n hr => ?_⟩
      · rw [List.length_map]
        unfold rowOf
        rw [List.length_take]
        omega
      · obtain ⟨x, hx, e⟩ := List.mem_map.mp hr
        have e : x.c = n := e
        refine ⟨fun hl' => ?_, x.b, x.a, by rw [← e]; exact h.mem x (fR x hx).1, (fR x hx).2, hc x (fR x hx).1⟩
        obtain ⟨y, hy, ey⟩ := List.mem_map.mp hl'
        have ey : y.c = n := ey
        exact (lmem y hy).2 (by rw [ey]; exact hr)
    · rw [lkN t c] at q
      obtain ⟨z1, z2, z3⟩ := h.rw t r q
      exact ⟨z1, z2, fun n hr => ⟨fun e => (z3 n hr).1 ((lsub.map _).subset e), (z3 n hr).2⟩⟩
  · have key : ∀ u v rv n, look rows.l v = some rv → u = T' → n ∈ (rowOf b left T').map (·.c) → n ∈ rv → False := fun u v rv n qv _ h1 h2 => ((h.rw v rv qv).2.2 n h2).1 ((rsub.map _).subset h1)
    by_cases c : t = T'
    · by_cases c' : t' = T'
      · rw [c, c']
      · rw [c, lkT] at q
        cases q
        rw [lkN t' c'] at q'
        exact (key t t' r' n q' c hr hr').elim
    · rw [lkN t c] at q
      by_cases c' : t' = T'
      · rw [c', lkT] at q'
        cases q'
        exact (key t' t r n q c' hr' hr).elim
      · rw [lkN t' c'] at q'
        exact h.dj t r t' r' n q q' hr hr'
  · by_cases c : t = T'
    · exact ⟨T', rfl, by omega⟩
    · rw [lkN t c] at q
      exact ⟨T', rfl, Int.le_of_lt (hhi t r q)⟩
  · cases eT
    obtain ⟨hx1, hx2⟩ := lmem x hx
    by_cases c : t = T'
    · subst c
      refine ⟨fun q => (by rw [lkT] at q; cases q), fun r q hxb => ?_⟩
      rw [lkT] at q
      cases q
      have hF : x ∈ left.filter fun x => decide (x.b ≤ t) := List.mem_filter.mpr ⟨hx1, decide_eq_true hxb⟩
      have hs := h.srt.sublist fsub
      have hsp := List.take_append_drop b.toNat (left.filter fun x => decide (x.b ≤ t))
      rw [← hsp] at hF hs
      have hnR : x ∉ (left.filter fun x => decide (x.b ≤ t)).take b.toNat := fun e => hx2 (List.mem_map_of_mem (f := fun x => x.c) e)
      have hD : x ∈ (left.filter fun x => decide (x.b ≤ t)).drop b.toNat := (List.mem_append.mp hF).resolve_left hnR
      have hlen := List.length_pos_of_mem hD
      rw [List.length_drop] at hlen
      refine ⟨?_, fun m hm => ?_⟩
      · rw [List.length_map]
        unfold rowOf
        rw [List.length_take]
        omega
      · obtain ⟨y, hy, ey⟩ := List.mem_map.mp hm
        have ey : y.c = m := ey
        refine ⟨y.b, y.a, by rw [← ey]; exact h.mem y (fR y hy).1, ?_⟩
        exact (List.pairwise_append.mp hs).2.2 y hy x hD
    · exact pp _ _ _ c (hp x hx1 t (by omega))
  · by_cases c : t = T'
    · subst c
      rw [lkT] at q
      cases q
      obtain ⟨x, hx, ex⟩ := List.mem_map.mp hr
      have ex : x.c = n := ex
      have hxl := (fR x hx).1
      have z := h.mem x hxl
      rw [ex, hw] at z
      cases z
      exact pp _ _ _ (by omega) (hp x hxl u hu)
    · rw [lkN t c] at q
      have := hhi t r q
      exact pp _ _ _ (by omega) (h.p2 t r n s e q hr hw u hu)
end Lw
namespace Lw
open PySem PySem.Spec PyProof.Rows L2 Ly TL
/-! the crowd -/
def IsCrowd (b : Int) (W : Wd) (a z : Int) (ns : List Str) : Prop := ns.Nodup ∧ (∀ n ∈ ns, ∃ s e, look W.l n = some (s, e) ∧ a ≤ s ∧ e ≤ z) ∧ b * max 0 (z - a + 1) < (ns.length : Int)
theorem wh_ends2 {β ρ : Type} {c : β → Bool} {g : β → Fl β ρ} {ok : β → Prop} (I : Nat → β → Prop) (Q : β → Prop) (h0 : ∀ k y, I k y → c y = false → Q y) (h : ∀ k y, I k y → c y = true → ok y ∧ ((∃ z, g y = .nx z ∧ ∃ j, j < k ∧ I j z) ∨ ∃ z, g y = .bk z ∧ Q z)) : ∀ (n k : Nat) (y : β), I k y → k < n → whOk c g ok n y ∧ ∃ z, whFl c g n y = .nx z ∧ Q z
  | 0, k, y, _, hk => by omega
  | n + 1, k, y, hi, hk => by
    cases q : c y with
    | false => exact ⟨fun e => (by rw [q] at e; cases e), y, by unfold whFl; rw [q]; rfl, h0 k y hi q⟩
    | true =>
      obtain ⟨o, c2⟩ := h k y hi q
      rcases c2 with ⟨z, e, j, hj, hz⟩ | ⟨z, e, hz⟩
      · obtain ⟨r1, z2, r2, r3⟩ := wh_ends2 I Q h0 h n j z hz (by omega)
        refine ⟨fun _ => ⟨o, fun z' e' => ?_⟩, z2, ?_, r3⟩
        · rw [e] at e'; cases e'; exact r1
        · unfold whFl
          rw [q, if_pos rfl, e]
          exact r2
      · refine ⟨fun _ => ⟨o, fun z' e' => ?_⟩, z, ?_, hz⟩
        · rw [e] at e'; cases e'
        · unfold whFl
          rw [q, if_pos rfl, e]
theorem look_has {κ α : Type} [DecidableEq κ] {d : Dct κ α} {k : κ} {x : α} (h : look d.l k = some x) : hasD d k = true := by unfold hasD; rw [h]; rfl
theorem look_get {κ α : Type} [DecidableEq κ] [Inhabited α] {d : Dct κ α} {k : κ} {x : α} (h : look d.l k = some x) : getD d k = x := by unfold getD; rw [h]; rfl
theorem has_look {κ α : Type} [DecidableEq κ] {d : Dct κ α} {k : κ} (h : hasD d k = true) : ∃ x, look d.l k = some x := by
  unfold hasD at h
  exact Option.isSome_iff_exists.mp h
theorem has_not {κ α : Type} [DecidableEq κ] {d : Dct κ α} {k : κ} (h : hasD d k = false) : look d.l k = none := by
  cases q : look d.l k with
  | none => rfl
  | some x => rw [look_has q] at h; cases h
def below (rows : Rw) (f : Int) : Nat := (rows.l.filter fun p => decide (p.1 < f)).length
theorem below_lt {rows : Rw} {f : Int} {r : List Str} (h : look rows.l (f - 1) = some r) : below rows (f - 1) < below rows f := by
  unfold below
  have e : (rows.l.filter fun p => decide (p.1 < f - 1)) = (rows.l.filter fun p => decide (p.1 < f)).filter fun p => decide (p.1 < f - 1) := by
    rw [List.filter_filter]
    refine List.filter_congr fun p _ => ?_
    by_cases c : p.1 < f - 1
    · rw [decide_eq_true c, decide_eq_true (show p.1 < f by omega)]; rfl
    · rw [decide_eq_false c]; rfl
  rw [e]
  refine List.length_filter_lt_length_iff_exists.mpr ⟨(f - 1, r), List.mem_filter.mpr ⟨look_mem h, decide_eq_true (by show f - 1 < f; omega)⟩, ?_⟩
  rw [decide_eq_false (by show ¬ f - 1 < f - 1; omega)]
  exact Bool.false_ne_true
structure IC (b : Int) (W : Wd) (rows : Rw) (late : Str) (end_ : Int) (k : Nat) (st : List Str × Int) : Prop where
  k0 : k = below rows st.2
  hi : st.2 ≤ end_ + 1
  nd : st.1.Nodup
  len : (st.1.length : Int) = 1 + b * (end_ + 1 - st.2)
  mem : ∀ n ∈ st.1, (∃ s e, look W.l n = some (s, e) ∧ e ≤ end_ ∧ ∀ u < st.2, Past b W rows s e u) ∧ (n = late ∨ ∃ t r, st.2 ≤ t ∧ look rows.l t = some r ∧ n ∈ r)
theorem crowd_spec {b : Int} (hb : 1 ≤ b) {W : Wd} (hW : okW W) {turn : Option Int} {rows : Rw} {left : Lf} (h : EI b W turn rows left) {least T' : Int} (hl : ∀ x ∈ left, least ≤ x.b) (hT : NextT turn least T') {x : Tp3 Int Int Str} (hx : x ∈ left) (hxa : x.a < T') :
    ok_p_crowd_to b W rows x.c ∧ ∃ a z ns, p_crowd_to b W rows x.c = Told.crowd a z ns ∧ IsCrowd b W a z ns := by
  have lx := h.mem x hx
  obtain ⟨_, hp⟩ := h.past hl hT
  have gx : getD W x.c = (x.b, x.a) := look_get lx
  have key := wh_ends2 (c := fun (st : (List Str) × Int) => hasD rows (st.2 - (1 : Int))) (g := p_crowd_to_L1 b W rows x.a)
    (ok := fun (st : ((List Str) × Int)) => (pipe st.1 fun (row_1 : (List Str)) => (pipe st.2 fun (first_1 : Int) => (hasD rows (first_1 - (1 : Int)) = true) ∧ (pipe (getD rows (first_1 - (1 : Int))) fun (here : (List Str)) =>
  ((decide ((here.length : Int) < b)) = false → (∀ name ∈ here, true = true → (hasD W name = true) ∧ True) ∧ True) ∧ okIf ((decide ((here.length : Int) < b)) || ((given (fun (name : Str) => true) (fun (name : Str) => (decide ((getD W name).2 > x.a))) here).any id)) (True) (((row_1 ++ here).length ≤ big) ∧ True)))))
    (IC b W rows x.c x.a) (fun st => IsCrowd b W st.2 x.a st.1) ?_ ?_ 1000000 (below rows (x.a + 1)) ([x.c], x.a + 1) ⟨rfl, Int.le_refl _, (by simp), by show (1 : Int) = 1 + b * (x.a + 1 - (x.a + 1)); rw [Int.sub_self, Int.mul_zero]; rfl, fun n hn => ?_⟩ ?_
  · obtain ⟨w1, z, w2, w3⟩ := key
    have w2' : whFl (fun (st : (List Str) × Int) => hasD rows (st.2 - (1 : Int))) (p_crowd_to_L1 b W rows x.a) 1000000 ([x.c], x.a + 1) = .nx z := w2
    refine ⟨?_, ?_⟩
    · unfold ok_p_crowd_to
      rw [gx]
      refine ⟨look_has lx, ?_⟩
      show okIf (decide (x.a < x.b)) True (whOk _ _ _ 1000000 ([x.c], x.a + 1) ∧ True)
      exact ⟨fun _ => trivial, fun _ => ⟨w1, trivial⟩⟩
    · unfold p_crowd_to
      simp only [pipe_eq]
      rw [gx]
      by_cases c : x.a < x.b
      · rw [decide_eq_true c]
        refine ⟨x.b, x.a, [x.c], rfl, (by simp), fun n hn => ?_, ?_⟩
        · rw [List.mem_singleton.mp hn]; exact ⟨x.b, x.a, lx, Int.le_refl _, Int.le_refl _⟩
        · rw [show max 0 (x.a - x.b + 1) = 0 by omega, Int.mul_zero]; show (0 : Int) < 1; decide
      · rw [decide_eq_false c, w2']
        exact ⟨z.2, x.a, z.1, rfl, w3⟩
  · intro k st hi hc
    have hn := has_not hc
    refine ⟨hi.nd, fun n hr => ?_, ?_⟩
    · obtain ⟨⟨s, e, q, he, hpast⟩, _⟩ := hi.mem n hr
      have := (hpast (st.2 - 1) (by omega)).1 hn
      exact ⟨s, e, q, by omega, he⟩
    · have h1 := hi.len
      have h2 := hi.hi
      rw [show max 0 (x.a - st.2 + 1) = x.a + 1 - st.2 by omega]
      omega
  · intro k st hi hc
    obtain ⟨r, hr⟩ := has_look hc
    obtain ⟨r1, r2, r3⟩ := h.rw (st.2 - 1) r hr
    have gr : getD rows (st.2 - 1) = r := look_get hr
    have hasW : ∀ m ∈ r, hasD W m = true := fun m hm => by
      obtain ⟨_, s, e, q, _⟩ := r3 m hm
      exact look_has q
    have fresh : ∀ n ∈ st.1, n ∉ r := fun n hn hnr => by
      rcases (hi.mem n hn).2 with e | ⟨t, r', h1, h2, h3⟩
      · rw [e] at hnr
        exact (r3 _ hnr).1 (List.mem_map_of_mem (f := fun x => x.c) hx)
      · have := h.dj _ _ _ _ n hr h2 hnr h3
        omega
    have keysub : ∀ n ∈ st.1 ++ r, n ∈ W.l.map (·.1) := fun n hn => by
      rcases List.mem_append.mp hn with hn | hn
      · obtain ⟨⟨s, e, q, _⟩, _⟩ := hi.mem n hn
        exact List.mem_map_of_mem (f := fun p => p.1) (look_mem q)
      · obtain ⟨_, s, e, q, _⟩ := r3 n hn
        exact List.mem_map_of_mem (f := fun p => p.1) (look_mem q)
    have nd2 : (st.1 ++ r).Nodup := List.nodup_append.mpr ⟨hi.nd, r2, fun n hn m hm e => fresh n hn (e ▸ hm)⟩
    have hlen : (st.1 ++ r).length ≤ big := by
      have z := nodup_len nd2 keysub
      rw [List.length_map] at z
      have := hW.1
      show _ ≤ 1000000
      omega
    refine ⟨⟨hc, ?_⟩, ?_⟩
    · simp only [pipe_eq]
      rw [gr]
      exact ⟨fun _ => ⟨fun m hm _ => ⟨hasW m hm, trivial⟩, trivial⟩, fun _ => trivial, fun _ => ⟨hlen, trivial⟩⟩
    · unfold p_crowd_to_L1
      simp only [pipe_eq]
      rw [gr]
      cases cd : ((decide ((r.length : Int) < b)) || ((given (fun (name : Str) => true) (fun (name : Str) => (decide ((getD W name).2 > x.a))) r).any id)) with
      | true =>
        refine .inr ⟨_, rfl, hi.nd, fun n hn => ?_, ?_⟩
        · obtain ⟨⟨s, e, q, he, hpast⟩, _⟩ := hi.mem n hn
          refine ⟨s, e, q, ?_, he⟩
          show st.2 ≤ s
          by_cases c : s ≤ st.2 - 1
          · obtain ⟨e1, e2⟩ := (hpast (st.2 - 1) (by omega)).2 r hr c
            rw [decide_eq_false (by omega), Bool.false_or, given_all, List.any_eq_true] at cd
            obtain ⟨v, hv, ev⟩ := cd
            obtain ⟨m, hm, em⟩ := List.mem_map.mp hv
            obtain ⟨sm, em', qm, hle⟩ := e2 m hm
            rw [← em, look_get qm] at ev
            have := of_decide_eq_true ev
            have : em' > x.a := this
            omega
          · omega
        · have h1 := hi.len
          have h2 := hi.hi
          show b * max 0 (x.a - st.2 + 1) < (st.1.length : Int)
          rw [show max 0 (x.a - st.2 + 1) = x.a + 1 - st.2 by omega]
          omega
      | false =>
        rw [Bool.or_eq_false_iff] at cd
        have hlb := of_decide_eq_false cd.1
        have hany : ∀ m ∈ r, (getD W m).2 ≤ x.a := fun m hm => by
          have z := cd.2
          rw [given_all, List.any_eq_false] at z
          have z2 := z _ (List.mem_map_of_mem (f := fun (name : Str) => (decide ((getD W name).2 > x.a))) hm)
          by_cases c : (getD W m).2 > x.a
          · rw [decide_eq_true c] at z2; exact (z2 rfl).elim
          · omega
        refine .inl ⟨_, rfl, below rows (st.2 - 1), by rw [hi.k0]; exact below_lt hr, rfl, by have := hi.hi; show st.2 - 1 ≤ x.a + 1; omega, nd2, ?_, fun n hn => ?_⟩
        · show ((st.1 ++ r).length : Int) = 1 + b * (x.a + 1 - (st.2 - 1))
          rw [List.length_append, show x.a + 1 - (st.2 - 1) = (x.a + 1 - st.2) + 1 by omega, Int.mul_add, Int.mul_one]
          have := hi.len
          omega
        · rcases List.mem_append.mp hn with hn | hn
          · obtain ⟨⟨s, e, q, he, hpast⟩, src⟩ := hi.mem n hn
            refine ⟨⟨s, e, q, he, fun u hu => hpast u (by have hu : u < st.2 - 1 := hu; omega)⟩, ?_⟩
            rcases src with e | ⟨t, r', h1, h2, h3⟩
            · exact .inl e
            · exact .inr ⟨t, r', by show st.2 - 1 ≤ t; omega, h2, h3⟩
          · obtain ⟨_, s, e, q, _⟩ := r3 n hn
            refine ⟨⟨s, e, q, ?_, fun u hu => h.p2 (st.2 - 1) r n s e hr hn q u hu⟩, .inr ⟨st.2 - 1, r, Int.le_refl _, hr, hn⟩⟩
            have := hany n hn
            rw [look_get q] at this
            exact this
  · rw [List.mem_singleton.mp hn]
    exact ⟨⟨x.b, x.a, lx, Int.le_refl _, fun u hu => hp x hx u (by have hu : u < x.a + 1 := hu; omega)⟩, .inl rfl⟩
  · have : below rows (x.a + 1) ≤ rows.l.length := List.length_filter_le _ _
    have := h.sz
    omega
end Lw
namespace Lw
open PySem PySem.Spec PyProof.Rows L2 Ly TL
/-! the turns -/
theorem wh_ends3 {β ρ : Type} {c : β → Bool} {g : β → Fl β ρ} {ok : β → Prop} (I : Nat → β → Prop) (Q : ρ → Prop) (h : ∀ k y, I k y → c y = true → ok y ∧ ((∃ z, g y = .nx z ∧ ∃ j, j < k ∧ I j z) ∨ ∃ r, g y = .rt r ∧ Q r)) : ∀ (n k : Nat) (y : β), I k y → k < n → whOk c g ok n y ∧ ((∃ z j, whFl c g n y = .nx z ∧ I j z ∧ c z = false) ∨ ∃ r, whFl c g n y = .rt r ∧ Q r)
  | 0, k, y, _, hk => by omega
  | n + 1, k, y, hi, hk => by
    cases q : c y with
    | false => exact ⟨fun e => (by rw [q] at e; cases e), .inl ⟨y, k, by unfold whFl; rw [q]; rfl, hi, q⟩⟩
    | true =>
      obtain ⟨o, c2⟩ := h k y hi q
      rcases c2 with ⟨z, e, j, hj, hz⟩ | ⟨r, e, hr⟩
      · obtain ⟨r1, r2⟩ := wh_ends3 I Q h n j z hz (by omega)
        refine ⟨fun _ => ⟨o, fun z' e' => ?_⟩, ?_⟩
        · rw [e] at e'; cases e'; exact r1
        · unfold whFl
          rw [q, if_pos rfl, e]
          exact r2
      · refine ⟨fun _ => ⟨o, fun z' e' => ?_⟩, .inr ⟨r, ?_, hr⟩⟩
        · rw [e] at e'; cases e'
        · unfold whFl
          rw [q, if_pos rfl, e]
theorem has_key2 {κ α : Type} [DecidableEq κ] {d : Dct κ α} {n : κ} (h : n ∈ keysD d) : hasD d n = true := by
  unfold hasD
  cases q : look d.l n with
  | some v => rfl
  | none =>
    rw [look_none] at q
    obtain ⟨p, hp, e⟩ := List.mem_map.mp h
    exact (q p hp e).elim
theorem forFl_go {α β ρ : Type} {g : β → α → Fl β ρ} {x : α} {xs : List α} {y z : β} (h : g y x = .nx z) : forFl g (x :: xs) y = forFl g xs z := by
  show (match g y x with | .nx z => forFl g xs z | .rt r => .rt r | .bk z => .bk z) = _
  rw [h]
theorem forFl_out {α β ρ : Type} {g : β → α → Fl β ρ} {x : α} {xs : List α} {y : β} {r : ρ} (h : g y x = .rt r) : forFl g (x :: xs) y = .rt r := by
  show (match g y x with | .nx z => forFl g xs z | .rt r => .rt r | .bk z => .bk z) = _
  rw [h]
theorem for_find {b : Int} {W : Wd} {rows : Rw} {T' : Int} : ∀ (xs : Lf), ((∀ x ∈ xs, T' ≤ x.a) ∧ forFl (p_windowed_L2 b W rows (some T')) xs () = .nx ()) ∨ ∃ x ∈ xs, x.a < T' ∧ forFl (p_windowed_L2 b W rows (some T')) xs () = .rt (p_crowd_to b W rows x.c)
  | [] => .inl ⟨fun x hx => (by cases hx), rfl⟩
  | x :: xs => by
    by_cases c : x.a < T'
    · refine .inr ⟨x, List.mem_cons_self, c, ?_⟩
      have e : p_windowed_L2 b W rows (some T') () x = .rt (p_crowd_to b W rows x.c) := by
        unfold p_windowed_L2
        simp only [pipe_eq]
        rw [decide_eq_true (show x.a < Option.getD (some T') default from c)]; rfl
      exact forFl_out e
    · have e : p_windowed_L2 b W rows (some T') () x = .nx () := by
        unfold p_windowed_L2
        simp only [pipe_eq]
        rw [decide_eq_false (show ¬ x.a < Option.getD (some T') default from c)]; rfl
      have e2 : forFl (p_windowed_L2 b W rows (some T')) (x :: xs) () = forFl (p_windowed_L2 b W rows (some T')) xs () := forFl_go e
      rw [e2]
      rcases for_find xs with ⟨h1, h2⟩ | ⟨y, hy, h1, h2⟩
      · exact .inl ⟨fun y hy => (by
          rcases List.mem_cons.mp hy with e | e
          · rw [e]; omega
          · exact h1 y e), h2⟩
      · exact .inr ⟨y, List.mem_cons_of_mem _ hy, h1, h2⟩
/-- a plan can be made -/
def Feas (b : Int) (W : Wd) : Prop := ∃ f : Str → Int, (∀ n s e, look W.l n = some (s, e) → s ≤ f n ∧ f n ≤ e) ∧ ∀ t (ns : List Str), ns.Nodup → (∀ n ∈ ns, n ∈ keysD W ∧ f n = t) → (ns.length : Int) ≤ b
theorem key_look {W : Wd} {n : Str} {p : Int × Int} (h : look W.l n = some p) : n ∈ keysD W := List.mem_map_of_mem (f := fun p => p.1) (look_mem h)
theorem EI.feas {b : Int} (hb : 1 ≤ b) {W : Wd} {turn : Option Int} {rows : Rw} (h : EI b W turn rows []) : Feas b W := by
  have ex : ∀ n, ∃ t, n ∈ keysD W → ∃ r, look rows.l t = some r ∧ n ∈ r := fun n => by
    by_cases c : n ∈ keysD W
    · rcases h.all n c with e | ⟨t, r, q⟩
      · cases e
      · exact ⟨t, fun _ => ⟨r, q⟩⟩
    · exact ⟨0, fun e => (c e).elim⟩
  refine ⟨fun n => Classical.choose (ex n), fun n s e q => ?_, fun t ns nd hn => ?_⟩
  · obtain ⟨r, hr, hm⟩ := Classical.choose_spec (ex n) (key_look q)
    obtain ⟨_, s2, e2, q2, h1, h2⟩ := (h.rw _ r hr).2.2 n hm
    rw [q] at q2
    cases q2
    exact ⟨h1, h2⟩
  · cases ns with
    | nil => 
      show (0 : Int) ≤ b
      omega
    | cons n0 ns =>
      obtain ⟨k0, e0⟩ := hn n0 List.mem_cons_self
      obtain ⟨r, hr, hm⟩ := Classical.choose_spec (ex n0) k0
      have e0 : Classical.choose (ex n0) = t := e0
      rw [e0] at hr
      have sub : ∀ n ∈ n0 :: ns, n ∈ r := fun n hn2 => by
        obtain ⟨k1, e1⟩ := hn n hn2
        obtain ⟨r', hr', hm'⟩ := Classical.choose_spec (ex n) k1
        have e1 : Classical.choose (ex n) = t := e1
        rw [e1, hr] at hr'
        cases hr'
        exact hm'
      have z := nodup_len nd sub
      have := (h.rw t r hr).1
      omega
def nextI (turn : Option Int) (least : Int) : Int := bif (!turn.isSome) then least else (if least > ((Option.getD turn default) + (1 : Int)) then least else ((Option.getD turn default) + (1 : Int)))
theorem next_ok (turn : Option Int) (least : Int) : NextT turn least (nextI turn least) := by
  unfold nextI
  cases turn with
  | none => exact .inl ⟨rfl, rfl⟩
  | some T =>
    refine .inr ⟨T, rfl, ?_⟩
    show T < (if least > T + 1 then least else T + 1) ∧ least ≤ (if least > T + 1 then least else T + 1) ∧ ((if least > T + 1 then least else T + 1) = T + 1 ∨ (if least > T + 1 then least else T + 1) = least)
    split <;> omega
abbrev WS : Type := (Option Int) × (Dct Int (List Str)) × (List (Tp3 Int Int Str))
def IW2 (b : Int) (W : Wd) (k : Nat) (st : WS) : Prop := k = st.2.2.length ∧ EI b W st.1 st.2.1 st.2.2
def Crd (b : Int) (W : Wd) (t : Told) : Prop := ∃ a z ns, t = Told.crowd a z ns ∧ IsCrowd b W a z ns
abbrev winOk (b : Int) (W : Wd) : WS → Prop := fun (st : ((Option Int) × (Dct Int (List Str)) × (List (Tp3 Int Int Str)))) => (pipe st.1 fun (turn_1 : (Option Int)) => (pipe st.2.1 fun (rows_1 : (Dct Int (List Str))) => (pipe st.2.2 fun (left_1 : (List (Tp3 Int Int Str))) => (0 < (given (fun (x_1 : (Tp3 Int Int Str)) => true) (fun (x_1 : (Tp3 Int Int Str)) => x_1.b) left_1).length) ∧ (pipe (minI (given (fun (x_1 : (Tp3 Int Int Str)) => true) (fun (x_1 : (Tp3 Int Int Str)) => x_1.b) left_1)) fun (least : Int) =>
  ((!turn_1.isSome) = false → (turn_1.isSome = true) ∧ True) ∧ (pipe (some (bif (!turn_1.isSome) then least else (if least > ((Option.getD turn_1 default) + (1 : Int)) then least else ((Option.getD turn_1 default) + (1 : Int))))) fun (turn_2 : (Option Int)) =>
  (∀ (st_1 : Unit) (x_2 : (Tp3 Int Int Str)), At (p_windowed_L2 b W rows_1 turn_2) left_1 () st_1 x_2 → (pipe x_2.a fun (end_ : Int) =>
  (pipe x_2.b fun (start : Int) =>
  (pipe x_2.c fun (name : Str) =>
  (turn_2.isSome = true) ∧ okIf (decide (end_ < (Option.getD turn_2 default))) ((ok_p_crowd_to b W rows_1 name) ∧ True) (True))))) ∧
  (∀ (st_1 : Unit), ((forFl (p_windowed_L2 b W rows_1 turn_2) left_1 ()) = .nx st_1 ∨ (forFl (p_windowed_L2 b W rows_1 turn_2) left_1 ()) = .bk st_1) →
  (∀ x_3 ∈ left_1, (turn_2.isSome = true) ∧ True) ∧ (pipe (cutX (given (fun (x_3 : (Tp3 Int Int Str)) => (decide (x_3.b ≤ (Option.getD turn_2 default)))) (fun (x_3 : (Tp3 Int Int Str)) => x_3.c) left_1) none (some b)) fun (row : (List Str)) =>
  (turn_2.isSome = true) ∧ (rows_1.l.length < big) ∧ True)))))))
abbrev winC : WS → Bool := fun (st : ((Option Int) × (Dct Int (List Str)) × (List (Tp3 Int Int Str)))) => (!(eqb st.2.2 ([] : (List (Tp3 Int Int Str)))))
theorem win_step {b : Int} (hb : 1 ≤ b) {W : Wd} (hW : okW W) (k : Nat) (st : WS) (hi : IW2 b W k st) (hc : winC st = true) : winOk b W st ∧ ((∃ z, p_windowed_L1 b W st = .nx z ∧ ∃ j, j < k ∧ IW2 b W j z) ∨ ∃ r, p_windowed_L1 b W st = .rt r ∧ Crd b W r) := by
  obtain ⟨turn, rows, left⟩ := st
  obtain ⟨hk, h⟩ := hi
  have hk : k = left.length := hk
  have h : EI b W turn rows left := h
  have hne : 0 < left.length := by
    cases left with
    | nil => cases hc
    | cons a l => exact Nat.succ_pos _
  have gl : given (fun (x_1 : (Tp3 Int Int Str)) => true) (fun (x_1 : (Tp3 Int Int Str)) => x_1.b) left = left.map (·.b) := given_all
  have hpos : 0 < (left.map (·.b)).length := by rw [List.length_map]; exact hne
  obtain ⟨m1, m2⟩ := minI_mem hpos
  generalize hle : minI (left.map (·.b)) = least at m1 m2
  have hl : ∀ x ∈ left, least ≤ x.b := fun x hx => m2 _ (List.mem_map_of_mem hx)
  have hm : ∃ x ∈ left, x.b = least := by
    obtain ⟨x, hx, e⟩ := List.mem_map.mp m1
    exact ⟨x, hx, e⟩
  have hT := next_ok turn least
  generalize hN : nextI turn least = T' at hT
  have hN' : (bif (!turn.isSome) then least else (if least > ((Option.getD turn default) + (1 : Int)) then least else ((Option.getD turn default) + (1 : Int)))) = T' := hN
  have hsz : rows.l.length < big := by
    have := h.sz
    show _ < 1000000
    omega
  refine ⟨?_, ?_⟩
  · show 0 < (given _ _ left).length ∧ _
    rw [gl]
    refine ⟨hpos, ?_⟩
    simp only [pipe_eq]
    rw [hle, hN']
    refine ⟨fun e => ⟨(by cases turn with
      | none => cases e
      | some T => rfl), trivial⟩, fun st1 x hat => ⟨rfl, fun hlt => ⟨?_, trivial⟩, fun _ => trivial⟩, fun st1 _ => ⟨fun x hx => ⟨rfl, trivial⟩, rfl, hsz, trivial⟩⟩
    obtain ⟨hx, _⟩ := at_at (fun _ _ => True) hat trivial fun _ _ _ _ _ _ _ _ => trivial
    exact (crowd_spec hb hW h hl hT hx (of_decide_eq_true hlt)).1
  · unfold p_windowed_L1
    simp only [pipe_eq]
    rw [gl, hle, hN']
    rcases for_find (b := b) (W := W) (rows := rows) (T' := T') left with ⟨h1, h2⟩ | ⟨x, hx, h1, h2⟩
    · rw [h2]
      have er : cutX (given (fun (x_3 : (Tp3 Int Int Str)) => (decide (x_3.b ≤ (Option.getD (some T') default)))) (fun (x_3 : (Tp3 Int Int Str)) => x_3.c) left) none (some b) = (rowOf b left T').map (·.c) := by
        have eb : b = ((b.toNat : Nat) : Int) := by omega
        unfold given rowOf
        rw [eb, cut_to, ← List.map_take]
        rfl
      rw [er]
      have el : given (fun (one : (Tp3 Int Int Str)) => (!(decide (one.c ∈ (rowOf b left T').map (·.c))))) (fun (one : (Tp3 Int Int Str)) => one) left = left.filter fun x => !(decide (x.c ∈ (rowOf b left T').map (·.c))) := by
        unfold given
        rw [List.map_id']
      obtain ⟨s1, s2⟩ := h.step hb hl hm hT h1
      refine .inl ⟨_, rfl, _, ?_, rfl, ?_⟩
      · show (given _ _ left).length < k
        rw [el, hk]; exact s2
      · show EI b W (some T') _ (given _ _ left)
        rw [el]; exact s1
    · rw [h2]
      exact .inr ⟨_, rfl, (crowd_spec hb hW h hl hT hx h1).2⟩
theorem win_start {b : Int} {W : Wd} (hW : okW W) : EI b W none (Dct.mk []) (srtR none (given (fun (x : (Str × (Int × Int))) => true) (fun (x : (Str × (Int × Int))) => (Tp3.mk x.2.2 x.2.1 x.1)) W.l)) := by
  rw [given_all]
  have pm : (srtR none (W.l.map fun (x : (Str × (Int × Int))) => (Tp3.mk x.2.2 x.2.1 x.1))).Perm (W.l.map fun (x : (Str × (Int × Int))) => (Tp3.mk x.2.2 x.2.1 x.1)) := srtE_perm _
  have sd : (srtR none (W.l.map fun (x : (Str × (Int × Int))) => (Tp3.mk x.2.2 x.2.1 x.1))).Pairwise fun x y => ltE y x = false := srtE_srtd _
  generalize srtR none (W.l.map fun (x : (Str × (Int × Int))) => (Tp3.mk x.2.2 x.2.1 x.1)) = L at pm sd
  have nm : (L.map (·.c)).Perm (W.l.map (·.1)) := by
    have z := pm.map (fun x : Tp3 Int Int Str => x.c)
    rw [List.map_map] at z
    exact z
  refine ⟨sd.imp fun {x y} hxy => ?_, nm.nodup_iff.mpr hW.2.1, fun x hx => ?_, fun n hn => .inl (nm.mem_iff.mpr hn), .nil, ?_, fun t r q => (by cases q), fun t r t' r' n q => (by cases q), fun t r q => (by cases q), fun T e => (by cases e), fun t r n s e q => (by cases q)⟩
  · have z : LyS.lexS [LyS.Sca.i y.a, LyS.Sca.i y.b, LyS.Sca.s y.c] [LyS.Sca.i x.a, LyS.Sca.i x.b, LyS.Sca.s x.c] = false := hxy
    unfold LyS.lexS at z
    by_cases c : LyS.Sca.i y.a = LyS.Sca.i x.a
    · have : y.a = x.a := by injection c
      omega
    · rw [if_neg c] at z
      have z2 : decide (y.a < x.a) = false := z
      have := of_decide_eq_false z2
      omega
  · obtain ⟨p, hp, e⟩ := List.mem_map.mp (pm.mem_iff.mp hx)
    rw [← e]
    exact look_of_mem hW.2.1 (show (p.1, (p.2.1, p.2.2)) ∈ W.l from hp)
  · have e := pm.length_eq
    rw [List.length_map] at e
    rw [e]
    have := hW.1
    show 0 + W.l.length ≤ 20
    omega
theorem win_spec {b : Int} (hb : 1 ≤ b) {W : Wd} (hW : okW W) : ok_p_windowed b W ∧ ((∃ l, p_windowed b W = Told.plan l ∧ Feas b W) ∨ Crd b W (p_windowed b W)) := by
  have key := wh_ends3 (c := winC) (g := p_windowed_L1 b W) (ok := winOk b W) (IW2 b W) (Crd b W) (fun k y hi hc => win_step hb hW k y hi hc) 1000000 _ (none, Dct.mk [], _) ⟨rfl, win_start hW⟩ (by
    have := (win_start (b := b) hW).sz
    show (srtR none _).length < 1000000
    omega)
  obtain ⟨w1, w2⟩ := key
  refine ⟨⟨⟨?_, trivial⟩, ?_, w1, fun st _ => ⟨fun n hn _ => ⟨has_key2 ((srtE_perm _).mem_iff.mp hn), trivial⟩, trivial⟩⟩, ?_⟩
  · show (false || decide (b < 1)) = false
    rw [decide_eq_false (by omega)]; rfl
  · refine ⟨decide_eq_false (by have := hW.1; omega), fun st x hat => ?_, trivial⟩
    obtain ⟨hx, _⟩ := atF_inv0 (fun _ => True) hat trivial fun _ _ _ _ => trivial
    simp only [pipe_eq]
    refine ⟨fun _ => ⟨word_ok _, trivial⟩, ?_, trivial⟩
    rw [word_good (hW.2.2 x hx)]
    rfl
  · unfold p_windowed
    simp only [pipe_eq]
    rcases w2 with ⟨z, j, e1, ⟨_, e2⟩, e3⟩ | ⟨r, e1, e2⟩
    · have e1' : whFl winC (p_windowed_L1 b W) 1000000 (none, Dct.mk [], srtR none (given (fun (x : (Str × (Int × Int))) => true) (fun (x : (Str × (Int × Int))) => (Tp3.mk x.2.2 x.2.1 x.1)) W.l)) = .nx z := e1
      rw [e1']
      refine .inl ⟨_, rfl, ?_⟩
      obtain ⟨t, rw_, l⟩ := z
      have e2 : EI b W t rw_ l := e2
      cases l with
      | nil => exact e2.feas hb
      | cons a l => cases e3
    · have e1' : whFl winC (p_windowed_L1 b W) 1000000 (none, Dct.mk [], srtR none (given (fun (x : (Str × (Int × Int))) => true) (fun (x : (Str × (Int × Int))) => (Tp3.mk x.2.2 x.2.1 x.1)) W.l)) = .rt r := e1
      rw [e1']
      exact .inr e2
end Lw
namespace Lw
open PySem PySem.Spec PyProof.Rows L2 Ly TL
theorem put_newG {α : Type} {l : List (Str × α)} {k : Str} {x : α} (h : k ∉ l.map (·.1)) : putL l k x = l ++ [(k, x)] := by
  unfold putL
  have : look l k = none := by
    rw [look_none]
    intro p hp e
    exact h (e ▸ List.mem_map_of_mem hp)
  rw [this]
  rfl
theorem keys_put {α : Type} {d : Dct Str α} {k : Str} {x : α} {ns : List Str} {i : Nat} (h : d.l.map (·.1) = ns.take i) (nd : ns.Nodup) (hk : ns[i]? = some k) : (putD d k x).l.map (·.1) = ns.take (i + 1) := by
  have fr := nodup_fresh nd hk
  rw [← h] at fr
  show (putL d.l k x).map (·.1) = _
  rw [put_newG fr, List.map_append, h, take_snoc hk]; rfl
theorem ltE_int (x y : Int) : ltE x y = decide (x < y) := by
  show LyS.lexS [LyS.Sca.i x] [LyS.Sca.i y] = _
  show (if LyS.Sca.i x = LyS.Sca.i y then false else decide (x < y)) = _
  by_cases c : x = y
  · rw [if_pos (by rw [c]), decide_eq_false (by omega)]
  · rw [if_neg fun e => c (by injection e)]
theorem srt_asc (xs : List Int) : (srtE xs).Pairwise (· ≤ ·) := by
  have z : (srtE xs).Pairwise fun x y => ltE y x = false := srtE_srtd xs
  refine z.imp fun {x y} h => ?_
  rw [ltE_int] at h
  have := of_decide_eq_false h
  omega
theorem forFl_at {α β ρ : Type} {g : β → α → Fl β ρ} (I : Nat → β → Prop) : ∀ {xs : List α} {y : β} {n : Nat}, I n y → (∀ k y x, xs[k]? = some x → I (n + k) y → ∃ z, g y x = .nx z ∧ I (n + k + 1) z) → ∃ z, forFl g xs y = .nx z ∧ I (n + xs.length) z
  | [], y, n, h, _ => ⟨y, rfl, h⟩
  | x :: xs, y, n, h, hs => by
    obtain ⟨z, e, hz⟩ := hs 0 y x rfl h
    obtain ⟨w, e2, hw⟩ := forFl_at I (xs := xs) (y := z) (n := n + 1) hz fun k y x hk hy => by
      have := hs (k + 1) y x (by simpa using hk) (by rw [show n + (k + 1) = n + 1 + k by omega]; exact hy)
      rw [show n + 1 + k + 1 = n + (k + 1) + 1 by omega]
      exact this
    refine ⟨w, ?_, by rw [List.length_cons, show n + (xs.length + 1) = n + 1 + xs.length by omega]; exact hw⟩
    show (match g y x with | .nx z => forFl g xs z | .rt r => .rt r | .bk z => .bk z) = _
    rw [e]
    exact e2
theorem at_pos {α β ρ : Type} {g : β → α → Fl β ρ} (I : Nat → β → Prop) {xs : List α} {y0 y : β} {x : α} (h : At g xs y0 y x) (h0 : I 0 y0) (hs : ∀ k y x, xs[k]? = some x → I k y → ∃ z, g y x = .nx z ∧ I (k + 1) z) : ∃ k, xs[k]? = some x ∧ I k y := by
  obtain ⟨pre, post, e, hf⟩ := h
  obtain ⟨z, e2, hz⟩ := forFl_at I (xs := pre) (y := y0) (n := 0) h0 fun k y x hk hy => by
    rw [Nat.zero_add] at hy ⊢
    exact hs k y x (by rw [e, List.getElem?_append_left (List.getElem?_eq_some_iff.mp hk).1]; exact hk) hy
  rw [hf] at e2
  cases e2
  rw [Nat.zero_add] at hz
  exact ⟨pre.length, by rw [e]; simp, hz⟩
end Lw
namespace Lw
open PySem PySem.Spec PyProof.Rows L2 Ly TL
/-! windows -/
theorem p59 : (2 : Int) * ((10 : Int) ^ (59 : Int).toNat) = 200000000000000000000000000000000000000000000000000000000000 := by decide +kernel
theorem far_ok (p : Pu) : ok_m_far p := by
  unfold ok_m_far
  rw [p59]
  refine ⟨take_ok _ (by decide) (by decide), fun _ => ⟨take_ok _ (by decide) (by decide +kernel), trivial⟩, fun _ => ⟨take_ok _ (by decide) (by decide), okI_of (take_lt _ (by decide)).1 (take_lt _ (by decide)).2, ?_⟩⟩
  simp only [pipe_eq]
  have t := take_lt (m_take (m_take p 2).2 6).2 (n := 19) (by decide)
  exact ⟨take_ok _ (by decide) (by decide), .inl ⟨by omega, by omega⟩, trivial⟩
abbrev wides : List Int := [(2 : Int), (2 : Int), (4 : Int), (4 : Int), (8 : Int), (8 : Int), (20 : Int), ((10 : Int) ^ (58 : Int).toNat)]
theorem wide_lt (p : Pu) : 0 < getI wides (m_take p 8).1 ∧ getI wides (m_take p 8).1 ≤ B60 := by
  have z := getI_mem (xs := wides) (i := (m_take p 8).1) (okI_of (take_lt p (by decide)).1 (take_lt p (by decide)).2)
  generalize getI wides (m_take p 8).1 = s at z
  rw [show wides = [(2 : Int), (2 : Int), (4 : Int), (4 : Int), (8 : Int), (8 : Int), (20 : Int), 10000000000000000000000000000000000000000000000000000000000] by decide +kernel] at z
  simp only [List.mem_cons, List.mem_nil_iff, or_false] at z
  unfold B60
  omega
abbrev smalls : List Int := [(3 : Int), (8 : Int), (24 : Int)]
theorem small_lt (p : Pu) : 0 < getI smalls (m_take p 3).1 ∧ getI smalls (m_take p 3).1 ≤ 24 := by
  have z := getI_mem (xs := smalls) (i := (m_take p 3).1) (okI_of (take_lt p (by decide)).1 (take_lt p (by decide)).2)
  generalize getI smalls (m_take p 3).1 = s at z
  simp only [List.mem_cons, List.mem_nil_iff, or_false] at z
  omega
def IX (ns : List Str) (k : Nat) (st : Pu × Wd) : Prop := st.2.l.map (·.1) = ns.take k
theorem win_put {far wide : Int} {apart : Bool} {ns : List Str} (nd : ns.Nodup) {k : Nat} {st : Pu × Wd} {x : Str} (hx : ns[k]? = some x) (h : IX ns k st) : IX ns (k + 1) (m_windows_L1 far wide apart st x) := by
  unfold m_windows_L1
  simp only [pipe_eq]
  exact keys_put h nd hx
theorem windows_good (p : Pu) : okW (m_windows p).1 := by
  unfold m_windows
  simp only [pipe_eq]
  generalize getI ([(0 : Int), (0 : Int), (0 : Int), (m_far p).1] : (List Int)) _ = far
  generalize (m_take (m_far p).2 4).2 = p1
  generalize getI (α := Int) _ (m_take p1 8).1 = wide
  generalize decide ((m_take (m_take p1 8).2 4).1 = 0) = apart
  generalize (m_take (m_take p1 8).2 4).2 = p3
  have t21 := take_lt p3 (n := 21) (by decide)
  obtain ⟨n1, n2, n3⟩ := names_good (m_take p3 21).2 (n := (m_take p3 21).1) ⟨t21.1, by omega⟩
  generalize m_names (m_take p3 21).2 (m_take p3 21).1 = N at n1 n2 n3 ⊢
  have z := fold_end (g := m_windows_L1 far wide apart) (xs := N.1) (IX N.1) (y := (N.2, Dct.mk [])) (by show ([] : List Str) = _; simp) fun k y x hx h => win_put n2 hx h
  generalize List.foldl (m_windows_L1 far wide apart) (N.2, Dct.mk []) N.1 = st at z ⊢
  have z : st.2.l.map (·.1) = N.1.take N.1.length := z
  rw [List.take_length] at z
  refine ⟨?_, by show (st.2.l.map _).Nodup; rw [z]; exact n2, fun x hx => n3 _ (z ▸ List.mem_map_of_mem hx)⟩
  have := congrArg List.length z
  rw [List.length_map] at this
  show st.2.l.length ≤ 20
  omega
theorem windows_ok (p : Pu) : ok_m_windows p := by
  unfold ok_m_windows
  simp only [pipe_eq]
  refine ⟨far_ok _, take_ok _ (by decide) (by decide), okI_of (take_lt _ (by decide)).1 (take_lt _ (by decide)).2, ?_⟩
  generalize getI ([(0 : Int), (0 : Int), (0 : Int), (m_far p).1] : (List Int)) _ = far
  generalize (m_take (m_far p).2 4).2 = p1
  have hw := wide_lt p1
  refine ⟨take_ok _ (by decide) (by decide), okI_of (take_lt _ (by decide)).1 (take_lt _ (by decide)).2, ?_⟩
  have e : getI ([(2 : Int), (2 : Int), (4 : Int), (4 : Int), (8 : Int), (8 : Int), (20 : Int), ((10 : Int) ^ (58 : Int).toNat)] : (List Int)) (m_take p1 8).1 = getI wides (m_take p1 8).1 := rfl
  rw [e]
  generalize getI wides (m_take p1 8).1 = wide at hw ⊢
  refine ⟨take_ok _ (by decide) (by decide), take_ok _ (by decide) (by decide), ?_⟩
  generalize decide ((m_take (m_take p1 8).2 4).1 = 0) = apart
  generalize (m_take (m_take p1 8).2 4).2 = p3
  have t21 := take_lt p3 (n := 21) (by decide)
  have no := names_ok (m_take p3 21).2 (n := (m_take p3 21).1) ⟨t21.1, by omega⟩
  obtain ⟨n1, n2, n3⟩ := names_good (m_take p3 21).2 (n := (m_take p3 21).1) ⟨t21.1, by omega⟩
  generalize m_names (m_take p3 21).2 (m_take p3 21).1 = N at n1 n2 n3 ⊢
  refine ⟨no, fun st x hat => ?_, trivial⟩
  obtain ⟨k, hx, i⟩ := atF_at (IX N.1) hat (by show ([] : List Str) = _; simp) fun k y x hx h => win_put n2 hx h
  have hs := small_lt st.1
  have eB : B60 + 2 < 2 ^ 250 := by decide +kernel
  refine ⟨take_ok _ (by decide) (by decide), okI_of (take_lt _ (by decide)).1 (take_lt _ (by decide)).2, take_ok _ hs.1 (Int.lt_of_le_of_lt hs.2 (by decide +kernel)), ⟨fun _ => ⟨take_ok _ (by decide) (by decide), trivial⟩, ⟨fun _ => ⟨far_ok _, trivial⟩, fun _ => trivial⟩, take_ok _ (by omega) (by omega), take_ok _ (by decide) (by decide), ⟨fun _ => ⟨take_ok _ (by decide) (by decide), trivial⟩, fun _ => trivial⟩, ?_, trivial⟩⟩
  have e := congrArg List.length (show st.2.l.map (·.1) = N.1.take k from i)
  rw [List.length_map, List.length_take] at e
  show _ < 1000000
  omega
/-! moved -/
end Lw
namespace Lw
open PySem PySem.Spec PyProof.Rows L2 Ly TL
theorem at0 {α : Type} [Inhabited α] {P : List α} {k : Nat} {T : α} (h : P[k]? = some T) : okI P (k : Int) ∧ getI P (k : Int) = T := by
  obtain ⟨hk, e⟩ := List.getElem?_eq_some_iff.mp h
  exact ⟨okI_nat hk, by rw [getI_nat hk, e]⟩
end Lw
namespace Lw
open PySem PySem.Spec PyProof.Rows L2 Ly TL
theorem eqbD_refl {α : Type} [Rp α] [EqB α] {d : Dct Str α} (nd : (d.l.map (·.1)).Nodup) (h : ∀ p ∈ d.l, eqb p.2 p.2 = true) : eqb d d = true := by
  show eqbD d d = true
  unfold eqbD
  rw [beq_self_eq_true, Bool.true_and, List.all_eq_true]
  intro p hp
  rw [look_of_mem nd hp]
  exact h p hp
theorem eqb_int (x : Int) : eqb x x = true := decide_eq_true rfl
end Lw
namespace Lw
open PySem PySem.Spec PyProof.Rows L2 Ly TL
section
variable {b : Int}
theorem max_mul {t : Int} (hb : 1 ≤ b ∧ b < 2 ^ 250) (ht : t < 2 ^ 250) : CMulW b (if t > 0 then t else 0) := by
  have l1 : b.natAbs.log2 < 250 := (Nat.log2_lt (by omega)).mpr (by omega)
  have l2 : (if t > 0 then t else 0).natAbs.log2 < 250 := by
    by_cases q : t > 0
    · rw [if_pos q]
      exact (Nat.log2_lt (by omega)).mpr (by omega)
    · rw [if_neg q]
      decide
  show _ < 1000000
  omega
end
end Lw
namespace Lw
open PySem PySem.Spec PyProof.Rows L2 Ly TL
/-! k71 -/
def NE (rows : Rw) : Prop := ∀ t r, look rows.l t = some r → r ≠ []
theorem L1_ne {b : Int} (hb : 1 ≤ b) {W : Wd} {st z : WS} (hl : st.2.2 ≠ []) (h : NE st.2.1) (e : p_windowed_L1 b W st = .nx z) : NE z.2.1 := by
  obtain ⟨turn, rows, left⟩ := st
  have h : NE rows := h
  have hl : left ≠ [] := hl
  have gl : given (fun (x_1 : (Tp3 Int Int Str)) => true) (fun (x_1 : (Tp3 Int Int Str)) => x_1.b) left = left.map (·.b) := given_all
  obtain ⟨m1, m2⟩ := minI_mem (xs := left.map (·.b)) (by rw [List.length_map]; exact List.length_pos_iff.mpr hl)
  unfold p_windowed_L1 at e
  simp only [pipe_eq] at e
  rw [gl] at e
  generalize hle : minI (left.map (·.b)) = least at m1 m2 e
  have hT := next_ok turn least
  generalize hN : nextI turn least = T' at hT
  have hN' : (bif (!turn.isSome) then least else (if least > ((Option.getD turn default) + (1 : Int)) then least else ((Option.getD turn default) + (1 : Int)))) = T' := hN
  rw [hN'] at e
  have er : cutX (given (fun (x_3 : (Tp3 Int Int Str)) => (decide (x_3.b ≤ (Option.getD (some T') default)))) (fun (x_3 : (Tp3 Int Int Str)) => x_3.c) left) none (some b) = (rowOf b left T').map (·.c) := by
    have eb : b = ((b.toNat : Nat) : Int) := by omega
    unfold given rowOf
    rw [eb, cut_to, ← List.map_take]
    rfl
  rw [er] at e
  have ne : rowOf b left T' ≠ [] := by
    obtain ⟨x, hx, ex⟩ := List.mem_map.mp m1
    have hlT : least ≤ T' := by
      rcases hT with ⟨_, e⟩ | ⟨T, e, hlt, hle, e2⟩ <;> omega
    have m : x ∈ left.filter fun x => decide (x.b ≤ T') := List.mem_filter.mpr ⟨hx, decide_eq_true (by omega)⟩
    unfold rowOf
    intro z
    have := congrArg List.length z
    rw [List.length_take, List.length_nil] at this
    have := List.length_pos_of_mem m
    omega
  have key : z.2.1 = putD rows T' ((rowOf b left T').map (·.c)) := by
    rcases for_find (b := b) (W := W) (rows := rows) (T' := T') left with ⟨_, h2⟩ | ⟨x, _, _, h2⟩
    · rw [h2] at e
      cases e
      rfl
    · rw [h2] at e
      cases e
  rw [key]
  intro t r q
  have q : look (putL rows.l T' ((rowOf b left T').map (·.c))) t = some r := q
  rw [look_putL] at q
  by_cases c : t = T'
  · rw [if_pos c] at q
    cases q
    exact fun z => ne (List.map_eq_nil_iff.mp z)
  · rw [if_neg c] at q
    exact h t r q
def planOf (rows : Rw) : List (Int × List Str) := (srtR none (keysD rows)).map fun n => (n, getD rows n)
theorem win_full {b : Int} (hb : 1 ≤ b) {W : Wd} (hW : okW W) : (∃ turn rows, p_windowed b W = Told.plan (planOf rows) ∧ EI b W turn rows [] ∧ NE rows) ∨ Crd b W (p_windowed b W) := by
  have key := wh_ends3 (c := winC) (g := p_windowed_L1 b W) (ok := winOk b W) (fun k st => IW2 b W k st ∧ NE st.2.1) (Crd b W) (fun k y hi hc => by
    obtain ⟨a1, a2⟩ := win_step hb hW k y hi.1 hc
    refine ⟨a1, ?_⟩
    rcases a2 with ⟨z, e, j, hj, iz⟩ | r
    · refine .inl ⟨z, e, j, hj, iz, L1_ne hb (fun q => ?_) hi.2 e⟩
      have hc : (!(eqb y.2.2 ([] : (List (Tp3 Int Int Str))))) = true := hc
      rw [q] at hc
      cases hc
    · exact .inr r) 1000000 _ (none, Dct.mk [], _) ⟨⟨rfl, win_start hW⟩, fun t r q => by cases q⟩ (by
    have := (win_start (b := b) hW).sz
    show (srtR none _).length < 1000000
    omega)
  obtain ⟨w1, w2⟩ := key
  unfold p_windowed
  simp only [pipe_eq]
  rcases w2 with ⟨z, j, e1, ⟨⟨_, e2⟩, e4⟩, e3⟩ | ⟨r, e1, e2⟩
  · have e1' : whFl winC (p_windowed_L1 b W) 1000000 (none, Dct.mk [], srtR none (given (fun (x : (Str × (Int × Int))) => true) (fun (x : (Str × (Int × Int))) => (Tp3.mk x.2.2 x.2.1 x.1)) W.l)) = .nx z := e1
    rw [e1']
    obtain ⟨t, rw_, l⟩ := z
    have e2 : EI b W t rw_ l := e2
    cases l with
    | nil =>
      refine .inl ⟨t, rw_, ?_, e2, e4⟩
      show Told.plan (given _ _ _) = _
      rw [given_all]
      rfl
    | cons a l => cases e3
  · have e1' : whFl winC (p_windowed_L1 b W) 1000000 (none, Dct.mk [], srtR none (given (fun (x : (Str × (Int × Int))) => true) (fun (x : (Str × (Int × Int))) => (Tp3.mk x.2.2 x.2.1 x.1)) W.l)) = .rt r := e1
    rw [e1']
    exact .inr e2
theorem whole_true (x : Int) : m_whole x = true := rfl
theorem look_getD {κ α : Type} [DecidableEq κ] [Inhabited α] {d : Dct κ α} {k : κ} (h : k ∈ keysD d) : look d.l k = some (getD d k) := by
  obtain ⟨x, hx⟩ := has_look (has_key2 h)
  rw [hx, look_get hx]
/-- what was done ahead of the turn at k -/
structure PI (rows : Rw) (k : Nat) (st : List Str × Option Int) : Prop where
  nd : st.1.Nodup
  inn : ∀ n ∈ st.1, ∃ j t, j < k ∧ (srtR none (keysD rows))[j]? = some t ∧ n ∈ getD rows t
  all : ∀ j t, j < k → (srtR none (keysD rows))[j]? = some t → ∀ n ∈ getD rows t, n ∈ st.1
  ah : ∀ T, st.2 = some T → ∃ j, j < k ∧ (srtR none (keysD rows))[j]? = some T
section
variable {b : Int} {W : Wd} {turn : Option Int} {rows : Rw}
theorem ks_lt (h : EI b W turn rows []) {j k : Nat} {t u : Int} (hj : (srtR none (keysD rows))[j]? = some t) (hk : (srtR none (keysD rows))[k]? = some u) (l : j < k) : t < u := by
  have pm : (srtR none (keysD rows)).Perm (keysD rows) := srtE_perm _
  have as : (srtR none (keysD rows)).Pairwise (· ≤ ·) := srt_asc _
  have nd : (srtR none (keysD rows)).Nodup := pm.nodup_iff.mpr h.rk
  obtain ⟨jl, e1⟩ := List.getElem?_eq_some_iff.mp hj
  obtain ⟨kl, e2⟩ := List.getElem?_eq_some_iff.mp hk
  have := List.pairwise_iff_getElem.mp as j k jl kl l
  rw [e1, e2] at this
  have ne : t ≠ u := fun e => by
    have := (List.getElem_inj (h₀ := jl) (h₁ := kl) nd).mp (by rw [e1, e2, e])
    omega
  omega
theorem row_at (h : EI b W turn rows []) {k : Nat} {t : Int} (hk : (srtR none (keysD rows))[k]? = some t) : look rows.l t = some (getD rows t) :=
  look_getD ((srtE_perm (keysD rows)).mem_iff.mp (List.mem_of_getElem? hk))
/-- the inner walk, at the turn at k -/
theorem inner (hW : okW W) (h : EI b W turn rows []) {k : Nat} {t : Int} (hk : (srtR none (keysD rows))[k]? = some t) {st : List Str × Option Int} (hI : PI rows k st) :
    ((∀ (st_1 : (List Str)) (name : Str), At (m_is_plan_L2 W (t, getD rows t)) (getD rows t) st.1 st_1 name → name ∉ st_1 ∧ hasD W name = true ∧ ((getD W name).1 ≤ t ∧ t ≤ (getD W name).2) ∧ st_1.length < big)) ∧
    forFl (m_is_plan_L2 W (t, getD rows t)) (getD rows t) st.1 = .nx (st.1 ++ getD rows t) := by
  have bg : big = 1000000 := rfl
  have lk := row_at h hk
  obtain ⟨r1, r2, r3⟩ := h.rw t _ lk
  have fresh : ∀ n ∈ getD rows t, n ∉ st.1 := fun n hn hs => by
    obtain ⟨j, u, hj, hu, hm⟩ := hI.inn n hs
    have := ks_lt h hu hk hj
    have := h.dj t _ u _ n lk (row_at h hu) hn hm
    omega
  have good : ∀ m n, (getD rows t)[m]? = some n → n ∉ st.1 ++ (getD rows t).take m ∧ hasD W n = true ∧ ((getD W n).1 ≤ t ∧ t ≤ (getD W n).2) := fun m n hm => by
    have hn := List.mem_of_getElem? hm
    obtain ⟨_, s, e, q, q1, q2⟩ := r3 n hn
    refine ⟨fun hs => ?_, look_has q, by rw [look_get q]; exact ⟨q1, q2⟩⟩
    rcases List.mem_append.mp hs with c | c
    · exact fresh n hn c
    · obtain ⟨i, hi⟩ := List.mem_iff_getElem?.mp c
      rw [List.getElem?_take] at hi
      by_cases c2 : i < m
      · rw [if_pos c2] at hi
        obtain ⟨il, e1⟩ := List.getElem?_eq_some_iff.mp hi
        obtain ⟨ml, e2⟩ := List.getElem?_eq_some_iff.mp hm
        have := (List.getElem_inj (h₀ := il) (h₁ := ml) r2).mp (by rw [e1, e2])
        omega
      · rw [if_neg c2] at hi; cases hi
  have few : (st.1 ++ getD rows t).length ≤ 20 := by
    have nd : (st.1 ++ getD rows t).Nodup := List.nodup_append.mpr ⟨hI.nd, r2, fun x hx y hy e => fresh y hy (e ▸ hx)⟩
    have := nodup_len nd (m := keysD W) fun n hn => by
      rcases List.mem_append.mp hn with c | c
      · obtain ⟨j, u, hj, hu, hm⟩ := hI.inn n c
        obtain ⟨_, _, s3⟩ := h.rw u _ (row_at h hu)
        obtain ⟨_, s, e, q, _⟩ := s3 n hm
        exact key_look q
      · obtain ⟨_, s, e, q, _⟩ := r3 n c
        exact key_look q
    have e : (keysD W).length = W.l.length := List.length_map _
    have := hW.1
    omega
  let J : Nat → List Str → Prop := fun m s => s = st.1 ++ (getD rows t).take m
  have stp : ∀ m s n, (getD rows t)[m]? = some n → J m s → ∃ z, m_is_plan_L2 W (t, getD rows t) s n = .nx z ∧ J (m + 1) z := fun m s n hm hs => by
    obtain ⟨g1, g2, g3⟩ := good m n hm
    have hs : s = st.1 ++ (getD rows t).take m := hs
    rw [← hs] at g1
    refine ⟨s ++ [n], ?_, ?_⟩
    · unfold m_is_plan_L2
      simp only [pipe_eq]
      rw [decide_eq_false g1, g2, decide_eq_true g3.1, decide_eq_true g3.2]
      rfl
    · show s ++ [n] = st.1 ++ (getD rows t).take (m + 1)
      rw [List.take_add_one, hm, hs, List.append_assoc]
      rfl
  refine ⟨fun s n hat => ?_, ?_⟩
  · obtain ⟨m, hm, hs⟩ := at_pos J hat (show st.1 = st.1 ++ (getD rows t).take 0 by simp) stp
    obtain ⟨g1, g2, g3⟩ := good m n hm
    have hs : s = st.1 ++ (getD rows t).take m := hs
    rw [← hs] at g1
    refine ⟨g1, g2, g3, ?_⟩
    rw [hs, List.length_append, List.length_take]
    rw [List.length_append] at few
    omega
  · obtain ⟨z, e, hz⟩ := forFl_at J (n := 0) (show st.1 = st.1 ++ (getD rows t).take 0 by simp) fun m s n hm hs => by
      rw [Nat.zero_add] at hs ⊢
      exact stp m s n hm hs
    have hz : z = st.1 ++ (getD rows t).take (0 + (getD rows t).length) := hz
    rw [e, hz, Nat.zero_add, List.take_length]
theorem outer (hW : okW W) (h : EI b W turn rows []) (ne : NE rows) {k : Nat} {t : Int} (hk : (srtR none (keysD rows))[k]? = some t) {st : List Str × Option Int} (hI : PI rows k st) :
    ((decide (getD rows t = ([] : (List Str)))) || ((decide (((getD rows t).length : Int) > b)) || (st.2.isSome && (decide (t ≤ (Option.getD st.2 default)))))) = false ∧
    ∃ z, m_is_plan_L1 b W st (t, getD rows t) = .nx z ∧ PI rows (k + 1) z := by
  have lk := row_at h hk
  obtain ⟨r1, r2, r3⟩ := h.rw t _ lk
  have tst : ((decide (getD rows t = ([] : (List Str)))) || ((decide (((getD rows t).length : Int) > b)) || (st.2.isSome && (decide (t ≤ (Option.getD st.2 default)))))) = false := by
    rw [decide_eq_false (ne t _ lk), decide_eq_false (by omega)]
    cases q : st.2 with
    | none => rfl
    | some T =>
      obtain ⟨j, hj, hT⟩ := hI.ah T q
      have := ks_lt h hT hk hj
      show (false || (false || (true && decide (t ≤ T)))) = false
      rw [decide_eq_false (by omega)]
      rfl
  refine ⟨tst, (st.1 ++ getD rows t, some t), ?_, ?_⟩
  · unfold m_is_plan_L1
    simp only [pipe_eq]
    rw [whole_true, (inner hW h hk hI).2]
    show (bif ((decide (getD rows t = ([] : (List Str)))) || ((decide (((getD rows t).length : Int) > b)) || (st.2.isSome && (decide (t ≤ (Option.getD st.2 default)))))) then _ else _) = _
    rw [tst]
    rfl
  · refine ⟨?_, fun n hn => ?_, fun j u hj hu n hn => ?_, fun T e => ?_⟩
    · refine List.nodup_append.mpr ⟨hI.nd, r2, fun x hx y hy e => ?_⟩
      subst e
      obtain ⟨j, u, hj, hu, hm⟩ := hI.inn x hx
      have := ks_lt h hu hk hj
      have := h.dj t _ u _ x lk (row_at h hu) hy hm
      omega
    · rcases List.mem_append.mp hn with c | c
      · obtain ⟨j, u, hj, hu, hm⟩ := hI.inn n c
        exact ⟨j, u, by omega, hu, hm⟩
      · exact ⟨k, t, by omega, hk, c⟩
    · by_cases c : j = k
      · rw [c, hk] at hu
        cases hu
        exact List.mem_append_right _ hn
      · exact List.mem_append_left _ (hI.all j u (by omega) hu n hn)
    · cases e
      exact ⟨k, by omega, hk⟩
theorem plan_good (hW : okW W) (h : EI b W turn rows []) (ne : NE rows) : ok_m_is_plan b W (planOf rows) ∧ m_is_plan b W (planOf rows) = true := by
  have at_ : ∀ {k : Nat} {x : Int × List Str}, (planOf rows)[k]? = some x → ∃ t, (srtR none (keysD rows))[k]? = some t ∧ x = (t, getD rows t) := fun {k x} hx => by
    unfold planOf at hx
    rw [List.getElem?_map] at hx
    cases q : (srtR none (keysD rows))[k]? with
    | none => rw [q] at hx; cases hx
    | some t => rw [q] at hx; exact ⟨t, rfl, (Option.some.inj hx).symm⟩
  have p0 : PI rows 0 (([] : List Str), (none : Option Int)) := ⟨List.nodup_nil, fun n hn => (by cases hn), fun j u hj => absurd hj (Nat.not_lt_zero _), fun T e => (by cases e)⟩
  have stp : ∀ k st x, (planOf rows)[k]? = some x → PI rows k st → ∃ z, m_is_plan_L1 b W st x = .nx z ∧ PI rows (k + 1) z := fun k st x hx hI => by
    obtain ⟨t, ht, rfl⟩ := at_ hx
    exact (outer hW h ne ht hI).2
  unfold ok_m_is_plan m_is_plan
  simp only [pipe_eq]
  refine ⟨⟨fun st x hat => ?_, trivial⟩, ?_⟩
  · obtain ⟨k, hx, hI⟩ := at_pos (PI rows) hat p0 stp
    obtain ⟨t, ht, rfl⟩ := at_ hx
    obtain ⟨o1, _⟩ := outer hW h ne ht hI
    obtain ⟨i1, _⟩ := inner hW h ht hI
    have o1' : ((decide ((t, getD rows t).2 = ([] : (List Str)))) || ((decide (((t, getD rows t).2.length : Int) > b)) || (st.2.isSome && (decide ((t, getD rows t).1 ≤ (Option.getD st.2 default)))))) = false := o1
    rw [whole_true, o1']
    refine ⟨fun z => (by cases z), fun _ => ⟨fun _ => ⟨fun _ => ⟨fun q => ⟨q, trivial⟩, trivial⟩, trivial⟩, fun z => (by cases z), fun _ => ⟨fun s n hat => ?_, trivial⟩⟩⟩
    obtain ⟨n1, n2, n3, n4⟩ := i1 s n hat
    rw [decide_eq_false n1, n2, decide_eq_true n3.1, decide_eq_true n3.2]
    exact ⟨fun _ => ⟨fun _ => ⟨rfl, rfl, trivial⟩, trivial⟩, fun z => (by cases z), fun _ => ⟨n4, trivial⟩⟩
  · obtain ⟨z, e, hz⟩ := forFl_at (PI rows) (n := 0) p0 fun k st x hx hI => by
      rw [Nat.zero_add] at hI ⊢
      exact stp k st x hx hI
    rw [e]
    rw [Nat.zero_add] at hz
    show decide ((z.1.length : Int) = (W.l.length : Int)) = true
    have pl : (planOf rows).length = (srtR none (keysD rows)).length := List.length_map _
    have l1 := nodup_len hz.nd (m := keysD W) fun n hn => by
      obtain ⟨j, u, hj, hu, hm⟩ := hz.inn n hn
      obtain ⟨_, _, s3⟩ := h.rw u _ (row_at h hu)
      obtain ⟨_, s, e, q, _⟩ := s3 n hm
      exact key_look q
    have l2 := nodup_len (l := keysD W) hW.2.1 (m := z.1) fun n hn => by
      rcases h.all n hn with c | ⟨t, r, q, m⟩
      · cases c
      · have hk : t ∈ keysD rows := List.mem_map_of_mem (f := fun p => p.1) (look_mem q)
        obtain ⟨j, hj⟩ := List.mem_iff_getElem?.mp ((srtE_perm (keysD rows)).mem_iff.mpr hk)
        have jl := (List.getElem?_eq_some_iff.mp hj).1
        refine hz.all j t (by rw [pl]; exact jl) hj n ?_
        rw [look_get q]; exact m
    have e : (keysD W).length = W.l.length := List.length_map _
    exact decide_eq_true (by omega)
theorem crowd_good (hb : 1 ≤ b ∧ b < B60) (hW : okW W) {a z : Int} {ns : List Str} (h : IsCrowd b W a z ns) : ok_m_is_crowd b W (Told.crowd a z ns) ∧ m_is_crowd b W (Told.crowd a z ns) = true := by
  obtain ⟨c1, c2, c3⟩ := h
  have nl : ns.length ≤ 20 := by
    have := nodup_len c1 (m := keysD W) fun n hn => by
      obtain ⟨s, e, q, _⟩ := c2 n hn
      exact key_look q
    have e : (keysD W).length = W.l.length := List.length_map _
    have := hW.1
    omega
  have at_ : ∀ k ∈ rangeL 0 (ns.length : Int), okI ns k ∧ getI ns k ∉ cutX ns none (some k) ∧ hasD W (getI ns k) = true ∧ a ≤ (getD W (getI ns k)).1 ∧ (getD W (getI ns k)).2 ≤ z := fun k hk => by
    have hk := mem_rangeL.mp hk
    obtain ⟨m, rfl⟩ : ∃ m : Nat, k = (m : Int) := ⟨k.toNat, by omega⟩
    have ml : m < ns.length := by omega
    have e := at0 (List.getElem?_eq_getElem ml)
    rw [e.2, cut_to]
    obtain ⟨s, e', q, q1, q2⟩ := c2 ns[m] (List.getElem_mem ml)
    refine ⟨e.1, fun hs => ?_, look_has q, by rw [look_get q]; exact q1, by rw [look_get q]; exact q2⟩
    obtain ⟨i, hi⟩ := List.mem_iff_getElem?.mp hs
    rw [List.getElem?_take] at hi
    by_cases c : i < m
    · rw [if_pos c] at hi
      obtain ⟨il, e1⟩ := List.getElem?_eq_some_iff.mp hi
      have := (List.getElem_inj (h₀ := il) (h₁ := ml) c1).mp e1
      omega
    · rw [if_neg c] at hi; cases hi
  have mx : (if ((z - a) + (1 : Int)) > (0 : Int) then ((z - a) + (1 : Int)) else (0 : Int)) = max 0 (z - a + 1) := by
    split <;> omega
  have small : max 0 (z - a + 1) < 2 ^ 250 := by
    have e1 : (100 : Int) < 2 ^ 250 := by decide +kernel
    have hn : 0 ≤ max 0 (z - a + 1) := by omega
    have : max 0 (z - a + 1) ≤ b * max 0 (z - a + 1) := by
      have := Int.mul_le_mul_of_nonneg_right hb.1 hn
      omega
    omega
  have cm : CMulW b (if ((z - a) + (1 : Int)) > (0 : Int) then ((z - a) + (1 : Int)) else (0 : Int)) := by
    have e1 : (B60 : Int) < 2 ^ 250 := by decide +kernel
    have := max_mul (b := b) (t := (z - a) + 1) ⟨hb.1, by omega⟩ (by omega)
    exact this
  unfold ok_m_is_crowd m_is_crowd
  refine ⟨⟨fun _ => ⟨rfl, fun _ => ⟨rfl, fun _ => ⟨rfl, trivial⟩, trivial⟩, trivial⟩, fun q => (by cases q), fun _ => ⟨rfl, ⟨by show -(2 ^ 62) ≤ (ns.length : Int); omega, by show (ns.length : Int) < 2 ^ 62; omega⟩, fun _ k hat => ?_, fun _ _ => ⟨rfl, rfl, rfl, cm, trivial⟩⟩⟩, ?_⟩
  · obtain ⟨pre, post, e, _⟩ := hat
    obtain ⟨o1, o2, o3, o4, o5⟩ := at_ k (show k ∈ rangeL 0 (ns.length : Int) from (by
      have e : rangeL 0 (ns.length : Int) = pre ++ k :: post := e
      rw [e]; simp))
    refine ⟨rfl, o1, rfl, ?_⟩
    show okIf ((decide (getI ns k ∈ cutX ns none (some k))) || (!(hasD W (getI ns k)))) True ((hasD W (getI ns k) = true) ∧ _)
    rw [decide_eq_false o2, o3]
    exact ⟨fun q => (by cases q), fun _ => ⟨rfl, rfl, fun _ => ⟨o3, rfl, trivial⟩, trivial⟩⟩
  · have run : forFl (m_is_crowd_L1 W (Told.crowd a z ns)) (rangeL 0 ((Told.crowd a z ns).names.length : Int)) () = .nx () := forFl_unit fun k hk => by
      obtain ⟨o1, o2, o3, o4, o5⟩ := at_ k hk
      show (bif ((decide (getI ns k ∈ cutX ns none (some k))) || (!(hasD W (getI ns k)))) then (Fl.rt false : Fl Unit Bool) else (bif ((decide ((getD W (getI ns k)).1 < a)) || (decide ((getD W (getI ns k)).2 > z))) then (Fl.rt false) else (Fl.nx ()))) = _
      rw [decide_eq_false o2, o3, decide_eq_false (by omega), decide_eq_false (by omega)]
      rfl
    rw [run]
    show (decide ((ns.length : Int) > (b * (if ((z - a) + (1 : Int)) > (0 : Int) then ((z - a) + (1 : Int)) else (0 : Int))))) = true
    rw [mx]
    exact decide_eq_true c3
end
theorem eqb_wd {W : Wd} (hW : okW W) : eqb W W = true := eqbD_refl hW.2.1 fun p _ => by
  show [eqb p.2.1 p.2.1, eqb p.2.2 p.2.2].all id = true
  rw [eqb_int, eqb_int]
  rfl
theorem seen_pairs (l : List (Int × List Str)) : given (fun (x : (Sn (Int × (List Str)))) => true) (fun (x : (Sn (Int × (List Str)))) => (x.x.1, x.x.2)) (List.map Sn.mk l) = l := by
  rw [given_all, List.map_map]
  exact (List.map_congr_left fun x _ => rfl).trans (List.map_id _)
theorem right_all {b : Int} (hb : 1 ≤ b ∧ b < B60) {W : Wd} (hW : okW W) : ok_m_right b W ∧ m_right b W = true := by
  have wo := (win_spec hb.1 hW).1
  have pc : ¬ (("crowd" : Str) = ("plan" : Str)) := by decide +kernel
  unfold ok_m_right m_right
  simp only [pipe_eq]
  rw [eqb_wd hW]
  rcases win_full hb.1 hW with ⟨turn, rows, e, h, ne⟩ | ⟨a, z, ns, e, h⟩
  · obtain ⟨p1, p2⟩ := plan_good hW h ne
    have ans : ok_m_is_answer b W (Told.plan (planOf rows)) ∧ m_is_answer b W (Told.plan (planOf rows)) = true := by
      unfold ok_m_is_answer m_is_answer
      refine ⟨⟨fun q => (by cases q), fun _ => ⟨fun _ => ⟨fun _ => ⟨rfl, fun _ => ⟨rfl, p1, trivial⟩, trivial⟩, trivial⟩, fun q => (by cases q)⟩⟩, ?_⟩
      show (decide ((2 : Int) = 2) && (true && m_is_plan b W (planOf rows))) = true
      rw [p2]
      rfl
    rw [e, ans.2]
    refine ⟨⟨wo, ans.1, fun q => (by cases q), fun _ => ⟨fun _ => ⟨rfl, rfl, wo, trivial⟩, fun q => (by cases q)⟩⟩, ?_⟩
    show decide (Told.plan (planOf rows) = Told.plan (given _ _ (List.map Sn.mk (planOf rows)))) = true
    rw [seen_pairs]
    exact decide_eq_true rfl
  · obtain ⟨p1, p2⟩ := crowd_good hb hW h
    have ans : ok_m_is_answer b W (Told.crowd a z ns) ∧ m_is_answer b W (Told.crowd a z ns) = true := by
      unfold ok_m_is_answer m_is_answer
      refine ⟨⟨fun q => (by cases q), fun _ => ⟨fun q => absurd (of_decide_eq_true q) pc, fun _ => ⟨fun _ => ⟨p1, trivial⟩, trivial⟩⟩⟩, ?_⟩
      show (bif decide (("crowd" : Str) = ("plan" : Str)) then _ else (decide (("crowd" : Str) = ("crowd" : Str)) && m_is_crowd b W (Told.crowd a z ns))) = true
      rw [p2, decide_eq_false pc, decide_eq_true rfl]
      rfl
    rw [e, ans.2]
    refine ⟨⟨wo, ans.1, fun q => (by cases q), fun _ => ⟨fun q => absurd (of_decide_eq_true q) pc, fun _ => ⟨rfl, rfl, wo, rfl, rfl, trivial⟩⟩⟩, ?_⟩
    show (bif decide (("crowd" : Str) = ("plan" : Str)) then _ else decide (Told.crowd a z ns = Told.crowd a z ns)) = true
    rw [decide_eq_false pc]
    exact decide_eq_true rfl
theorem law_ok (s : Scr) (h : s.ns.length ≤ 63) : ok_m_law s := by
  unfold ok_m_law
  simp only [pipe_eq]
  refine ⟨?_, fun st k hat => ?_, trivial⟩
  · split <;> split <;> omega
  obtain ⟨hk, _⟩ := at_at (fun _ _ => True) hat trivial fun _ _ _ _ _ _ _ _ => trivial
  have hk := mem_rangeS (by decide) hk
  have bg := benches_good (m_purse (m_cell s (k + 1)) 2)
  exact ⟨cell_ok s hk, purse_ok _ ⟨by decide, by decide⟩, windows_ok _, cell_ok s (by omega), purse_ok _ ⟨by decide, by decide⟩, benches_ok _, (right_all bg (windows_good _)).1, trivial⟩
theorem law_true (s : Scr) (h : s.ns.length ≤ 63) : m_law s = true := by
  unfold m_law
  rw [forFl_unit]
  · rfl
  intro k hk
  unfold m_law_L1
  simp only [pipe_eq]
  rw [(right_all (benches_good _) (windows_good _)).2]
  rfl
end Lw
namespace Lw
section
open PySem PySem.Spec PyProof.Rows L2 Ly TL Lh
theorem facts {P : Program} {w : World} {K : PySem.W.Frag} {h : Heap} {mg : Str → Option Value} {f : Addr} (X : K.In h) (G : h.Ns mainGlobals mg) (hfa : mg ("law" : Str) = some (.ref f)) (c : He.SaysD fa fn K) :
    ∃ fd : FuncData, (∀ (s : Shared) (v : Value), BindsTo s fd ⟨[v], []⟩ [("_law_script", v)]) ∧ ∀ base : Heap, K.In base → base.Ns mainGlobals mg → FnOk P w K mg base CX0 6 f fd ["_law_script"] (spP K G_m_law) := by
  have B : Bn mg := ⟨He.int_ok X G (c.fact 20 (f := .int "LONGEST_WORD" 8) rfl), He.int_ok X G (c.fact 21 (f := .int "MOST_JOBS" 20) rfl), He.str_ok X G (c.fact 22 (f := .str "PLAN_LETTERS" "abcdefghijklmnopqrstuvwxyz") rfl), He.free_ok X G (c.fact 23 (f := .free "all") rfl), He.free_ok X G (c.fact 24 (f := .free "any") rfl), He.free_ok X G (c.fact 25 (f := .free "bool") rfl), He.free_ok X G (c.fact 26 (f := .free "dict") rfl), He.free_ok X G (c.fact 27 (f := .free "int") rfl), He.free_ok X G (c.fact 28 (f := .free "isinstance") rfl), He.free_ok X G (c.fact 29 (f := .free "len") rfl), He.free_ok X G (c.fact 30 (f := .free "list") rfl), He.free_ok X G (c.fact 31 (f := .free "max") rfl), He.free_ok X G (c.fact 32 (f := .free "min") rfl), He.free_ok X G (c.fact 33 (f := .free "range") rfl), He.free_ok X G (c.fact 34 (f := .free "sorted") rfl), He.free_ok X G (c.fact 35 (f := .free "str") rfl), He.free_ok X G (c.fact 36 (f := .free "tuple") rfl)⟩
  obtain ⟨fd_m_cell, F_m_cell⟩ := c.def_ 0 (d := d_m_cell) rfl
  obtain ⟨fd_m_purse, F_m_purse⟩ := c.def_ 1 (d := d_m_purse) rfl
  obtain ⟨fd_m_take, F_m_take⟩ := c.def_ 2 (d := d_m_take) rfl
  obtain ⟨fd_m_far, F_m_far⟩ := c.def_ 3 (d := d_m_far) rfl
  obtain ⟨fd_m_names, F_m_names⟩ := c.def_ 4 (d := d_m_names) rfl
  obtain ⟨fd_m_windows, F_m_windows⟩ := c.def_ 5 (d := d_m_windows) rfl
  obtain ⟨fd_m_benches, F_m_benches⟩ := c.def_ 6 (d := d_m_benches) rfl
  obtain ⟨fd_p_is_whole, F_p_is_whole⟩ := c.def_ 7 (d := d_p_is_whole) rfl
  obtain ⟨fd_p_want_benches, F_p_want_benches⟩ := c.def_ 8 (d := d_p_want_benches) rfl
  obtain ⟨fd_p_is_plan_word, F_p_is_plan_word⟩ := c.def_ 9 (d := d_p_is_plan_word) rfl
  obtain ⟨fd_p_is_window, F_p_is_window⟩ := c.def_ 10 (d := d_p_is_window) rfl
  obtain ⟨fd_p_want_windows, F_p_want_windows⟩ := c.def_ 11 (d := d_p_want_windows) rfl
  obtain ⟨fd_p_crowd_to, F_p_crowd_to⟩ := c.def_ 12 (d := d_p_crowd_to) rfl
  obtain ⟨fd_p_windowed, F_p_windowed⟩ := c.def_ 13 (d := d_p_windowed) rfl
  obtain ⟨fd_m_whole, F_m_whole⟩ := c.def_ 14 (d := d_m_whole) rfl
  obtain ⟨fd_m_is_plan, F_m_is_plan⟩ := c.def_ 15 (d := d_m_is_plan) rfl
  obtain ⟨fd_m_is_crowd, F_m_is_crowd⟩ := c.def_ 16 (d := d_m_is_crowd) rfl
  obtain ⟨fd_m_is_answer, F_m_is_answer⟩ := c.def_ 17 (d := d_m_is_answer) rfl
  obtain ⟨fd_m_right, F_m_right⟩ := c.def_ 18 (d := d_m_right) rfl
  obtain ⟨fd_m_law, F_m_law⟩ := c.def_ 19 (d := d_m_law) rfl
  have e := hfa.symm.trans (He.glo_ok X G (c.fact 19 (f := .glo "law") rfl))
  cases e
  have b := FunD.bindsA (ps := ["_law_script"]) F_m_law fun _ _ _ _ _ _ us hl => match us, hl with | [_], _ => rfl
  refine ⟨fd_m_law, fun s v => b s [v] rfl, fun base _ _ => ?_⟩
  obtain ⟨D_m_cell⟩ := Df.mk' (P := P) (w := w) (mg := mg) (base := base) (ps := ["_law_script", "_law_k"]) F_m_cell (w_m_cell B F_m_cell) (He.glo_ok X G (c.fact 0 (f := .glo "_law_cell") rfl)) (fun _ _ _ _ _ _ _ us e hl => by
    subst e
    exact match us, hl with | [_, _], _ => rfl)
  obtain ⟨D_m_purse⟩ := Df.mk' (P := P) (w := w) (mg := mg) (base := base) (ps := ["_law_cell_here", "_law_k"]) F_m_purse (w_m_purse B F_m_purse) (He.glo_ok X G (c.fact 1 (f := .glo "_law_purse") rfl)) (fun _ _ _ _ _ _ _ us e hl => by
    subst e
    exact match us, hl with | [_, _], _ => rfl)
  obtain ⟨D_m_take⟩ := Df.mk' (P := P) (w := w) (mg := mg) (base := base) (ps := ["_law_purse_here", "_law_many"]) F_m_take (w_m_take B F_m_take) (He.glo_ok X G (c.fact 2 (f := .glo "_law_take") rfl)) (fun _ _ _ _ _ _ _ us e hl => by
    subst e
    exact match us, hl with | [_, _], _ => rfl)
  obtain ⟨D_m_far⟩ := Df.mk' (P := P) (w := w) (mg := mg) (base := base) (ps := ["_law_purse_here"]) F_m_far (w_m_far B D_m_take F_m_far) (He.glo_ok X G (c.fact 3 (f := .glo "_law_far") rfl)) (fun _ _ _ _ _ _ _ us e hl => by
    subst e
    exact match us, hl with | [_], _ => rfl)
  obtain ⟨D_m_names⟩ := Df.mk' (P := P) (w := w) (mg := mg) (base := base) (ps := ["_law_purse_here", "_law_many"]) F_m_names (w_m_names B D_m_take F_m_names) (He.glo_ok X G (c.fact 4 (f := .glo "_law_names") rfl)) (fun _ _ _ _ _ _ _ us e hl => by
    subst e
    exact match us, hl with | [_, _], _ => rfl)
  obtain ⟨D_m_windows⟩ := Df.mk' (P := P) (w := w) (mg := mg) (base := base) (ps := ["_law_purse_here"]) F_m_windows (w_m_windows B D_m_take D_m_far D_m_names F_m_windows) (He.glo_ok X G (c.fact 5 (f := .glo "_law_windows") rfl)) (fun _ _ _ _ _ _ _ us e hl => by
    subst e
    exact match us, hl with | [_], _ => rfl)
  obtain ⟨D_m_benches⟩ := Df.mk' (P := P) (w := w) (mg := mg) (base := base) (ps := ["_law_purse_here"]) F_m_benches (w_m_benches B D_m_take F_m_benches) (He.glo_ok X G (c.fact 6 (f := .glo "_law_benches") rfl)) (fun _ _ _ _ _ _ _ us e hl => by
    subst e
    exact match us, hl with | [_], _ => rfl)
  obtain ⟨D_p_is_whole⟩ := Df.mk' (P := P) (w := w) (mg := mg) (base := base) (ps := ["thing"]) F_p_is_whole (w_p_is_whole B F_p_is_whole) (He.glo_ok X G (c.fact 7 (f := .glo "is_whole") rfl)) (fun _ _ _ _ _ _ _ us e hl => by
    subst e
    exact match us, hl with | [_], _ => rfl)
  obtain ⟨D_p_want_benches⟩ := Df.mk' (P := P) (w := w) (mg := mg) (base := base) (ps := ["benches"]) F_p_want_benches (w_p_want_benches B D_p_is_whole F_p_want_benches) (He.glo_ok X G (c.fact 8 (f := .glo "want_benches") rfl)) (fun _ _ _ _ _ _ _ us e hl => by
    subst e
    exact match us, hl with | [_], _ => rfl)
  obtain ⟨D_p_is_plan_word⟩ := Df.mk' (P := P) (w := w) (mg := mg) (base := base) (ps := ["word"]) F_p_is_plan_word (w_p_is_plan_word B F_p_is_plan_word) (He.glo_ok X G (c.fact 9 (f := .glo "is_plan_word") rfl)) (fun _ _ _ _ _ _ _ us e hl => by
    subst e
    exact match us, hl with | [_], _ => rfl)
  obtain ⟨D_p_is_window⟩ := Df.mk' (P := P) (w := w) (mg := mg) (base := base) (ps := ["thing"]) F_p_is_window (w_p_is_window B D_p_is_whole F_p_is_window) (He.glo_ok X G (c.fact 10 (f := .glo "is_window") rfl)) (fun _ _ _ _ _ _ _ us e hl => by
    subst e
    exact match us, hl with | [_], _ => rfl)
  obtain ⟨D_p_want_windows⟩ := Df.mk' (P := P) (w := w) (mg := mg) (base := base) (ps := ["windows"]) F_p_want_windows (w_p_want_windows B D_p_is_plan_word D_p_is_window F_p_want_windows) (He.glo_ok X G (c.fact 11 (f := .glo "want_windows") rfl)) (fun _ _ _ _ _ _ _ us e hl => by
    subst e
    exact match us, hl with | [_], _ => rfl)
  obtain ⟨D_p_crowd_to⟩ := Df.mk' (P := P) (w := w) (mg := mg) (base := base) (ps := ["benches", "windows", "rows", "late"]) F_p_crowd_to (w_p_crowd_to B F_p_crowd_to) (He.glo_ok X G (c.fact 12 (f := .glo "crowd_to") rfl)) (fun _ _ _ _ _ _ _ us e hl => by
    subst e
    exact match us, hl with | [_, _, _, _], _ => rfl)
  obtain ⟨D_p_windowed⟩ := Df.mk' (P := P) (w := w) (mg := mg) (base := base) (ps := ["benches", "windows"]) F_p_windowed (w_p_windowed B D_p_want_benches D_p_want_windows D_p_crowd_to F_p_windowed) (He.glo_ok X G (c.fact 13 (f := .glo "windowed") rfl)) (fun _ _ _ _ _ _ _ us e hl => by
    subst e
    exact match us, hl with | [_, _], _ => rfl)
  obtain ⟨D_m_whole⟩ := Df.mk' (P := P) (w := w) (mg := mg) (base := base) (ps := ["_law_found"]) F_m_whole (w_m_whole B F_m_whole) (He.glo_ok X G (c.fact 14 (f := .glo "_law_whole") rfl)) (fun _ _ _ _ _ _ _ us e hl => by
    subst e
    exact match us, hl with | [_], _ => rfl)
  obtain ⟨D_m_is_plan⟩ := Df.mk' (P := P) (w := w) (mg := mg) (base := base) (ps := ["_law_benches_here", "_law_windows_here", "_law_turns"]) F_m_is_plan (w_m_is_plan B D_m_whole F_m_is_plan) (He.glo_ok X G (c.fact 15 (f := .glo "_law_is_plan") rfl)) (fun _ _ _ _ _ _ _ us e hl => by
    subst e
    exact match us, hl with | [_, _, _], _ => rfl)
  obtain ⟨D_m_is_crowd⟩ := Df.mk' (P := P) (w := w) (mg := mg) (base := base) (ps := ["_law_benches_here", "_law_windows_here", "_law_told"]) F_m_is_crowd (w_m_is_crowd B D_m_whole F_m_is_crowd) (He.glo_ok X G (c.fact 16 (f := .glo "_law_is_crowd") rfl)) (fun _ _ _ _ _ _ _ us e hl => by
    subst e
    exact match us, hl with | [_, _, _], _ => rfl)
  obtain ⟨D_m_is_answer⟩ := Df.mk' (P := P) (w := w) (mg := mg) (base := base) (ps := ["_law_benches_here", "_law_windows_here", "_law_told"]) F_m_is_answer (w_m_is_answer B D_m_is_plan D_m_is_crowd F_m_is_answer) (He.glo_ok X G (c.fact 17 (f := .glo "_law_is_answer") rfl)) (fun _ _ _ _ _ _ _ us e hl => by
    subst e
    exact match us, hl with | [_, _, _], _ => rfl)
  obtain ⟨D_m_right⟩ := Df.mk' (P := P) (w := w) (mg := mg) (base := base) (ps := ["_law_benches_here", "_law_windows_here"]) F_m_right (w_m_right B D_p_windowed D_m_is_answer F_m_right) (He.glo_ok X G (c.fact 18 (f := .glo "_law_right") rfl)) (fun _ _ _ _ _ _ _ us e hl => by
    subst e
    exact match us, hl with | [_, _], _ => rfl)
  exact (w_m_law B D_m_cell D_m_purse D_m_windows D_m_benches D_m_right F_m_law)
theorem scr_in {K : PySem.W.Frag} {H : Hp} {a : Addr} {ns : List Int} (hS : SqL K H a (ns.map V.int)) : ∃ F, Sub F H ∧ Rp.rep K F (.ref a) (Scr.mk ns) := by
  refine ⟨fun b => if b = a then H a else none, fun b o e => ?_, a, rfl, ?_⟩
  · have e' : (if b = a then H a else none) = some o := e
    by_cases q : b = a
    · subst q; rw [if_pos rfl] at e'; exact .inl e'
    · rw [if_neg q] at e'; cases e'
  · have e' : (if a = a then H a else none) = H a := if_pos rfl
    rcases hS with (h | ⟨o, h⟩) | h
    · exact .inl (.inl (e'.trans h))
    · exact .inl (.inr ⟨o, e'.trans h⟩)
    · exact .inr h
end
end Lw
open PySem PySem.W PySem.Calls PyProof.Rows
theorem PySem.Challenge.cw_levelbench_k71_whole_windows_or_a_crowd_holds : PySem.Challenge.rw_levelbench_k71_whole_windows_or_a_crowd.Holds := by
  w_on; o_law
  refine HandSHeadRun.head_any (r := OpenLaw.row PySem.Challenge.rw_levelbench_k71_whole_windows_or_a_crowd) (q := view (OpenLaw.row PySem.Challenge.rw_levelbench_k71_whole_windows_or_a_crowd).prog [31]) (H := Lh.hk) (ob := Lh.ob) (M := 20000) (loose := Lh.loose) (d := HandSHeadRun.topDef (OpenLaw.row PySem.Challenge.rw_levelbench_k71_whole_windows_or_a_crowd).prog 31) (kwd := []) Lh.ob_eq
    (by kernel_rfl) (fun s => by kernel_rfl) Lh.run (by kernel_rfl) (by kernel_rfl) (by kernel_rfl) (by rfl) (by first | assumption | decide +kernel) (by decide +kernel) ⟨rfl, rfl, rfl, rfl, rfl, by decide +kernel⟩ ?hw ?hc
  case hw => w_witness2
  case hc =>
    refine L2.walk_ofE (l := PySem.Challenge.rw_levelbench_k71_whole_windows_or_a_crowd) (n := 63) (k := 6) (x := "_law_script") (CX := L2.CX0) rfl (by decide) (by kernel_rfl) ⟨rfl, by decide, by decide⟩ ?F (fun _ _ _ _ z => z)
    intro w mg fa h Y G hmg0
    obtain ⟨K, KX, c⟩ := Y
    have hmg : mg ("law" : PySem.Str) = some (.ref fa) := by
      have e : (HandSHeadRun.topDef (OpenLaw.row PySem.Challenge.rw_levelbench_k71_whole_windows_or_a_crowd).prog 31).name = ("law" : PySem.Str) := by kernel_rfl
      rw [← e]
      exact hmg0
    obtain ⟨fd, hb, hF⟩ := Lw.facts (P := (PySem.Challenge.rw_levelbench_k71_whole_windows_or_a_crowd).prog) (w := w) KX G hmg c
    refine ⟨K, fd, Ly.spP K Lw.G_m_law, KX, hb, fun H a ns hl _ hS => ?_, hF⟩
    obtain ⟨F, hs, hr⟩ := Lw.scr_in hS
    refine ⟨_, _, F, ⟨Ly.Scr.mk ns, Lw.law_ok _ hl, rfl, rfl⟩, hs, .cons hr .nil, ?_⟩
    intro v F2 H2 _ r
    exact r.1.trans (congrArg L2.V.bl (Lw.law_true _ hl))
