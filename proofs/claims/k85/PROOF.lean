import PyProof.Rows.All
import Wide.All
import OpenK.AllK
import Wide.FinOn
import HandS.ForMost
import HandS.Evl
import HandS.Wide
import HandS.Flow
import HandS.Exc
import HandS.Defaults
import HandS.HeadHook1
import HandS.HeadHook2
import HandS.IsInst
import HandS.More
import HandS.Walk
import HandS.ListItems
import KE.KEqNest
import HandS.DictEq
import KE.KDictZip
import KE.KRevIter
import HandS.Rev
import KE.KSortTupAny
import HandS.SortKw
import HandS.SortInts
import KE.KDictSum
import KE.KStateDown
import KE.KItemsList
import HandS.TupSets
import HandS.Dict
import KE.DataMinMax
import HandS.Finally
import KE.DatumOrd
import PyProof.DictUpdate
import HandS.Conv
import KE.GoesEnumKw
import KE.GoesEnum
import PyProof.Rows.CountFlat
import HandS.RevTup
import HandS.DictTup
import KE.KDictWalk
import HandS.Head0
import HandS.Head1
import HandS.Head2
import HandS.HeadEnd
import PySem.Challenge.RW_levelbench_k85_plans_counted
set_option Elab.async false
set_option linter.all false
set_option maxRecDepth 100000
set_option maxHeartbeats 4000000
namespace Ly
open PySem PySem.Spec PyProof.Rows L2

/-! heaps -/
def dictO : HO → Prop
  | .dK _ => True
  | .dT _ => True
  | _ => False
/-- read at a as o: o itself, or a dict that a walk holds -/
def Rdd (H : Hp) (a : Addr) (o : HO) : Prop := H a = some o ∨ (dictO o ∧ ∃ ob, H a = some (.frz ob o))
def Sub (F H : Hp) : Prop := ∀ a o, F a = some o → Rdd H a o
def Inc (H H' : Hp) : Prop := ∀ a o, H a = some o → H' a = some o
theorem Inc.refl (H : Hp) : Inc H H := fun _ _ h => h
theorem Inc.trans {A B C : Hp} (x : Inc A B) (y : Inc B C) : Inc A C := fun a o h => y a o (x a o h)
theorem Inc.new {H : Hp} {p : Addr} {o : HO} (h : H p = none) : Inc H (upd H p o) := fun a u e => by
  rw [upd_ne (ne_of_none e h)]; exact e
theorem Rdd.inc {H H' : Hp} {a : Addr} {o : HO} (r : Rdd H a o) (x : Inc H H') : Rdd H' a o := by
  rcases r with r | ⟨d, ob, r⟩
  · exact .inl (x _ _ r)
  · exact .inr ⟨d, ob, x _ _ r⟩
theorem Sub.inc {F H H' : Hp} (s : Sub F H) (x : Inc H H') : Sub F H' := fun a o h => (s a o h).inc x
theorem Inc.sub {F H : Hp} (x : Inc F H) : Sub F H := fun a o h => .inl (x a o h)
theorem Rdd.nd {H : Hp} {a : Addr} {o : HO} (r : Rdd H a o) (h : ¬ dictO o) : H a = some o := by
  rcases r with r | ⟨d, _⟩
  · exact r
  · exact absurd d h
theorem Rdd.ne {H : Hp} {a : Addr} {o : HO} (r : Rdd H a o) : H a ≠ none := by
  rcases r with r | ⟨_, ob, r⟩ <;> (rw [r]; intro z; cases z)

theorem nn {H : Hp} {a : Addr} {o : HO} (h : H a = some o) : H a ≠ none := by
  rw [h]; intro z; cases z

/-! what a value stands for -/
class Rp (α : Type) where
  rep : PySem.W.Frag → Hp → V → α → Prop
  mono : ∀ {K : PySem.W.Frag} {H H' : Hp} {v : V} {x : α}, Inc H H' → rep K H v x → rep K H' v x
/-- an object at an address, its parts being frozen -/
class Cl (α : Type) where
  cell : PySem.W.Frag → Hp → HO → α → Prop
  mono : ∀ {K : PySem.W.Frag} {H H' : Hp} {o : HO} {x : α}, Inc H H' → cell K H o x → cell K H' o x
instance (priority := 500) rpCl {α : Type} [Cl α] : Rp α where
  rep K H v (x : α) := ∃ a o, v = .ref a ∧ H a = some o ∧ Cl.cell K H o x
  mono {K H H' v x} i h := by
    obtain ⟨a, o, e, h1, h2⟩ := h
    exact ⟨a, o, e, i _ _ h1, Cl.mono (α := α) i h2⟩
/-- a scalar -/
class Sc (α : Type) where
  toV : α → V
  ok : α → Prop
/-- the most that a list, a text has -/
abbrev big : Nat := 1000000
theorem big_line {n : Nat} (h : n ≤ big) : n ≤ sizeLine := Nat.le_trans h (by decide)
theorem big_lt {n : Nat} (h : n ≤ big) : n < sizeLine := Nat.lt_of_le_of_lt h (by decide)
instance (priority := 600) rpSc {α : Type} [Sc α] : Rp α where
  rep _ _ v (x : α) := v = Sc.toV x ∧ Sc.ok x
  mono _ h := h
instance : Sc Int := ⟨V.int, fun _ => True⟩
instance : Sc Bool := ⟨V.bl, fun _ => True⟩
/-- a text that is not too long, of signs that there are -/
abbrev sbig : Nat := 900000
def sOk (z : Str) : Prop := z.length ≤ sbig ∧ ∀ c ∈ z.cps.toList, c < 1114112
instance (z : Str) : Decidable (sOk z) := inferInstanceAs (Decidable (_ ∧ _))
theorem sOk.line {z : Str} (h : sOk z) : z.length ≤ sizeLine := Nat.le_trans h.1 (by decide)
instance : Sc Str := ⟨V.str, sOk⟩
instance : Sc Unit := ⟨fun _ => V.non, fun _ => True⟩
theorem pairedM {α : Type} [Rp α] {K : PySem.W.Frag} {H H' : Hp} (i : Inc H H') : ∀ {vs : List V} {xs : List α}, Paired (Rp.rep K H) vs xs → Paired (Rp.rep K H') vs xs
  | _, _, .nil => .nil
  | _, _, .cons h t => .cons (Rp.mono i h) (pairedM i t)
instance clList {α : Type} [Rp α] : Cl (List α) where
  cell K H o (xs : List α) := xs.length ≤ big ∧ ∃ vs, o = .lst vs ∧ Paired (Rp.rep K H) vs xs
  mono {K H H' o x} i h := by
    obtain ⟨z, vs, e, h⟩ := h
    exact ⟨z, vs, e, pairedM i h⟩
instance clPair {α β : Type} [Rp α] [Rp β] : Cl (α × β) where
  cell K H o (x : α × β) := ∃ v w, o = .tup [v, w] ∧ Rp.rep K H v x.1 ∧ Rp.rep K H w x.2
  mono {K H H' o x} i h := by
    obtain ⟨v, w, e, h1, h2⟩ := h
    exact ⟨v, w, e, Rp.mono i h1, Rp.mono i h2⟩
def fzP (F H : Hp) (P : List Addr) : Hp := fun a => if a ∈ P then H a else F a
theorem fzP_in {F H : Hp} {P : List Addr} {a : Addr} (h : a ∈ P) : fzP F H P a = H a := by unfold fzP; rw [if_pos h]
theorem fzP_out {F H : Hp} {P : List Addr} {a : Addr} (h : a ∉ P) : fzP F H P a = F a := by unfold fzP; rw [if_neg h]
theorem fzP_inc {F H : Hp} {P : List Addr} (h : ∀ p ∈ P, F p = none) : Inc F (fzP F H P) := fun a o e => by
  by_cases q : a ∈ P
  · rw [h a q] at e; cases e
  · rw [fzP_out q]; exact e
/-- a tuple of keys: it may be held by a dict, and is never one's own -/
abbrev sk (ks : List L2.Key) : HO := .tup (ks.map kV)
def nsk (o : HO) : Prop := ∀ ks, o ≠ sk ks
theorem nskL {vs : List V} : nsk (.lst vs) := fun _ e => by cases e
/-- an object that is one's own, with what belongs to it: P all its addresses -/
class Ow (α : Type) where
  rp : Rp α
  own : PySem.W.Frag → Hp → Hp → V → α → List Addr → Prop
  mono : ∀ {K : PySem.W.Frag} {F F' H H' : Hp} {v : V} {x : α} {P : List Addr}, Inc F F' → (∀ p ∈ P, H' p = H p) → (∀ p ∈ P, F' p = none) → own K F H v x P → own K F' H' v x P
  out : ∀ {K : PySem.W.Frag} {F H : Hp} {v : V} {x : α} {P : List Addr}, own K F H v x P → ∀ p ∈ P, H p ≠ none ∧ F p = none
  fzn : ∀ {K : PySem.W.Frag} {F H : Hp} {v : V} {x : α} {P : List Addr}, own K F H v x P → Rp.rep K (fzP F H P) v x
  nt : ∀ {K : PySem.W.Frag} {F H : Hp} {v : V} {x : α} {P : List Addr}, own K F H v x P → ∀ p ∈ P, ∀ ks, H p ≠ some (sk ks)
/-- objects that are no tuples of keys -/
class Clm (α : Type) [Cl α] : Prop where
  nt : ∀ {K : PySem.W.Frag} {H : Hp} {o : HO} {x : α}, Cl.cell K H o x → nsk o
instance clmList {α : Type} [Rp α] : Clm (List α) := ⟨fun h ks e => by
  obtain ⟨_, vs, e2, _⟩ := h
  rw [e2] at e; cases e⟩
instance (priority := 400) owCl {α : Type} [Cl α] [Clm α] : Ow α where
  rp := rpCl
  own K F H v (x : α) P := ∃ a o, v = .ref a ∧ P = [a] ∧ H a = some o ∧ F a = none ∧ Cl.cell K F o x
  mono {K F F' H H' v x P} i h hf r := by
    obtain ⟨a, o, e, rfl, h1, h2, c⟩ := r
    exact ⟨a, o, e, rfl, (h a (by simp)).trans h1, hf a (by simp), Cl.mono (α := α) i c⟩
  out {K F H v x P} r p hp := by
    obtain ⟨a, o, e, rfl, h1, h2, c⟩ := r
    have e : p = a := by simpa using hp
    subst e
    exact ⟨nn h1, h2⟩
  fzn {K F H v x P} r := by
    obtain ⟨a, o, e, rfl, h1, h2, c⟩ := r
    refine ⟨a, o, e, (fzP_in (by simp)).trans h1, Cl.mono (α := α) (fzP_inc fun p hp => ?_) c⟩
    have e : p = a := by simpa using hp
    rw [e]; exact h2
  nt {K F H v x P} r p hp ks := by
    obtain ⟨a, o, e, rfl, h1, h2, c⟩ := r
    have e : p = a := by simpa using hp
    subst e
    rw [h1]
    exact fun z => Clm.nt (α := α) c ks (Option.some.inj z)

/-! what stands in a slot: nothing said, a frozen value, an own object, the own object at a, what belongs to the slot j -/
inductive En : Type 1 where
  | un
  | fzI {α : Type} (r : Rp α) (x : α)
  | owI {α : Type} (r : Ow α) (x : α)
  | atI (a : Addr) {α : Type} (r : Ow α) (x : α)
  | alI (j : Nat) {α : Type} (r : Ow α) (x : α)
abbrev En.fz {α : Type} [r : Rp α] (x : α) : En := .fzI r x
abbrev En.ow {α : Type} [r : Ow α] (x : α) : En := .owI r x
abbrev En.at (a : Addr) {α : Type} [r : Ow α] (x : α) : En := .atI a r x
abbrev En.al (j : Nat) {α : Type} [r : Ow α] (x : α) : En := .alI j r x
/-- a slot's value, by the frozen heap F and the heap H; P: the addresses that are its own -/
def EnOk (K : PySem.W.Frag) (F H : Hp) (sl : Option V) (P : List Addr) : En → Prop
  | .un => P = []
  | .fzI _ x => P = [] ∧ ∃ v, sl = some v ∧ Rp.rep K F v x
  | .owI _ x => ∃ v, sl = some v ∧ Ow.own K F H v x P
  | .atI a _ x => sl = some (.ref a) ∧ Ow.own K F H (.ref a) x P
  | .alI _ _ _ => P = []

/-- where one came from: what may be changed, the frozen heap, the heap -/
structure Fr where
  io : Addr → Prop
  F : Hp
  H : Hp
def Fr.free (f : Fr) (a : Addr) : Prop := f.H a = none ∨ f.io a
structure Stp (g : Fr) (F H : Hp) : Prop where
  f : Inc g.F F
  h : ∀ a o, ¬ g.io a → g.H a = some o → H a = some o
  t : ∀ a, g.H a ≠ none → H a ≠ none
  e : Sub F H
  n : ∀ a, g.H a ≠ none → g.F a = none → F a = none ∨ ∃ ks, H a = some (sk ks)
  k : ∀ a ks, g.H a = some (sk ks) → H a = some (sk ks)
abbrev no : Addr → Prop := fun _ => False
/-- a step that changes nothing -/
abbrev St0 (F H F' H' : Hp) : Prop := Stp ⟨no, F, H⟩ F' H'
theorem St0.inc {F H F' H' : Hp} (s : St0 F H F' H') : Inc H H' := fun a o e => s.h a o (fun z => z) e
theorem St0.refl {F H : Hp} (s : Sub F H) : St0 F H F H := ⟨Inc.refl _, fun _ _ _ h => h, fun _ h => h, s, fun _ _ h => .inl h, fun _ _ h => h⟩
theorem Stp.sub {f : Fr} {F H : Hp} (s : Stp f F H) : Sub F H := s.e
theorem Stp.refl {io : Addr → Prop} {F H : Hp} (s : Sub F H) : Stp ⟨io, F, H⟩ F H := ⟨Inc.refl _, fun _ _ _ h => h, fun _ h => h, s, fun _ _ h => .inl h, fun _ _ h => h⟩
/-- what is not frozen and is no tuple of keys stays so -/
theorem St0.nz {F H F' H' : Hp} (s : St0 F H F' H') {a : Addr} {o : HO} (h : H a = some o) (ho : nsk o) (hf : F a = none) : F' a = none := by
  rcases s.n a (nn h) hf with z | ⟨ks, z⟩
  · exact z
  · have e := s.inc a o h
    rw [e] at z
    exact absurd (Option.some.inj z) (ho ks)
theorem Stp.trans {f : Fr} {F H F' H' : Hp} {io : Addr → Prop} (a : Stp f F H) (b : Stp ⟨io, F, H⟩ F' H') (hio : ∀ x, io x → f.free x) : Stp f F' H' where
  f := a.f.trans b.f
  h := fun x o hn e => b.h x o (fun z => by
    rcases hio x z with q | q
    · rw [q] at e; cases e
    · exact hn q) (a.h x o hn e)
  t := fun x e => b.t x (a.t x e)
  e := b.e
  n := fun x e1 e2 => by
    rcases a.n x e1 e2 with z | ⟨ks, z⟩
    · exact b.n x (a.t x e1) z
    · exact .inr ⟨ks, b.k x ks z⟩
  k := fun x ks e => b.k x ks (a.k x ks e)
theorem Stp.then0 {f : Fr} {F H F' H' : Hp} (a : Stp f F H) (b : St0 F H F' H') : Stp f F' H' := a.trans b fun _ z => z.elim
theorem St0.trans {A H A1 H1 A2 H2 : Hp} (a : St0 A H A1 H1) (b : St0 A1 H1 A2 H2) : St0 A H A2 H2 := Stp.then0 a b
theorem Stp.back {f : Fr} {F H : Hp} (a : Stp f F H) {x : Addr} (h : H x = none) : f.H x = none := by
  cases q : f.H x with
  | none => rfl
  | some u => exact absurd h (a.t x (nn q))
theorem St0.back {F H F1 H1 : Hp} (a : St0 F H F1 H1) {x : Addr} (h : H1 x = none) : H x = none := Stp.back a h
theorem sub_none {F H : Hp} (s : Sub F H) {p : Addr} (h : H p = none) : F p = none := by
  cases q : F p with
  | none => rfl
  | some o => exact absurd h (s p o q).ne
/-- a new object, not frozen -/
theorem St0.new {F H : Hp} {p : Addr} {o : HO} (s : Sub F H) (h : H p = none) : St0 F H F (upd H p o) :=
  ⟨Inc.refl _, fun a u _ e => Inc.new h a u e, fun a e => by
    by_cases q : a = p
    · subst q; exact absurd h e
    · show upd H p o a ≠ none
      rw [upd_ne q]; exact e, s.inc (Inc.new h), fun _ _ e => .inl e, fun a ks e => Inc.new h a _ e⟩
/-- what is new since is frozen -/
theorem Stp.freeze {f : Fr} {F H : Hp} {P : List Addr} (s : Stp f F H) (h : ∀ p ∈ P, F p = none ∧ f.H p = none) : Stp f (fzP F H P) H where
  f := s.f.trans (fzP_inc fun p hp => (h p hp).1)
  h := s.h
  t := s.t
  e := fun b u e => by
    by_cases q : b ∈ P
    · rw [fzP_in q] at e; exact .inl e
    · rw [fzP_out q] at e; exact s.e b u e
  n := fun b e1 e2 => by
    by_cases q : b ∈ P
    · exact absurd (h b q).2 e1
    · rw [fzP_out q]; exact s.n b e1 e2
  k := s.k

theorem ownStep {K : PySem.W.Frag} {F H F' H' : Hp} {α : Type} [Ow α] {v : V} {x : α} {P : List Addr} (h : Ow.own K F H v x P) (s : St0 F H F' H') : Ow.own K F' H' v x P := by
  refine Ow.mono s.f (fun p hp => ?_) (fun p hp => by
    cases q : H p with
    | none => exact absurd q (Ow.out h p hp).1
    | some o => exact s.nz q (fun ks e => Ow.nt h p hp ks (by rw [q, e])) (Ow.out h p hp).2) h
  cases q : H p with
  | none => exact absurd q (Ow.out h p hp).1
  | some o => exact s.inc p o q
theorem EnOk.step {K : PySem.W.Frag} {F H F' H' : Hp} {sl : Option V} {e : En} {P : List Addr} (h : EnOk K F H sl P e) (s : St0 F H F' H') : EnOk K F' H' sl P e := by
  cases e with
  | un => exact h
  | fzI _ x => obtain ⟨z, v, e, r⟩ := h; exact ⟨z, v, e, Rp.mono s.f r⟩
  | owI _ x =>
    obtain ⟨v, e, r⟩ := h
    exact ⟨v, e, ownStep r s⟩
  | atI a _ x => exact ⟨h.1, ownStep h.2 s⟩
  | alI _ _ _ => exact h
/-- what is own stands in the heap and is not frozen -/
theorem EnOk.out {K : PySem.W.Frag} {F H : Hp} {sl : Option V} {e : En} {P : List Addr} (h : EnOk K F H sl P e) : ∀ p ∈ P, H p ≠ none ∧ F p = none := by
  intro p hp
  cases e with
  | un => rw [show P = [] from h] at hp; cases hp
  | fzI _ x => rw [show P = [] from h.1] at hp; cases hp
  | owI _ x => obtain ⟨v, e, r⟩ := h; exact Ow.out r p hp
  | atI a _ x => exact Ow.out h.2 p hp
  | alI _ _ _ => rw [show P = [] from h] at hp; cases hp
theorem EnOk.nt {K : PySem.W.Frag} {F H : Hp} {sl : Option V} {e : En} {P : List Addr} (h : EnOk K F H sl P e) : ∀ p ∈ P, ∀ ks, H p ≠ some (sk ks) := by
  intro p hp
  cases e with
  | un => rw [show P = [] from h] at hp; cases hp
  | fzI _ x => rw [show P = [] from h.1] at hp; cases hp
  | owI _ x => obtain ⟨v, e, r⟩ := h; exact Ow.nt r p hp
  | atI a _ x => exact Ow.nt h.2 p hp
  | alI _ _ _ => rw [show P = [] from h] at hp; cases hp
/-- other objects have changed -/
theorem EnOk.but {K : PySem.W.Frag} {F H F' H' : Hp} {sl : Option V} {e : En} {P : List Addr} (h : EnOk K F H sl P e) (i : Inc F F') (k : ∀ p ∈ P, H' p = H p) (n : ∀ p ∈ P, F' p = none) : EnOk K F' H' sl P e := by
  cases e with
  | un => exact h
  | fzI _ x => obtain ⟨z, v, e, r⟩ := h; exact ⟨z, v, e, Rp.mono i r⟩
  | owI _ x =>
    obtain ⟨v, e, r⟩ := h
    exact ⟨v, e, Ow.mono i k n r⟩
  | atI a _ x => exact ⟨h.1, Ow.mono i k n h.2⟩
  | alI _ _ _ => exact h

abbrev sl (σ : L2.St) (i : Nat) : Option V := (σ[i]?).join
theorem sl_of {σ : L2.St} {i : Nat} {v : V} (h : sl σ i = some v) : σ[i]? = some (some v) := by
  cases e : σ[i]? with
  | none => rw [sl, e] at h; cases h
  | some o =>
    rw [sl, e] at h
    have h' : o = some v := h
    rw [h']
theorem sl_set {σ : L2.St} {i : Nat} {v : V} (h : i < σ.length) : sl (σ.set i (some v)) i = some v := by
  unfold sl; rw [List.getElem?_set_self h]; rfl
theorem sl_ne {σ : L2.St} {i j : Nat} {v : Option V} (h : i ≠ j) : sl (σ.set i v) j = sl σ j := by
  unfold sl; rw [List.getElem?_set_ne h]
structure EnvP (K : PySem.W.Frag) (f : Fr) (es : List En) (σ : L2.St) (F H : Hp) (Ps : Nat → List Addr) : Prop where
  len : es.length = σ.length
  ok : ∀ (i : Nat) e, es[i]? = some e → EnOk K F H (sl σ i) (Ps i) e
  nd : ∀ i : Nat, i < es.length → (Ps i).Nodup
  dj : ∀ (i j : Nat) p, i < es.length → j < es.length → p ∈ Ps i → p ∈ Ps j → i = j
  fr : ∀ (i : Nat) p, i < es.length → p ∈ Ps i → f.free p
  nw : ∀ (i : Nat) p (α : Type) (r : Ow α) (x : α), es[i]? = some (.owI r x) → p ∈ Ps i → f.H p = none
  al : ∀ (i j : Nat) (α : Type) (r : Ow α) (x : α), es[i]? = some (.alI j r x) → j < es.length ∧ ∃ v Q, sl σ i = some v ∧ (∀ p ∈ Q, p ∈ Ps j) ∧ Ow.own K F H v x Q
structure Sw (K : PySem.W.Frag) (f : Fr) (es : List En) (σ : L2.St) (F H : Hp) : Prop where
  st : Stp f F H
  env : ∃ Ps, EnvP K f es σ F H Ps
/-- nothing belongs to the slot i -/
def noAl (i : Nat) (es : List En) : Prop := ∀ (k : Nat) (α : Type) (r : Ow α) (x : α), es[k]? ≠ some (.alI i r x)
def alFree (i : Nat) : List En → Bool
  | [] => true
  | .alI j _ _ :: r => !(i == j) && alFree i r
  | _ :: r => alFree i r
theorem noAl_of {i : Nat} : ∀ {es : List En}, alFree i es = true → noAl i es
  | [], _ => fun k α r x h => by simp at h
  | e :: es, h => fun k α r x hk => by
    cases k with
    | zero =>
      have e1 : e = .alI i r x := by simpa using hk
      subst e1
      simp [alFree] at h
    | succ k =>
      have h2 : alFree i es = true := by
        cases e <;> simp [alFree] at h <;> first | exact h | exact h.2
      exact noAl_of h2 k α r x (by simpa using hk)
section
variable {K : PySem.W.Frag} {f : Fr} {es es' : List En} {σ : L2.St} {F H F' H' : Hp} {Ps : Nat → List Addr}
theorem Sw.sub (s : Sw K f es σ F H) : Sub F H := s.st.e
theorem EnvP.step (s : EnvP K f es σ F H Ps) (t : St0 F H F' H') : EnvP K f es σ F' H' Ps :=
  ⟨s.len, fun i e h => (s.ok i e h).step t, s.nd, s.dj, s.fr, s.nw, fun i j α r x h => by
    obtain ⟨q, v, Q, e, hq, o⟩ := s.al i j α r x h
    exact ⟨q, v, Q, e, hq, ownStep o t⟩⟩
theorem Sw.step (s : Sw K f es σ F H) (t : St0 F H F' H') : Sw K f es σ F' H' := let ⟨Ps, p⟩ := s.env; ⟨s.st.then0 t, Ps, p.step t⟩
theorem Sw.fz {α : Type} [Rp α] {x : α} {i : Nat} (s : Sw K f es σ F H) (h : es[i]? = some (.fz x)) : ∃ v, σ[i]? = some (some v) ∧ Rp.rep K F v x := by
  obtain ⟨Ps, p⟩ := s.env
  obtain ⟨_, v, e, r⟩ := p.ok i _ h
  exact ⟨v, sl_of e, r⟩
theorem get_lt.{u} {α : Type u} {l : List α} {i : Nat} {x : α} (h : l[i]? = some x) : i < l.length := (List.getElem?_eq_some_iff.mp h).1
/-- the own slots' addresses stand in the heap -/
theorem EnvP.out (s : EnvP K f es σ F H Ps) {i : Nat} (hi : i < es.length) : ∀ p ∈ Ps i, H p ≠ none ∧ F p = none :=
  (s.ok i es[i] (List.getElem?_eq_getElem hi)).out
/-- a slot is set: what stands there is new, or is frozen -/
theorem Sw.set {e : En} {v : V} {P : List Addr} {i : Nat} (st : Stp f F H) (q : EnvP K f es σ F H Ps) (hi : i < es.length) (h : EnOk K F H (some v) P e) (hn : P.Nodup) (hf : ∀ p ∈ P, f.H p = none)
    (hd' : ∀ j, j < es.length → j ≠ i → ∀ p ∈ P, p ∉ Ps j) (ha : noAl i es) (hae : ∀ j (α : Type) (r : Ow α) (x : α), e ≠ .alI j r x) : Sw K f (es.set i e) (σ.set i (some v)) F H := by
  have hi' : i < σ.length := by rw [← q.len]; exact hi
  refine ⟨st, fun j => if j = i then P else Ps j, by simp [q.len], fun j e' hj => ?_, fun j hj => ?_, fun j k p h1 h2 p1 p2 => ?_, fun j p h1 p1 => ?_, fun j p α r x hj p1 => ?_, fun j k α r x hj => ?_⟩
  · by_cases z : j = i
    · subst z
      rw [List.getElem?_set_self hi] at hj
      cases hj
      rw [sl_set hi', if_pos rfl]; exact h
    · rw [List.getElem?_set_ne (Ne.symm z)] at hj
      rw [sl_ne (Ne.symm z), if_neg z]; exact q.ok j e' hj
  · by_cases z : j = i
    · rw [if_pos z]; exact hn
    · rw [if_neg z]; exact q.nd j (by simpa using hj)
  · rw [List.length_set] at h1 h2
    by_cases z : j = i
    · by_cases z2 : k = i
      · rw [z, z2]
      · rw [if_pos z] at p1
        rw [if_neg z2] at p2
        exact absurd p2 (hd' k h2 z2 p p1)
    · rw [if_neg z] at p1
      by_cases z2 : k = i
      · rw [if_pos z2] at p2
        exact absurd p1 (hd' j h1 z p p2)
      · rw [if_neg z2] at p2
        exact q.dj j k p h1 h2 p1 p2
  · rw [List.length_set] at h1
    by_cases z : j = i
    · rw [if_pos z] at p1; exact .inl (hf p p1)
    · rw [if_neg z] at p1; exact q.fr j p h1 p1
  · by_cases z : j = i
    · rw [if_pos z] at p1; exact hf p p1
    · rw [if_neg z] at p1
      rw [List.getElem?_set_ne (Ne.symm z)] at hj
      exact q.nw j p α r x hj p1
  · by_cases z : j = i
    · subst z
      rw [List.getElem?_set_self hi] at hj
      exact absurd (Option.some.inj hj) (hae k α r x)
    · rw [List.getElem?_set_ne (Ne.symm z)] at hj
      obtain ⟨hk, w, Q, ew, hQ, o⟩ := q.al j k α r x hj
      have hki : k ≠ i := fun z2 => ha j α r x (z2 ▸ hj)
      refine ⟨by rw [List.length_set]; exact hk, w, Q, by rw [sl_ne (Ne.symm z)]; exact ew, fun p hp => ?_, o⟩
      rw [if_neg hki]; exact hQ p hp
theorem Sw.setF {α : Type} [Rp α] {x : α} {v : V} {i : Nat} (s : Sw K f es σ F H) (hi : i < es.length) (h : Rp.rep K F v x) (ha : noAl i es) : Sw K f (es.set i (.fz x)) (σ.set i (some v)) F H := by
  obtain ⟨Ps, q⟩ := s.env
  exact Sw.set s.st q hi (P := []) ⟨rfl, v, rfl, h⟩ List.nodup_nil (fun p hp => by cases hp) (fun _ _ _ p hp => by cases hp) ha fun j α r x z => by cases z
/-- what is new is set -/
theorem Sw.setN {α : Type} [Ow α] {x : α} {v : V} {P : List Addr} {i : Nat} (s : Sw K f es σ F H) (t : St0 F H F' H') (hi : i < es.length) (h : Ow.own K F' H' v x P) (hn : P.Nodup) (hp : ∀ p ∈ P, H p = none) (ha : noAl i es) : Sw K f (es.set i (.ow x)) (σ.set i (some v)) F' H' := by
  obtain ⟨Ps, q⟩ := s.env
  exact Sw.set (s.st.then0 t) (q.step t) hi (P := P) ⟨v, rfl, h⟩ hn (fun p h => s.st.back (hp p h)) (fun j hj _ p h1 h2 => (q.out hj p h2).1 (hp p h1)) ha fun j α r x z => by cases z
/-- an own object has changed, with what belongs to it -/
theorem Sw.mutG {e e' : En} {P P' : List Addr} {i : Nat} (st : Stp f F H) (q : EnvP K f es σ F H Ps) (hi : es[i]? = some e) (hP : Ps i = P)
    (t : ∀ p, H p ≠ none → H' p ≠ none) (k : ∀ p, p ∉ P → H p ≠ none → H' p = H p) (h : EnOk K F H' (sl σ i) P' e') (hn : P'.Nodup) (hp : ∀ p ∈ P', p ∈ P ∨ ((∀ j, j < es.length → p ∉ Ps j) ∧ f.H p = none)) (ha : noAl i es)
    (hw : ∀ (α : Type) (r : Ow α) (x : α), e' = .owI r x → ∃ (β : Type) (r : Ow β) (y : β), e = .owI r y) (hae : ∀ j (α : Type) (r : Ow α) (x : α), e' ≠ .alI j r x) : Sw K f (es.set i e') σ F H' := by
  have hil : i < es.length := get_lt hi
  have out := q.out hil
  rw [hP] at out
  have nt := (q.ok i e hi).nt
  rw [hP] at nt
  have keep : ∀ a ks, H a = some (sk ks) → H' a = some (sk ks) := fun a ks z => by
    rw [k a (fun m => nt a m ks z) (nn z)]; exact z
  have st' : Stp f F H' := ⟨st.f, fun a o hio e => by
    have h1 := st.h a o hio e
    have np : a ∉ P := fun z => by
      rcases q.fr i a hil (by rw [hP]; exact z) with w | w
      · rw [w] at e; cases e
      · exact hio w
    rw [k a np (nn h1)]; exact h1, fun a e => t a (st.t a e), fun a o e => by
    have r := st.e a o e
    have np : a ∉ P := fun z => by rw [(out a z).2] at e; cases e
    have e2 : H' a = H a := k a np r.ne
    rcases r with r | ⟨d, ob, r⟩
    · exact .inl (e2.trans r)
    · exact .inr ⟨d, ob, e2.trans r⟩, fun a e1 e2 => by
    rcases st.n a e1 e2 with z | ⟨ks, z⟩
    · exact .inl z
    · exact .inr ⟨ks, keep a ks z⟩, fun a ks e => keep a ks (st.k a ks e)⟩
  have kj : ∀ j, j < es.length → j ≠ i → ∀ p ∈ Ps j, H' p = H p := fun j hj hne p hp => k p (fun z => hne (q.dj j i p hj hil hp (by rw [hP]; exact z))) (q.out hj p hp).1
  refine ⟨st', fun j => if j = i then P' else Ps j, by simp [q.len], fun j e' hj => ?_, fun j hj => ?_, fun j k' p h1 h2 p1 p2 => ?_, fun j p h1 p1 => ?_, fun j p α r x hj p1 => ?_, fun j k' α r x hj => ?_⟩
  · by_cases z : j = i
    · subst z
      rw [List.getElem?_set_self hil] at hj
      cases hj
      rw [if_pos rfl]; exact h
    · rw [List.getElem?_set_ne (Ne.symm z)] at hj
      rw [if_neg z]
      have ok := q.ok j e' hj
      exact ok.but (Inc.refl _) (kj j (get_lt hj) z) fun p hp => (ok.out p hp).2
  · by_cases z : j = i
    · rw [if_pos z]; exact hn
    · rw [if_neg z]; exact q.nd j (by simpa using hj)
  · rw [List.length_set] at h1 h2
    by_cases z : j = i
    · by_cases z2 : k' = i
      · rw [z, z2]
      · rw [if_pos z] at p1
        rw [if_neg z2] at p2
        rcases hp p p1 with w | w
        · exact absurd (q.dj k' i p h2 hil p2 (by rw [hP]; exact w)) z2
        · exact absurd p2 (w.1 k' h2)
    · rw [if_neg z] at p1
      by_cases z2 : k' = i
      · rw [if_pos z2] at p2
        rcases hp p p2 with w | w
        · exact absurd (q.dj j i p h1 hil p1 (by rw [hP]; exact w)) z
        · exact absurd p1 (w.1 j h1)
      · rw [if_neg z2] at p2
        exact q.dj j k' p h1 h2 p1 p2
  · rw [List.length_set] at h1
    by_cases z : j = i
    · rw [if_pos z] at p1
      rcases hp p p1 with w | w
      · exact q.fr i p hil (by rw [hP]; exact w)
      · exact .inl w.2
    · rw [if_neg z] at p1; exact q.fr j p h1 p1
  · by_cases z : j = i
    · subst z
      rw [List.getElem?_set_self hil] at hj
      rw [if_pos rfl] at p1
      obtain ⟨β, r2, y, e2⟩ := hw α r x (Option.some.inj hj)
      rcases hp p p1 with w | w
      · exact q.nw j p β r2 y (hi.trans (congrArg some e2)) (by rw [hP]; exact w)
      · exact w.2
    · rw [List.getElem?_set_ne (Ne.symm z)] at hj
      rw [if_neg z] at p1
      exact q.nw j p α r x hj p1
  · by_cases z : j = i
    · subst z
      rw [List.getElem?_set_self hil] at hj
      exact absurd (Option.some.inj hj) (hae k' α r x)
    · rw [List.getElem?_set_ne (Ne.symm z)] at hj
      obtain ⟨hk, w, Q, ew, hQ, o⟩ := q.al j k' α r x hj
      have hki : k' ≠ i := fun z2 => ha j α r x (z2 ▸ hj)
      refine ⟨by rw [List.length_set]; exact hk, w, Q, ew, fun p hp => ?_, ?_⟩
      · rw [if_neg hki]; exact hQ p hp
      · exact Ow.mono (Inc.refl _) (fun p hp => kj k' hk hki p (hQ p hp)) (fun p hp => (q.out hk p (hQ p hp)).2) o
theorem Sw.mutE {e e' : En} {P P' : List Addr} {i : Nat} (st : Stp f F H) (q : EnvP K f es σ F H Ps) (hi : es[i]? = some e) (hP : Ps i = P)
    (t : ∀ p, H p ≠ none → H' p ≠ none) (k : ∀ p, p ∉ P → H p ≠ none → H' p = H p) (h : EnOk K F H' (sl σ i) P' e') (hn : P'.Nodup) (hp : ∀ p ∈ P', p ∈ P ∨ H p = none) (ha : noAl i es)
    (hw : ∀ (α : Type) (r : Ow α) (x : α), e' = .owI r x → ∃ (β : Type) (r : Ow β) (y : β), e = .owI r y) (hae : ∀ j (α : Type) (r : Ow α) (x : α), e' ≠ .alI j r x) : Sw K f (es.set i e') σ F H' :=
  Sw.mutG st q hi hP t k h hn (fun p z => (hp p z).imp id fun w => ⟨fun j hj c => (q.out hj p c).1 w, st.back w⟩) ha hw hae
def unB : Option En → Bool
  | some .un => true
  | _ => false
theorem unB_t {o : Option En} (h : unB o = true) : o = some .un := by
  cases o with
  | none => cases h
  | some e => cases e <;> first | rfl | cases h
/-- less is said -/
theorem Sw.weak (s : Sw K f es σ F H) (hl : es'.length = es.length) (h : ∀ (i : Nat) (e : En), es'[i]? = some e → e = En.un ∨ es[i]? = some e) (ha : ∀ (i j : Nat) (α : Type) (r : Ow α) (x : α), es'[i]? = some (.alI j r x) → es'[j]? = es[j]?) : Sw K f es' σ F H := by
  obtain ⟨Ps, q⟩ := s.env
  have hc : ∀ i : Nat, i < es'.length → es'[i]? = some En.un ∨ es'[i]? = es[i]? := fun i hi => by
    rcases h i es'[i] (List.getElem?_eq_getElem hi) with z | z
    · exact .inl (by rw [List.getElem?_eq_getElem hi, z])
    · exact .inr (by rw [List.getElem?_eq_getElem hi, z])
  have key : ∀ i : Nat, ∀ p, p ∈ (if unB es'[i]? = true then ([] : List Addr) else Ps i) → p ∈ Ps i := fun i p hp => by
    by_cases z : unB es'[i]? = true
    · rw [if_pos z] at hp; cases hp
    · rw [if_neg z] at hp; exact hp
  refine ⟨s.st, fun i => if unB es'[i]? = true then [] else Ps i, by rw [hl]; exact q.len, fun i e hi => ?_, fun i hi => ?_, fun i j p h1 h2 p1 p2 => q.dj i j p (by omega) (by omega) (key i p p1) (key j p p2), fun i p h1 p1 => q.fr i p (by omega) (key i p p1), fun i p α r x hi p1 => (by
      rcases h i _ hi with z2 | z2
      · cases z2
      · exact q.nw i p α r x z2 (key i p p1)), fun i j α r x hi => ?_⟩
  · by_cases z : unB es'[i]? = true
    · rw [if_pos z]
      rw [unB_t z] at hi
      cases hi
      rfl
    · rw [if_neg z]
      rcases h i e hi with z2 | z2
      · rw [hi, z2] at z; exact absurd rfl z
      · exact q.ok i e z2
  · by_cases z : unB es'[i]? = true
    · rw [if_pos z]; exact List.nodup_nil
    · rw [if_neg z]; exact q.nd i (by omega)
  · rcases h i _ hi with z2 | z2
    · cases z2
    obtain ⟨hj, v, Q, e1, hQ, o⟩ := q.al i j α r x z2
    refine ⟨by omega, v, Q, e1, fun p hp => ?_, o⟩
    have hp' := hQ p hp
    have z : ¬ unB es'[j]? = true := fun z => by
      have e2 := (ha i j α r x hi).symm.trans (unB_t z)
      have ok := q.ok j _ e2
      rw [show Ps j = [] from ok] at hp'
      cases hp'
    rw [if_neg z]; exact hp'
end
end Ly
namespace Ly
open PySem PySem.Spec PyProof.Rows L2
/-! the weakest readings -/
section
variable (X : Cx)
def wpE (e : Expr) : TE := fun σ H Q => ∀ (pins : List (Addr × Obj)) (s : Shared), Inv X pins σ H s → wpAny (model X.prog X.w) X.A (eval e X.env) (EP X pins σ Q) X.xe s
def wpT (e : Expr) : TT := fun σ H Q => ∀ (pins : List (Addr × Obj)) (s : Shared), Inv X pins σ H s → wpAny (model X.prog X.w) X.A (isTrue e X.env (eval e X.env)) (TP X pins σ Q) X.xe s
def wpW (e : Expr) : TT := fun σ H Q => ∀ (whole : Sem Value) (pins : List (Addr × Obj)) (s : Shared), Inv X pins σ H s → wpAny (model X.prog X.w) X.A (isTrue e X.env whole) (TP X pins σ Q) X.xe s
def wpA (es : List Expr) : TA := fun σ H Q => ∀ (pos : Pos) (pins : List (Addr × Obj)) (s : Shared), Inv X pins σ H s → wpAny (model X.prog X.w) X.A (spliced (backTo pos (starEach es X.env))) (AP X pins σ Q) X.xe s
def wpS (st : Stmt) : TS := fun D σ H => ∀ (pins : List (Addr × Obj)) (s : Shared), Inv X pins σ H s → wpAny (model X.prog X.w) X.A (exec st X.env) (SP X pins D) X.xe s
def wpSs (st : List Stmt) : TS := fun D σ H => ∀ (pins : List (Addr × Obj)) (s : Shared), Inv X pins σ H s → wpAny (model X.prog X.w) X.A (execs st X.env) (SP X pins D) X.xe s
def wpG (tg : Expr) : TG := fun v σ H Q => ∀ (pins : List (Addr × Obj)) (s : Shared) (u : Value), Inv X pins σ H s → RelV v u → wpAny (model X.prog X.w) X.A (assign tg X.env u) (fun _ s' => ∃ σ' H', Inv X pins σ' H' s' ∧ Q σ' H') X.xe s
def wpI (tg e : Expr) : TI := fun σ H R => ∀ (pins : List (Addr × Obj)) (s : Shared), Inv X pins σ H s → wpAny (model X.prog X.w) X.A (eval e X.env) (fun v s1 => wpAny (model X.prog X.w) X.A (pyIter v) (PIE X pins σ tg R) X.xe s1) X.xe s
variable {X}
theorem peW {e : Expr} : PE X e (wpE X e) := ⟨fun pins s _ _ _ I h => h pins s I⟩
theorem ptW {e : Expr} : PT X e (wpT X e) := ⟨fun pins s _ _ _ I h => h pins s I⟩
theorem pwW {e : Expr} : PW X e (wpW X e) := ⟨fun w pins s _ _ _ I h => h w pins s I⟩
theorem paW {es : List Expr} : PA X es (wpA X es) := ⟨fun pos pins s _ _ _ I h => h pos pins s I⟩
theorem psW {st : Stmt} : PS X st (wpS X st) := ⟨fun pins s _ _ _ I h => h pins s I⟩
theorem pssW {st : List Stmt} : PSs X st (wpSs X st) := ⟨fun pins s _ _ _ I h => h pins s I⟩
theorem pgW {tg : Expr} : PG X tg (wpG X tg) := ⟨fun pins s _ _ _ u _ I r h => h pins s u I r⟩
theorem piW {tg e : Expr} : PI X tg e (wpI X tg e) := ⟨fun pins s _ _ _ I h => h pins s I⟩
theorem peR {e : Expr} {t : TE} (h : PE X e t) {σ : L2.St} {H : Hp} {Q : VK} (q : t σ H Q) : wpE X e σ H Q := fun pins s I => h.run pins s σ H Q I q
theorem ptR {e : Expr} {t : TT} (h : PT X e t) {σ : L2.St} {H : Hp} {Q : Bool → Hp → Prop} (q : t σ H Q) : wpT X e σ H Q := fun pins s I => h.run pins s σ H Q I q
theorem pwR {e : Expr} {t : TT} (h : PW X e t) {σ : L2.St} {H : Hp} {Q : Bool → Hp → Prop} (q : t σ H Q) : wpW X e σ H Q := fun w pins s I => h.run w pins s σ H Q I q
theorem paR {es : List Expr} {t : TA} (h : PA X es t) {σ : L2.St} {H : Hp} {Q : List V → Hp → Prop} (q : t σ H Q) : wpA X es σ H Q := fun pos pins s I => h.run pos pins s σ H Q I q
theorem psR {st : Stmt} {t : TS} (h : PS X st t) {σ : L2.St} {H : Hp} {D : Ends} (q : t D σ H) : wpS X st D σ H := fun pins s I => h.run pins s σ H D I q
theorem pssR {st : List Stmt} {t : TS} (h : PSs X st t) {σ : L2.St} {H : Hp} {D : Ends} (q : t D σ H) : wpSs X st D σ H := fun pins s I => h.run pins s σ H D I q
theorem pgR {tg : Expr} {t : TG} (h : PG X tg t) {σ : L2.St} {H : Hp} {v : V} {Q : L2.St → Hp → Prop} (q : t v σ H Q) : wpG X tg v σ H Q := fun pins s u I r => h.run pins s σ H v u Q I r q
theorem piR {tg e : Expr} {t : TI} (h : PI X tg e t) {σ : L2.St} {H : Hp} {R : It → Hp → Prop} (q : t σ H R) : wpI X tg e σ H R := fun pins s I => h.run pins s σ H R I q
end

/-! the frozen and the own, to be read -/
def ovl (F H : Hp) : Hp := fun a => match F a with
  | some o => some o
  | none => H a
theorem ovl_some {F H : Hp} {a : Addr} {o : HO} (h : F a = some o) : ovl F H a = some o := by unfold ovl; rw [h]
theorem ovl_none {F H : Hp} {a : Addr} (h : F a = none) : ovl F H a = H a := by unfold ovl; rw [h]
theorem ovl_inc {F H : Hp} : Inc F (ovl F H) := fun _ _ h => ovl_some h
theorem ovl_sub {F H : Hp} (s : Sub F H) : Sub (ovl F H) H := fun a o h => by
  cases q : F a with
  | none => rw [ovl_none q] at h; exact .inl h
  | some u =>
    rw [ovl_some q] at h
    have e : u = o := Option.some.inj h
    rw [← e]; exact s a u q
theorem ovl_step {F H F' H' : Hp} (t : St0 F H F' H') : Inc (ovl F H) (ovl F' H') := fun a o h => by
  cases q : F a with
  | none =>
    rw [ovl_none q] at h
    have h2 := t.inc a o h
    rcases t.n a (nn h) q with z | ⟨ks, z⟩
    · rw [ovl_none z]; exact h2
    · cases q2 : F' a with
      | none => rw [ovl_none q2]; exact h2
      | some u =>
        rw [ovl_some q2]
        rw [h2] at z
        rcases t.e a u q2 with w | ⟨d, ob, w⟩
        · rw [h2] at w; exact w.symm
        · rw [h2, z] at w; cases w
  | some u =>
    rw [ovl_some q] at h
    rw [ovl_some (t.f a u q)]; exact h

/-! judgements: frozen, new and own, read, a test -/
structure FJ (X : Cx) (es : List En) (e : Expr) {α : Type} [Rp α] (x : α) : Prop where
  run : ∀ (f : Fr) (σ : L2.St) (F H : Hp), Sw X.K f es σ F H → ∀ Q : VK, (∀ v F' H', St0 F H F' H' → Rp.rep X.K F' v x → Q v H') → wpE X e σ H Q
instance {X : Cx} {es : List En} {e : Expr} {α : Type} [Rp α] {x : α} : CoeFun (FJ X es e x) (fun _ => ∀ (f : Fr) (σ : L2.St) (F H : Hp), Sw X.K f es σ F H → ∀ Q : VK, (∀ v F' H', St0 F H F' H' → Rp.rep X.K F' v x → Q v H') → wpE X e σ H Q) := ⟨FJ.run⟩
structure NJ (X : Cx) (es : List En) (e : Expr) {α : Type} [Ow α] (x : α) : Prop where
  run : ∀ (f : Fr) (σ : L2.St) (F H : Hp), Sw X.K f es σ F H → ∀ Q : VK, (∀ v F' H' P, St0 F H F' H' → Ow.own X.K F' H' v x P → P.Nodup → (∀ p ∈ P, H p = none) → Q v H') → wpE X e σ H Q
instance {X : Cx} {es : List En} {e : Expr} {α : Type} [Ow α] {x : α} : CoeFun (NJ X es e x) (fun _ => ∀ (f : Fr) (σ : L2.St) (F H : Hp), Sw X.K f es σ F H → ∀ Q : VK, (∀ v F' H' P, St0 F H F' H' → Ow.own X.K F' H' v x P → P.Nodup → (∀ p ∈ P, H p = none) → Q v H') → wpE X e σ H Q) := ⟨NJ.run⟩
structure RJ (X : Cx) (es : List En) (e : Expr) {α : Type} [Rp α] (x : α) : Prop where
  run : ∀ (f : Fr) (σ : L2.St) (F H : Hp), Sw X.K f es σ F H → ∀ Q : VK, (∀ v F' H', St0 F H F' H' → Rp.rep X.K (ovl F' H') v x → Q v H') → wpE X e σ H Q
instance {X : Cx} {es : List En} {e : Expr} {α : Type} [Rp α] {x : α} : CoeFun (RJ X es e x) (fun _ => ∀ (f : Fr) (σ : L2.St) (F H : Hp), Sw X.K f es σ F H → ∀ Q : VK, (∀ v F' H', St0 F H F' H' → Rp.rep X.K (ovl F' H') v x → Q v H') → wpE X e σ H Q) := ⟨RJ.run⟩
structure TJ (X : Cx) (es : List En) (e : Expr) (b : Bool) : Prop where
  run : ∀ (f : Fr) (σ : L2.St) (F H : Hp), Sw X.K f es σ F H → ∀ Q : Bool → Hp → Prop, (∀ F' H', St0 F H F' H' → Q b H') → wpT X e σ H Q
instance {X : Cx} {es : List En} {e : Expr} {b : Bool} : CoeFun (TJ X es e b) (fun _ => ∀ (f : Fr) (σ : L2.St) (F H : Hp), Sw X.K f es σ F H → ∀ Q : Bool → Hp → Prop, (∀ F' H', St0 F H F' H' → Q b H') → wpT X e σ H Q) := ⟨TJ.run⟩
structure WJ (X : Cx) (es : List En) (e : Expr) (b : Bool) : Prop where
  run : ∀ (f : Fr) (σ : L2.St) (F H : Hp), Sw X.K f es σ F H → ∀ Q : Bool → Hp → Prop, (∀ F' H', St0 F H F' H' → Q b H') → wpW X e σ H Q
instance {X : Cx} {es : List En} {e : Expr} {b : Bool} : CoeFun (WJ X es e b) (fun _ => ∀ (f : Fr) (σ : L2.St) (F H : Hp), Sw X.K f es σ F H → ∀ Q : Bool → Hp → Prop, (∀ F' H', St0 F H F' H' → Q b H') → wpW X e σ H Q) := ⟨WJ.run⟩
/-! the own slots may change: es' is left -/
structure XJ (X : Cx) (es : List En) (e : Expr) {α : Type} [Rp α] (x : α) (es' : List En) : Prop where
  run : ∀ (f : Fr) (σ : L2.St) (F H : Hp), Sw X.K f es σ F H → ∀ Q : VK, (∀ v F' H', Sw X.K f es' σ F' H' → Inc F F' → Rp.rep X.K F' v x → Q v H') → wpE X e σ H Q
instance {X : Cx} {es : List En} {e : Expr} {α : Type} [Rp α] {x : α} {es' : List En} : CoeFun (XJ X es e x es') (fun _ => ∀ (f : Fr) (σ : L2.St) (F H : Hp), Sw X.K f es σ F H → ∀ Q : VK, (∀ v F' H', Sw X.K f es' σ F' H' → Inc F F' → Rp.rep X.K F' v x → Q v H') → wpE X e σ H Q) := ⟨XJ.run⟩
structure YJ (X : Cx) (es : List En) (e : Expr) {α : Type} [Ow α] (x : α) (es' : List En) : Prop where
  run : ∀ (f : Fr) (σ : L2.St) (F H : Hp), Sw X.K f es σ F H → ∀ Q : VK, (∀ v F' H' P Ps, Stp f F' H' → EnvP X.K f es' σ F' H' Ps → Inc F F' → Ow.own X.K F' H' v x P → P.Nodup → (∀ p ∈ P, f.H p = none) → (∀ j, j < es'.length → ∀ p ∈ P, p ∉ Ps j) → Q v H') → wpE X e σ H Q
instance {X : Cx} {es : List En} {e : Expr} {α : Type} [Ow α] {x : α} {es' : List En} : CoeFun (YJ X es e x es') (fun _ => ∀ (f : Fr) (σ : L2.St) (F H : Hp), Sw X.K f es σ F H → ∀ Q : VK, (∀ v F' H' P Ps, Stp f F' H' → EnvP X.K f es' σ F' H' Ps → Inc F F' → Ow.own X.K F' H' v x P → P.Nodup → (∀ p ∈ P, f.H p = none) → (∀ j, j < es'.length → ∀ p ∈ P, p ∉ Ps j) → Q v H') → wpE X e σ H Q) := ⟨YJ.run⟩
structure XT (X : Cx) (es : List En) (e : Expr) (b : Bool) (es' : List En) : Prop where
  run : ∀ (f : Fr) (σ : L2.St) (F H : Hp), Sw X.K f es σ F H → ∀ Q : Bool → Hp → Prop, (∀ F' H', Sw X.K f es' σ F' H' → Inc F F' → Q b H') → wpT X e σ H Q
instance {X : Cx} {es : List En} {e : Expr} {b : Bool} {es' : List En} : CoeFun (XT X es e b es') (fun _ => ∀ (f : Fr) (σ : L2.St) (F H : Hp), Sw X.K f es σ F H → ∀ Q : Bool → Hp → Prop, (∀ F' H', Sw X.K f es' σ F' H' → Inc F F' → Q b H') → wpT X e σ H Q) := ⟨XT.run⟩
instance (priority := 300) rpOw {α : Type} [Ow α] : Rp α := Ow.rp

section
variable {X : Cx} {es es1 es2 : List En} {a b c e : Expr} {pos : Pos} {α β : Type}
/-! from one judgement to another -/
theorem FJ.x [Rp α] {x : α} (h : FJ X es e x) : XJ X es e x es := .mk fun f σ F H S Q q => h f σ F H S Q fun v F' H' t r => q v F' H' (S.step t) t.f r
theorem NJ.y [Ow α] {x : α} (h : NJ X es e x) : YJ X es e x es := .mk fun f σ F H S Q q => h f σ F H S Q fun v F' H' P t r hn hp => by
  obtain ⟨Ps, p⟩ := S.env
  exact q v F' H' P Ps (S.st.then0 t) (p.step t) t.f r hn (fun z hz => S.st.back (hp z hz)) fun j hj z hz k => (p.out hj z k).1 (hp z hz)
theorem TJ.x {b : Bool} (h : TJ X es e b) : XT X es e b es := .mk fun f σ F H S Q q => h f σ F H S Q fun F' H' t => q F' H' (S.step t) t.f
theorem FJ.rd [Rp α] {x : α} (h : FJ X es e x) : RJ X es e x := .mk fun f σ F H S Q q => h f σ F H S Q fun v F' H' t r => q v F' H' t (Rp.mono ovl_inc r)
theorem fzP_ovl {F H : Hp} {P : List Addr} (h : ∀ p ∈ P, F p = none) : Inc (fzP F H P) (ovl F H) := fun a o e => by
  by_cases q : a ∈ P
  · rw [fzP_in q] at e; rw [ovl_none (h a q)]; exact e
  · rw [fzP_out q] at e; exact ovl_some e
theorem NJ.rd [Ow α] {x : α} (h : NJ X es e x) : @RJ X es e α Ow.rp x := .mk fun f σ F H S Q q => h f σ F H S Q fun v F' H' P t r hn hp =>
  q v F' H' t (@Rp.mono α Ow.rp _ _ _ _ _ (fzP_ovl fun p z => (Ow.out r p z).2) (Ow.fzn r))
theorem NJ.frz [Ow α] {x : α} (h : NJ X es e x) : @FJ X es e α Ow.rp x := .mk fun f σ F H S Q q => h f σ F H S Q fun v F' H' P t r hn hp =>
  q v (fzP F' H' P) H' (t.freeze fun p z => ⟨(Ow.out r p z).2, hp p z⟩) (Ow.fzn r)
theorem RJ.sc [Sc α] {x : α} (h : RJ X es e x) : FJ X es e x := .mk fun f σ F H S Q q => h f σ F H S Q fun v F' H' t r => q v F' H' t r
theorem RJ.xs [Sc α] {x : α} (h : RJ X es e x) : XJ X es e x es := h.sc.x
theorem EnvP.frz {K : PySem.W.Frag} {f : Fr} {es : List En} {σ : L2.St} {F H : Hp} {Ps : Nat → List Addr} (q : EnvP K f es σ F H Ps) {P : List Addr} (hP : ∀ p ∈ P, F p = none) (hd : ∀ j, j < es.length → ∀ p ∈ P, p ∉ Ps j) : EnvP K f es σ (fzP F H P) H Ps := by
  have key : ∀ j, j < es.length → ∀ p ∈ Ps j, (fzP F H P) p = none := fun j hj p hp => by
    rw [fzP_out fun z => hd j hj p z hp]; exact (q.out hj p hp).2
  refine ⟨q.len, fun i e h => ?_, q.nd, q.dj, q.fr, q.nw, fun i j α r x h => ?_⟩
  · exact (q.ok i e h).but (fzP_inc hP) (fun _ _ => rfl) (key i (get_lt h))
  · obtain ⟨hj, v, Q, e1, hQ, o⟩ := q.al i j α r x h
    exact ⟨hj, v, Q, e1, hQ, Ow.mono (fzP_inc hP) (fun _ _ => rfl) (fun p hp => key j hj p (hQ p hp)) o⟩
theorem YJ.frz [Ow α] {x : α} (h : YJ X es e x es1) : @XJ X es e α Ow.rp x es1 := .mk fun f σ F H S Q q => h f σ F H S Q fun v F' H' P Ps st p i r hn hp hd => by
  have hP : ∀ z ∈ P, F' z = none := fun z hz => (Ow.out r z hz).2
  exact q v (fzP F' H' P) H' ⟨st.freeze fun z hz => ⟨hP z hz, hp z hz⟩, Ps, p.frz hP hd⟩ (i.trans (fzP_inc hP)) (Ow.fzn r)

/-! names, constants -/
theorem f_var {i : Nat} [Rp α] {x : α} (hv : PE X e (tVar i)) (h : es[i]? = some (.fz x) := by rfl) : FJ X es e x := .mk fun f σ F H S Q q => peR hv (by
  obtain ⟨v, e, r⟩ := S.fz h
  exact ⟨v, e, q v F H (St0.refl S.sub) r⟩)
theorem r_var {i : Nat} [Rp α] {x : α} (hv : PE X e (tVar i)) (h : es[i]? = some (.fz x) := by rfl) : RJ X es e x := (f_var hv h).rd
theorem o_var {i : Nat} [Ow α] {x : α} (hv : PE X e (tVar i)) (h : es[i]? = some (.ow x) := by rfl) : @RJ X es e α Ow.rp x := .mk fun f σ F H S Q q => peR hv (by
  obtain ⟨Ps, p⟩ := S.env
  obtain ⟨v, e, r⟩ := p.ok i _ h
  exact ⟨v, sl_of e, q _ F H (St0.refl S.sub) (@Rp.mono α Ow.rp _ _ _ _ _ (fzP_ovl fun p z => (Ow.out r p z).2) (Ow.fzn r))⟩)
theorem a_var {i : Nat} [Ow α] {x : α} {p : Addr} (hv : PE X e (tVar i)) (h : es[i]? = some (.at p x) := by rfl) : @RJ X es e α Ow.rp x := .mk fun f σ F H S Q q => peR hv (by
  obtain ⟨Ps, p⟩ := S.env
  obtain ⟨e, r⟩ := p.ok i _ h
  exact ⟨_, sl_of e, q _ F H (St0.refl S.sub) (@Rp.mono α Ow.rp _ _ _ _ _ (fzP_ovl fun p z => (Ow.out r p z).2) (Ow.fzn r))⟩)
theorem r_con [Sc α] {x : α} (hv : PE X e (tC (Sc.toV x))) (hz : Sc.ok x) : RJ X es e x := .mk fun f σ F H S Q q => peR hv (q _ F H (St0.refl S.sub) ⟨rfl, hz⟩)

/-! operators on scalars -/
variable {γ : Type} [Sc α] [Sc β] [Sc γ] {x : α} {y : β} {z : γ}
theorem r_bin {op : Operator} {r : R2} (ho : OpR X (binaryOp op) r) (hr : ∀ (H : Hp) (Q : VK), Q (Sc.toV z) H → r (Sc.toV x) (Sc.toV y) H Q) (hz : Sc.ok z) (ha : RJ X es a x) (hb : RJ X es b y) : RJ X es (.BinOp a op b pos) z := .mk fun f σ F H S Q q =>
  peR (pe_op ho peW peW) (ha f σ F H S _ fun v F1 H1 t1 r1 => hb f σ F1 H1 (S.step t1) _ fun w F2 H2 t2 r2 => by
    have e1 : v = Sc.toV x := r1.1
    have e2 : w = Sc.toV y := r2.1
    subst e1 e2
    exact hr H2 Q (q _ F2 H2 (t1.trans t2) ⟨rfl, hz⟩))
theorem x_bin {op : Operator} {r : R2} (ho : OpR X (binaryOp op) r) (hr : ∀ (H : Hp) (Q : VK), Q (Sc.toV z) H → r (Sc.toV x) (Sc.toV y) H Q) (hz : Sc.ok z) (ha : XJ X es a x es1) (hb : XJ X es1 b y es2) : XJ X es (.BinOp a op b pos) z es2 := .mk fun f σ F H S Q q =>
  peR (pe_op ho peW peW) (ha f σ F H S _ fun v F1 H1 S1 i1 r1 => hb f σ F1 H1 S1 _ fun w F2 H2 S2 i2 r2 => by
    have e1 : v = Sc.toV x := r1.1
    have e2 : w = Sc.toV y := r2.1
    subst e1 e2
    exact hr H2 Q (q _ F2 H2 S2 (i1.trans i2) ⟨rfl, hz⟩))
theorem r_cmp {op : CmpOp} {r : R2} (ho : OpR X (compareOp op) r) (hr : ∀ (H : Hp) (Q : VK), Q (Sc.toV z) H → r (Sc.toV x) (Sc.toV y) H Q) (hz : Sc.ok z) (ha : RJ X es a x) (hb : RJ X es b y) (hm : behindInMarks op b = false := by first | exact nomark _ | rfl) : RJ X es (.Compare a [op] [b] pos) z := .mk fun f σ F H S Q q =>
  peR (pe_cmpR ho peW peW hm) (ha f σ F H S _ fun v F1 H1 t1 r1 => hb f σ F1 H1 (S.step t1) _ fun w F2 H2 t2 r2 => by
    have e1 : v = Sc.toV x := r1.1
    have e2 : w = Sc.toV y := r2.1
    subst e1 e2
    exact hr H2 Q (q _ F2 H2 (t1.trans t2) ⟨rfl, hz⟩))
theorem x_cmp {op : CmpOp} {r : R2} (ho : OpR X (compareOp op) r) (hr : ∀ (H : Hp) (Q : VK), Q (Sc.toV z) H → r (Sc.toV x) (Sc.toV y) H Q) (hz : Sc.ok z) (ha : XJ X es a x es1) (hb : XJ X es1 b y es2) (hm : behindInMarks op b = false := by first | exact nomark _ | rfl) : XJ X es (.Compare a [op] [b] pos) z es2 := .mk fun f σ F H S Q q =>
  peR (pe_cmpR ho peW peW hm) (ha f σ F H S _ fun v F1 H1 S1 i1 r1 => hb f σ F1 H1 S1 _ fun w F2 H2 S2 i2 r2 => by
    have e1 : v = Sc.toV x := r1.1
    have e2 : w = Sc.toV y := r2.1
    subst e1 e2
    exact hr H2 Q (q _ F2 H2 S2 (i1.trans i2) ⟨rfl, hz⟩))
end
end Ly
namespace Ly
open PySem PySem.Spec PyProof.Rows L2
instance : Inhabited Str := ⟨⟨#[]⟩⟩
def getI {α : Type} [Inhabited α] (xs : List α) (i : Int) : α := (atI xs i).getD default
def okI {α : Type} (xs : List α) (i : Int) : Prop := (atI xs i).isSome = true
theorem getI_ok {α : Type} [Inhabited α] {xs : List α} {i : Int} (h : okI xs i) : atI xs i = some (getI xs i) := by
  unfold getI
  cases e : atI xs i with
  | none => unfold okI at h; rw [e] at h; cases h
  | some x => rfl
/-- one sign -/
def sgn (c : Nat) : Str := ⟨#[c]⟩
def chI (z : Str) (i : Int) : Str := sgn ((atI z.cps.toList i).getD 0)
def okC (z : Str) (i : Int) : Prop := (atI z.cps.toList i).isSome = true
class ScE (α : Type) [Sc α] [DecidableEq α] : Prop where
  sc : ∀ x y : α, scal (Sc.toV x) (Sc.toV y) = true
  inj : ∀ x y : α, Sc.toV x = Sc.toV y → x = y
instance : ScE Int := ⟨fun _ _ => rfl, fun _ _ h => by injection h⟩
instance : ScE Bool := ⟨fun _ _ => rfl, fun _ _ h => by injection h⟩
instance : ScE Str := ⟨fun _ _ => rfl, fun _ _ h => by injection h⟩
theorem ScE.dec {α : Type} [Sc α] [DecidableEq α] [ScE α] (x y : α) : decide (Sc.toV x = Sc.toV y) = decide (x = y) := by
  by_cases e : x = y
  · subst e; simp
  · rw [decide_eq_false e, decide_eq_false fun h => e (ScE.inj x y h)]

section
variable {X : Cx} {es es1 es2 : List En} {a b c e : Expr} {pos : Pos} {α β : Type} {x y : Int}
theorem r_int {i : Int} {j} : RJ X es (.Constant (.int i) j pos) i := r_con pe_int True.intro
theorem r_str {z : Str} {j} (hz : sOk z := by decide) : RJ X es (.Constant (.str z) j pos) z := r_con pe_str hz
theorem r_bl {z : Bool} {j} : RJ X es (.Constant (.bool z) j pos) z := r_con pe_bl True.intro
theorem r_non {j} : RJ X es (.Constant .none j pos) () := r_con pe_non True.intro
theorem r_add (ha : RJ X es a x) (hb : RJ X es b y) : RJ X es (.BinOp a .Add b pos) (x + y) := r_bin op_add (fun _ _ q => ⟨x, y, rfl, rfl, q⟩) True.intro ha hb
theorem r_sub (ha : RJ X es a x) (hb : RJ X es b y) : RJ X es (.BinOp a .Sub b pos) (x - y) := r_bin op_sub (fun _ _ q => ⟨x, y, rfl, rfl, q⟩) True.intro ha hb
theorem r_mul (hc : CMul x y) (ha : RJ X es a x) (hb : RJ X es b y) : RJ X es (.BinOp a .Mult b pos) (x * y) := r_bin op_mul (fun _ _ q => ⟨x, y, rfl, rfl, hc, q⟩) True.intro ha hb
theorem r_mod (hc : 0 < y) (ha : RJ X es a x) (hb : RJ X es b y) : RJ X es (.BinOp a .Mod b pos) (x % y) := r_bin op_mod (fun _ _ q => ⟨x, y, rfl, rfl, hc, q⟩) True.intro ha hb
theorem r_div (hc : CDivW x y) (ha : RJ X es a x) (hb : RJ X es b y) : RJ X es (.BinOp a .FloorDiv b pos) (x / y) := r_bin op_fdivW (fun _ _ q => ⟨x, y, rfl, rfl, hc, q⟩) True.intro ha hb
theorem r_pow (hc : CPow x y) (ha : RJ X es a x) (hb : RJ X es b y) : RJ X es (.BinOp a .Pow b pos) (x ^ y.toNat) := r_bin op_pow (fun _ _ q => ⟨x, y, rfl, rfl, hc, q⟩) True.intro ha hb
theorem x_add (ha : XJ X es a x es1) (hb : XJ X es1 b y es2) : XJ X es (.BinOp a .Add b pos) (x + y) es2 := x_bin op_add (fun _ _ q => ⟨x, y, rfl, rfl, q⟩) True.intro ha hb
theorem x_mul (hc : CMul x y) (ha : XJ X es a x es1) (hb : XJ X es1 b y es2) : XJ X es (.BinOp a .Mult b pos) (x * y) es2 := x_bin op_mul (fun _ _ q => ⟨x, y, rfl, rfl, hc, q⟩) True.intro ha hb
theorem r_gt (ha : RJ X es a x) (hb : RJ X es b y) : RJ X es (.Compare a [.Gt] [b] pos) (decide (x > y)) := r_cmp op_gt (fun _ _ q => ⟨x, y, rfl, rfl, q⟩) True.intro ha hb
theorem r_eq [Sc α] [DecidableEq α] [ScE α] {x y : α} (ha : RJ X es a x) (hb : RJ X es b y) : RJ X es (.Compare a [.Eq] [b] pos) (decide (x = y)) := r_cmp op_eq (fun _ Q q => ⟨ScE.sc x y, by rw [ScE.dec]; exact q⟩) True.intro ha hb
theorem r_ne [Sc α] [DecidableEq α] [ScE α] {x y : α} (ha : RJ X es a x) (hb : RJ X es b y) : RJ X es (.Compare a [.NotEq] [b] pos) (!decide (x = y)) := r_cmp op_ne (fun _ Q q => ⟨ScE.sc x y, by rw [ScE.dec]; exact q⟩) True.intro ha hb
theorem x_eq [Sc α] [DecidableEq α] [ScE α] {x y : α} (ha : XJ X es a x es1) (hb : XJ X es1 b y es2) : XJ X es (.Compare a [.Eq] [b] pos) (decide (x = y)) es2 := x_cmp op_eq (fun _ Q q => ⟨ScE.sc x y, by rw [ScE.dec]; exact q⟩) True.intro ha hb
/-! texts -/
theorem str_len (z w : Str) : (z ++ w).length = z.length + w.length := by
  show (z.cps ++ w.cps).size = z.cps.size + w.cps.size
  exact Array.size_append
theorem sOk_cat {z w : Str} (h : (z ++ w).length ≤ sbig) (hz : sOk z) (hw : sOk w) : sOk (z ++ w) := ⟨h, fun c hc => by
  have e : (z ++ w).cps.toList = z.cps.toList ++ w.cps.toList := by
    show (z.cps ++ w.cps).toList = _
    exact Array.toList_append
  rw [e] at hc
  rcases List.mem_append.mp hc with k | k
  · exact hz.2 c k
  · exact hw.2 c k⟩
theorem sOk_sgn {z : Str} (h : sOk z) {c : Nat} (hc : c ∈ z.cps.toList) : sOk (sgn c) := ⟨show 1 ≤ sbig by decide, fun d hd => by
  have e : d = c := by simpa [sgn] using hd
  rw [e]; exact h.2 c hc⟩
theorem x_cat {z w : Str} (hc : (z ++ w).length ≤ sbig) (ha : XJ X es a z es1) (hb : XJ X es1 b w es2) : XJ X es (.BinOp a .Add b pos) (z ++ w) es2 := .mk fun f σ F H S Q q =>
  peR (pe_op op_add_str peW peW) (ha f σ F H S _ fun v F1 H1 S1 i1 r1 => hb f σ F1 H1 S1 _ fun u F2 H2 S2 i2 r2 =>
    ⟨z, w, r1.1, r2.1, by rw [← str_len]; exact Nat.le_trans hc (by decide), q _ F2 H2 S2 (i1.trans i2) ⟨rfl, sOk_cat hc r1.2 r2.2⟩⟩)
/-! a call of a built-in with one, two arguments -/
theorem r_call1 {id : String} {n : Str} {r : List V → Hp → VK → Prop} [Rp α] [Rp β] {x : α} {y : β} (hc : CallR X (.builtin id) r) (hg : Gl X n) (hm : X.mg n = none) (hv : bootBuiltins n = some (.builtin id))
    (hr : ∀ (F H : Hp) (v : V) (Q : VK), Sub F H → Rp.rep X.K (ovl F H) v x → (∀ w F' H', St0 F H F' H' → Rp.rep X.K (ovl F' H') w y → Q w H') → r [v] H Q) (ha : RJ X es a x) (hn : n ≠ "__name__" := by decide) (hdb : (n == ("__debug__" : Str)) = false := by decide) (s1 : starEach [a] X.env = (false, eval a X.env) :: starEach [] X.env := by rfl) {p : Pos} : RJ X es (.Call (.Name n p) [a] [] pos) y := .mk fun f σ F H S Q q =>
  peR (pe_callB hc hg hm hv (pa_cons peW pa_nil s1) hn hdb s1) (ha f σ F H S _ fun v F1 H1 t1 r1 => hr F1 H1 v Q t1.sub r1 fun w F2 H2 t2 r2 => q w F2 H2 (t1.trans t2) r2)
theorem r_callT1 {T : String} {n : Str} {r : List V → Hp → VK → Prop} [Rp α] [Rp β] {x : α} {y : β} (hc : CallR X (.type T) r) (hg : Gl X n) (hm : X.mg n = none) (hv : bootBuiltins n = some (.type T))
    (hr : ∀ (F H : Hp) (v : V) (Q : VK), Sub F H → Rp.rep X.K (ovl F H) v x → (∀ w F' H', St0 F H F' H' → Rp.rep X.K (ovl F' H') w y → Q w H') → r [v] H Q) (ha : RJ X es a x) (hn : n ≠ "__name__" := by decide) (hdb : (n == ("__debug__" : Str)) = false := by decide) (s1 : starEach [a] X.env = (false, eval a X.env) :: starEach [] X.env := by rfl) {p : Pos} : RJ X es (.Call (.Name n p) [a] [] pos) y := .mk fun f σ F H S Q q =>
  peR (pe_callTy hc hg hm hv (pa_cons peW pa_nil s1) hn hdb s1) (ha f σ F H S _ fun v F1 H1 t1 r1 => hr F1 H1 v Q t1.sub r1 fun w F2 H2 t2 r2 => q w F2 H2 (t1.trans t2) r2)
/-- two scalars -/
theorem r_call2 {id : String} {n : Str} {r : List V → Hp → VK → Prop} {γ : Type} [Sc α] [Sc β] [Sc γ] {x : α} {y : β} {z : γ} (hc : CallR X (.builtin id) r) (hg : Gl X n) (hm : X.mg n = none) (hv : bootBuiltins n = some (.builtin id))
    (hr : ∀ (H : Hp) (Q : VK), Q (Sc.toV z) H → r [Sc.toV x, Sc.toV y] H Q) (hz : Sc.ok z) (ha : RJ X es a x) (hb : RJ X es b y) (hn : n ≠ "__name__" := by decide) (hdb : (n == ("__debug__" : Str)) = false := by decide) (s1 : starEach [a, b] X.env = (false, eval a X.env) :: starEach [b] X.env := by rfl) (s2 : starEach [b] X.env = (false, eval b X.env) :: starEach [] X.env := by rfl) (s3 : (backTo pos (starEach [b] X.env)).any (·.1) = false := by rfl) {p : Pos} : RJ X es (.Call (.Name n p) [a, b] [] pos) z := .mk fun f σ F H S Q q =>
  peR (pe_callB hc hg hm hv (pa_cons peW (pa_cons peW pa_nil s2) s1) hn hdb s1 s3) (ha f σ F H S _ fun v F1 H1 t1 r1 => hb f σ F1 H1 (S.step t1) _ fun w F2 H2 t2 r2 => by
    have e1 : v = Sc.toV x := r1.1
    have e2 : w = Sc.toV y := r2.1
    subst e1 e2
    exact hr H2 Q (q _ F2 H2 (t1.trans t2) ⟨rfl, hz⟩))
theorem r_max2 (hk : X.calm = true) (hg : Gl X "max") (hm : X.mg "max" = none) (ha : RJ X es a x) (hb : RJ X es b y) (s1 : starEach [a, b] X.env = (false, eval a X.env) :: starEach [b] X.env := by rfl) (s2 : starEach [b] X.env = (false, eval b X.env) :: starEach [] X.env := by rfl) (s3 : (backTo pos (starEach [b] X.env)).any (·.1) = false := by rfl) {p : Pos} : RJ X es (.Call (.Name "max" p) [a, b] [] pos) (if y > x then y else x) :=
  r_call2 (call_max2 hk) hg hm (by decide +kernel) (fun _ _ q => ⟨x, y, rfl, q⟩) True.intro ha hb (by decide) (by decide) s1 s2 s3
theorem r_min2 (hk : X.calm = true) (hg : Gl X "min") (hm : X.mg "min" = none) (ha : RJ X es a x) (hb : RJ X es b y) (s1 : starEach [a, b] X.env = (false, eval a X.env) :: starEach [b] X.env := by rfl) (s2 : starEach [b] X.env = (false, eval b X.env) :: starEach [] X.env := by rfl) (s3 : (backTo pos (starEach [b] X.env)).any (·.1) = false := by rfl) {p : Pos} : RJ X es (.Call (.Name "min" p) [a, b] [] pos) (if y < x then y else x) :=
  r_call2 (call_min2 hk) hg hm (by decide +kernel) (fun _ _ q => ⟨x, y, rfl, q⟩) True.intro ha hb (by decide) (by decide) s1 s2 s3
theorem r_intB (hg : Gl X "int") (hm : X.mg "int" = none) {k : Bool} (ha : RJ X es a k) (s1 : starEach [a] X.env = (false, eval a X.env) :: starEach [] X.env := by rfl) {p : Pos} : RJ X es (.Call (.Name "int" p) [a] [] pos) (if k then (1 : Int) else 0) :=
  r_callT1 (α := Bool) (β := Int) call_int1 hg hm (by decide +kernel) (by intro F H v Q s r q; exact .inr ⟨k, by rw [show v = V.bl k from r.1], q _ F H (St0.refl s) ⟨rfl, True.intro⟩⟩) ha (by decide) (by decide) s1
theorem r_lenS (hg : Gl X "len") (hm : X.mg "len" = none) {z : Str} (ha : RJ X es a z) (s1 : starEach [a] X.env = (false, eval a X.env) :: starEach [] X.env := by rfl) {p : Pos} : RJ X es (.Call (.Name "len" p) [a] [] pos) (z.length : Int) :=
  r_call1 (α := Str) (β := Int) call_len_str hg hm (by decide +kernel) (by intro F H v Q s r q; exact ⟨z, by rw [show v = V.str z from r.1], r.2.line, q _ F H (St0.refl s) ⟨rfl, True.intro⟩⟩) ha (by decide) (by decide) s1
/-! lists read -/
theorem repL [Rp α] {K : PySem.W.Frag} {F H : Hp} {v : V} {xs : List α} (s : Sub F H) (r : Rp.rep K F v xs) : ∃ p vs, v = .ref p ∧ H p = some (.lst vs) ∧ F p = some (.lst vs) ∧ Paired (Rp.rep K F) vs xs := by
  obtain ⟨p, o, e, h, _, vs, eo, r⟩ := r
  subst eo
  exact ⟨p, vs, e, (s p _ h).nd fun z => z, h, r⟩
theorem repLen [Rp α] {K : PySem.W.Frag} {F : Hp} {v : V} {xs : List α} (r : Rp.rep K F v xs) : xs.length ≤ big := by
  obtain ⟨p, o, e, h, z, _⟩ := r
  exact z
theorem pairedLen {γ δ : Type} {R : γ → δ → Prop} : ∀ {xs : List γ} {ys : List δ}, Paired R xs ys → xs.length = ys.length
  | _, _, .nil => rfl
  | _, _, .cons _ t => by simp [pairedLen t]
theorem pairedGet {γ δ : Type} {R : γ → δ → Prop} : ∀ {xs : List γ} {ys : List δ} {i : Nat} {y : δ}, Paired R xs ys → ys[i]? = some y → ∃ x, xs[i]? = some x ∧ R x y
  | _, _, _, _, .nil, e => by simp at e
  | _, _, 0, _, .cons r _, e => by simp at e; subst e; exact ⟨_, rfl, r⟩
  | _, _, i + 1, y, .cons _ t, e => by
    obtain ⟨u, h1, h2⟩ := pairedGet (i := i) (y := y) t (by simpa using e)
    exact ⟨u, by simpa using h1, h2⟩
theorem pairedAt {γ δ : Type} {R : γ → δ → Prop} {xs : List γ} {ys : List δ} {i : Int} {y : δ} (h : Paired R xs ys) (e : atI ys i = some y) : ∃ x, atI xs i = some x ∧ R x y := by
  unfold atI at e ⊢
  rw [pairedLen h]
  cases q : ixN ys.length i with
  | none => rw [q] at e; cases e
  | some j =>
    rw [q] at e
    exact pairedGet h e
theorem pairedMap {γ δ : Type} {R : γ → δ → Prop} {f : δ → γ} (h : ∀ x y, R x y → x = f y) : ∀ {xs : List γ} {ys : List δ}, Paired R xs ys → xs = ys.map f
  | _, _, .nil => rfl
  | _, _, .cons r t => by rw [List.map_cons, h _ _ r, pairedMap h t]
theorem scMap [Sc α] {K : PySem.W.Frag} {F : Hp} {vs : List V} {xs : List α} (h : Paired (Rp.rep K F) vs xs) : vs = xs.map Sc.toV := pairedMap (fun _ _ r => r.1) h
theorem okSc [Sc α] {K : PySem.W.Frag} {F : Hp} : ∀ {vs : List V} {xs : List α}, Paired (Rp.rep K F) vs xs → ∀ x ∈ xs, Sc.ok x
  | _, _, .nil, x, h => by cases h
  | _, _, .cons r t, x, h => by
    rcases List.mem_cons.mp h with e | e
    · rw [e]; exact r.2
    · exact okSc t x e
theorem mapSc [Sc α] {K : PySem.W.Frag} {F : Hp} : ∀ (xs : List α), (∀ x ∈ xs, Sc.ok x) → Paired (Rp.rep K F) (xs.map Sc.toV) xs
  | [], _ => .nil
  | x :: xs, h => .cons ⟨rfl, h x List.mem_cons_self⟩ (mapSc xs fun y hy => h y (List.mem_cons_of_mem _ hy))
theorem r_len [Rp α] {xs : List α} (hg : Gl X "len") (hm : X.mg "len" = none) (ha : RJ X es a xs) (s1 : starEach [a] X.env = (false, eval a X.env) :: starEach [] X.env := by rfl) {p : Pos} : RJ X es (.Call (.Name "len" p) [a] [] pos) (xs.length : Int) :=
  r_call1 (α := List α) (β := Int) call_len_seq hg hm (by decide +kernel) (fun F H v Q s r q => by
    obtain ⟨p, vs, e, h, _, rr⟩ := repL (ovl_sub s) r
    subst e
    refine ⟨p, vs, rfl, .inl (.inl (.inl h)), ?_⟩
    rw [pairedLen rr]
    exact q _ F H (St0.refl s) ⟨rfl, True.intro⟩) ha (by decide) (by decide) s1
/-- x in xs, both flat -/
class Fl1 (α : Type) [Sc α] [DecidableEq α] : Prop where
  flat : ∀ x : α, flatV (Sc.toV x) = true
  eq : ∀ x y : α, eqV (Sc.toV x) (Sc.toV y) = decide (x = y)
instance : Fl1 Str := ⟨fun _ => rfl, fun x y => by show (x == y) = _; exact Bool.beq_eq_decide_eq x y⟩
instance : Fl1 Int := ⟨fun _ => rfl, fun x y => by show (x == y) = _; exact Bool.beq_eq_decide_eq x y⟩
theorem inV_eq [Sc α] [DecidableEq α] [Fl1 α] (x : α) : ∀ xs : List α, inV (Sc.toV x) (xs.map Sc.toV) = decide (x ∈ xs)
  | [] => by simp [inV]
  | y :: ys => by
    have h := inV_eq x ys
    unfold inV at h ⊢
    rw [List.map_cons, List.any_cons, h, Fl1.eq, Bool.eq_iff_iff]
    simp only [Bool.or_eq_true, decide_eq_true_eq, List.mem_cons]
    exact ⟨fun h => h.elim (fun e => .inl e.symm) .inr, fun h => h.elim (fun e => .inl e.symm) .inr⟩
theorem r_nin [Sc α] [DecidableEq α] [Fl1 α] {x : α} {xs : List α} (ha : RJ X es a x) (hb : RJ X es b xs) (hm : behindInMarks .NotIn b = false := by rfl) : RJ X es (.Compare a [.NotIn] [b] pos) (!decide (x ∈ xs)) := .mk fun f σ F H S Q q =>
  peR (pe_cmpR op_notIn_seq peW peW hm) (ha f σ F H S _ fun v F1 H1 t1 r1 => hb f σ F1 H1 (S.step t1) _ fun w F2 H2 t2 r2 => by
    have e1 : v = Sc.toV x := r1.1
    subst e1
    obtain ⟨p, vs, e, h, _, rr⟩ := repL (ovl_sub t2.sub) r2
    rw [scMap rr] at h
    refine ⟨p, _, e, .inl (.inl (.inl h)), Fl1.flat x, by simp [Fl1.flat], ?_⟩
    show Q (.bl (!inV (Sc.toV x) (xs.map Sc.toV))) H2
    rw [inV_eq]
    exact q _ F2 H2 (t1.trans t2) ⟨rfl, True.intro⟩)
/-! an item -/
theorem f_ix [Rp α] [Inhabited α] {xs : List α} {i : Int} (ho : okI xs i) (ha : FJ X es a xs) (hb : RJ X es b i) (hs : PlainIx b := by exact fun _ _ => rfl) : FJ X es (.Subscript a b pos) (getI xs i) := .mk fun f σ F H S Q q =>
  peR (pe_ix ix_list peW peW hs) (ha f σ F H S _ fun v F1 H1 t1 r1 => hb f σ F1 H1 (S.step t1) _ fun w F2 H2 t2 r2 => by
    have e2 : w = V.int i := r2.1
    subst e2
    obtain ⟨p, vs, e, h, hf, rr⟩ := repL t2.sub (Rp.mono t2.f r1)
    obtain ⟨z, hz, rz⟩ := pairedAt rr (getI_ok ho)
    exact ⟨p, vs, i, z, e, rfl, .inl (.inl h), hz, q _ F2 H2 (t1.trans t2) rz⟩)
theorem r_ix [Rp α] [Inhabited α] {xs : List α} {i : Int} (ho : okI xs i) (ha : RJ X es a xs) (hb : RJ X es b i) (hs : PlainIx b := by exact fun _ _ => rfl) : RJ X es (.Subscript a b pos) (getI xs i) := .mk fun f σ F H S Q q =>
  peR (pe_ix ix_list peW peW hs) (ha f σ F H S _ fun v F1 H1 t1 r1 => hb f σ F1 H1 (S.step t1) _ fun w F2 H2 t2 r2 => by
    have e2 : w = V.int i := r2.1
    subst e2
    obtain ⟨p, vs, e, h, hf, rr⟩ := repL (ovl_sub t2.sub) (Rp.mono (ovl_step t2) r1)
    obtain ⟨z, hz, rz⟩ := pairedAt rr (getI_ok ho)
    exact ⟨p, vs, i, z, e, rfl, .inl (.inl h), hz, q _ F2 H2 (t1.trans t2) rz⟩)
/-- the list frozen, the place by a step -/
theorem x_ix [Rp α] [Inhabited α] {xs : List α} {i : Int} (ho : okI xs i) (ha : XJ X es a xs es1) (hb : XJ X es1 b i es2) (hs : PlainIx b := by exact fun _ _ => rfl) : XJ X es (.Subscript a b pos) (getI xs i) es2 := .mk fun f σ F H S Q q =>
  peR (pe_ix ix_list peW peW hs) (ha f σ F H S _ fun v F1 H1 S1 i1 r1 => hb f σ F1 H1 S1 _ fun w F2 H2 S2 i2 r2 => by
    have e2 : w = V.int i := r2.1
    subst e2
    obtain ⟨p, vs, e, h, hf, rr⟩ := repL S2.sub (Rp.mono i2 r1)
    obtain ⟨z, hz, rz⟩ := pairedAt rr (getI_ok ho)
    exact ⟨p, vs, i, z, e, rfl, .inl (.inl h), hz, q _ F2 H2 S2 (i1.trans i2) rz⟩)
theorem atI_mem {xs : List α} {i : Int} {x : α} (h : atI xs i = some x) : x ∈ xs := by
  unfold atI at h
  cases q : ixN xs.length i with
  | none => rw [q] at h; cases h
  | some j => rw [q] at h; exact List.mem_of_getElem? h
theorem chI_ok {z : Str} {i : Int} (ho : okC z i) : atI z.cps.toList i = some ((atI z.cps.toList i).getD 0) := by
  cases e : atI z.cps.toList i with
  | none => unfold okC at ho; rw [e] at ho; cases ho
  | some c => rfl
theorem x_ixS {z : Str} {i : Int} (ho : okC z i) (ha : XJ X es a z es1) (hb : XJ X es1 b i es2) (hs : PlainIx b := by exact fun _ _ => rfl) : XJ X es (.Subscript a b pos) (chI z i) es2 := .mk fun f σ F H S Q q =>
  peR (pe_ix ix_str peW peW hs) (ha f σ F H S _ fun v F1 H1 S1 i1 r1 => hb f σ F1 H1 S1 _ fun w F2 H2 S2 i2 r2 =>
    ⟨z, i, (atI z.cps.toList i).getD 0, r1.1, r2.1, r1.2.line, chI_ok ho, q _ F2 H2 S2 (i1.trans i2) ⟨rfl, sOk_sgn r1.2 (atI_mem (chI_ok ho))⟩⟩)
/-! tests -/
theorem t_val {k : Bool} (h : RJ X es e k) (he : ∀ whole, isTrue e X.env whole = (do let v ← whole; standAt e.pos; holding [v] (truthy v)) := by intro _; rfl) : TJ X es e k := .mk fun f σ F H S Q q =>
  ptR (pt_val peW he) (h f σ F H S _ fun v F1 H1 t1 r1 => ⟨k, r1.1, q F1 H1 t1⟩)
theorem t_not {k : Bool} (h : TJ X es a k) : TJ X es (.UnaryOp .Not a pos) (!k) := .mk fun f σ F H S Q q =>
  ptR (pt_not ptW) (h f σ F H S _ fun F1 H1 t1 => q F1 H1 t1)
theorem w_t {k : Bool} (h : WJ X es e k) : TJ X es e k := .mk fun f σ F H S Q q => ptR (pwW (X := X) (e := e)).pt (h f σ F H S Q q)
theorem w_and1 {k : Bool} (h : TJ X es a k) : WJ X es (.BoolOp .And [a] pos) k := .mk fun f σ F H S Q q => pwR (pw_and1 ptW) (h f σ F H S Q q)
theorem w_or1 {k : Bool} (h : TJ X es a k) : WJ X es (.BoolOp .Or [a] pos) k := .mk fun f σ F H S Q q => pwR (pw_or1 ptW) (h f σ F H S Q q)
theorem w_and {rest : List Expr} {k l : Bool} (h : TJ X es a k) (h2 : k = true → WJ X es (.BoolOp .And (b :: rest) pos) l) : WJ X es (.BoolOp .And (a :: b :: rest) pos) (k && l) := .mk fun f σ F H S Q q =>
  pwR (pw_and ptW pwW) (h f σ F H S _ fun F1 H1 t1 => by
    cases k with
    | true => exact h2 rfl f σ F1 H1 (S.step t1) Q fun F2 H2 t2 => q F2 H2 (t1.trans t2)
    | false => exact q F1 H1 t1)
theorem w_or {rest : List Expr} {k l : Bool} (h : TJ X es a k) (h2 : k = false → WJ X es (.BoolOp .Or (b :: rest) pos) l) : WJ X es (.BoolOp .Or (a :: b :: rest) pos) (k || l) := .mk fun f σ F H S Q q =>
  pwR (pw_or ptW pwW) (h f σ F H S _ fun F1 H1 t1 => by
    cases k with
    | false => exact h2 rfl f σ F1 H1 (S.step t1) Q fun F2 H2 t2 => q F2 H2 (t1.trans t2)
    | true => exact q F1 H1 t1)
/-! and, or, not as values -/
theorem r_and1 {op} {k : Bool} (h : RJ X es a k) : RJ X es (.BoolOp op [a] pos) k := .mk fun f σ F H S Q q => peR (pe_one peW) (h f σ F H S Q q)
theorem r_and {rest : List Expr} {k l : Bool} (h : RJ X es a k) (h2 : k = true → RJ X es (.BoolOp .And (b :: rest) pos) l) : RJ X es (.BoolOp .And (a :: b :: rest) pos) (k && l) := .mk fun f σ F H S Q q =>
  peR (pe_and peW peW) (h f σ F H S _ fun v F1 H1 t1 r1 => ⟨k, r1.1, by
    cases k with
    | true => exact h2 rfl f σ F1 H1 (S.step t1) Q fun v F2 H2 t2 r2 => q v F2 H2 (t1.trans t2) r2
    | false => exact q _ F1 H1 t1 ⟨rfl, True.intro⟩⟩)
theorem r_or {rest : List Expr} {k l : Bool} (h : RJ X es a k) (h2 : k = false → RJ X es (.BoolOp .Or (b :: rest) pos) l) : RJ X es (.BoolOp .Or (a :: b :: rest) pos) (k || l) := .mk fun f σ F H S Q q =>
  peR (pe_or peW peW) (h f σ F H S _ fun v F1 H1 t1 r1 => ⟨k, r1.1, by
    cases k with
    | false => exact h2 rfl f σ F1 H1 (S.step t1) Q fun v F2 H2 t2 r2 => q v F2 H2 (t1.trans t2) r2
    | true => exact q _ F1 H1 t1 ⟨rfl, True.intro⟩⟩)
theorem r_not {k : Bool} (h : RJ X es a k) : RJ X es (.UnaryOp .Not a pos) (!k) := .mk fun f σ F H S Q q =>
  peR (pe_not peW) (h f σ F H S _ fun v F1 H1 t1 r1 => ⟨k, r1.1, q _ F1 H1 t1 ⟨rfl, True.intro⟩⟩)
theorem f_ife {t : Expr} {k : Bool} [Rp α] {x y : α} (h : TJ X es t k) (h1 : k = true → FJ X es a x) (h2 : k = false → FJ X es b y) : FJ X es (.IfExp t a b pos) (bif k then x else y) := .mk fun f σ F H S Q q =>
  peR (pe_ifExp ptW peW peW) (h f σ F H S _ fun F1 H1 t1 => by
    cases k with
    | true => exact h1 rfl f σ F1 H1 (S.step t1) Q fun v F2 H2 t2 r2 => q v F2 H2 (t1.trans t2) r2
    | false => exact h2 rfl f σ F1 H1 (S.step t1) Q fun v F2 H2 t2 r2 => q v F2 H2 (t1.trans t2) r2)
end
end Ly
namespace Ly
open PySem PySem.Spec PyProof.Rows L2
/-- how a body ends: on, with a value, out of the loop -/
inductive Fl (β ρ : Type) where
  | nx (y : β)
  | rt (r : ρ)
  | bk (y : β)
def Fl.elim {β ρ γ : Type} (m : Fl β ρ) (n : β → γ) (r : ρ → γ) : γ := match m with
  | .nx y => n y
  | .rt x => r x
  | .bk y => n y
def forFl {α β ρ : Type} (g : β → α → Fl β ρ) : List α → β → Fl β ρ
  | [], y => .nx y
  | x :: xs, y => match g y x with
    | .nx z => forFl g xs z
    | .rt r => .rt r
    | .bk z => .bk z
theorem forFl_fold {α β ρ : Type} (g : β → α → β) : ∀ (xs : List α) (y : β), forFl (ρ := ρ) (fun y x => .nx (g y x)) xs y = .nx (xs.foldl g y)
  | [], _ => rfl
  | x :: xs, y => forFl_fold g xs (g y x)
def whFl {β ρ : Type} (c : β → Bool) (g : β → Fl β ρ) : Nat → β → Fl β ρ
  | 0, y => .nx y
  | n + 1, y => if c y then (match g y with
    | .nx z => whFl c g n z
    | .rt r => .rt r
    | .bk z => .nx z) else .nx y
/-- the while ends within n turns, and each turn is well -/
def whOk {β ρ : Type} (c : β → Bool) (g : β → Fl β ρ) (ok : β → Prop) : Nat → β → Prop
  | 0, y => c y = false
  | n + 1, y => c y = true → ok y ∧ ∀ z, g y = .nx z → whOk c g ok n z
/-- the place x of xs, the state y there -/
def At {α β ρ : Type} (g : β → α → Fl β ρ) (xs : List α) (y0 : β) (y : β) (x : α) : Prop := ∃ pre post, xs = pre ++ x :: post ∧ forFl g pre y0 = .nx y
def AtF {α β : Type} (g : β → α → β) (xs : List α) (y0 : β) (y : β) (x : α) : Prop := ∃ pre post, xs = pre ++ x :: post ∧ pre.foldl g y0 = y
theorem forFl_append {α β ρ : Type} (g : β → α → Fl β ρ) (ys : List α) (z : β) : ∀ (pre : List α) (y : β), forFl g pre y = .nx z → forFl g (pre ++ ys) y = forFl g ys z
  | [], y, h => by
    have e : y = z := by injection h
    rw [e]; rfl
  | x :: pre, y, h => by
    have h' : (match g y x with | .nx z => forFl g pre z | .rt r => .rt r | .bk z => .bk z) = Fl.nx z := h
    show (match g y x with | .nx z => forFl g (pre ++ ys) z | .rt r => .rt r | .bk z => .bk z) = forFl g ys z
    cases q : g y x with
    | nx w => rw [q] at h'; exact forFl_append g ys z pre w h'
    | rt r => rw [q] at h'; cases h'
    | bk w => rw [q] at h'; cases h'
theorem forFl_snoc {α β ρ : Type} (g : β → α → Fl β ρ) {pre : List α} {x : α} {y z : β} (h : forFl g pre y = .nx z) : forFl g (pre ++ [x]) y = g z x := by
  rw [forFl_append g [x] z pre y h]
  show (match g z x with | .nx w => forFl g [] w | .rt r => .rt r | .bk w => .bk w) = g z x
  cases g z x <;> rfl

/-- how statements end -/
inductive Out : Type 1 where
  | nx (es : List En)
  | bk (es : List En)
  | en
  | rt (e : En)
  | eu (a : Addr) {α : Type} (r : Ow α) (p : α)
  | ru (a : Addr) {α : Type} (r : Ow α) (p : α) (e : En)
def RetK (K : PySem.W.Frag) (f : Fr) (R : VK) : En → Prop
  | .fzI _ x => ∀ v F H, Stp f F H → Rp.rep K F v x → R v H
  | .owI _ x => ∀ v F H P, Stp f F H → Ow.own K F H v x P → P.Nodup → (∀ p ∈ P, f.H p = none) → R v H
  | _ => False
def RetU (K : PySem.W.Frag) (f : Fr) (R : VK) (a : Addr) {α : Type} (r : Ow α) (p : α) : En → Prop
  | .fzI _ x => ∀ v F H P, Stp f F H → Ow.own K F H (.ref a) p P → P.Nodup → (∀ q ∈ P, f.free q) → Rp.rep K F v x → R v H
  | .owI _ x => ∀ v F H P P', Stp f F H → Ow.own K F H (.ref a) p P → P.Nodup → (∀ q ∈ P, f.free q) → Ow.own K F H v x P' → P'.Nodup → (∀ q ∈ P', f.H q = none) → (∀ q ∈ P', q ∉ P) → R v H
  | _ => False
def OutK (K : PySem.W.Frag) (f : Fr) (D : Ends) : Out → Prop
  | .nx es => ∀ σ F H, Sw K f es σ F H → D.nx σ H
  | .bk es => ∀ σ F H, Sw K f es σ F H → D.bk σ H
  | .en => ∀ σ F H, Stp f F H → D.nx σ H
  | .rt e => RetK K f D.rt e
  | .eu a r p => ∀ σ F H P, Stp f F H → Ow.own K F H (.ref a) p P → P.Nodup → (∀ q ∈ P, f.free q) → D.nx σ H
  | .ru a r p e => RetU K f D.rt a r p e
structure ES (X : Cx) (es : List En) (sts : List Stmt) (out : Out) : Prop where
  run : ∀ (f : Fr) (σ : L2.St) (F H : Hp) (D : Ends), Sw X.K f es σ F H → OutK X.K f D out → wpSs X sts D σ H
instance {X : Cx} {es : List En} {sts : List Stmt} {out : Out} : CoeFun (ES X es sts out) (fun _ => ∀ (f : Fr) (σ : L2.St) (F H : Hp) (D : Ends), Sw X.K f es σ F H → OutK X.K f D out → wpSs X sts D σ H) := ⟨ES.run⟩
structure S1 (X : Cx) (es : List En) (st : Stmt) (out : Out) : Prop where
  run : ∀ (f : Fr) (σ : L2.St) (F H : Hp) (D : Ends), Sw X.K f es σ F H → OutK X.K f D out → wpS X st D σ H
instance {X : Cx} {es : List En} {st : Stmt} {out : Out} : CoeFun (S1 X es st out) (fun _ => ∀ (f : Fr) (σ : L2.St) (F H : Hp) (D : Ends), Sw X.K f es σ F H → OutK X.K f D out → wpS X st D σ H) := ⟨S1.run⟩
abbrev E1 (X : Cx) (es : List En) (st : Stmt) (es1 : List En) : Prop := S1 X es st (.nx es1)
/-- an out that does not go on -/
def Out.ends : Out → Bool
  | .rt _ => true
  | .ru _ _ _ _ => true
  | .bk _ => true
  | _ => false
def Out.rets : Out → Bool
  | .rt _ => true
  | .ru _ _ _ _ => true
  | _ => false
/-- less is said of each slot -/
def Wk : List En → List En → Prop
  | [], [] => True
  | e :: es, e' :: es' => (e' = .un ∨ e = e') ∧ Wk es es'
  | _, _ => False
def noAls : List En → Bool
  | [] => true
  | .alI _ _ _ :: _ => false
  | _ :: r => noAls r
theorem Wk.len : ∀ {es es' : List En}, Wk es es' → es'.length = es.length
  | [], [], _ => rfl
  | [], _ :: _, h => h.elim
  | _ :: _, [], h => h.elim
  | _ :: es, _ :: es', h => by simp [Wk.len h.2]
theorem Wk.at : ∀ {es es' : List En} (i : Nat) (e : En), Wk es es' → es'[i]? = some e → e = .un ∨ es[i]? = some e
  | [], [], _, _, _, h => by simp at h
  | [], _ :: _, _, _, h, _ => h.elim
  | _ :: _, [], _, _, h, _ => h.elim
  | a :: es, b :: es', 0, e, h, q => by
    have q' : b = e := by simpa using q
    rcases h.1 with z | z
    · exact .inl (q'.symm.trans z)
    · exact .inr (by simp [z, q'])
  | _ :: es, _ :: es', i + 1, e, h, q => by
    rcases Wk.at i e h.2 (by simpa using q) with z | z
    · exact .inl z
    · exact .inr (by simpa using z)
theorem noAls_at : ∀ {es : List En} (i j : Nat) (α : Type) (r : Ow α) (x : α), noAls es = true → es[i]? ≠ some (.alI j r x)
  | [], _, _, _, _, _, _, h => by simp at h
  | e :: es, 0, j, α, r, x, h, q => by
    have q' : e = .alI j r x := by simpa using q
    rw [q'] at h; cases h
  | e :: es, i + 1, j, α, r, x, h, q => by
    have h2 : noAls es = true := by cases e <;> first | exact h | cases h
    exact noAls_at i j α r x h2 (by simpa using q)
theorem noAls_of {es : List En} (h : noAls es = true) (i : Nat) : noAl i es := fun k α r x => noAls_at k i α r x h
theorem Sw.wk {K : PySem.W.Frag} {f : Fr} {es es' : List En} {σ : L2.St} {F H : Hp} (s : Sw K f es σ F H) (w : Wk es es') (n : noAls es' = true) : Sw K f es' σ F H :=
  s.weak w.len (fun i e h => w.at i e h) fun i j α r x h => absurd h (noAls_at i j α r x n)
/-- seen from a later frozen heap -/
def Fr.at (f : Fr) (F : Hp) : Fr := ⟨f.io, F, f.H⟩
theorem Stp.root {f : Fr} {F H : Hp} (s : Stp f F H) : Stp (f.at F) F H := ⟨Inc.refl _, s.h, s.t, s.e, fun _ _ h => .inl h, s.k⟩
theorem Stp.unroot {f : Fr} {F H F' H' : Hp} (s : Stp f F H) (t : Stp (f.at F) F' H') : Stp f F' H' := ⟨s.f.trans t.f, t.h, t.t, t.e, fun a h1 h2 => by
  rcases s.n a h1 h2 with z | ⟨ks, z⟩
  · exact t.n a h1 z
  · cases q : F a with
    | none => exact t.n a h1 q
    | some u =>
      have e : u = sk ks := by
        rcases s.e a u q with w | ⟨_, ob, w⟩
        · rw [z] at w; exact (Option.some.inj w).symm
        · rw [z] at w; cases w
      subst e
      exact .inr ⟨ks, (t.e a _ (t.f a _ q)).nd fun d => d⟩, t.k⟩
theorem EnvP.fr' {K : PySem.W.Frag} {f f' : Fr} {es : List En} {σ : L2.St} {F H : Hp} {Ps : Nat → List Addr} (q : EnvP K f es σ F H Ps) (h1 : f'.io = f.io) (h2 : f'.H = f.H) : EnvP K f' es σ F H Ps :=
  ⟨q.len, q.ok, q.nd, q.dj, fun i p a b => by
    have z := q.fr i p a b
    unfold Fr.free at z ⊢
    rw [h1, h2]; exact z, fun i p α r x a b => by
    rw [h2]; exact q.nw i p α r x a b, q.al⟩
theorem Sw.root {K : PySem.W.Frag} {f : Fr} {es : List En} {σ : L2.St} {F H : Hp} (s : Sw K f es σ F H) : Sw K (f.at F) es σ F H := let ⟨Ps, q⟩ := s.env; ⟨s.st.root, Ps, q.fr' rfl rfl⟩
theorem Sw.unroot {K : PySem.W.Frag} {f : Fr} {es es' : List En} {σ σ' : L2.St} {F H F' H' : Hp} (s : Sw K f es σ F H) (t : Sw K (f.at F) es' σ' F' H') : Sw K f es' σ' F' H' := let ⟨Ps, q⟩ := t.env; ⟨s.st.unroot t.st, Ps, q.fr' rfl rfl⟩
theorem RetK.root {K : PySem.W.Frag} {f : Fr} {R : VK} {F H : Hp} (s : Stp f F H) {e : En} (h : RetK K f R e) : RetK K (f.at F) R e := by
  cases e with
  | fzI _ x => exact fun v F' H' st r => h v F' H' (s.unroot st) r
  | owI _ x => exact fun v F' H' P st r hn hp => h v F' H' P (s.unroot st) r hn hp
  | un => exact h
  | atI _ _ _ => exact h
  | alI _ _ _ => exact h
theorem RetU.root {K : PySem.W.Frag} {f : Fr} {R : VK} {F H : Hp} (s : Stp f F H) {a : Addr} {α : Type} {r : Ow α} {p : α} {e : En} (h : RetU K f R a r p e) : RetU K (f.at F) R a r p e := by
  cases e with
  | fzI _ x => exact fun v F' H' P st o hn hf r => h v F' H' P (s.unroot st) o hn hf r
  | owI _ x => exact fun v F' H' P P' st o hn hf r a b c => h v F' H' P P' (s.unroot st) o hn hf r a b c
  | un => exact h
  | atI _ _ _ => exact h
  | alI _ _ _ => exact h
theorem OutK.root {K : PySem.W.Frag} {f : Fr} {D : Ends} {es : List En} {σ : L2.St} {F H : Hp} (s : Sw K f es σ F H) {o : Out} (h : OutK K f D o) : OutK K (f.at F) D o := by
  cases o with
  | nx es => exact fun σ F' H' t => h σ F' H' (s.unroot t)
  | bk es => exact fun σ F' H' t => h σ F' H' (s.unroot t)
  | en => exact fun σ F' H' t => h σ F' H' (s.st.unroot t)
  | rt e => exact RetK.root s.st h
  | eu a r p => exact fun σ F' H' P t o hn hf => h σ F' H' P (s.st.unroot t) o hn hf
  | ru a r p e => exact RetU.root s.st h
/-- the loop's own ends -/
def flO {β ρ : Type} (esf : β → List En) (kr : ρ → Out) : Fl β ρ → Out
  | .nx y => .nx (esf y)
  | .rt r => kr r
  | .bk y => .bk (esf y)
/-- behind a loop: out of it is on -/
def flN {β ρ : Type} (esf : β → List En) (kr : ρ → Out) : Fl β ρ → Out
  | .nx y => .nx (esf y)
  | .rt r => kr r
  | .bk y => .nx (esf y)
theorem OutK.rets {K : PySem.W.Frag} {f : Fr} {D : Ends} {N B C : L2.St → Hp → Prop} {o : Out} (he : o.rets = true) (h : OutK K f D o) : OutK K f ⟨N, D.rt, B, C⟩ o := by
  cases o with
  | nx es => cases he
  | en => cases he
  | eu a r p => cases he
  | bk es => cases he
  | rt e => exact h
  | ru a r p e => exact h
theorem OutK.ends {K : PySem.W.Frag} {f : Fr} {D : Ends} {N C : L2.St → Hp → Prop} {o : Out} (he : o.ends = true) (h : OutK K f D o) : OutK K f ⟨N, D.rt, D.bk, C⟩ o := by
  cases o with
  | nx es => cases he
  | en => cases he
  | eu a r p => cases he
  | bk es => exact h
  | rt e => exact h
  | ru a r p e => exact h
section
variable {X : Cx} {es es1 es2 : List En} {a b c e tg iter : Expr} {st : Stmt} {rest body : List Stmt} {pos : Pos} {α β γ ρ : Type} {out : Out}
theorem es_nil (w : Wk es es1) (n : noAls es1 = true := by rfl) : ES X es [] (.nx es1) := .mk fun f σ F H D S h => pssR pss_nil (h σ F H (S.wk w n))
theorem es_end : ES X es [] .en := .mk fun f σ F H D S h => pssR pss_nil (h σ F H S.st)
theorem es_cons (h1 : E1 X es st es1) (h2 : ES X es1 rest out) : ES X es (st :: rest) out := .mk fun f σ F H D S h =>
  pssR (pss_cons psW pssW) (h1 f σ F H { D with nx := wpSs X rest D } S fun σ1 F1 H1 S1 => h2 f σ1 F1 H1 D S1 h)
theorem es_one (h1 : S1 X es st out) : ES X es [st] out := .mk fun f σ F H D S h => pssR (pss_one psW) (h1 f σ F H D S h)
/-- a statement that may end in several ways, then the rest -/
theorem es_seq {k : γ → Out} {esf : β → List En} {kr : ρ → Out} {m : Fl β ρ} {mr : β → γ} {rr : ρ → γ} (h1 : S1 X es st (flN esf kr m)) (hr : ∀ r, kr r = k (rr r)) (he : ∀ r, (kr r).rets = true) (h2 : ∀ y, m = .nx y ∨ m = .bk y → ES X (esf y) rest (k (mr y))) : ES X es (st :: rest) (k (m.elim mr rr)) := .mk fun f σ F H D S h => by
  refine pssR (pss_cons psW pssW) ?_
  cases m with
  | nx y => exact h1 f σ F H _ S fun σ1 F1 H1 S1 => h2 y (.inl rfl) f σ1 F1 H1 D S1 h
  | bk y => exact h1 f σ F H _ S fun σ1 F1 H1 S1 => h2 y (.inr rfl) f σ1 F1 H1 D S1 h
  | rt r =>
    refine h1 f σ F H _ S (OutK.rets (he r) ?_)
    show OutK X.K f D (kr r)
    rw [hr r]; exact h
end
end Ly
namespace Ly
open PySem PySem.Spec PyProof.Rows L2
section
variable {X : Cx} {es es1 es2 es3 : List En} {a b c e tg iter : Expr} {st : Stmt} {sts rest body : List Stmt} {pos : Pos} {α β γ ρ : Type} {out : Out}
/-! targets -/
def GJ (X : Cx) (tg : Expr) (es : List En) [Rp α] (x : α) (es' : List En) : Prop := ∀ (f : Fr) (σ : L2.St) (F H : Hp) (v : V), Sw X.K f es σ F H → Rp.rep X.K F v x → ∀ Q : L2.St → Hp → Prop, (∀ σ' F' H', Sw X.K f es' σ' F' H' → Inc F F' → Q σ' H') → wpG X tg v σ H Q
theorem g_name {i : Nat} [Rp α] {x : α} (hg : PG X tg (gName i)) (hi : i < es.length) (ha : alFree i es = true := by rfl) : GJ X tg es x (es.set i (.fz x)) := fun f σ F H v S r Q q =>
  pgR hg (q _ F H (S.setF hi r (noAl_of ha)) (Inc.refl _))
/-! assignments -/
theorem s_asg {i : Nat} [Rp α] {x : α} (hst : PS X st (tAsg (wpE X e) (gName i))) (h : FJ X es e x) (he : es.set i (.fz x) = es1 := by rfl) (hi : i < es.length := by exact Nat.le_of_ble_eq_true rfl) (ha : alFree i es = true := by rfl) : E1 X es st es1 := .mk fun f σ F H D S q =>
  psR hst (h f σ F H S _ fun v F1 H1 t r => by
    subst he
    exact q _ F1 H1 ((S.step t).setF hi r (noAl_of ha)))
theorem s_asgX {i : Nat} [Rp α] {x : α} (hst : PS X st (tAsg (wpE X e) (gName i))) (h : XJ X es e x es2) (he : es2.set i (.fz x) = es1 := by rfl) (hi : i < es2.length := by exact Nat.le_of_ble_eq_true rfl) (ha : alFree i es2 = true := by rfl) : E1 X es st es1 := .mk fun f σ F H D S q =>
  psR hst (h f σ F H S _ fun v F1 H1 S1 i1 r => by
    subst he
    exact q _ F1 H1 (S1.setF hi r (noAl_of ha)))
theorem s_asgN {i : Nat} [Ow α] {x : α} (hst : PS X st (tAsg (wpE X e) (gName i))) (h : NJ X es e x) (he : es.set i (.ow x) = es1 := by rfl) (hi : i < es.length := by exact Nat.le_of_ble_eq_true rfl) (ha : alFree i es = true := by rfl) : E1 X es st es1 := .mk fun f σ F H D S q =>
  psR hst (h f σ F H S _ fun v F1 H1 P t r hn hp => by
    subst he
    exact q _ F1 H1 (S.setN t hi r hn hp (noAl_of ha)))
theorem s_asgY {i : Nat} [Ow α] {x : α} (hst : PS X st (tAsg (wpE X e) (gName i))) (h : YJ X es e x es2) (he : es2.set i (.ow x) = es1 := by rfl) (hi : i < es2.length := by exact Nat.le_of_ble_eq_true rfl) (ha : alFree i es2 = true := by rfl) : E1 X es st es1 := .mk fun f σ F H D S q =>
  psR hst (h f σ F H S _ fun v F1 H1 P Ps st p i1 r hn hp hd => by
    subst he
    exact q _ F1 H1 (Sw.set st p hi ⟨v, rfl, r⟩ hn hp (fun j hj _ => hd j hj) (noAl_of ha) fun j α r x z => by cases z))
/-- an own slot is frozen -/
theorem Sw.frz1 {K : PySem.W.Frag} {f : Fr} {es : List En} {σ : L2.St} {F H : Hp} {i : Nat} [Ow α] {x : α} (S : Sw K f es σ F H) (h : es[i]? = some (.ow x)) (na : noAl i es) : ∃ v F', sl σ i = some v ∧ Inc F F' ∧ @Rp.rep α Ow.rp K F' v x ∧ Sw K f (es.set i (@En.fz α Ow.rp x)) σ F' H := by
  obtain ⟨Ps, p⟩ := S.env
  obtain ⟨v, ev, r⟩ := p.ok i _ h
  have hi := get_lt h
  have hP : ∀ z ∈ Ps i, F z = none ∧ f.H z = none := fun z hz => ⟨(Ow.out r z hz).2, p.nw i z _ _ _ h hz⟩
  refine ⟨v, fzP F H (Ps i), ev, fzP_inc fun z hz => (hP z hz).1, Ow.fzn r, S.st.freeze hP, fun j => if j = i then [] else Ps j, by simp [p.len], fun j e' hj => ?_, fun j hj => ?_, fun j k z h1 h2 p1 p2 => ?_, fun j z h1 p1 => ?_, fun j z α r x hj p1 => ?_, fun j k α r x hj => ?_⟩
  · by_cases z : j = i
    · subst z
      rw [List.getElem?_set_self hi] at hj
      cases hj
      rw [if_pos rfl]; exact ⟨rfl, v, ev, Ow.fzn r⟩
    · rw [List.getElem?_set_ne (Ne.symm z)] at hj
      rw [if_neg z]
      refine (p.ok j e' hj).but (fzP_inc fun z hz => (hP z hz).1) (fun _ _ => rfl) fun w hw => ?_
      rw [fzP_out fun k => z (p.dj j i w (get_lt hj) hi hw k)]; exact ((p.ok j e' hj).out w hw).2
  · by_cases z : j = i
    · rw [if_pos z]; exact List.nodup_nil
    · rw [if_neg z]; exact p.nd j (by simpa using hj)
  · rw [List.length_set] at h1 h2
    by_cases y : j = i
    · rw [if_pos y] at p1; cases p1
    · rw [if_neg y] at p1
      by_cases y2 : k = i
      · rw [if_pos y2] at p2; cases p2
      · rw [if_neg y2] at p2; exact p.dj j k z h1 h2 p1 p2
  · rw [List.length_set] at h1
    by_cases y : j = i
    · rw [if_pos y] at p1; cases p1
    · rw [if_neg y] at p1; exact p.fr j z h1 p1
  · by_cases y : j = i
    · rw [if_pos y] at p1; cases p1
    · rw [if_neg y] at p1
      rw [List.getElem?_set_ne (Ne.symm y)] at hj
      exact p.nw j z α r x hj p1
  · by_cases y : j = i
    · subst y
      rw [List.getElem?_set_self hi] at hj
      cases hj
    · rw [List.getElem?_set_ne (Ne.symm y)] at hj
      obtain ⟨hk, w, Q, ew, hQ, o⟩ := p.al j k α r x hj
      have hki : k ≠ i := fun z2 => na j α r x (z2 ▸ hj)
      refine ⟨by rw [List.length_set]; exact hk, w, Q, ew, fun z hz => ?_, ?_⟩
      · rw [if_neg hki]; exact hQ z hz
      · refine Ow.mono (fzP_inc fun z hz => (hP z hz).1) (fun _ _ => rfl) (fun z hz => ?_) o
        rw [fzP_out fun y => hki (p.dj k i z hk hi (hQ z hz) y)]; exact (p.out hk z (hQ z hz)).2
/-- an own name is read, and frozen with it: y = x, return x -/
theorem x_frz {i : Nat} [Ow α] {x : α} (hv : PE X e (tVar i)) (h : es[i]? = some (.ow x) := by rfl) (he : es.set i (@En.fz α Ow.rp x) = es1 := by rfl) (ha : alFree i es = true := by rfl) : @XJ X es e α Ow.rp x es1 := .mk fun f σ F H S Q q => peR hv (by
  subst he
  obtain ⟨v, F', ev, inc, r, S'⟩ := S.frz1 h (noAl_of ha)
  exact ⟨v, sl_of ev, q v F' H S' inc r⟩)
/-- an expression's value is dropped -/
theorem s_drop (hst : PS X st (tDrop (wpE X e))) [Rp α] {x : α} (h : XJ X es e x es1) : E1 X es st es1 := .mk fun f σ F H D S q =>
  psR hst (h f σ F H S _ fun v F1 H1 S1 i1 r => q _ F1 H1 S1)
/-! return -/
theorem s_ret [Rp α] {x : α} (hst : PS X st (tRet (wpE X e))) (h : FJ X es e x) : S1 X es st (.rt (.fz x)) := .mk fun f σ F H D S q =>
  psR hst (h f σ F H S _ fun v F1 H1 t r => q v F1 H1 (S.st.then0 t) r)
theorem s_retX [Rp α] {x : α} (hst : PS X st (tRet (wpE X e))) (h : XJ X es e x es1) : S1 X es st (.rt (.fz x)) := .mk fun f σ F H D S q =>
  psR hst (h f σ F H S _ fun v F1 H1 S1 i1 r => q v F1 H1 S1.st r)
theorem s_retN [Ow α] {x : α} (hst : PS X st (tRet (wpE X e))) (h : NJ X es e x) : S1 X es st (.rt (.ow x)) := .mk fun f σ F H D S q =>
  psR hst (h f σ F H S _ fun v F1 H1 P t r hn hp => q v F1 H1 P (S.st.then0 t) r hn fun z hz => S.st.back (hp z hz))
theorem s_retO {i : Nat} [Ow α] {x : α} (hst : PS X st (tRet (wpE X e))) (hv : PE X e (tVar i)) (h : es[i]? = some (.ow x) := by rfl) : S1 X es st (.rt (.ow x)) := .mk fun f σ F H D S q =>
  psR hst (peR hv (by
    obtain ⟨Ps, p⟩ := S.env
    obtain ⟨v, ev, r⟩ := p.ok i _ h
    exact ⟨v, sl_of ev, q v F H (Ps i) S.st r (p.nd i (get_lt h)) fun z hz => p.nw i z _ _ _ h hz⟩))
/-! with something lent at the slot i -/
theorem EnvP.at_ {K : PySem.W.Frag} {f : Fr} {es : List En} {σ : L2.St} {F H : Hp} {Ps : Nat → List Addr} {i : Nat} {p : Addr} [Ow β] {y : β} (q : EnvP K f es σ F H Ps) (h : es[i]? = some (.at p y)) : sl σ i = some (.ref p) ∧ Ow.own K F H (.ref p) y (Ps i) ∧ (Ps i).Nodup ∧ ∀ z ∈ Ps i, f.free z :=
  let ⟨e, r⟩ := q.ok i _ h
  ⟨e, r, q.nd i (get_lt h), fun z hz => q.fr i z (get_lt h) hz⟩
theorem u_ret {i : Nat} {p : Addr} [r : Ow β] {y : β} [Rp α] {x : α} (hst : PS X st (tRet (wpE X e))) (h : XJ X es e x es1) (hu : es1[i]? = some (.at p y) := by rfl) : S1 X es st (.ru p r y (.fz x)) := .mk fun f σ F H D S q =>
  psR hst (h f σ F H S _ fun v F1 H1 S1 i1 r => by
    obtain ⟨Ps, pp⟩ := S1.env
    obtain ⟨_, o, hn, hf⟩ := pp.at_ hu
    exact q v F1 H1 (Ps i) S1.st o hn hf r)
theorem u_retO {i j : Nat} {p : Addr} [r : Ow β] {y : β} [Ow α] {x : α} (hst : PS X st (tRet (wpE X e))) (hv : PE X e (tVar j)) (h : es[j]? = some (.ow x) := by rfl) (hu : es[i]? = some (.at p y) := by rfl) (hij : i ≠ j := by decide) : S1 X es st (.ru p r y (.ow x)) := .mk fun f σ F H D S q =>
  psR hst (peR hv (by
    obtain ⟨Ps, pp⟩ := S.env
    obtain ⟨v, ev, o2⟩ := pp.ok j _ h
    obtain ⟨_, o, hn', hf⟩ := pp.at_ hu
    exact ⟨v, sl_of ev, q v F H (Ps i) (Ps j) S.st o hn' hf o2 (pp.nd j (get_lt h)) (fun z hz => pp.nw j z _ _ _ h hz) fun z hz k => hij (pp.dj i j z (get_lt hu) (get_lt h) k hz)⟩))
theorem u_end {i : Nat} {p : Addr} [r : Ow β] {y : β} (hu : es[i]? = some (.at p y) := by rfl) : ES X es [] (.eu p r y) := .mk fun f σ F H D S q => pssR pss_nil (by
  obtain ⟨Ps, pp⟩ := S.env
  obtain ⟨_, o, hn', hf⟩ := pp.at_ hu
  exact q σ F H (Ps i) S.st o hn' hf)
/-! if -/
theorem s_if {A B : List Stmt} {k : Bool} (h : XT X es c k es1) (h1 : k = true → ES X es1 A out) (h2 : k = false → ES X es1 B out) : S1 X es (.If c A B pos) out := .mk fun f σ F H D S q =>
  psR (ps_if ptW pssW pssW) (h f σ F H S _ fun F1 H1 S1 i1 => by
    cases k with
    | true => exact h1 rfl f σ F1 H1 D S1 q
    | false => exact h2 rfl f σ F1 H1 D S1 q)
/-- both ways end: k of the value -/
theorem s_ife {A B : List Stmt} {b : Bool} {k : γ → Out} {m1 m2 : γ} (h : XT X es c b es1) (h1 : b = true → ES X es1 A (k m1)) (h2 : b = false → ES X es1 B (k m2)) : S1 X es (.If c A B pos) (k (bif b then m1 else m2)) :=
  s_if h (fun e => by subst e; exact h1 rfl) (fun e => by subst e; exact h2 rfl)
/-- if c: return .. ; the rest -/
theorem es_ifr {A : List Stmt} {b : Bool} {k : γ → Out} {m1 m2 : γ} (h : XT X es c b es1) (he : (k m1).ends = true) (h1 : b = true → ES X es1 A (k m1)) (h2 : b = false → ES X es1 rest (k m2)) : ES X es (.If c A [] pos :: rest) (k (bif b then m1 else m2)) := .mk fun f σ F H D S q =>
  pssR (pss_cons (ps_if ptW pssW pss_nil) pssW) (h f σ F H S _ fun F1 H1 S1 i1 => by
    cases b with
    | true => exact h1 rfl f σ F1 H1 _ S1 (OutK.ends he q)
    | false => exact h2 rfl f σ F1 H1 D S1 q)
/-! what is walked -/
def YlF (K : PySem.W.Frag) (J : It) (F0 : Hp) [Rp α] (xs : List α) : Prop := ∀ (i : Nat) (F H : Hp), Inc F0 F → Sub F H → (i = xs.length → J.stop i H) ∧ ∀ x, xs[i]? = some x → J.go i H ∧ ∀ v H', J.yld i H v H' → ∃ F', St0 F H F' H' ∧ Rp.rep K F' v x
def IJ (X : Cx) (tg : Expr) (es : List En) (iter : Expr) [Rp α] (xs : List α) (es1 : List En) : Prop := ∀ (f : Fr) (σ : L2.St) (F H : Hp), Sw X.K f es σ F H → ∀ R : It → Hp → Prop, (∀ J F' H', Sw X.K f es1 σ F' H' → Inc F F' → YlF X.K J F' xs → R J H') → wpI X tg iter σ H R
theorem i_list [Rp α] {xs : List α} (h : XJ X es iter xs es1) : IJ X tg es iter xs es1 := fun f σ F H S R q =>
  piR (pi_list peW) (h f σ F H S _ fun v F1 H1 S1 i1 r => by
    obtain ⟨p, vs, e, hH, hF, rr⟩ := repL S1.sub r
    refine ⟨p, e, ⟨vs, .inl (.inl hH)⟩, q _ F1 H1 S1 i1 fun i F2 H2 i2 s2 => ?_⟩
    have hH2 : H2 p = some (.lst vs) := (s2 p _ (i2 p _ hF)).nd fun z => z
    have rr2 : Paired (Rp.rep X.K F2) vs xs := pairedM i2 rr
    refine ⟨fun ei => ⟨vs, .inl (.inl hH2), by rw [pairedLen rr2]; omega⟩, fun x hx => ?_⟩
    obtain ⟨w, hw, rw_⟩ := pairedGet rr2 hx
    refine ⟨⟨vs, w, .inl (.inl hH2), hw⟩, fun v' H' y => ?_⟩
    obtain ⟨eH, y⟩ := y
    subst eH
    have ev : vs[i]? = some v' := y vs (.inl (.inl hH2))
    rw [hw] at ev
    cases ev
    exact ⟨F2, St0.refl s2, rw_⟩)
/-- the numbers from lo on, n of them -/
def upFrom (lo : Int) (n : Nat) : List Int := (List.range n).map fun (i : Nat) => lo + (i : Int)
theorem upFrom_at {lo : Int} {n i : Nat} {x : Int} (h : (upFrom lo n)[i]? = some x) : i < n ∧ x = lo + i := by
  unfold upFrom at h
  rw [List.getElem?_map] at h
  cases q : (List.range n)[i]? with
  | none => rw [q] at h; cases h
  | some j =>
    rw [q] at h
    have hj := List.getElem?_eq_some_iff.mp q
    obtain ⟨hl, ej⟩ := hj
    rw [List.getElem_range] at ej
    rw [List.length_range] at hl
    have e : lo + (j : Int) = x := by simpa using h
    exact ⟨hl, by rw [← e, ← ej]⟩
theorem upFrom_len (lo : Int) (n : Nat) : (upFrom lo n).length = n := by unfold upFrom; simp
def rangeL (lo hi : Int) : List Int := upFrom lo (hi - lo).toNat
theorem ylR {K : PySem.W.Frag} {lo : Int} {n : Nat} {F0 : Hp} : YlF K (Itr lo n) F0 (upFrom lo n) := fun i F H i1 s => by
  refine ⟨fun ei => ?_, fun x hx => ?_⟩
  · rw [upFrom_len] at ei
    show n ≤ i
    omega
  · obtain ⟨hi, ex⟩ := upFrom_at hx
    refine ⟨hi, fun v H' y => ?_⟩
    obtain ⟨ev, eH⟩ := y
    subst ev eH
    exact ⟨F, St0.refl s, by rw [ex]; exact ⟨rfl, True.intro⟩⟩
theorem i_range1 {n : Int} {p : Pos} (hg : Gl X "range") (hm : X.mg "range" = none) (hb : -(2 ^ 62) ≤ n ∧ n < 2 ^ 62) (h : XJ X es a n es1) (hs : starEach [a] X.env = (false, eval a X.env) :: starEach [] X.env := by rfl) : IJ X tg es (.Call (.Name "range" p) [a] [] pos) (rangeL 0 n) es1 := fun f σ F H S R q =>
  piR (pi_range1 hg hm (pa_cons peW pa_nil hs) (hs.trans (by rfl))) (h f σ F H S _ fun v F1 H1 S1 i1 r => ⟨n, by rw [show v = V.int n from r.1], hb.1, hb.2, by
    have z : rangeL 0 n = upFrom 0 n.toNat := by unfold rangeL; rw [Int.sub_zero]
    exact q _ F1 H1 S1 i1 (by rw [z]; exact ylR)⟩)
theorem i_range2 {m n : Int} {p : Pos} (hg : Gl X "range") (hm : X.mg "range" = none) (hb : -(2 ^ 62) ≤ m ∧ m < 2 ^ 62 ∧ -(2 ^ 62) ≤ n ∧ n < 2 ^ 62) (h : XJ X es a m es1) (h2 : XJ X es1 b n es2)
    (hs : starEach [a, b] X.env = (false, eval a X.env) :: starEach [b] X.env := by rfl) (hs2 : starEach [b] X.env = (false, eval b X.env) :: starEach [] X.env := by rfl) : IJ X tg es (.Call (.Name "range" p) [a, b] [] pos) (rangeL m n) es2 := fun f σ F H S R q =>
  piR (pi_range2 hg hm (pa_cons peW (pa_cons peW pa_nil hs2) hs) (by rw [hs, hs2]; rfl) (by rw [hs2]; rfl)) (h f σ F H S _ fun v F1 H1 S1 i1 r => h2 f σ F1 H1 S1 _ fun w F2 H2 S2 i2 r2 => ⟨m, n, by rw [show v = V.int m from r.1, show w = V.int n from r2.1], hb, q _ F2 H2 S2 (i1.trans i2) ylR⟩)
/-- the signs of a text -/
def signsOf (z : Str) : List Str := z.cps.toList.map sgn
/-! for -/
/-- what is walked, seen by the frame -/
def YlS (K : PySem.W.Frag) (J : It) (f : Fr) [Rp α] (xs : List α) : Prop := ∀ (i : Nat) (F H : Hp), Stp f F H → (i = xs.length → J.stop i H) ∧ ∀ x, xs[i]? = some x → J.go i H ∧ ∀ v H', J.yld i H v H' → ∃ F', St0 F H F' H' ∧ Rp.rep K F' v x
theorem YlF.s {K : PySem.W.Frag} {J : It} {F1 : Hp} {f : Fr} [Rp α] {xs : List α} (h : YlF K J F1 xs) : YlS K J (f.at F1) xs := fun i F H st => h i F H st.f st.e
theorem for_core {y0 : β} [Rp α] {xs : List α} {esf : β → List En} {est : β → α → List En} {kr : ρ → Out} {g : β → α → Fl β ρ} {f : Fr} {σ : L2.St} {F H : Hp} {D : Ends}
    (hi : ∀ R : It → Hp → Prop, (∀ J F' H', Sw X.K f (esf y0) σ F' H' → Inc F F' → YlS X.K J (f.at F') xs → R J H') → wpI X tg iter σ H R)
    (ht : ∀ y x, GJ X tg (esf y) x (est y x)) (hk : ∀ r, (kr r).rets = true) (hb : ∀ y x, At g xs y0 y x → ES X (est y x) body (flO esf kr (g y x))) (q : OutK X.K f D (flN esf kr (forFl g xs y0))) : tFor (wpI X tg iter) (wpG X tg) (wpSs X body) D σ H := by
  refine hi _ fun J F1 H1 S1 i1 yl => ?_
  refine ⟨fun i m σ' H' => m = xs.length - i ∧ i ≤ xs.length ∧ ∃ y F', forFl g (xs.take i) y0 = .nx y ∧ Sw X.K (f.at F1) (esf y) σ' F' H', ⟨xs.length, by omega, Nat.zero_le _, y0, F1, rfl, S1.root⟩, ?_⟩
  rintro i m σ' H' ⟨em, hil, y, F', ey, S'⟩
  have inc : Inc F1 F' := S'.st.f
  by_cases hlt : i < xs.length
  · have hx : xs[i]? = some xs[i] := List.getElem?_eq_getElem hlt
    obtain ⟨go, yd⟩ := (yl i F' H' S'.st).2 _ hx
    have split : xs = xs.take i ++ xs[i] :: xs.drop (i + 1) := by
      rw [List.getElem_cons_drop, List.take_append_drop]
    have tk : xs.take (i + 1) = xs.take i ++ [xs[i]] := by
      rw [List.take_add_one, hx]; rfl
    refine .inr ⟨go, fun σ2 H2 => ∃ y2 F2, forFl g (xs.take (i + 1)) y0 = .nx y2 ∧ Sw X.K (f.at F1) (esf y2) σ2 F2 H2, fun σ2 H2 ⟨y2, F2, e2, S2⟩ => ⟨m - 1, by omega, by omega, hlt, y2, F2, e2, S2⟩, fun v H2 yv => ?_⟩
    obtain ⟨F2, t2, r2⟩ := yd v H2 yv
    have S2 := S'.step t2
    refine ht y xs[i] _ σ' F2 H2 v S2 r2 _ fun σ3 F3 H3 S3 i3 => ?_
    refine hb y xs[i] ⟨_, _, split, ey⟩ _ σ3 F3 H3 _ S3 ?_
    have sn := forFl_snoc g (x := xs[i]) ey
    rw [← tk] at sn
    have whole : forFl g xs y0 = forFl g (xs[i] :: xs.drop (i + 1)) y := by
      have z := forFl_append g (xs[i] :: xs.drop (i + 1)) y _ y0 ey
      rw [← split] at z
      exact z
    cases hg : g y xs[i] with
    | nx z =>
      rw [hg] at sn
      exact fun σ4 F4 H4 S4 => ⟨z, F4, sn, S4⟩
    | bk z =>
      have w2 : forFl g xs y0 = .bk z := by
        rw [whole]
        show (match g y xs[i] with | .nx w => forFl g (xs.drop (i + 1)) w | .rt r => .rt r | .bk w => .bk w) = Fl.bk z
        rw [hg]
      rw [w2] at q
      exact fun σ4 F4 H4 S4 => q σ4 F4 H4 (S1.unroot S4)
    | rt r =>
      have w2 : forFl g xs y0 = .rt r := by
        rw [whole]
        show (match g y xs[i] with | .nx w => forFl g (xs.drop (i + 1)) w | .rt r => .rt r | .bk w => .bk w) = Fl.rt r
        rw [hg]
      rw [w2] at q
      have q' : OutK X.K f D (kr r) := q
      have q2 := OutK.root S1 q'
      show OutK X.K (f.at F1) _ (kr r)
      exact OutK.rets (hk r) q2
  · have ei : i = xs.length := by omega
    have ex : xs.take i = xs := List.take_of_length_le (by omega)
    rw [ex] at ey
    rw [ey] at q
    exact .inl ⟨(yl i F' H' S'.st).1 ei, q σ' F' H' (S1.unroot S')⟩

theorem s_for {tst : PassesOwn (model X.prog X.w) X.A X.env X.xe} {y0 : β} [Rp α] {xs : List α} {esf : β → List En} {est : β → α → List En} {kr : ρ → Out} {g : β → α → Fl β ρ} (hc : X.calm = true) (hi : IJ X tg es iter xs (esf y0))
    (ht : ∀ y x, GJ X tg (esf y) x (est y x)) (hk : ∀ r, (kr r).rets = true) (hb : ∀ y x, At g xs y0 y x → ES X (est y x) body (flO esf kr (g y x))) (hs : ∀ x, foldedSetIterable iter X.env x = pure x := by intro _; rfl) : S1 X es (.For tg iter body [] pos) (flN esf kr (forFl g xs y0)) := .mk fun f σ F H D S q =>
  psR (ps_for tst hc piW pgW pssW hs) (for_core (fun R k => hi f σ F H S R fun J F' H' S' i' y => k J F' H' S' i' y.s) ht hk hb q)

/-- a loop that goes to its end -/
theorem s_forF {tst : PassesOwn (model X.prog X.w) X.A X.env X.xe} {y0 : β} [Rp α] {xs : List α} {esf : β → List En} {est : β → α → List En} {g : β → α → β} (hc : X.calm = true) (hi : IJ X tg es iter xs (esf y0))
    (ht : ∀ y x, GJ X tg (esf y) x (est y x)) (hb : ∀ y x, AtF g xs y0 y x → ES X (est y x) body (.nx (esf (g y x)))) (he : esf (xs.foldl g y0) = es2 := by rfl) (hs : ∀ x, foldedSetIterable iter X.env x = pure x := by intro _; rfl) : E1 X es (.For tg iter body [] pos) es2 := by
  have z := s_for (X := X) (tst := tst) (ρ := Empty) (g := fun y x => .nx (g y x)) (kr := fun r => nomatch r) (pos := pos) (body := body) hc hi ht (fun r => nomatch r) (fun y x hat => hb y x (by
    obtain ⟨pre, post, e, h⟩ := hat
    rw [forFl_fold] at h
    exact ⟨pre, post, e, by injection h⟩)) hs
  rw [forFl_fold] at z
  subst he
  exact z
/-! while -/
theorem s_while {tst : PassesOwn (model X.prog X.w) X.A X.env X.xe} {y0 : β} {esf : β → List En} {kr : ρ → Out} {cf : β → Bool} {g : β → Fl β ρ} {ok : β → Prop} (n : Nat) (hok : whOk cf g ok n y0) (h0 : es = esf y0 := by rfl)
    (hk : ∀ r, (kr r).rets = true) (ht : ∀ y, TJ X (esf y) c (cf y)) (hb : ∀ y, ok y → cf y = true → ES X (esf y) body (flO esf kr (g y))) : S1 X es (.While c body [] pos) (flN esf kr (whFl cf g n y0)) := .mk fun f σ F H D S q => by
  subst h0
  refine psR (ps_while tst ptW pssW) ?_
  refine ⟨fun m σ' H' => ∃ y F', whOk cf g ok m y ∧ whFl cf g n y0 = whFl cf g m y ∧ Sw X.K (f.at F) (esf y) σ' F' H', ⟨n, y0, F, hok, rfl, S.root⟩, ?_⟩
  rintro m σ' H' ⟨y, F', hm, ew, S'⟩
  refine ht y _ σ' F' H' S' _ fun F2 H2 t2 => ?_
  have S2 := S'.step t2
  cases hc : cf y with
  | false =>
    have e2 : whFl cf g m y = .nx y := by
      cases m with
      | zero => rfl
      | succ m =>
        show (if cf y then _ else Fl.nx y) = _
        rw [hc]; rfl
    rw [ew, e2] at q
    show D.nx σ' H2
    exact q σ' F2 H2 (S.unroot S2)
  | true =>
    cases m with
    | zero =>
      have h0 : cf y = false := hm
      rw [hc] at h0; cases h0
    | succ m =>
      obtain ⟨oky, hz⟩ := (show cf y = true → ok y ∧ ∀ z, g y = .nx z → whOk cf g ok m z from hm) hc
      have e2 : whFl cf g (m + 1) y = (match g y with | .nx z => whFl cf g m z | .rt r => .rt r | .bk z => .nx z) := by
        show (if cf y then _ else Fl.nx y) = _
        rw [hc]; rfl
      rw [ew, e2] at q
      refine ⟨fun σ3 H3 => ∃ z F3, g y = .nx z ∧ Sw X.K (f.at F) (esf z) σ3 F3 H3, fun σ3 H3 ⟨z, F3, eg, S3⟩ => ⟨m, Nat.lt_succ_self m, z, F3, hz z eg, ?_, S3⟩, ?_⟩
      · rw [ew, e2, eg]
      · refine hb y oky hc _ σ' F2 H2 _ S2 ?_
        cases hg : g y with
        | nx z => exact fun σ4 F4 H4 S4 => ⟨z, F4, rfl, S4⟩
        | bk z =>
          rw [hg] at q
          exact fun σ4 F4 H4 S4 => q σ4 F4 H4 (S.unroot S4)
        | rt r =>
          rw [hg] at q
          have q' : OutK X.K f D (kr r) := q
          exact OutK.rets (hk r) (OutK.root S q')
end
end Ly
namespace Ly
open PySem PySem.Spec PyProof.Rows L2
/-! what is handed over -/
def ArOk (K : PySem.W.Frag) (F : Hp) (v : V) : En → Prop
  | .fzI _ x => Rp.rep K F v x
  | _ => False
inductive ArgsOk (K : PySem.W.Frag) (F : Hp) : List V → List En → Prop where
  | nil : ArgsOk K F [] []
  | cons {v : V} {e : En} {vs : List V} {as : List En} : ArOk K F v e → ArgsOk K F vs as → ArgsOk K F (v :: vs) (e :: as)
theorem ArOk.mono {K : PySem.W.Frag} {F F' : Hp} (i : Inc F F') {v : V} {e : En} (h : ArOk K F v e) : ArOk K F' v e := by
  cases e <;> first | exact Rp.mono i h | exact h
theorem ArgsOk.mono {K : PySem.W.Frag} {F F' : Hp} (i : Inc F F') : ∀ {vs : List V} {as : List En}, ArgsOk K F vs as → ArgsOk K F' vs as
  | _, _, .nil => .nil
  | _, _, .cons h t => .cons (h.mono i) (ArgsOk.mono i t)
theorem ArgsOk.len {K : PySem.W.Frag} {F : Hp} : ∀ {vs : List V} {as : List En}, ArgsOk K F vs as → vs.length = as.length
  | _, _, .nil => rfl
  | _, _, .cons h t => by simp [ArgsOk.len t]
/-- what a def without lent things does: G tells, of what is handed over, what is handed back -/
def spP (K : PySem.W.Frag) (G : List En → En → Prop) : Sp := fun vs H Q _ => ∃ as r F, G as r ∧ Sub F H ∧ ArgsOk K F vs as ∧ RetK K ⟨no, F, H⟩ Q r
/-- with something lent first, that is changed -/
def spU (K : PySem.W.Frag) {π : Type} [o : Ow π] (G : π → List En → π → En → Prop) : Sp := fun vs H Q _ => ∃ (a : Addr) (ws : List V) (p : π) (as : List En) (p' : π) (r : En) (F : Hp) (P : List Addr), vs = .ref a :: ws ∧ G p as p' r ∧ Sub F H ∧ Ow.own K F H (.ref a) p P ∧ P.Nodup ∧ ArgsOk K F ws as ∧ RetU K ⟨(· ∈ P), F, H⟩ Q a o p' r
/-! arguments: frozen, read, by steps -/
structure AJ (X : Cx) (es : List En) (args : List Expr) (as : List En) : Prop where
  run : ∀ (f : Fr) (σ : L2.St) (F H : Hp), Sw X.K f es σ F H → ∀ Q : List V → Hp → Prop, (∀ vs F' H', St0 F H F' H' → ArgsOk X.K F' vs as → Q vs H') → wpA X args σ H Q
instance {X : Cx} {es : List En} {args : List Expr} {as : List En} : CoeFun (AJ X es args as) (fun _ => ∀ (f : Fr) (σ : L2.St) (F H : Hp), Sw X.K f es σ F H → ∀ Q : List V → Hp → Prop, (∀ vs F' H', St0 F H F' H' → ArgsOk X.K F' vs as → Q vs H') → wpA X args σ H Q) := ⟨AJ.run⟩
structure BJ (X : Cx) (es : List En) (args : List Expr) (as : List En) : Prop where
  run : ∀ (f : Fr) (σ : L2.St) (F H : Hp), Sw X.K f es σ F H → ∀ Q : List V → Hp → Prop, (∀ vs F' H', St0 F H F' H' → ArgsOk X.K (ovl F' H') vs as → Q vs H') → wpA X args σ H Q
instance {X : Cx} {es : List En} {args : List Expr} {as : List En} : CoeFun (BJ X es args as) (fun _ => ∀ (f : Fr) (σ : L2.St) (F H : Hp), Sw X.K f es σ F H → ∀ Q : List V → Hp → Prop, (∀ vs F' H', St0 F H F' H' → ArgsOk X.K (ovl F' H') vs as → Q vs H') → wpA X args σ H Q) := ⟨BJ.run⟩
structure XA (X : Cx) (es : List En) (args : List Expr) (as es' : List En) : Prop where
  run : ∀ (f : Fr) (σ : L2.St) (F H : Hp), Sw X.K f es σ F H → ∀ Q : List V → Hp → Prop, (∀ vs F' H', Sw X.K f es' σ F' H' → Inc F F' → ArgsOk X.K F' vs as → Q vs H') → wpA X args σ H Q
instance {X : Cx} {es : List En} {args : List Expr} {as es' : List En} : CoeFun (XA X es args as es') (fun _ => ∀ (f : Fr) (σ : L2.St) (F H : Hp), Sw X.K f es σ F H → ∀ Q : List V → Hp → Prop, (∀ vs F' H', Sw X.K f es' σ F' H' → Inc F F' → ArgsOk X.K F' vs as → Q vs H') → wpA X args σ H Q) := ⟨XA.run⟩
section
variable {X : Cx} {es es1 es2 as : List En} {a e : Expr} {args : List Expr} {pos : Pos} {α : Type}
theorem a_nil : AJ X es [] [] := .mk fun f σ F H S Q q => paR pa_nil (q [] F H (St0.refl S.sub) .nil)
theorem xa_nil : XA X es [] [] es := .mk fun f σ F H S Q q => paR pa_nil (q [] F H S (Inc.refl _) .nil)
theorem a_cons [Rp α] {x : α} (h : FJ X es a x) (hr : AJ X es args as) (hs : starEach (a :: args) X.env = (false, eval a X.env) :: starEach args X.env := by rfl) : AJ X es (a :: args) (.fz x :: as) := .mk fun f σ F H S Q q =>
  paR (pa_cons peW paW hs) (h f σ F H S _ fun v F1 H1 t1 r1 => hr f σ F1 H1 (S.step t1) _ fun vs F2 H2 t2 r2 => q _ F2 H2 (t1.trans t2) (.cons (Rp.mono t2.f r1) r2))
theorem xa_cons [Rp α] {x : α} (h : XJ X es a x es1) (hr : XA X es1 args as es2) (hs : starEach (a :: args) X.env = (false, eval a X.env) :: starEach args X.env := by rfl) : XA X es (a :: args) (.fz x :: as) es2 := .mk fun f σ F H S Q q =>
  paR (pa_cons peW paW hs) (h f σ F H S _ fun v F1 H1 S1 i1 r1 => hr f σ F1 H1 S1 _ fun vs F2 H2 S2 i2 r2 => q _ F2 H2 S2 (i1.trans i2) (.cons (Rp.mono i2 r1) r2))
theorem AJ.x (h : AJ X es args as) : XA X es args as es := .mk fun f σ F H S Q q => h f σ F H S Q fun vs F' H' t r => q vs F' H' (S.step t) t.f r

/-! calls of a def by its name -/
variable {k : Nat} {fa : Addr} {fd : FuncData} {ps : List Str} {n : Str} {p : Pos} {G : List En → En → Prop} {CX : CXT} {E : XK}
theorem f_call (Fn : FnOk X.prog X.w X.K X.mg X.base CX k fa fd ps (spP X.K G)) (hr : Room k X.A) (hm : X.mg n = some (.ref fa)) (hk : PySem.W.keepIn X.K (.ref fa) = true) (hb : Binds X.K fd ps []) (hp : Passes CX X E) (hg : Gl X n := by rfl) [Rp α] {x : α}
    (ha : AJ X es (a :: args) as) (hG : G as (.fz x)) (hdb : (n == ("__debug__" : Str)) = false := by decide) (he : starEach (a :: args) X.env = (false, eval a X.env) :: starEach args X.env := by rfl) (hpl : (backTo pos (starEach args X.env)).any (·.1) = false := by rfl) :
    FJ X es (.Call (.Name n p) (a :: args) [] pos) x := .mk fun f σ F H S Q q =>
  peR (pe_call Fn hr hg hm hk hb .nil hp paW hdb he hpl) (ha f σ F H S _ fun vs F1 H1 t1 r1 => by
    show spP X.K G (vs ++ []) H1 Q E
    rw [List.append_nil]
    exact ⟨as, _, F1, hG, t1.e, r1, fun v F2 H2 t2 r2 => q v F2 H2 (t1.trans t2) r2⟩)
theorem n_call (Fn : FnOk X.prog X.w X.K X.mg X.base CX k fa fd ps (spP X.K G)) (hr : Room k X.A) (hm : X.mg n = some (.ref fa)) (hk : PySem.W.keepIn X.K (.ref fa) = true) (hb : Binds X.K fd ps []) (hp : Passes CX X E) (hg : Gl X n := by rfl) [Ow α] {x : α}
    (ha : AJ X es (a :: args) as) (hG : G as (.ow x)) (hdb : (n == ("__debug__" : Str)) = false := by decide) (he : starEach (a :: args) X.env = (false, eval a X.env) :: starEach args X.env := by rfl) (hpl : (backTo pos (starEach args X.env)).any (·.1) = false := by rfl) :
    NJ X es (.Call (.Name n p) (a :: args) [] pos) x := .mk fun f σ F H S Q q =>
  peR (pe_call Fn hr hg hm hk hb .nil hp paW hdb he hpl) (ha f σ F H S _ fun vs F1 H1 t1 r1 => by
    show spP X.K G (vs ++ []) H1 Q E
    rw [List.append_nil]
    exact ⟨as, _, F1, hG, t1.e, r1, fun v F2 H2 P t2 r2 hn hp => q v F2 H2 P (t1.trans t2) r2 hn fun z hz => t1.back (hp z hz)⟩)
/-- what is its own stands by itself -/
class OwS (α : Type) [Ow α] : Prop where
  in_ : ∀ {K : PySem.W.Frag} {F F' H : Hp} {v : V} {x : α} {P : List Addr}, (∀ p ∈ P, F' p = none) → Ow.own K F H v x P → Ow.own K F' H v x P
instance owsL {α : Type} [Sc α] : OwS (List α) := ⟨fun {K F F' H v x P} hf h => by
  obtain ⟨a, o, e, eP, h1, h2, hz, vs, eo, r⟩ := h
  subst eP
  exact ⟨a, o, e, rfl, h1, hf a (by simp), hz, vs, eo, by rw [scMap r]; exact mapSc x (okSc r)⟩⟩
theorem St0.ovl {F H F2 H2 : Hp} (s : Sub F H) (t : St0 (ovl F H) H F2 H2) : St0 F H F H2 := ⟨Inc.refl _, t.h, t.t, s.inc t.inc, fun _ _ h => .inl h, t.k⟩
/-- behind a call that changed what was lent -/
theorem EnvP.lent {K : PySem.W.Frag} {f : Fr} {es : List En} {σ : L2.St} {F H F' H' : Hp} {Ps : Nat → List Addr} {i : Nat} {e e' : En} {P P' : List Addr} (st : Stp f F H) (q : EnvP K f es σ F H Ps) (hi : es[i]? = some e) (hP : Ps i = P) (t : Stp ⟨(· ∈ P), F, H⟩ F' H')
    (h : EnOk K F' H' (sl σ i) P' e') (hn : P'.Nodup) (hp : ∀ p ∈ P', p ∈ P ∨ H p = none) (ha : noAl i es) (hw : ∀ (α : Type) (r : Ow α) (x : α), e' = .owI r x → ∃ (β : Type) (r : Ow β) (y : β), e = .owI r y) (hae : ∀ j (α : Type) (r : Ow α) (x : α), e' ≠ .alI j r x) :
    Stp f F' H' ∧ EnvP K f (es.set i e') σ F' H' (fun j => if j = i then P' else Ps j) := by
  have hil : i < es.length := get_lt hi
  have kj : ∀ j, j < es.length → j ≠ i → ∀ p ∈ Ps j, H' p = H p ∧ F' p = none := fun j hj hne p hp => by
    have np : p ∉ P := fun z => hne (q.dj j i p hj hil hp (by rw [hP]; exact z))
    obtain ⟨o1, o2⟩ := q.out hj p hp
    cases z : H p with
    | none => exact absurd z o1
    | some u =>
      have e := t.h p u np z
      refine ⟨e, ?_⟩
      rcases t.n p o1 o2 with w | ⟨ks, w⟩
      · exact w
      · rw [e] at w
        exact absurd (z.trans w) ((q.ok j es[j] (List.getElem?_eq_getElem hj)).nt p hp ks)
  refine ⟨st.trans t fun x hx => q.fr i x hil (by rw [hP]; exact hx), by simp [q.len], fun j e2 hj => ?_, fun j hj => ?_, fun j k' p h1 h2 p1 p2 => ?_, fun j p h1 p1 => ?_, fun j p α r x hj p1 => ?_, fun j k' α r x hj => ?_⟩
  · by_cases z : j = i
    · subst z
      rw [List.getElem?_set_self hil] at hj
      cases hj
      rw [if_pos rfl]; exact h
    · rw [List.getElem?_set_ne (Ne.symm z)] at hj
      rw [if_neg z]
      exact (q.ok j e2 hj).but t.f (fun p hp => (kj j (get_lt hj) z p hp).1) fun p hp => (kj j (get_lt hj) z p hp).2
  · by_cases z : j = i
    · rw [if_pos z]; exact hn
    · rw [if_neg z]; exact q.nd j (by simpa using hj)
  · rw [List.length_set] at h1 h2
    by_cases z : j = i
    · by_cases z2 : k' = i
      · rw [z, z2]
      · rw [if_pos z] at p1
        rw [if_neg z2] at p2
        rcases hp p p1 with w | w
        · exact absurd (q.dj k' i p h2 hil p2 (by rw [hP]; exact w)) z2
        · exact absurd w (q.out h2 p p2).1
    · rw [if_neg z] at p1
      by_cases z2 : k' = i
      · rw [if_pos z2] at p2
        rcases hp p p2 with w | w
        · exact absurd (q.dj j i p h1 hil p1 (by rw [hP]; exact w)) z
        · exact absurd w (q.out h1 p p1).1
      · rw [if_neg z2] at p2
        exact q.dj j k' p h1 h2 p1 p2
  · rw [List.length_set] at h1
    by_cases z : j = i
    · rw [if_pos z] at p1
      rcases hp p p1 with w | w
      · exact q.fr i p hil (by rw [hP]; exact w)
      · exact .inl (st.back w)
    · rw [if_neg z] at p1; exact q.fr j p h1 p1
  · by_cases z : j = i
    · subst z
      rw [List.getElem?_set_self hil] at hj
      rw [if_pos rfl] at p1
      obtain ⟨β, r2, y, e2⟩ := hw α r x (Option.some.inj hj)
      rcases hp p p1 with w | w
      · exact q.nw j p β r2 y (hi.trans (congrArg some e2)) (by rw [hP]; exact w)
      · exact st.back w
    · rw [List.getElem?_set_ne (Ne.symm z)] at hj
      rw [if_neg z] at p1
      exact q.nw j p α r x hj p1
  · by_cases z : j = i
    · subst z
      rw [List.getElem?_set_self hil] at hj
      exact absurd (Option.some.inj hj) (hae k' α r x)
    · rw [List.getElem?_set_ne (Ne.symm z)] at hj
      obtain ⟨hk, w, Q, ew, hQ, o⟩ := q.al j k' α r x hj
      have hki : k' ≠ i := fun z2 => ha j α r x (z2 ▸ hj)
      refine ⟨by rw [List.length_set]; exact hk, w, Q, ew, fun p hp => ?_, Ow.mono t.f (fun p hp => (kj k' hk hki p (hQ p hp)).1) (fun p hp => (kj k' hk hki p (hQ p hp)).2) o⟩
      rw [if_neg hki]; exact hQ p hp
/-- the slot's own | lent object, by its kind -/
def En.lent {π : Type} (r : Ow π) (p : π) (e : En) : Option (π → En) := none
variable {π : Type} [r : Ow π] {pp pq : π} {GU : π → List En → π → En → Prop} {i : Nat}
/-- objects stand at an address -/
class OwR (π : Type) [Ow π] : Prop where
  ref : ∀ {K : PySem.W.Frag} {F H : Hp} {v : V} {x : π} {P : List Addr}, Ow.own K F H v x P → ∃ a, v = .ref a
instance owrCl {α : Type} [Cl α] [Clm α] : OwR α := ⟨fun h => let ⟨a, _, e, _⟩ := h; ⟨a, e⟩⟩
/-- a thing at a known address -/
structure Adr (α : Type) where
  a : Addr
  x : α
instance owAdr {α : Type} [r : Ow α] : Ow (Adr α) where
  rp := ⟨fun K H v x => Rp.rep K H v x.x, fun i h => Rp.mono i h⟩
  own K F H v x P := v = .ref x.a ∧ Ow.own K F H (.ref x.a) x.x P
  mono i k n h := ⟨h.1, Ow.mono i k n h.2⟩
  out h := Ow.out h.2
  fzn {K F H v x P} h := by
    have z := Ow.fzn h.2
    rw [h.1]; exact z
  nt h := Ow.nt h.2
/-- how a lent name stands in its slot -/
inductive Lent {π : Type} (r : Ow π) (p q : π) : En → En → Prop where
  | ow : Lent r p q (.owI r p) (.owI r q)
  | at (a : Addr) : Lent r p q (.atI a r p) (.atI a r q)
  | ad (a : Addr) : Lent r p q (@En.ow _ (@owAdr _ r) (Adr.mk a p)) (@En.ow _ (@owAdr _ r) (Adr.mk a q))
theorem x_callU [OwR π] {e1 e2 : En} (Fn : FnOk X.prog X.w X.K X.mg X.base CX k fa fd ps (spU X.K GU)) (hr : Room k X.A) (hm : X.mg n = some (.ref fa)) (hk : PySem.W.keepIn X.K (.ref fa) = true) (hb : Binds X.K fd ps []) (hpx : Passes CX X E) (hg : Gl X n := by rfl) [Rp α] {x : α}
    (hv : PE X a (tVar i)) (ha : XA X es args as es1) (hi : es1[i]? = some e1) (hl : Lent r pp pq e1 e2) (hG : GU pp as pq (.fz x)) (hes : es1.set i e2 = es2 := by rfl) (hal : alFree i es1 = true := by rfl)
    (hse : ∃ e0, es[i]? = some e0 ∧ ∀ (K : PySem.W.Frag) (F H : Hp) s P, EnOk K F H s P e0 → ∃ a, s = some (.ref a))
    (hdb : (n == ("__debug__" : Str)) = false := by decide) (he : starEach (a :: args) X.env = (false, eval a X.env) :: starEach args X.env := by rfl) (hpl : (backTo pos (starEach args X.env)).any (·.1) = false := by rfl) :
    XJ X es (.Call (.Name n p) (a :: args) [] pos) x es2 := .mk fun f σ F H S Q q =>
  peR (pe_call Fn hr hg hm hk hb .nil hpx (pa_cons hv paW he) hdb he hpl) (by
    obtain ⟨Ps0, p0⟩ := S.env
    obtain ⟨e0, he0, href⟩ := hse
    obtain ⟨b, eb⟩ := href _ _ _ _ _ (p0.ok i e0 he0)
    refine ⟨.ref b, sl_of eb, ha f σ F H S _ fun vs F1 H1 S1 i1 r1 => ?_⟩
    show spU X.K GU (V.ref b :: vs ++ []) H1 Q E
    rw [List.append_nil]
    obtain ⟨Ps, q1⟩ := S1.env
    have ok1 := q1.ok i e1 hi
    have own1 : Ow.own X.K F1 H1 (.ref b) pp (Ps i) := by
      cases hl with
      | ow => obtain ⟨v, ev, o⟩ := ok1; rw [eb] at ev; cases ev; exact o
      | «at» c => obtain ⟨ev, o⟩ := ok1; rw [eb] at ev; cases ev; exact o
      | ad c => obtain ⟨v, ev, e3, o⟩ := ok1; subst e3; rw [eb] at ev; cases ev; exact o
    refine ⟨b, vs, pp, as, pq, _, F1, Ps i, rfl, hG, S1.sub, own1, q1.nd i (get_lt hi), r1, fun v F2 H2 P' t2 o2 hn hf r2 => ?_⟩
    have hP' : ∀ z ∈ P', z ∈ Ps i ∨ H1 z = none := fun z hz => (hf z hz).symm
    have z := EnvP.lent S1.st q1 hi rfl t2 (e' := e2) (P' := P') (by
      cases hl with
      | ow => exact ⟨_, eb, o2⟩
      | «at» c =>
        obtain ⟨ev, _⟩ := ok1
        rw [eb] at ev
        cases ev
        exact ⟨eb, o2⟩
      | ad c =>
        obtain ⟨v, ev, e3, o⟩ := ok1
        subst e3
        rw [eb] at ev
        cases ev
        exact ⟨_, eb, rfl, o2⟩) hn hP' (noAl_of hal) (by
      intro α r x e
      cases hl with
      | ow => exact ⟨_, _, _, rfl⟩
      | «at» c => cases e
      | ad c => exact ⟨_, _, _, rfl⟩) (by
      intro j α r x e
      cases hl <;> cases e)
    subst hes
    exact q v F2 H2 ⟨z.1, _, z.2⟩ (i1.trans t2.f) r2)
theorem y_callU [OwR π] {e1 e2 : En} (Fn : FnOk X.prog X.w X.K X.mg X.base CX k fa fd ps (spU X.K GU)) (hr : Room k X.A) (hm : X.mg n = some (.ref fa)) (hk : PySem.W.keepIn X.K (.ref fa) = true) (hb : Binds X.K fd ps []) (hpx : Passes CX X E) (hg : Gl X n := by rfl) [Ow α] {x : α}
    (hv : PE X a (tVar i)) (ha : XA X es args as es1) (hi : es1[i]? = some e1) (hl : Lent r pp pq e1 e2) (hG : GU pp as pq (.ow x)) (hes : es1.set i e2 = es2 := by rfl) (hal : alFree i es1 = true := by rfl)
    (hse : ∃ e0, es[i]? = some e0 ∧ ∀ (K : PySem.W.Frag) (F H : Hp) s P, EnOk K F H s P e0 → ∃ a, s = some (.ref a))
    (hdb : (n == ("__debug__" : Str)) = false := by decide) (he : starEach (a :: args) X.env = (false, eval a X.env) :: starEach args X.env := by rfl) (hpl : (backTo pos (starEach args X.env)).any (·.1) = false := by rfl) :
    YJ X es (.Call (.Name n p) (a :: args) [] pos) x es2 := .mk fun f σ F H S Q q =>
  peR (pe_call Fn hr hg hm hk hb .nil hpx (pa_cons hv paW he) hdb he hpl) (by
    obtain ⟨Ps0, p0⟩ := S.env
    obtain ⟨e0, he0, href⟩ := hse
    obtain ⟨b, eb⟩ := href _ _ _ _ _ (p0.ok i e0 he0)
    refine ⟨.ref b, sl_of eb, ha f σ F H S _ fun vs F1 H1 S1 i1 r1 => ?_⟩
    show spU X.K GU (V.ref b :: vs ++ []) H1 Q E
    rw [List.append_nil]
    obtain ⟨Ps, q1⟩ := S1.env
    have ok1 := q1.ok i e1 hi
    have own1 : Ow.own X.K F1 H1 (.ref b) pp (Ps i) := by
      cases hl with
      | ow => obtain ⟨v, ev, o⟩ := ok1; rw [eb] at ev; cases ev; exact o
      | «at» c => obtain ⟨ev, o⟩ := ok1; rw [eb] at ev; cases ev; exact o
      | ad c => obtain ⟨v, ev, e3, o⟩ := ok1; subst e3; rw [eb] at ev; cases ev; exact o
    refine ⟨b, vs, pp, as, pq, _, F1, Ps i, rfl, hG, S1.sub, own1, q1.nd i (get_lt hi), r1, fun v F2 H2 P' PR t2 o2 hn hf oR hnR hfR hdR => ?_⟩
    have hP' : ∀ z ∈ P', z ∈ Ps i ∨ H1 z = none := fun z hz => (hf z hz).symm
    have z := EnvP.lent S1.st q1 hi rfl t2 (e' := e2) (P' := P') (by
      cases hl with
      | ow => exact ⟨_, eb, o2⟩
      | «at» c =>
        obtain ⟨ev, _⟩ := ok1
        rw [eb] at ev
        cases ev
        exact ⟨eb, o2⟩
      | ad c =>
        obtain ⟨v, ev, e3, o⟩ := ok1
        subst e3
        rw [eb] at ev
        cases ev
        exact ⟨_, eb, rfl, o2⟩) hn hP' (noAl_of hal) (by
      intro α r x e
      cases hl with
      | ow => exact ⟨_, _, _, rfl⟩
      | «at» c => cases e
      | ad c => exact ⟨_, _, _, rfl⟩) (by
      intro j α r x e
      cases hl <;> cases e)
    subst hes
    refine q v F2 H2 PR _ z.1 z.2 (i1.trans t2.f) oR hnR (fun w hw => S1.st.back (hfR w hw)) fun j hj w hw hw2 => ?_
    by_cases c : j = i
    · rw [if_pos c] at hw2; exact hdR w hw hw2
    · rw [if_neg c] at hw2
      rw [List.length_set] at hj
      exact (q1.out hj w hw2).1 (hfR w hw))
end

/-! a def's promise, by its body -/
section
variable {P : Program} {w : World} {K : PySem.W.Frag} {mg : Str → Option Value} {base : Heap} {x qual : Str} {params : Arguments} {body : List Stmt} {scope : Scope} {f : Addr} {fd : FuncData} {N ps : List Str} {k : Nat}
def OutR (r : En) : Out → Prop
  | .rt e => e = r
  | .en => r = .fz ()
  | _ => False
def isFz : En → Bool
  | .fzI _ _ => true
  | _ => false
def pad (as : List En) (n : Nat) : List En := as ++ List.replicate n En.un
theorem start_len {N : List Str} {vs : List V} (h : vs.length ≤ N.length) : (L2.start N vs).length = N.length := by unfold L2.start; simp; omega
theorem start_at {N : List Str} {vs : List V} {i : Nat} {v : V} (h : vs[i]? = some v) : sl (L2.start N vs) i = some v := by
  have hi := (List.getElem?_eq_some_iff.mp h).1
  unfold sl L2.start
  rw [List.getElem?_append_left (by simpa using hi), List.getElem?_map, h]; rfl
theorem pad_at {as : List En} {n i : Nat} {e : En} (h : (pad as n)[i]? = some e) : e = .un ∨ as[i]? = some e := by
  unfold pad at h
  by_cases q : i < as.length
  · rw [List.getElem?_append_left q] at h; exact .inr h
  · rw [List.getElem?_append_right (by omega)] at h
    have := List.mem_of_getElem? h
    exact .inl (List.eq_of_mem_replicate this)
theorem argsGet {K : PySem.W.Frag} {F : Hp} : ∀ {vs : List V} {as : List En} {i : Nat} {e : En}, ArgsOk K F vs as → as[i]? = some e → ∃ v, vs[i]? = some v ∧ ArOk K F v e
  | _, _, _, _, .nil, h => by simp at h
  | _, _, 0, _, .cons r _, h => by simp at h; subst h; exact ⟨_, rfl, r⟩
  | _, _, i + 1, e, .cons _ t, h => by
    obtain ⟨v, h1, h2⟩ := argsGet (i := i) t (by simpa using h)
    exact ⟨v, by simpa using h1, h2⟩
theorem Sw.entry {K : PySem.W.Frag} {N : List Str} {vs : List V} {as : List En} {F H : Hp} (s : Sub F H) (ha : ArgsOk K F vs as) (hl : as.length ≤ N.length) : Sw K ⟨no, F, H⟩ (pad as (N.length - as.length)) (L2.start N vs) F H := by
  have el := ArgsOk.len ha
  refine ⟨Stp.refl s, fun _ => [], by rw [start_len (by omega)]; unfold pad; simp; omega, fun i e h => ?_, fun _ _ => List.nodup_nil, fun _ _ p _ _ h => (by cases h), fun _ p _ h => (by cases h), fun _ p _ _ _ _ h => (by cases h), fun i j α r x h => ?_⟩
  · rcases pad_at h with z | z
    · subst z; rfl
    · obtain ⟨v, hv, ok⟩ := argsGet ha z
      cases e with
      | fzI _ y => exact ⟨rfl, v, start_at hv, ok⟩
      | un => rfl
      | owI _ _ => exact ok.elim
      | atI _ _ _ => exact ok.elim
      | alI _ _ _ => rfl
  · rcases pad_at h with z | z
    · cases z
    · obtain ⟨v, hv, ok⟩ := argsGet ha z
      exact ok.elim
theorem fn_pure {G : List En → En → Prop} (Fd : FunD K x qual params body scope [] [] f fd) (S : FnScope N ps scope) (hN : ps.length ≤ N.length) (hl : ∀ as r, G as r → as.length = ps.length)
    (hb : ∀ (cdv : Value) (A : Around) (outer : List Env) (s : Shared) (H : Hp) (E : XK), Room k (A.deeper (envOfC qual scope s.heap.objs.size f cdv)) → ∀ as r, G as r → ∃ out, OutR r out ∧ ES (cxOf CX0 P w K mg base N qual scope f cdv A outer s H E).nox (pad as (N.length - as.length)) body out) :
    FnOk P w K mg base CX0 (k + 1) f fd ps (spP K G) := by
  refine Fd.ok S (fun vs H Q E h => ?_) (fun cdv A outer s H vs Q E hr h => ?_)
  · obtain ⟨as, r, F, hG, _, ha, _⟩ := h
    rw [ArgsOk.len ha, hl as r hG]
  · obtain ⟨as, r, F, hG, sb, ha, hq⟩ := h
    obtain ⟨out, ho, hES⟩ := hb cdv A outer s H E hr as r hG
    refine ⟨_, PSs.nox pssW, hES ⟨no, F, H⟩ _ F H _ (Sw.entry sb ha (by rw [hl as r hG]; exact hN)) ?_⟩
    cases out with
    | rt e => rw [show e = r from ho]; exact hq
    | en =>
      rw [show r = .fz () from ho] at hq
      exact fun σ F' H' st => hq _ F' H' st ⟨rfl, True.intro⟩
    | nx es => exact ho.elim
    | bk es => exact ho.elim
    | eu a r p => exact ho.elim
    | ru a r p e => exact ho.elim
def OutU {π : Type} (a : Addr) (o : Ow π) (p : π) (r : En) (out : Out) : Prop := out = .ru a o p r ∨ (out = .eu a o p ∧ r = .fz ())
theorem Sw.entryU {K : PySem.W.Frag} {π : Type} [o : Ow π] {N : List Str} {vs : List V} {as : List En} {F H : Hp} {a : Addr} {p : π} {PP : List Addr} (s : Sub F H) (ho : Ow.own K F H (.ref a) p PP) (hn : PP.Nodup) (ha : ArgsOk K F vs as) (hl : as.length + 1 ≤ N.length) :
    Sw K ⟨(· ∈ PP), F, H⟩ (pad (.at a p :: as) (N.length - (as.length + 1))) (L2.start N (.ref a :: vs)) F H := by
  have el := ArgsOk.len ha
  have nz : ∀ j : Nat, ∀ z : Addr, z ∈ (if j = 0 then PP else []) → j = 0 ∧ z ∈ PP := fun j z h => by
    by_cases c : j = 0
    · rw [if_pos c] at h; exact ⟨c, h⟩
    · rw [if_neg c] at h; cases h
  refine ⟨Stp.refl s, fun j => if j = 0 then PP else [], by rw [start_len (by simp; omega)]; unfold pad; simp; omega, fun i e h => ?_, fun j _ => ?_, fun i j p _ _ h1 h2 => by rw [(nz i p h1).1, (nz j p h2).1], fun j p _ h => .inr (nz j p h).2, fun j q α r x h hp => ?_, fun i j α r x h => ?_⟩
  · rcases pad_at h with z | z
    · subst z
      by_cases c : i = 0
      · subst c
        have h0 : (pad (.at a p :: as) (N.length - (as.length + 1)))[0]? = some (En.at a p) := rfl
        rw [h0] at h; cases h
      · rw [if_neg c]; rfl
    · cases i with
      | zero =>
        have e1 : En.at a p = e := by simpa using z
        subst e1
        rw [if_pos rfl]
        exact ⟨start_at rfl, ho⟩
      | succ i =>
        rw [if_neg (Nat.succ_ne_zero i)]
        obtain ⟨v, hv, ok⟩ := argsGet ha (i := i) (by simpa using z)
        cases e with
        | fzI _ y => exact ⟨rfl, v, start_at (by simpa using hv), ok⟩
        | un => rfl
        | owI _ _ => exact ok.elim
        | atI _ _ _ => exact ok.elim
        | alI _ _ _ => rfl
  · by_cases c : j = 0
    · rw [if_pos c]; exact hn
    · rw [if_neg c]; exact List.nodup_nil
  · obtain ⟨c, _⟩ := nz j q hp
    subst c
    have h0 : (pad (.at a p :: as) (N.length - (as.length + 1)))[0]? = some (En.at a p) := rfl
    rw [h0] at h; cases h
  · rcases pad_at h with z | z
    · cases z
    · cases i with
      | zero => cases z
      | succ i =>
        obtain ⟨v, hv, ok⟩ := argsGet ha (i := i) (by simpa using z)
        exact ok.elim
theorem fn_lent {π : Type} [o : Ow π] {G : π → List En → π → En → Prop} (Fd : FunD K x qual params body scope [] [] f fd) (S : FnScope N ps scope) (hN : ps.length ≤ N.length) (hl : ∀ p as p' r, G p as p' r → as.length + 1 = ps.length)
    (hb : ∀ (cdv : Value) (A : Around) (outer : List Env) (s : Shared) (H : Hp) (E : XK), Room k (A.deeper (envOfC qual scope s.heap.objs.size f cdv)) → ∀ a p as p' r, G p as p' r → ∃ out, OutU a o p' r out ∧ ES (cxOf CX0 P w K mg base N qual scope f cdv A outer s H E).nox (pad (.at a p :: as) (N.length - (as.length + 1))) body out) :
    FnOk P w K mg base CX0 (k + 1) f fd ps (spU K G) := by
  refine Fd.ok S (fun vs H Q E h => ?_) (fun cdv A outer s H vs Q E hr h => ?_)
  · obtain ⟨a, ws, p, as, p', r, F, PP, rfl, hG, _, _, _, ha, _⟩ := h
    rw [List.length_cons, ArgsOk.len ha, hl p as p' r hG]
  · obtain ⟨a, ws, p, as, p', r, F, PP, rfl, hG, sb, hw, hn, ha, hq⟩ := h
    obtain ⟨out, ho, hES⟩ := hb cdv A outer s H E hr a p as p' r hG
    refine ⟨_, PSs.nox pssW, hES ⟨(· ∈ PP), F, H⟩ _ F H _ (Sw.entryU sb hw hn ha (by rw [hl p as p' r hG]; exact hN)) ?_⟩
    rcases ho with e | ⟨e, er⟩
    · subst e; exact hq
    · subst e er
      exact fun σ F' H' P' st o2 hn2 hf => hq _ F' H' P' st o2 hn2 hf ⟨rfl, True.intro⟩
end
end Ly
namespace Ly
open PySem PySem.Spec PyProof.Rows L2 TL
/-- a list that is read, its items frozen -/
structure LR (X : Cx) (es : List En) (e : Expr) {α : Type} [Rp α] (xs : List α) : Prop where
  run : ∀ (f : Fr) (σ : L2.St) (F H : Hp), Sw X.K f es σ F H → ∀ Q : VK, (∀ p vs F' H', St0 F H F' H' → H' p = some (.lst vs) → Paired (Rp.rep X.K F') vs xs → xs.length ≤ big → Q (.ref p) H') → wpE X e σ H Q
instance {X : Cx} {es : List En} {e : Expr} {α : Type} [Rp α] {xs : List α} : CoeFun (LR X es e xs) (fun _ => ∀ (f : Fr) (σ : L2.St) (F H : Hp), Sw X.K f es σ F H → ∀ Q : VK, (∀ p vs F' H', St0 F H F' H' → H' p = some (.lst vs) → Paired (Rp.rep X.K F') vs xs → xs.length ≤ big → Q (.ref p) H') → wpE X e σ H Q) := ⟨LR.run⟩
/-- written items -/
structure LA (X : Cx) (es : List En) (args : List Expr) {α : Type} [Rp α] (xs : List α) : Prop where
  run : ∀ (f : Fr) (σ : L2.St) (F H : Hp), Sw X.K f es σ F H → ∀ Q : List V → Hp → Prop, (∀ vs F' H', St0 F H F' H' → Paired (Rp.rep X.K F') vs xs → Q vs H') → wpA X args σ H Q
instance {X : Cx} {es : List En} {args : List Expr} {α : Type} [Rp α] {xs : List α} : CoeFun (LA X es args xs) (fun _ => ∀ (f : Fr) (σ : L2.St) (F H : Hp), Sw X.K f es σ F H → ∀ Q : List V → Hp → Prop, (∀ vs F' H', St0 F H F' H' → Paired (Rp.rep X.K F') vs xs → Q vs H') → wpA X args σ H Q) := ⟨LA.run⟩
structure XLA (X : Cx) (es : List En) (args : List Expr) {α : Type} [Rp α] (xs : List α) (es' : List En) : Prop where
  run : ∀ (f : Fr) (σ : L2.St) (F H : Hp), Sw X.K f es σ F H → ∀ Q : List V → Hp → Prop, (∀ vs F' H', Sw X.K f es' σ F' H' → Inc F F' → Paired (Rp.rep X.K F') vs xs → Q vs H') → wpA X args σ H Q
instance {X : Cx} {es : List En} {args : List Expr} {α : Type} [Rp α] {xs : List α} {es' : List En} : CoeFun (XLA X es args xs es') (fun _ => ∀ (f : Fr) (σ : L2.St) (F H : Hp), Sw X.K f es σ F H → ∀ Q : List V → Hp → Prop, (∀ vs F' H', Sw X.K f es' σ F' H' → Inc F F' → Paired (Rp.rep X.K F') vs xs → Q vs H') → wpA X args σ H Q) := ⟨XLA.run⟩
section
variable {X : Cx} {es es1 es2 : List En} {a b c e elt tg iter : Expr} {args : List Expr} {pos : Pos} {α β γ : Type} {i : Nat}
theorem lst_of {K : PySem.W.Frag} {F H : Hp} [Rp α] {v : V} {xs : List α} {P : List Addr} (h : Ow.own K F H v xs P) : ∃ p vs, v = .ref p ∧ H p = some (.lst vs) ∧ Paired (Rp.rep K F) vs xs ∧ xs.length ≤ big ∧ P = [p] := by
  obtain ⟨p, o, e, eP, h1, h2, hz, vs, eo, r⟩ := h
  subst eo
  exact ⟨p, vs, e, h1, r, hz, eP⟩
theorem FJ.lr [Rp α] {xs : List α} (h : FJ X es e xs) : LR X es e xs := .mk fun f σ F H S Q q => h f σ F H S Q fun v F' H' t r => by
  have hz := repLen r
  obtain ⟨p, vs, ev, h1, h2, rr⟩ := repL t.e r
  subst ev
  exact q p vs F' H' t h1 rr hz
theorem NJ.lr [Rp α] {xs : List α} (h : NJ X es e xs) : LR X es e xs := .mk fun f σ F H S Q q => h f σ F H S Q fun v F' H' P t r hn hp => by
  obtain ⟨p, vs, ev, h1, rr, hz, _⟩ := lst_of r
  subst ev
  exact q p vs F' H' t h1 rr hz
theorem RJ.lr [Sc α] {xs : List α} (h : RJ X es e xs) : LR X es e xs := .mk fun f σ F H S Q q => h f σ F H S Q fun v F' H' t r => by
  have hz := repLen r
  obtain ⟨p, vs, ev, h1, h2, rr⟩ := repL (ovl_sub t.e) r
  subst ev
  exact q p vs F' H' t h1 (by rw [scMap rr]; exact mapSc xs (okSc rr)) hz
theorem o_lr [Rp α] {xs : List α} (hv : PE X e (tVar i)) (h : es[i]? = some (.ow xs) := by rfl) : LR X es e xs := .mk fun f σ F H S Q q => peR hv (by
  obtain ⟨Ps, p⟩ := S.env
  obtain ⟨v, ev, r⟩ := p.ok i _ h
  obtain ⟨p, vs, ev2, h1, rr, hz, _⟩ := lst_of r
  subst ev2
  exact ⟨_, sl_of ev, q p vs F H (St0.refl S.sub) h1 rr hz⟩)
/-! displays -/
theorem la_nil [Rp α] : LA X es [] ([] : List α) := .mk fun f σ F H S Q q => paR pa_nil (q [] F H (St0.refl S.sub) .nil)
theorem la_cons [Rp α] {x : α} {xs : List α} (h : FJ X es a x) (hr : LA X es args xs) (hs : starEach (a :: args) X.env = (false, eval a X.env) :: starEach args X.env := by rfl) : LA X es (a :: args) (x :: xs) := .mk fun f σ F H S Q q =>
  paR (pa_cons peW paW hs) (h f σ F H S _ fun v F1 H1 t1 r1 => hr f σ F1 H1 (S.step t1) _ fun vs F2 H2 t2 r2 => q _ F2 H2 (t1.trans t2) (.cons (Rp.mono t2.f r1) r2))
theorem newL {K : PySem.W.Frag} {F H : Hp} {p : Addr} [Rp α] {vs : List V} {xs : List α} (s : Sub F H) (hp : H p = none) (hz : xs.length ≤ big) (r : Paired (Rp.rep K F) vs xs) : Ow.own K F (upd H p (.lst vs)) (.ref p) xs [p] :=
  ⟨p, _, rfl, rfl, upd_same, sub_none s hp, hz, vs, rfl, r⟩
theorem n_disp [Rp α] {xs : List α} (h : LA X es args xs) (hz : xs.length ≤ big := by exact Nat.le_of_ble_eq_true rfl) : NJ X es (.List args pos) xs := .mk fun f σ F H S Q q =>
  peR (pe_lst paW) (h f σ F H S _ fun vs F1 H1 t1 r1 => ⟨by rw [pairedLen r1]; exact big_line hz, fun p hp => q _ F1 _ [p] (t1.trans (St0.new t1.e hp)) (newL t1.e hp hz r1) (by simp) fun z hz => by
    have e : z = p := by simpa using hz
    rw [e]; exact t1.back hp⟩)
theorem newC {F H : Hp} {p : Addr} {o : HO} (s : Sub F H) (hp : H p = none) : St0 F H (upd F p o) (upd H p o) := by
  have hf := sub_none s hp
  refine ⟨Inc.new hf, fun a u _ e => Inc.new hp a u e, fun a e => ?_, fun a u e => ?_, fun a e1 e2 => ?_, fun a ks e => Inc.new hp a _ e⟩
  · by_cases q : a = p
    · subst q; exact absurd hp e
    · show upd H p o a ≠ none
      rw [upd_ne q]; exact e
  · by_cases q : a = p
    · subst q; rw [upd_same] at e; cases e; exact .inl upd_same
    · rw [upd_ne q] at e
      exact (s a u e).inc (Inc.new hp)
  · by_cases q : a = p
    · subst q; exact absurd hp e1
    · rw [upd_ne q]; exact .inl e2
theorem f_tup2 {x1} [Rp α] [Rp β] {x : α} {y : β} (ha : FJ X es a x) (hb : FJ X es b y) (s1 : starEach [a, b] X.env = (false, eval a X.env) :: starEach [b] X.env := by rfl) (s2 : starEach [b] X.env = (false, eval b X.env) :: starEach [] X.env := by rfl) : FJ X es (.Tuple [a, b] x1 pos) (x, y) := .mk fun f σ F H S Q q =>
  peR (pe_tup (pa_cons peW (pa_cons peW pa_nil s2) s1)) (ha f σ F H S _ fun v F1 H1 t1 r1 => hb f σ F1 H1 (S.step t1) _ fun w F2 H2 t2 r2 => ⟨show 2 ≤ sizeLine by decide, fun p hp => by
    have t3 := newC (o := .tup [v, w]) t2.e hp
    exact q _ _ _ ((t1.trans t2).trans t3) ⟨p, _, rfl, upd_same, v, w, rfl, Rp.mono (t2.f.trans t3.f) r1, Rp.mono t3.f r2⟩⟩)
/-! list(xs), slices, + -/
theorem n_listof [Rp α] {xs : List α} {p : Pos} (hg : Gl X "list") (hm : X.mg "list" = none) (h : LR X es a xs) (s1 : starEach [a] X.env = (false, eval a X.env) :: starEach [] X.env := by rfl) : NJ X es (.Call (.Name "list" p) [a] [] pos) xs := .mk fun f σ F H S Q q =>
  peR (pe_callTy call_list_of hg hm (by decide +kernel) (pa_cons peW pa_nil s1) (by decide) (by decide) s1) (h f σ F H S _ fun l vs F1 H1 t1 h1 r1 hz => ⟨l, vs, rfl, .inl (.inl (.inl h1)), fun p hp => q _ F1 _ [p] (t1.trans (St0.new t1.e hp)) (newL t1.e hp hz r1) (by simp) fun z hz => by
    have e : z = p := by simpa using hz
    rw [e]; exact t1.back hp⟩)
def cutX {α : Type} (xs : List α) (lo hi : Option Int) : List α := (xs.drop (HT.sIx xs.length 0 lo)).take (HT.sIx xs.length xs.length hi - HT.sIx xs.length 0 lo)
theorem pairedDrop {δ : Type} {R : γ → δ → Prop} : ∀ (n : Nat) {xs : List γ} {ys : List δ}, Paired R xs ys → Paired R (xs.drop n) (ys.drop n)
  | 0, _, _, h => h
  | _ + 1, _, _, .nil => .nil
  | n + 1, _, _, .cons _ t => pairedDrop n t
theorem pairedTake {δ : Type} {R : γ → δ → Prop} : ∀ (n : Nat) {xs : List γ} {ys : List δ}, Paired R xs ys → Paired R (xs.take n) (ys.take n)
  | 0, _, _, _ => .nil
  | _ + 1, _, _, .nil => .nil
  | n + 1, _, _, .cons r t => .cons r (pairedTake n t)
theorem pairedApp {δ : Type} {R : γ → δ → Prop} : ∀ {xs us : List γ} {ys ws : List δ}, Paired R xs ys → Paired R us ws → Paired R (xs ++ us) (ys ++ ws)
  | _, _, _, _, .nil, h => h
  | _, _, _, _, .cons r t, h => .cons r (pairedApp t h)
theorem pairedCut {R : V → α → Prop} {vs : List V} {xs : List α} {lo hi : Option Int} (h : Paired R vs xs) : Paired R (cutV vs lo hi) (cutX xs lo hi) := by
  unfold cutV cutX
  rw [pairedLen h]
  exact pairedTake _ (pairedDrop _ h)
theorem cutX_len (xs : List α) (lo hi : Option Int) : (cutX xs lo hi).length ≤ xs.length := by
  unfold cutX
  rw [List.length_take, List.length_drop]
  omega
/-- a part of a slice -/
inductive OJ (X : Cx) (es : List En) : Option Expr → Option Int → Prop where
  | no : OJ X es none none
  | some {e : Expr} {i : Int} (h : RJ X es e i) : OJ X es (some e) (some i)
def tO (X : Cx) : Option Expr → TO
  | none => tNoPart
  | some e => tPart (wpE X e)
theorem poO {o : Option Expr} : PO X o (tO X o) := by
  cases o with
  | none => exact po_none
  | some e => exact po_some peW
theorem OJ.run {o : Option Expr} {i : Option Int} (h : OJ X es o i) {f : Fr} {σ : L2.St} {F H : Hp} (S : Sw X.K f es σ F H) {Q : Option Int → Hp → Prop} (q : ∀ F' H', St0 F H F' H' → Q i H') : tO X o σ H Q := by
  cases h with
  | no => exact q F H (St0.refl S.sub)
  | some h => exact h f σ F H S _ fun v F1 H1 t1 r1 => ⟨_, r1.1, q F1 H1 t1⟩
theorem n_slice {p2 : Pos} {lo hi : Option Expr} {l u : Option Int} [Rp α] {xs : List α} (h : LR X es a xs) (hl : OJ X es lo l) (hh : OJ X es hi u) : NJ X es (.Subscript a (.Slice lo hi none p2) pos) (cutX xs l u) := .mk fun f σ F H S Q q =>
  peR (pe_slice sl_list peW poO poO) (h f σ F H S _ fun w vs F1 H1 t1 h1 r1 hz => hl.run (S.step t1) fun F2 H2 t2 => hh.run ((S.step t1).step t2) fun F3 H3 t3 => by
    have t := t2.trans t3
    exact ⟨w, vs, rfl, .inl (.inl (t.inc _ _ h1)), fun p hp => q _ F3 _ [p] ((t1.trans t).trans (St0.new t3.e hp)) (newL t3.e hp (Nat.le_trans (cutX_len _ _ _) hz) (pairedM t.f (pairedCut r1))) (by simp) fun z hz => by
      have e : z = p := by simpa using hz
      rw [e]; exact (t1.trans t).back hp⟩)
theorem n_plus [Rp α] {xs ys : List α} (hz : (xs ++ ys).length ≤ big) (ha : LR X es a xs) (hb : LR X es b ys) : NJ X es (.BinOp a .Add b pos) (xs ++ ys) := .mk fun f σ F H S Q q =>
  peR (pe_op op_cat peW peW) (ha f σ F H S _ fun l vs F1 H1 t1 h1 r1 _ => hb f σ F1 H1 (S.step t1) _ fun m ws F2 H2 t2 h2 r2 _ => by
    refine ⟨l, m, vs, ws, rfl, rfl, t2.inc _ _ h1, h2, ?_, fun p hp => q _ F2 _ [p] ((t1.trans t2).trans (St0.new t2.e hp)) (newL t2.e hp hz (pairedApp (pairedM t2.f r1) r2)) (by simp) fun z hz => ?_⟩
    · rw [pairedLen r1, pairedLen r2, ← List.length_append]; exact big_line hz
    · have e : z = p := by simpa using hz
      rw [e]; exact (t1.trans t2).back hp)
/-! sums, all, any, least, greatest -/
theorem r_onL {id : String} {n : Str} {r : List V → Hp → VK → Prop} [Rp α] [Sc β] {xs : List α} {y : β} (hc : CallR X (.builtin id) r) (hg : Gl X n) (hm : X.mg n = none) (hv : bootBuiltins n = some (.builtin id))
    (hr : ∀ (F H : Hp) (p : Addr) (vs : List V) (Q : VK), H p = some (.lst vs) → Paired (Rp.rep X.K F) vs xs → (Sc.ok y → Q (Sc.toV y) H) → r [.ref p] H Q) (h : LR X es a xs) (hn : n ≠ "__name__" := by decide) (hdb : (n == ("__debug__" : Str)) = false := by decide) (s1 : starEach [a] X.env = (false, eval a X.env) :: starEach [] X.env := by rfl) (hz : Sc.ok y := by trivial) {p : Pos} : RJ X es (.Call (.Name n p) [a] [] pos) y := .mk fun f σ F H S Q q =>
  peR (pe_callB hc hg hm hv (pa_cons peW pa_nil s1) hn hdb s1) (h f σ F H S _ fun l vs F1 H1 t1 h1 r1 _ => hr F1 H1 l vs Q h1 r1 fun ok => q _ F1 H1 t1 ⟨rfl, hz⟩)
theorem r_all {xs : List Bool} (hk : X.calm = true) (hg : Gl X "all") (hm : X.mg "all" = none) (h : LR X es a xs) (s1 : starEach [a] X.env = (false, eval a X.env) :: starEach [] X.env := by rfl) {p : Pos} : RJ X es (.Call (.Name "all" p) [a] [] pos) (xs.all id) :=
  r_onL (α := Bool) (β := Bool) (cr_all hk) hg hm (by decide +kernel) (by intro F H p vs Q h1 r q; exact ⟨p, xs, rfl, .inl (.inl (by rw [h1, scMap r]; rfl)), q True.intro⟩) h (by decide) (by decide) s1 True.intro
/-- the greatest, the least of some ints -/
def maxI : List Int → Int
  | [] => 0
  | x :: xs => xs.foldl (fun a b => if b > a then b else a) x
def minI : List Int → Int
  | [] => 0
  | x :: xs => xs.foldl (fun a b => if b < a then b else a) x
/-! texts -/
theorem r_sign {c : Nat} {z : Str} (ha : RJ X es a (sgn c)) (hb : RJ X es b z) (hm : behindInMarks .In b = false := by rfl) : RJ X es (.Compare a [.In] [b] pos) (decide (c ∈ z.cps.toList)) :=
  r_cmp op_in_sign (fun _ _ q => ⟨c, z, rfl, rfl, q⟩) True.intro ha hb hm
/-! == of data -/
class Dat (α : Type) [Rp α] [DecidableEq α] where
  d : α → PyData
  dp : ∀ {K : PySem.W.Frag} {F H : Hp} {v : V} {x : α}, Sub F H → Rp.rep K F v x → Dp K H v (d x)
  lay : ∀ {K : PySem.W.Frag} {F : Hp} {v : V} {x : α}, Rp.rep K F v x → (d x).canLay0 = true
  eq : ∀ x y : α, PyData.eqv (d x) (d y) = decide (x = y)
/-- data that is at most n deep -/
class DatN (α : Type) [Rp α] [DecidableEq α] (n : outParam Nat) extends Dat α where
  dep : ∀ x : α, (d x).depth ≤ n
theorem DatN.sh {α : Type} [Rp α] [DecidableEq α] {n : Nat} [DatN α n] (hn : n ≤ 64) {K : PySem.W.Frag} {F : Hp} {v : V} {x : α} (r : Rp.rep K F v x) : SeqAt.shaped (Dat.d x) = true := by
  show ((Dat.d x).canLay0 && decide ((Dat.d x).depth ≤ 64)) = true
  rw [Dat.lay r]
  exact decide_eq_true (Nat.le_trans (DatN.dep x) hn)
theorem r_neD [Rp α] [DecidableEq α] {n : Nat} [DatN α n] {x y : α} (hu : X.A.units + 64 < cLine) (ha : RJ X es a x) (hb : RJ X es b y) (hn : n ≤ 64 := by decide) : RJ X es (.Compare a [.NotEq] [b] pos) (!decide (x = y)) := .mk fun f σ F H S Q q =>
  peR (pe_cmpR (op_neD hu) peW peW (nomark _)) (ha f σ F H S _ fun v F1 H1 t1 r1 => hb f σ F1 H1 (S.step t1) _ fun w F2 H2 t2 r2 =>
    ⟨Dat.d x, Dat.d y, Dat.dp (ovl_sub t2.e) (Rp.mono (ovl_step t2) r1), Dat.dp (ovl_sub t2.e) r2, DatN.sh hn r1, DatN.sh hn r2, by rw [Dat.eq]; exact q _ F2 H2 (t1.trans t2) ⟨rfl, True.intro⟩⟩)
end

/-! data -/
instance : Dat Int := ⟨.int, fun _ r => by rw [r.1]; exact .int _, fun {_ _ _ x} _ => rfl, fun x y => by show (x == y) = _; exact Bool.beq_eq_decide_eq x y⟩
instance : Dat Bool := ⟨.bool, fun _ r => by rw [r.1]; exact .bl _, fun {_ _ _ x} _ => rfl, fun x y => by show (x == y) = _; exact Bool.beq_eq_decide_eq x y⟩
instance : Dat Str := ⟨.str, fun _ r => by rw [r.1]; exact .str _, fun {_ _ _ x} r => by
  show PyData.strOk x = true
  have h : PyData.strOk x = true := by
    unfold PyData.strOk
    rw [← Array.all_toList]
    exact List.all_eq_true.mpr fun c hc => decide_eq_true (r.2.2 c hc)
  exact h, fun x y => by show (x == y) = _; exact Bool.beq_eq_decide_eq x y⟩
instance : Dat Unit := ⟨fun _ => .none, fun _ r => by rw [r.1]; exact .non, fun _ => rfl, fun x y => rfl⟩
instance : DatN Int 0 := ⟨fun _ => Nat.le_refl _⟩
instance : DatN Bool 0 := ⟨fun _ => Nat.le_refl _⟩
instance : DatN Str 0 := ⟨fun _ => Nat.le_refl _⟩
instance : DatN Unit 0 := ⟨fun _ => Nat.le_refl _⟩
theorem depAll {ds : List PyData} {n : Nat} (h : ∀ d ∈ ds, d.depth ≤ n) : PyData.depthAll ds ≤ n := by
  induction ds with
  | nil => exact Nat.zero_le _
  | cons d ds ih =>
    show max d.depth (PyData.depthAll ds) ≤ n
    exact Nat.max_le.mpr ⟨h d List.mem_cons_self, ih fun e he => h e (List.mem_cons_of_mem _ he)⟩
theorem layAll {ds : List PyData} (h : ∀ d ∈ ds, d.canLay0 = true) : PyData.canLayAll0 ds = true := by
  induction ds with
  | nil => rfl
  | cons d ds ih =>
    show (d.canLay0 && PyData.canLayAll0 ds) = true
    rw [h d List.mem_cons_self, ih fun e he => h e (List.mem_cons_of_mem _ he)]; rfl
theorem dpAll {α : Type} [Rp α] [DecidableEq α] [Dat α] {K : PySem.W.Frag} {F H : Hp} (s : Sub F H) : ∀ {vs : List V} {xs : List α}, Paired (Rp.rep K F) vs xs → DpAll K H vs (xs.map Dat.d)
  | _, _, .nil => .nil
  | _, _, .cons r t => .cons (Dat.dp s r) (dpAll s t)
theorem layR {α : Type} [Rp α] [DecidableEq α] [Dat α] {K : PySem.W.Frag} {F : Hp} : ∀ {vs : List V} {xs : List α}, Paired (Rp.rep K F) vs xs → ∀ d ∈ xs.map Dat.d, d.canLay0 = true
  | _, _, .nil, d, h => by cases h
  | _, _, .cons r t, d, h => by
    rcases List.mem_cons.mp h with e | e
    · rw [e]; exact Dat.lay r
    · exact layR t d e
theorem eqvAll {α : Type} [Rp α] [DecidableEq α] [Dat α] : ∀ xs ys : List α, PyData.eqvAll (xs.map Dat.d) (ys.map Dat.d) = decide (xs = ys)
  | [], [] => rfl
  | [], _ :: _ => rfl
  | _ :: _, [] => rfl
  | x :: xs, y :: ys => by
    show (PyData.eqv (Dat.d x) (Dat.d y) && PyData.eqvAll (xs.map Dat.d) (ys.map Dat.d)) = _
    rw [Dat.eq, eqvAll xs ys, Bool.eq_iff_iff]
    simp
instance datList {α : Type} [Rp α] [DecidableEq α] {n : Nat} [DatN α n] : DatN (List α) (n + 1) where
  d xs := .list (xs.map Dat.d)
  dp {K F H v xs} s r := by
    obtain ⟨p, vs, e, h1, h2, rr⟩ := repL s r
    rw [e]
    exact .lst (.inl (.inl h1)) (dpAll s rr)
  lay {K F v xs} r := by
    obtain ⟨p, o, e, h1, hz, vs, eo, rr⟩ := r
    exact layAll (layR rr)
  eq xs ys := eqvAll xs ys
  dep xs := by
    have h2 : PyData.depthAll (xs.map Dat.d) ≤ n := depAll fun d hd => by
      obtain ⟨x, _, rfl⟩ := List.mem_map.mp hd
      exact DatN.dep x
    exact Nat.add_le_add_right h2 1
instance datPair {α β : Type} [Rp α] [DecidableEq α] [Rp β] [DecidableEq β] {n m : Nat} [DatN α n] [DatN β m] : DatN (α × β) (max n m + 1) where
  d x := .tuple [Dat.d x.1, Dat.d x.2]
  dp {K F H v x} s r := by
    obtain ⟨p, o, e, h1, u, w, eo, r1, r2⟩ := r
    subst eo
    rw [e]
    exact .tup (.inl (.inl ((s p _ h1).nd fun z => z))) (.cons (Dat.dp s r1) (.cons (Dat.dp s r2) .nil))
  lay {K F v x} r := by
    obtain ⟨p, o, e, h1, u, w, eo, r1, r2⟩ := r
    show ((Dat.d x.1).canLay0 && ((Dat.d x.2).canLay0 && true)) = true
    rw [Dat.lay r1, Dat.lay r2]; rfl
  eq x y := by
    show (PyData.eqv (Dat.d x.1) (Dat.d y.1) && (PyData.eqv (Dat.d x.2) (Dat.d y.2) && true)) = _
    rw [Dat.eq, Dat.eq, Bool.eq_iff_iff]
    simp [Prod.ext_iff]
  dep x := by
    have b1 := DatN.dep x.1
    have b2 := DatN.dep x.2
    show max (Dat.d x.1).depth (max (Dat.d x.2).depth 0) + 1 ≤ max n m + 1
    omega
end Ly
namespace Ly
open PySem PySem.Spec PyProof.Rows L2 TL
/-! comprehensions -/
abbrev blkX (X : Cx) (scope : Scope) (s : Shared) (H : Hp) (C : Addr) (cl : List (Str × Addr)) (fp : List Addr) : Cx := X.blk s H scope (compEnvC scope cl C X.env) fp
/-- the target's places, behind which the slots are as they were -/
def CT (X : Cx) (tg : Expr) (vs : List Nat) (es : List En) {α : Type} [Rp α] (x : α) (es' : List En) : Prop := ∀ (f : Fr) (σ : L2.St) (F H : Hp) (v : V), Sw X.K f es σ F H → Rp.rep X.K F v x → ∀ Q : L2.St → Hp → Prop, (∀ σ' F' H', Sw X.K f es' σ' F' H' → St0 F H F' H' → wipe σ' vs = wipe σ vs → Q σ' H') → wpG X tg v σ H Q
/-- the tests -/
def wpPT (X : Cx) (ifs : List Expr) : TT := fun σ H Q => ∀ (pins : List (Addr × Obj)) (s : Shared), Inv X pins σ H s → wpAny (model X.prog X.w) X.A (forIn ifs true fun c r => if r = true then do let ok ← isTrue c X.env (eval c X.env); pure (ForInStep.yield ok) else pure (ForInStep.yield r)) (TP X pins σ Q) X.xe s
structure IfJ (X : Cx) (es : List En) (ifs : List Expr) (b : Bool) : Prop where
  run : ∀ (f : Fr) (σ : L2.St) (F H : Hp), Sw X.K f es σ F H → ∀ Q : Bool → Hp → Prop, (∀ F' H', St0 F H F' H' → Q b H') → wpPT X ifs σ H Q
instance {X : Cx} {es : List En} {ifs : List Expr} {b : Bool} : CoeFun (IfJ X es ifs b) (fun _ => ∀ (f : Fr) (σ : L2.St) (F H : Hp), Sw X.K f es σ F H → ∀ Q : Bool → Hp → Prop, (∀ F' H', St0 F H F' H' → Q b H') → wpPT X ifs σ H Q) := ⟨IfJ.run⟩
section
variable {X : Cx} {es es1 es2 : List En} {a b c e elt tg iter : Expr} {ifs : List Expr} {args : List Expr} {pos : Pos} {α β γ : Type} {i : Nat} {scope : Scope}
theorem if_nil : IfJ X es [] true := .mk fun f σ F H S Q q pins s I => pts_nil.run pins s σ H Q I (q F H (St0.refl S.sub))
theorem if_one {k : Bool} (h : TJ X es c k) : IfJ X es [c] k := .mk fun f σ F H S Q q pins s I => (pts_one ptW).run pins s σ H Q I (h f σ F H S Q q)
/-- the slots at vs are forgotten -/
def wpd : List Nat → List En → List En
  | [], es => es
  | v :: vs, es => (wpd vs es).set v .un
theorem Sw.unset {K : PySem.W.Frag} {f : Fr} {es : List En} {σ : L2.St} {F H : Hp} (v : Nat) (s : Sw K f es σ F H) (na : noAl v es) : Sw K f (es.set v .un) (σ.set v none) F H := by
  obtain ⟨Ps, q⟩ := s.env
  refine ⟨s.st, fun j => if j = v then [] else Ps j, by simp [q.len], fun j e hj => ?_, fun j hj => ?_, fun j k p h1 h2 p1 p2 => ?_, fun j p h1 p1 => ?_, fun j p α r x hj p1 => ?_, fun j k α r x hj => ?_⟩
  · by_cases z : j = v
    · subst z
      have hl := get_lt hj
      rw [List.length_set] at hl
      rw [List.getElem?_set_self hl] at hj
      cases hj
      rw [if_pos rfl]; rfl
    · rw [List.getElem?_set_ne (Ne.symm z)] at hj
      rw [if_neg z, sl_ne (Ne.symm z)]; exact q.ok j e hj
  · by_cases z : j = v
    · rw [if_pos z]; exact List.nodup_nil
    · rw [if_neg z]; exact q.nd j (by simpa using hj)
  · rw [List.length_set] at h1 h2
    by_cases y : j = v
    · rw [if_pos y] at p1; cases p1
    · rw [if_neg y] at p1
      by_cases y2 : k = v
      · rw [if_pos y2] at p2; cases p2
      · rw [if_neg y2] at p2; exact q.dj j k p h1 h2 p1 p2
  · rw [List.length_set] at h1
    by_cases y : j = v
    · rw [if_pos y] at p1; cases p1
    · rw [if_neg y] at p1; exact q.fr j p h1 p1
  · by_cases y : j = v
    · rw [if_pos y] at p1; cases p1
    · rw [if_neg y] at p1
      rw [List.getElem?_set_ne (Ne.symm y)] at hj
      exact q.nw j p α r x hj p1
  · by_cases y : j = v
    · subst y
      have hl := get_lt hj
      rw [List.length_set] at hl
      rw [List.getElem?_set_self hl] at hj
      cases hj
    · rw [List.getElem?_set_ne (Ne.symm y)] at hj
      obtain ⟨hk, w, Q, ew, hQ, o⟩ := q.al j k α r x hj
      have hkv : k ≠ v := fun z => na j α r x (z ▸ hj)
      exact ⟨by rw [List.length_set]; exact hk, w, Q, by rw [sl_ne (Ne.symm y)]; exact ew, fun p hp => by rw [if_neg hkv]; exact hQ p hp, o⟩
def alFrees : List Nat → List En → Bool
  | [], _ => true
  | v :: vs, es => alFrees vs es && alFree v (wpd vs es)
theorem Sw.wipe {K : PySem.W.Frag} {f : Fr} {F H : Hp} : ∀ (vs : List Nat) {es : List En} {σ : L2.St}, Sw K f es σ F H → alFrees vs es = true → Sw K f (wpd vs es) (L2.wipe σ vs) F H
  | [], _, _, s, _ => s
  | v :: vs, es, σ, s, h => by
    obtain ⟨h1, h2⟩ := Bool.and_eq_true_iff.mp h
    exact (Sw.wipe vs s h1).unset v (noAl_of h2)
theorem wipe_comm {σ : L2.St} {vs : List Nat} {j : Nat} {v : Option V} (h : j ∉ vs) : L2.wipe (σ.set j v) vs = (L2.wipe σ vs).set j v := by
  induction vs with
  | nil => rfl
  | cons u us ih =>
    have h1 : j ≠ u := fun e => h (e ▸ List.mem_cons_self)
    have h2 : j ∉ us := fun e => h (List.mem_cons_of_mem _ e)
    show (L2.wipe (σ.set j v) us).set u none = ((L2.wipe σ us).set u none).set j v
    rw [ih h2, List.set_comm _ _ h1]
theorem wipe_set {σ : L2.St} {vs : List Nat} {j : Nat} {v : Option V} (h : j ∈ vs) : L2.wipe (σ.set j v) vs = L2.wipe σ vs := by
  induction vs with
  | nil => cases h
  | cons u us ih =>
    show (L2.wipe (σ.set j v) us).set u none = (L2.wipe σ us).set u none
    by_cases hj : j ∈ us
    · rw [ih hj]
    · rcases List.mem_cons.mp h with e | e
      · rw [wipe_comm hj, e, List.set_set]
      · exact absurd e hj
theorem wipe_wipes {σ : L2.St} {us : List Nat} : ∀ {vs : List Nat}, (∀ v ∈ vs, v ∈ us) → L2.wipe (L2.wipe σ vs) us = L2.wipe σ us
  | [], _ => rfl
  | v :: vs, h => by
    show L2.wipe ((L2.wipe σ vs).set v none) us = L2.wipe σ us
    rw [wipe_set (h v List.mem_cons_self), wipe_wipes fun x hx => h x (List.mem_cons_of_mem _ hx)]
theorem wipe_wipe {σ : L2.St} {vs : List Nat} : L2.wipe (L2.wipe σ vs) vs = L2.wipe σ vs := wipe_wipes fun _ h => h
theorem ct_name {vs : List Nat} [Rp α] {x : α} (hg : PG X tg (gName i)) (hv : i ∈ vs) (hi : i < es.length) (ha : alFree i es = true := by rfl) : CT X tg vs es x (es.set i (.fz x)) := fun f σ F H v S r Q q =>
  pgR hg (q _ F H (S.setF hi r (noAl_of ha)) (St0.refl S.sub) (wipe_set hv))
/-- what may be walked while nothing changes -/
def YlH (K : PySem.W.Frag) (J : It) (F0 H0 : Hp) [Rp α] (xs : List α) : Prop := xs.length ≤ big ∧ ∀ (i : Nat) (F H : Hp), Inc F0 F → Inc H0 H → Sub F H → (i = xs.length → J.stop i H) ∧ ∀ x, xs[i]? = some x → J.go i H ∧ ∀ v H', J.yld i H v H' → ∃ F', St0 F H F' H' ∧ Rp.rep K F' v x
def IH (X : Cx) (tg : Expr) (es : List En) (iter : Expr) [Rp α] (xs : List α) : Prop := ∀ (f : Fr) (σ : L2.St) (F H : Hp), Sw X.K f es σ F H → ∀ R : It → Hp → Prop, (∀ J F' H', St0 F H F' H' → YlH X.K J F' H' xs → R J H') → wpI X tg iter σ H R
theorem h_list [Rp α] {xs : List α} (h : LR X es iter xs) : IH X tg es iter xs := fun f σ F H S R q =>
  piR (pi_list peW) (h f σ F H S _ fun p vs F1 H1 t1 h1 rr hz => ⟨p, rfl, ⟨vs, .inl (.inl h1)⟩, q _ F1 H1 t1 ⟨hz, fun i F2 H2 i2 j2 s2 => by
    have hH2 : H2 p = some (.lst vs) := j2 p _ h1
    have rr2 : Paired (Rp.rep X.K F2) vs xs := pairedM i2 rr
    refine ⟨fun ei => ⟨vs, .inl (.inl hH2), by rw [pairedLen rr2]; omega⟩, fun x hx => ?_⟩
    obtain ⟨w, hw, rw_⟩ := pairedGet rr2 hx
    refine ⟨⟨vs, w, .inl (.inl hH2), hw⟩, fun v' H' y => ?_⟩
    obtain ⟨eH, y⟩ := y
    subst eH
    have ev : vs[i]? = some v' := y vs (.inl (.inl hH2))
    rw [hw] at ev
    cases ev
    exact ⟨F2, St0.refl s2, rw_⟩⟩⟩)
theorem signs_at {z : Str} {i : Nat} {x : Str} (h : (signsOf z)[i]? = some x) : ∃ c, z.cps.toList[i]? = some c ∧ x = sgn c := by
  unfold signsOf at h
  rw [List.getElem?_map] at h
  cases q : z.cps.toList[i]? with
  | none => rw [q] at h; cases h
  | some c => rw [q] at h; exact ⟨c, rfl, (Option.some.inj h).symm⟩
/-- the loop of a comprehension: what stands in the new list D behind i turns -/
def given (p : α → Bool) (g : α → β) (xs : List α) : List β := (xs.filter p).map g
theorem given_snoc {p : α → Bool} {g : α → β} {xs : List α} {x : α} : given p g (xs ++ [x]) = given p g xs ++ (bif p x then [g x] else []) := by
  unfold given
  rw [List.filter_append, List.map_append]
  cases h : p x with
  | true => rw [List.filter_cons, if_pos h]; rfl
  | false => rw [List.filter_cons, if_neg (by rw [h]; decide)]; rfl
theorem given_len {p : α → Bool} {g : α → β} (xs : List α) : (given p g xs).length ≤ xs.length := by
  unfold given
  rw [List.length_map]
  exact List.length_filter_le _ _
variable {own : List (Str × Nat)}
/-- the reading of [g x for x in xs if p x] -/
abbrev rdLc (X : Cx) (scope : Scope) (tg iter elt : Expr) (ifs : List Expr) (vs : List Nat) : TE := tLc (wpI X tg iter) (fun v σ H Q => ∀ s H0 C cl fp, wpG (blkX X scope s H0 C cl fp) tg v σ H Q) (fun σ H Q => ∀ s H0 C cl fp, wpPT (blkX X scope s H0 C cl fp) ifs σ H Q) (fun σ H Q => ∀ s H0 C cl fp, wpE (blkX X scope s H0 C cl fp) elt σ H Q) vs
theorem pe_lcW (hk : X.calm = true) (hN : X.N.Nodup) (ok : BlkOk X.N X.env.scope scope own) (hs : ∀ x, foldedSetIterable iter X.env x = pure x := by intro _; rfl) : PE X (.ListComp elt [⟨tg, iter, ifs, 0⟩] scope pos) (rdLc X scope tg iter elt ifs (own.map (·.2))) :=
  pe_lc hk hN piW ok (fun s H0 C cl fp => ⟨fun pins s' σ' H' v u Q' I r h => h s H0 C cl fp pins s' u I r⟩) (fun s H0 C cl fp => ⟨fun pins s' σ' H' Q' I h => h s H0 C cl fp pins s' I⟩) (fun s H0 C cl fp => ⟨fun pins s' σ' H' Q' I h => h s H0 C cl fp pins s' I⟩) hs
theorem ps_lcW {y : Str} {py spos : Pos} (hk : X.calm = true) (hN : X.N.Nodup) (hy : X.N[i]? = some y) (hyl : X.env.scope.names.lookup y = some .local) (hsw : swapsWith (.ListComp elt [⟨tg, iter, ifs, 0⟩] scope pos) (some (.Name y py)) spos.line X.env = pure true) (ok : BlkOk X.N X.env.scope scope own) (hs : ∀ x, foldedSetIterable iter X.env x = pure x := by intro _; rfl) :
    PS X (.Assign [.Name y py] (.ListComp elt [⟨tg, iter, ifs, 0⟩] scope pos) spos) (tAsg (rdLc X scope tg iter elt ifs (own.map (·.2))) (gName i)) :=
  ps_setLc hk hN hy hyl hsw piW ok (fun s H0 C cl fp => ⟨fun pins s' σ' H' v u Q' I r h => h s H0 C cl fp pins s' u I r⟩) (fun s H0 C cl fp => ⟨fun pins s' σ' H' Q' I h => h s H0 C cl fp pins s' I⟩) (fun s H0 C cl fp => ⟨fun pins s' σ' H' Q' I h => h s H0 C cl fp pins s' I⟩) hs
/-- a reading that gives a new object -/
structure NRd (K : PySem.W.Frag) (es : List En) (t : TE) [Ow α] (x : α) : Prop where
  run : ∀ (f : Fr) (σ : L2.St) (F H : Hp), Sw K f es σ F H → ∀ Q : VK, (∀ v F' H' P, St0 F H F' H' → Ow.own K F' H' v x P → P.Nodup → (∀ p ∈ P, H p = none) → Q v H') → t σ H Q
instance {K : PySem.W.Frag} {es : List En} {t : TE} [Ow α] {x : α} : CoeFun (NRd K es t x) (fun _ => ∀ (f : Fr) (σ : L2.St) (F H : Hp), Sw K f es σ F H → ∀ Q : VK, (∀ v F' H' P, St0 F H F' H' → Ow.own K F' H' v x P → P.Nodup → (∀ p ∈ P, H p = none) → Q v H') → t σ H Q) := ⟨NRd.run⟩
theorem NRd.nj [Ow α] {t : TE} {x : α} (h : NRd X.K es t x) (hp : PE X e t) : NJ X es e x := .mk fun f σ F H S Q q => peR hp (h f σ F H S Q q)
theorem s_asgRdF [Ow α] {t : TE} {x : α} {st : Stmt} (hst : PS X st (tAsg t (gName i))) (h : NRd X.K es t x) (he : es.set i (@En.fz α Ow.rp x) = es1 := by rfl) (hi : i < es.length := by exact Nat.le_of_ble_eq_true rfl) (ha : alFree i es = true := by rfl) : E1 X es st es1 := .mk fun f σ F H D S q =>
  psR hst (h f σ F H S _ fun v F1 H1 P t r hn hp => by
    subst he
    have t2 := t.freeze (P := P) fun p z => ⟨(Ow.out r p z).2, hp p z⟩
    exact q _ (fzP F1 H1 P) H1 ((S.step t2).setF hi (Ow.fzn r) (noAl_of ha)))
/-- the loop of a comprehension, the walk begun -/
theorem lc_loop {vs : List Nat} [Rp α] [Rp β] {xs : List α} {p : α → Bool} {g : α → β} {est : α → List En} {f : Fr} {σ : L2.St} {F1 H1 : Hp} (S : Sw X.K f es σ F1 H1) {J : It} {Q : VK} (yl : YlH X.K J F1 H1 xs) (hal : alFrees vs es = true)
    (ht : ∀ (s : Shared) (H : Hp) (C : Addr) (cl : List (Str × Addr)) (fp : List Addr) x, CT (blkX X scope s H C cl fp) tg vs (wpd vs es) x (est x))
    (hp : ∀ (s : Shared) (H : Hp) (C : Addr) (cl : List (Str × Addr)) (fp : List Addr) x, x ∈ xs → IfJ (blkX X scope s H C cl fp) (est x) ifs (p x))
    (he : ∀ (s : Shared) (H : Hp) (C : Addr) (cl : List (Str × Addr)) (fp : List Addr) x, x ∈ xs → p x = true → FJ (blkX X scope s H C cl fp) (est x) elt (g x))
    (q : ∀ v F' H' P, St0 F1 H1 F' H' → Ow.own X.K F' H' v (given p g xs) P → P.Nodup → (∀ p ∈ P, H1 p = none) → Q v H') : tLc (fun _ _ R => R J H1) (fun v σ H Q => ∀ s H0 C cl fp, wpG (blkX X scope s H0 C cl fp) tg v σ H Q) (fun σ H Q => ∀ s H0 C cl fp, wpPT (blkX X scope s H0 C cl fp) ifs σ H Q) (fun σ H Q => ∀ s H0 C cl fp, wpE (blkX X scope s H0 C cl fp) elt σ H Q) vs σ H1 Q := by
  intro D hD
  have t1 := St0.refl S.sub
  obtain ⟨hz, yl⟩ := yl
  have S1 := S.step t1
  have hDF : F1 D = none := sub_none t1.e hD
  -- the word
  refine ⟨fun i m H' => m = xs.length - i ∧ i ≤ xs.length ∧ ∃ F' ws, St0 F1 H1 F' H' ∧ H' D = some (.lst ws) ∧ F' D = none ∧ Paired (Rp.rep X.K F') ws (given p g (xs.take i)), ⟨xs.length, by omega, Nat.zero_le _, F1, [], St0.new t1.e hD, upd_same, hDF, .nil⟩, ?_⟩
  rintro i m H' ⟨em, hil, F', ws, t2, hDl, hDn, rr⟩
  by_cases hlt : i < xs.length
  · have hx : xs[i]? = some xs[i] := List.getElem?_eq_getElem hlt
    obtain ⟨go, yd⟩ := (yl i F' H' t2.f t2.inc t2.e).2 _ hx
    have hmem : xs[i] ∈ xs := List.getElem_mem hlt
    have tk : xs.take (i + 1) = xs.take i ++ [xs[i]] := by rw [List.take_add_one, hx]; rfl
    have lw : ws.length < sizeLine := by
      rw [pairedLen rr]
      exact big_lt (Nat.le_trans (given_len _) (Nat.le_trans (List.length_take_le _ _) (Nat.le_trans hil hz)))
    refine .inr ⟨go, fun H2 => ∃ F2 ws2, St0 F1 H1 F2 H2 ∧ H2 D = some (.lst ws2) ∧ F2 D = none ∧ Paired (Rp.rep X.K F2) ws2 (given p g (xs.take (i + 1))), fun H2 ⟨F2, ws2, h1, h2, h3, h4⟩ => ⟨m - 1, by omega, by omega, hlt, F2, ws2, h1, h2, h3, h4⟩, fun v H2 yv => ?_⟩
    obtain ⟨F2, t3, r3⟩ := yd v H2 yv
    have t13 := t2.trans t3
    have hD3 : F2 D = none := t3.nz hDl nskL hDn
    intro s H0 C cl fp
    refine ht s H0 C cl fp xs[i] (f.at F1) _ F2 H2 v ((S1.root.step t13).wipe vs hal) r3 _ fun σ4 F4 H4 S4 t4 hw => ⟨hw.trans (by rw [wipe_wipe]), ?_⟩
    intro s' H0' C' cl' fp'
    refine hp s' H0' C' cl' fp' xs[i] hmem _ σ4 F4 H4 S4 _ fun F5 H5 t5 => ?_
    have t15 := (t13.trans t4).trans t5
    have hD5 : H5 D = some (.lst ws) := t5.inc _ _ (t4.inc _ _ (t3.inc _ _ hDl))
    have nD5 : F5 D = none := t5.nz (t4.inc _ _ (t3.inc _ _ hDl)) nskL (t4.nz (t3.inc _ _ hDl) nskL hD3)
    have f15 := (t3.f.trans t4.f).trans t5.f
    cases hpx : p xs[i] with
    | false =>
      show ∃ F2 ws2, _
      exact ⟨F5, ws, t15, hD5, nD5, by rw [tk, given_snoc, hpx]; simpa using pairedM f15 rr⟩
    | true =>
      show ∀ s H0 C cl fp, wpE (blkX X scope s H0 C cl fp) elt σ4 H5 _
      intro s2 H02 C2 cl2 fp2
      refine he s2 H02 C2 cl2 fp2 xs[i] hmem hpx _ σ4 F5 H5 (S4.step t5) _ fun y F6 H6 t6 r6 => ?_
      have hD6 : H6 D = some (.lst ws) := t6.inc _ _ hD5
      have nD6 : F6 D = none := t6.nz hD5 nskL nD5
      have t16 := t15.trans t6
      have h1D : H1 D = none := hD
      refine ⟨ws, hD6, lw, F6, ws ++ [y], ⟨t16.f, fun b o hn e => ?_, fun b e => ?_, fun b o e => ?_, (fun b e1 e2 => (t16.n b e1 e2).imp id fun ⟨ks, z⟩ => ⟨ks, by rw [upd_ne fun c => e1 (by rw [c]; exact h1D)]; exact z⟩), (fun b ks e => by rw [upd_ne fun c => by rw [c, show (⟨no, F1, H1⟩ : Fr).H D = none from h1D] at e; cases e]; exact t16.k b ks e)⟩, upd_same, nD6, ?_⟩
      · have nb : b ≠ D := fun z => by
          have e' : H1 b = some o := e
          rw [z, h1D] at e'; cases e'
        rw [upd_ne nb]; exact t16.inc b o e
      · by_cases z : b = D
        · subst z; rw [upd_same]; intro k; cases k
        · rw [upd_ne z]; exact t16.t b e
      · have nb : b ≠ D := fun z => by rw [z, nD6] at e; cases e
        have r := t16.e b o e
        rcases r with r | ⟨d, ob, r⟩
        · exact .inl (by rw [upd_ne nb]; exact r)
        · exact .inr ⟨d, ob, by rw [upd_ne nb]; exact r⟩
      · rw [tk, given_snoc, hpx]
        exact pairedApp (pairedM (f15.trans t6.f) rr) (.cons r6 .nil)
  · have ei : i = xs.length := by omega
    have ex : xs.take i = xs := List.take_of_length_le (by omega)
    rw [ex] at rr
    refine .inl ⟨(yl i F' H' t2.f t2.inc t2.e).1 ei, q _ F' H' [D] (t1.trans t2) ⟨D, _, rfl, rfl, hDl, hDn, Nat.le_trans (given_len _) hz, ws, rfl, rr⟩ (by simp) fun z hz => ?_⟩
    have e : z = D := by simpa using hz
    rw [e]; exact t1.back hD
/-- [g x for x in xs if p x], from one state on -/
theorem lc_core {vs : List Nat} [Rp α] [Rp β] {xs : List α} {p : α → Bool} {g : α → β} {est : α → List En} {f : Fr} {σ : L2.St} {F H : Hp} (S : Sw X.K f es σ F H) {Q : VK}
    (hi : ∀ R : It → Hp → Prop, (∀ J F' H', St0 F H F' H' → YlH X.K J F' H' xs → R J H') → wpI X tg iter σ H R) (hal : alFrees vs es = true)
    (ht : ∀ (s : Shared) (H : Hp) (C : Addr) (cl : List (Str × Addr)) (fp : List Addr) x, CT (blkX X scope s H C cl fp) tg vs (wpd vs es) x (est x))
    (hp : ∀ (s : Shared) (H : Hp) (C : Addr) (cl : List (Str × Addr)) (fp : List Addr) x, x ∈ xs → IfJ (blkX X scope s H C cl fp) (est x) ifs (p x))
    (he : ∀ (s : Shared) (H : Hp) (C : Addr) (cl : List (Str × Addr)) (fp : List Addr) x, x ∈ xs → p x = true → FJ (blkX X scope s H C cl fp) (est x) elt (g x))
    (q : ∀ v F' H' P, St0 F H F' H' → Ow.own X.K F' H' v (given p g xs) P → P.Nodup → (∀ p ∈ P, H p = none) → Q v H') : rdLc X scope tg iter elt ifs vs σ H Q := by
  exact hi _ fun J F1 H1 t1 yl => lc_loop (S.step t1) yl hal ht hp he fun v F' H' P t o hn hp' => q v F' H' P (t1.trans t) o hn fun z hz => t1.back (hp' z hz)
/-- [g x for x in xs if p x] -/
theorem rd_lc {vs : List Nat} [Rp α] [Rp β] {xs : List α} {p : α → Bool} {g : α → β} {est : α → List En} (hi : IH X tg es iter xs) (hal : alFrees vs es = true := by rfl)
    (ht : ∀ (s : Shared) (H : Hp) (C : Addr) (cl : List (Str × Addr)) (fp : List Addr) x, CT (blkX X scope s H C cl fp) tg vs (wpd vs es) x (est x))
    (hp : ∀ (s : Shared) (H : Hp) (C : Addr) (cl : List (Str × Addr)) (fp : List Addr) x, x ∈ xs → IfJ (blkX X scope s H C cl fp) (est x) ifs (p x))
    (he : ∀ (s : Shared) (H : Hp) (C : Addr) (cl : List (Str × Addr)) (fp : List Addr) x, x ∈ xs → p x = true → FJ (blkX X scope s H C cl fp) (est x) elt (g x)) : NRd X.K es (rdLc X scope tg iter elt ifs vs) (given p g xs) := .mk fun f σ F H S Q q =>
  lc_core S (fun R k => hi f σ F H S R k) hal ht hp he q
end
end Ly
namespace Ly
open PySem PySem.Spec PyProof.Rows L2 TL
/-- two ints in a list -/
structure Pu where
  a : Int
  b : Int
def puO (p : Pu) : HO := .lst [.int p.a, .int p.b]
instance clPu : Cl Pu where
  cell _ _ o p := o = puO p
  mono _ h := h
instance clmPu : Clm Pu := ⟨fun h ks e => by
  have h2 : _ = puO _ := h
  rw [h2] at e; cases e⟩
/-- the script -/
structure Scr where
  ns : List Int
instance rpScr : Rp Scr where
  rep K H v s := ∃ a, v = .ref a ∧ SqL K H a (s.ns.map V.int)
  mono {K H H' v s} i h := by
    obtain ⟨a, e, h⟩ := h
    refine ⟨a, e, ?_⟩
    rcases h with (h | ⟨o, h⟩) | h
    · exact .inl (.inl (i _ _ h))
    · exact .inl (.inr ⟨o, i _ _ h⟩)
    · exact .inr h
theorem scr_of {K : PySem.W.Frag} {F H : Hp} {v : V} {s : Scr} (sb : Sub F H) (r : Rp.rep K F v s) : ∃ a, v = .ref a ∧ SqL K H a (s.ns.map V.int) := by
  obtain ⟨a, e, h⟩ := r
  refine ⟨a, e, ?_⟩
  rcases h with (h | ⟨o, h⟩) | h
  · exact .inl (.inl ((sb a _ h).nd fun z => z))
  · exact .inl (.inr ⟨o, (sb a _ h).nd fun z => z⟩)
  · exact .inr h
section
variable {X : Cx} {es es1 es2 : List En} {a b c e elt tg iter : Expr} {ifs : List Expr} {args : List Expr} {pos : Pos} {α β γ : Type} {i : Nat} {st : Stmt}
theorem atI_map {f : α → β} {xs : List α} {i : Int} {x : α} (h : atI xs i = some x) : atI (xs.map f) i = some (f x) := by
  unfold atI at h ⊢
  rw [List.length_map]
  cases q : ixN xs.length i with
  | none => rw [q] at h; cases h
  | some j =>
    rw [q] at h
    show (xs.map f)[j]? = some (f x)
    rw [List.getElem?_map, show xs[j]? = some x from h]; rfl
theorem r_ixScr {s : Scr} {i : Int} (ho : okI s.ns i) (ha : RJ X es a s) (hb : RJ X es b i) (hs : PlainIx b := by exact fun _ _ => rfl) : RJ X es (.Subscript a b pos) (getI s.ns i) := .mk fun f σ F H S Q q =>
  peR (pe_ix ix_list peW peW hs) (ha f σ F H S _ fun v F1 H1 t1 r1 => hb f σ F1 H1 (S.step t1) _ fun w F2 H2 t2 r2 => by
    obtain ⟨p, e, hp⟩ := scr_of (ovl_sub t2.e) (Rp.mono (ovl_step t2) r1)
    exact ⟨p, _, i, _, e, r2.1, hp, atI_map (getI_ok ho), q _ F2 H2 (t1.trans t2) ⟨rfl, True.intro⟩⟩)
theorem r_lenScr {s : Scr} (hg : Gl X "len") (hm : X.mg "len" = none) (ha : RJ X es a s) (s1 : starEach [a] X.env = (false, eval a X.env) :: starEach [] X.env := by rfl) {p : Pos} : RJ X es (.Call (.Name "len" p) [a] [] pos) (s.ns.length : Int) :=
  r_call1 (α := Scr) (β := Int) call_len_seq hg hm (by decide +kernel) (by
    intro F H v Q sb r q
    obtain ⟨p, e, hp⟩ := scr_of (ovl_sub sb) r
    subst e
    refine ⟨p, _, rfl, .inl hp, ?_⟩
    rw [List.length_map]
    exact q _ F H (St0.refl sb) ⟨rfl, True.intro⟩) ha (by decide) (by decide) s1
theorem r_pu0 {p : Pu} {j} {p2 : Pos} (ha : RJ X es a p) : RJ X es (.Subscript a (.Constant (.int 0) j p2) pos) p.a := .mk fun f σ F H S Q q =>
  peR (pe_ix ix_list peW pe_int (fun _ _ => rfl)) (ha f σ F H S _ fun v F1 H1 t1 r1 => by
    obtain ⟨l, o, e, h1, h2⟩ := r1
    have h2' : o = puO p := h2
    subst h2'
    exact ⟨l, _, 0, .int p.a, e, rfl, .inl (.inl ((ovl_sub t1.e _ _ h1).nd fun z => z)), rfl, q _ F1 H1 t1 ⟨rfl, True.intro⟩⟩)
theorem r_pu1 {p : Pu} {j} {p2 : Pos} (ha : RJ X es a p) : RJ X es (.Subscript a (.Constant (.int 1) j p2) pos) p.b := .mk fun f σ F H S Q q =>
  peR (pe_ix ix_list peW pe_int (fun _ _ => rfl)) (ha f σ F H S _ fun v F1 H1 t1 r1 => by
    obtain ⟨l, o, e, h1, h2⟩ := r1
    have h2' : o = puO p := h2
    subst h2'
    exact ⟨l, _, 1, .int p.b, e, rfl, .inl (.inl ((ovl_sub t1.e _ _ h1).nd fun z => z)), rfl, q _ F1 H1 t1 ⟨rfl, True.intro⟩⟩)
theorem n_pu {x y : Int} (ha : RJ X es a x) (hb : RJ X es b y) (s1 : starEach [a, b] X.env = (false, eval a X.env) :: starEach [b] X.env := by rfl) (s2 : starEach [b] X.env = (false, eval b X.env) :: starEach [] X.env := by rfl) : NJ X es (.List [a, b] pos) (Pu.mk x y) := .mk fun f σ F H S Q q =>
  peR (pe_lst (pa_cons peW (pa_cons peW pa_nil s2) s1)) (ha f σ F H S _ fun v F1 H1 t1 r1 => hb f σ F1 H1 (S.step t1) _ fun w F2 H2 t2 r2 => ⟨show 2 ≤ sizeLine by decide, fun p hp =>
    q _ F2 _ [p] ((t1.trans t2).trans (St0.new t2.e hp)) ⟨p, _, rfl, rfl, upd_same, sub_none t2.e hp, by rw [r1.1, r2.1]; rfl⟩ (by simp) fun z hz => by
      have e : z = p := by simpa using hz
      rw [e]; exact (t1.trans t2).back hp⟩)
/-! one object changed -/
theorem Sw.cell {K : PySem.W.Frag} {f : Fr} {es : List En} {σ : L2.St} {F H : Hp} {i : Nat} {e1 e2 : En} [r : Cl α] [Clm α] {x y : α} (s : Sw K f es σ F H) (hi : es[i]? = some e1) (hl : Lent owCl x y e1 e2) (ha : alFree i es = true) :
    ∃ l o, sl σ i = some (.ref l) ∧ H l = some o ∧ F l = none ∧ Cl.cell K F o x ∧ ∀ o', Cl.cell K F o' y → Sw K f (es.set i e2) σ F (upd H l o') := by
  obtain ⟨Ps, q⟩ := s.env
  have ok := q.ok i e1 hi
  have own1 : ∃ v, sl σ i = some v ∧ Ow.own K F H v x (Ps i) := by
    cases hl with
    | ow => exact ok
    | «at» c => exact ⟨_, ok.1, ok.2⟩
    | ad c =>
      obtain ⟨v, ev, e3, o⟩ := ok
      subst e3
      exact ⟨_, ev, o⟩
  obtain ⟨v, ev, l, o, el, eP, h1, h2, c⟩ := own1
  subst el
  refine ⟨l, o, ev, h1, h2, c, fun o' c' => ?_⟩
  refine Sw.mutE s.st q hi eP (fun p hp => ?_) (fun p hp _ => ?_) (e' := e2) (P' := [l]) ?_ (by simp) (fun p hp => .inl (by rw [← eP]; rw [eP]; exact hp)) (noAl_of ha) ?_ ?_
  · by_cases z : p = l
    · subst z; exact nn upd_same
    · rw [upd_ne z]; exact hp
  · exact upd_ne fun z => hp (by rw [z]; simp)
  · cases hl with
    | ow => exact ⟨_, ev, l, o', rfl, rfl, upd_same, h2, c'⟩
    | «at» c =>
      have ec := ok.1
      rw [ev] at ec
      cases ec
      exact ⟨ev, l, o', rfl, rfl, upd_same, h2, c'⟩
    | ad c =>
      obtain ⟨v, ev2, e3, o⟩ := ok
      subst e3
      rw [ev] at ev2
      cases ev2
      exact ⟨_, ev, rfl, _, o', rfl, rfl, upd_same, h2, c'⟩
  · intro α' r' x' ee
    cases hl with
    | ow => exact ⟨_, _, _, rfl⟩
    | «at» c => cases ee
    | ad c => exact ⟨_, _, _, rfl⟩
  · intro j α' r' x' ee
    cases hl <;> cases ee
theorem s_setPu0 {e1 e2 : En} {p : Pu} {x : Int} (hst : PS X st (tAsg (wpE X e) (gSub (tVar i) (tC (.int 0)) rSetL))) (h : XJ X es e x es1) (hi : es1[i]? = some e1) (hl : Lent owCl p (Pu.mk x p.b) e1 e2) (hes : es1.set i e2 = es2 := by rfl) (ha : alFree i es1 = true := by rfl) : E1 X es st es2 := .mk fun f σ F H D S q =>
  psR hst (h f σ F H S _ fun v F1 H1 S1 i1 r1 => by
    obtain ⟨l, o, ev, h1, h2, c, go⟩ := S1.cell hi hl ha
    have c' : o = puO p := c
    subst c' hes
    exact ⟨.ref l, sl_of ev, l, _, 0, 0, rfl, rfl, h1, rfl, q _ F1 _ (go _ (by rw [r1.1]; rfl))⟩)
theorem s_setPu1 {e1 e2 : En} {p : Pu} {x : Int} (hst : PS X st (tAsg (wpE X e) (gSub (tVar i) (tC (.int 1)) rSetL))) (h : XJ X es e x es1) (hi : es1[i]? = some e1) (hl : Lent owCl p (Pu.mk p.a x) e1 e2) (hes : es1.set i e2 = es2 := by rfl) (ha : alFree i es1 = true := by rfl) : E1 X es st es2 := .mk fun f σ F H D S q =>
  psR hst (h f σ F H S _ fun v F1 H1 S1 i1 r1 => by
    obtain ⟨l, o, ev, h1, h2, c, go⟩ := S1.cell hi hl ha
    have c' : o = puO p := c
    subst c' hes
    exact ⟨.ref l, sl_of ev, l, _, 1, 1, rfl, rfl, h1, rfl, q _ F1 _ (go _ (by rw [r1.1]; rfl))⟩)
/-- the slot i holds some list of its own -/
def OwL (α : Type) [Rp α] (es : List En) (i : Nat) : Prop := ∃ (xs : List α) (e : En), es[i]? = some e ∧ Lent owCl xs xs e e
theorem OwL.is [Rp α] {K : PySem.W.Frag} {f : Fr} {es : List En} {σ : L2.St} {F H : Hp} (h : OwL α es i) (s : Sw K f es σ F H) : ∃ l vs, sl σ i = some (.ref l) ∧ H l = some (.lst vs) := by
  obtain ⟨xs, e, hi, hl⟩ := h
  obtain ⟨Ps, q⟩ := s.env
  have ok := q.ok i e hi
  have own1 : ∃ v, sl σ i = some v ∧ Ow.own K F H v xs (Ps i) := by
    cases hl with
    | ow => exact ok
    | «at» c => exact ⟨_, ok.1, ok.2⟩
    | ad c =>
      obtain ⟨v, ev, e3, o⟩ := ok
      subst e3
      exact ⟨_, ev, o⟩
  obtain ⟨v, ev, o⟩ := own1
  obtain ⟨p, vs, e2, h1, _⟩ := lst_of o
  exact ⟨p, vs, by rw [ev, e2], h1⟩
/-- xs.append(e) -/
theorem s_app [Rp α] {e1 e2 : En} {xs : List α} {x : α} (hst : PS X st (tDrop (tBM X.K "list" rAppend (tVar i) (tCons (wpE X e) tNil)))) (h : XJ X es e x es1) (h0 : OwL α es i) (hi : es1[i]? = some e1) (hl : Lent owCl xs (xs ++ [x]) e1 e2) (hz : xs.length < big) (hes : es1.set i e2 = es2 := by rfl) (ha : alFree i es1 = true := by rfl) : E1 X es st es2 := .mk fun f σ F H D S q =>
  psR hst (by
    obtain ⟨l0, vs0, ev0, hl0⟩ := h0.is S
    refine ⟨.ref l0, sl_of ev0, .inl ⟨rfl, vs0, .inl (.inl hl0)⟩, h f σ F H S _ fun v F1 H1 S1 i1 r1 => ?_⟩
    obtain ⟨l, o, ev, h1, h2, ⟨hz2, vs, eo, rr⟩, go⟩ := S1.cell hi hl ha
    subst eo hes
    rw [ev0] at ev
    cases ev
    exact ⟨l0, vs, v, rfl, rfl, h1, by rw [pairedLen rr]; exact big_lt (Nat.le_of_lt hz), q _ F1 _ (go _ ⟨by rw [List.length_append]; exact hz, _, rfl, pairedApp rr (.cons r1 .nil)⟩)⟩)
/-- xs.extend(ys) -/
theorem s_ext [Rp α] {e1 e2 : En} {xs ys : List α} (hst : PS X st (tDrop (tBM X.K "list" rExtend (tVar i) (tCons (wpE X e) tNil)))) (h : LR X es e ys) (h0 : OwL α es i) (hi : es[i]? = some e1) (hl : Lent owCl xs (xs ++ ys) e1 e2) (hz : (xs ++ ys).length ≤ big) (hes : es.set i e2 = es2 := by rfl) (ha : alFree i es = true := by rfl) : E1 X es st es2 := .mk fun f σ F H D S q =>
  psR hst (by
    obtain ⟨l0, vs0, ev0, hl0⟩ := h0.is S
    refine ⟨.ref l0, sl_of ev0, .inl ⟨rfl, vs0, .inl (.inl hl0)⟩, h f σ F H S _ fun p ws F1 H1 t1 hp rp hzp => ?_⟩
    obtain ⟨l, o, ev, h1, h2, ⟨hz2, vs, eo, rr⟩, go⟩ := (S.step t1).cell hi hl ha
    subst eo hes
    rw [ev0] at ev
    cases ev
    exact ⟨l0, p, vs, ws, rfl, rfl, h1, hp, by rw [pairedLen rr, pairedLen rp, ← List.length_append]; exact big_line hz, q _ F1 _ (go _ ⟨hz, _, rfl, pairedApp rr rp⟩)⟩)
/-- xs.insert(k, e) -/
def rInsert : V → List V → Hp → VK → Prop := fun x vs H Q => ∃ (l : Addr) (xs : List V) (i : Int) (y : V), x = .ref l ∧ vs = [.int i, y] ∧ H l = some (.lst xs) ∧ xs.length < sizeLine ∧ 0 ≤ i ∧ i < 2 ^ 63 ∧ Q .non (upd H l (.lst (xs.take i.toNat ++ [y] ++ xs.drop i.toNat)))
theorem mt_ins : MtM X "list.insert" rInsert := mt_insert
def insI (xs : List α) (k : Int) (x : α) : List α := xs.take k.toNat ++ [x] ++ xs.drop k.toNat
theorem insI_len (xs : List α) (k : Int) (x : α) : (insI xs k x).length = xs.length + 1 := by
  unfold insI
  rw [List.length_append, List.length_append, List.length_take, List.length_drop, List.length_singleton]
  omega
theorem s_ins [Rp α] {e1 e2 : En} {xs : List α} {x : α} {k : Int} {es3 : List En} (hst : PS X st (tDrop (tBM X.K "list" rInsert (tVar i) (tCons (wpE X b) (tCons (wpE X e) tNil))))) (hk : XJ X es b k es1) (h : XJ X es1 e x es2) (h0 : OwL α es i) (hi : es2[i]? = some e1) (hl : Lent owCl xs (insI xs k x) e1 e2) (hz : xs.length < big) (hb : 0 ≤ k ∧ k < 2 ^ 63) (hes : es2.set i e2 = es3 := by rfl) (ha : alFree i es2 = true := by rfl) : E1 X es st es3 := .mk fun f σ F H D S q =>
  psR hst (by
    obtain ⟨l0, vs0, ev0, hl0⟩ := h0.is S
    refine ⟨.ref l0, sl_of ev0, .inl ⟨rfl, vs0, .inl (.inl hl0)⟩, hk f σ F H S _ fun u F0 H0' S0 i0 r0 => h f σ F0 H0' S0 _ fun v F1 H1 S1 i1 r1 => ?_⟩
    obtain ⟨l, o, ev, h1, h2, ⟨hz2, vs, eo, rr⟩, go⟩ := S1.cell hi hl ha
    subst eo hes
    rw [ev0] at ev
    cases ev
    refine ⟨l0, vs, k, v, rfl, by rw [r0.1]; rfl, h1, by rw [pairedLen rr]; exact big_lt (Nat.le_of_lt hz), hb.1, hb.2, q _ F1 _ (go _ ⟨by rw [insI_len]; exact hz, _, rfl, ?_⟩)⟩
    exact pairedApp (pairedApp (pairedTake _ rr) (.cons r1 .nil)) (pairedDrop _ rr))
theorem pairedRev {δ : Type} {R : γ → δ → Prop} : ∀ {xs : List γ} {ys : List δ}, Paired R xs ys → Paired R xs.reverse ys.reverse
  | _, _, .nil => .nil
  | _, _, .cons r t => by
    rw [List.reverse_cons, List.reverse_cons]
    exact pairedApp (pairedRev t) (.cons r .nil)
/-- xs.pop() as a value -/
theorem x_pop [Rp α] [Inhabited α] {e1 e2 : En} {xs : List α} (hpe : PE X e (tBM0 X.K "list" rPop (tVar i))) (hi : es[i]? = some e1) (hl : Lent owCl xs xs.dropLast e1 e2) (hne : 0 < xs.length) (hes : es.set i e2 = es2 := by rfl) (ha : alFree i es = true := by rfl) : XJ X es e (xs.getLastD default) es2 := .mk fun f σ F H S Q q =>
  peR hpe (by
    obtain ⟨l, o, ev, h1, h2, ⟨hz2, vs, eo, rr⟩, go⟩ := S.cell hi hl ha
    subst eo hes
    have hl := pairedLen rr
    have hx : xs[xs.length - 1]? = some (xs.getLastD default) := by
      rw [← List.getLast?_eq_getElem?]
      cases xs with
      | nil => simp at hne
      | cons x r => rw [List.getLastD_cons, List.getLast?_cons, List.getLastD_eq_getLast?]
    obtain ⟨w, hw, rw_⟩ := pairedGet rr hx
    refine ⟨.ref l, sl_of ev, .inl ⟨rfl, vs, .inl (.inl h1)⟩, l, vs, w, rfl, rfl, h1, by rw [hl]; exact hw, q _ F _ (go _ ⟨by rw [List.length_dropLast]; omega, _, rfl, ?_⟩) (Inc.refl _) rw_⟩
    rw [List.dropLast_eq_take, List.dropLast_eq_take, hl]
    exact pairedTake _ rr)
/-! signs of a text, walked -/
theorem h_str {z : Str} (h : RJ X es iter z) : IH X tg es iter (signsOf z) := fun f σ F H S R q =>
  piR (pi_str peW) (h f σ F H S _ fun v F1 H1 t1 r => ⟨z, r.1, q _ F1 H1 t1 ⟨by
    unfold signsOf
    rw [List.length_map]
    exact Nat.le_trans r.2.1 (by decide), fun i F2 H2 i2 _ s2 => by
    have hsz : z.cps.size = z.cps.toList.length := by simp
    refine ⟨fun ei => ?_, fun x hx => ?_⟩
    · unfold signsOf at ei
      rw [List.length_map] at ei
      show z.cps.size ≤ i
      omega
    · obtain ⟨c, hc, ex⟩ := signs_at hx
      have hl := get_lt hc
      refine ⟨show i < z.cps.size by omega, fun v H' y => ?_⟩
      obtain ⟨eH, d, hd, ev⟩ := y
      subst eH
      have hd' : z.cps.toList[i]? = some d := by rw [Array.getElem?_toList]; exact hd
      rw [hc] at hd'
      cases hd'
      refine ⟨F2, St0.refl s2, ?_⟩
      rw [ev, ex]
      exact ⟨rfl, sOk_sgn r.2 (List.mem_of_getElem? hc)⟩⟩⟩)
end
end Ly
namespace Ly
open PySem PySem.Spec PyProof.Rows L2 TL
/-- a value, named -/
def pipe {α β : Sort _} (x : α) (f : α → β) : β := f x
theorem es_gen {X : Cx} {rest : List Stmt} {α γ : Type} {x : α} {m : α → γ} {k : γ → Out} (esf : α → List En) (h : ∀ y, y = x → ES X (esf y) rest (k (m y))) : ES X (esf x) rest (k (pipe x m)) := h x rfl
theorem ok_gen {α : Type} {x y : α} {o : α → Prop} (h : pipe x o) (e : y = x) : o y := by subst e; exact h
/-- a test's two sides -/
def okIf (b : Bool) (p q : Prop) : Prop := (b = true → p) ∧ (b = false → q)
/-- a def that may be called by its name -/
structure Df (P : Program) (w : World) (K : PySem.W.Frag) (mg : Str → Option Value) (base : Heap) (k : Nat) (n : Str) (ps : List Str) (sp : Sp) where
  f : Addr
  fd : FuncData
  ok : FnOk P w K mg base CX0 k f fd ps sp
  mg : mg n = some (.ref f)
  kp : PySem.W.keepIn K (.ref f) = true
  bd : Binds K fd ps []
theorem Df.mk' {P : Program} {w : World} {K : PySem.W.Frag} {mg : Str → Option Value} {base : Heap} {k : Nat} {n : Str} {ps : List Str} {sp : Sp} {x qual : Str} {params : Arguments} {body : List Stmt} {scope : Scope} {f : Addr} {fd : FuncData}
    (F : FunD K x qual params body scope [] [] f fd) (ok : FnOk P w K mg base CX0 k f fd ps sp) (hm : mg n = some (.ref f))
    (h : ∀ (dV kV doc pm : Value) (an : Option Addr) (cdv ct : Value) (us : List Value), dV = .none → us.length = ps.length → bindArgs (PySem.W.fnOf x qual params body scope dV kV doc pm an cdv ct) ⟨us, []⟩ = pure (ps.zip us)) : Nonempty (Df P w K mg base k n ps sp) := by
  obtain ⟨oc, od, dV, kV, doc, pm, an, cdv, ct, osl, rfl, lk, hcd, hd, _⟩ := F.ex
  have ed : dV = .none := by
    rcases hd with ⟨_, e⟩ | ⟨e, _⟩
    · exact e
    · exact absurd rfl e
  exact ⟨⟨f, _, ok, hm, F.kp, .all (h dV kV doc pm an cdv ct · ed)⟩⟩
section
variable {X : Cx} {es es1 es2 as : List En} {a e : Expr} {args : List Expr} {pos : Pos} {α : Type}
variable {j k : Nat} {ps : List Str} {n : Str} {p : Pos} {G : List En → En → Prop}
theorem fD (D : Df X.prog X.w X.K X.mg X.base j n ps (spP X.K G)) (hr : Room j X.A) [Rp α] {x : α} (ha : AJ X es (a :: args) as) (hG : G as (.fz x)) (hg : Gl X n := by rfl) (hdb : (n == ("__debug__" : Str)) = false := by decide) (he : starEach (a :: args) X.env = (false, eval a X.env) :: starEach args X.env := by rfl) (hpl : (backTo pos (starEach args X.env)).any (·.1) = false := by rfl) :
    FJ X es (.Call (.Name n p) (a :: args) [] pos) x := f_call D.ok hr D.mg D.kp D.bd pass0 hg ha hG hdb he hpl
theorem nD (D : Df X.prog X.w X.K X.mg X.base j n ps (spP X.K G)) (hr : Room j X.A) [Ow α] {x : α} (ha : AJ X es (a :: args) as) (hG : G as (.ow x)) (hg : Gl X n := by rfl) (hdb : (n == ("__debug__" : Str)) = false := by decide) (he : starEach (a :: args) X.env = (false, eval a X.env) :: starEach args X.env := by rfl) (hpl : (backTo pos (starEach args X.env)).any (·.1) = false := by rfl) :
    NJ X es (.Call (.Name n p) (a :: args) [] pos) x := n_call D.ok hr D.mg D.kp D.bd pass0 hg ha hG hdb he hpl
theorem lentRef {π : Type} [r : Ow π] [OwR π] {p q : π} {e1 e2 : En} {es : List En} {i : Nat} (hl : Lent r p q e1 e2) (h : es[i]? = some e1) : ∃ e0, es[i]? = some e0 ∧ ∀ (K : PySem.W.Frag) (F H : Hp) s P, EnOk K F H s P e0 → ∃ a, s = some (.ref a) := by
  refine ⟨e1, h, fun K F H s P ok => ?_⟩
  cases hl with
  | ow =>
    obtain ⟨v, ev, o⟩ := ok
    obtain ⟨a, ea⟩ := OwR.ref o
    exact ⟨a, by rw [ev, ea]⟩
  | «at» c => exact ⟨c, ok.1⟩
  | ad c =>
    obtain ⟨v, ev, e3, o⟩ := ok
    exact ⟨c, by rw [ev, e3]⟩
variable {π : Type} [r : Ow π] [OwR π] {p0 p1 p2 : π} {GU : π → List En → π → En → Prop} {i : Nat} {e0 e1 e2 e3 : En}
/-- a call that is lent the slot i: p0 there ahead of the arguments, p1 behind them, p2 behind the call -/
theorem xU (D : Df X.prog X.w X.K X.mg X.base j n ps (spU X.K GU)) (hr : Room j X.A) [Rp α] {x : α} (hv : PE X a (tVar i)) (ha : XA X es args as es1) (l0 : Lent r p0 p0 e0 e0) (h0 : es[i]? = some e0) (hl : Lent r p1 p2 e1 e2) (hi : es1[i]? = some e1) (hG : GU p1 as p2 (.fz x)) (hes : es1.set i e2 = es2 := by rfl) (hal : alFree i es1 = true := by rfl)
    (hg : Gl X n := by rfl) (hdb : (n == ("__debug__" : Str)) = false := by decide) (he : starEach (a :: args) X.env = (false, eval a X.env) :: starEach args X.env := by rfl) (hpl : (backTo pos (starEach args X.env)).any (·.1) = false := by rfl) :
    XJ X es (.Call (.Name n p) (a :: args) [] pos) x es2 := x_callU D.ok hr D.mg D.kp D.bd pass0 hg hv ha hi hl hG hes hal (lentRef l0 h0) hdb he hpl
theorem yU (D : Df X.prog X.w X.K X.mg X.base j n ps (spU X.K GU)) (hr : Room j X.A) [Ow α] {x : α} (hv : PE X a (tVar i)) (ha : XA X es args as es1) (l0 : Lent r p0 p0 e0 e0) (h0 : es[i]? = some e0) (hl : Lent r p1 p2 e1 e2) (hi : es1[i]? = some e1) (hG : GU p1 as p2 (.ow x)) (hes : es1.set i e2 = es2 := by rfl) (hal : alFree i es1 = true := by rfl)
    (hg : Gl X n := by rfl) (hdb : (n == ("__debug__" : Str)) = false := by decide) (he : starEach (a :: args) X.env = (false, eval a X.env) :: starEach args X.env := by rfl) (hpl : (backTo pos (starEach args X.env)).any (·.1) = false := by rfl) :
    YJ X es (.Call (.Name n p) (a :: args) [] pos) x es2 := y_callU D.ok hr D.mg D.kp D.bd pass0 hg hv ha hi hl hG hes hal (lentRef l0 h0) hdb he hpl
/-- a module's int, text -/
theorem r_gint {z : Int} (h : ∃ t, X.mg n = some (.int z t)) (hg : Gl X n := by rfl) (hd : (n == ("__debug__" : Str)) = false := by decide) : RJ X es (.Name n p) z := by
  obtain ⟨t, e⟩ := h
  exact r_con (pe_glob hg e ⟨t, rfl⟩ hd) True.intro
theorem r_gstr {z : Str} (h : ∃ t, X.mg n = some (.str z t)) (hz : sOk z := by decide) (hg : Gl X n := by rfl) (hd : (n == ("__debug__" : Str)) = false := by decide) : RJ X es (.Name n p) z := by
  obtain ⟨t, e⟩ := h
  exact r_con (pe_glob hg e ⟨t, rfl⟩ hd) hz

/-- z * n for n 0 or 1 -/
def srep (z : Str) (n : Int) : Str := if n < 1 then Str.empty else z
/-! isinstance of a thing whose kind is known -/
theorem r_isiStr {z : Str} {p2 : Pos} (hg : Gl X "isinstance") (hm : X.mg "isinstance" = none) (hg2 : Gl X "str") (hm2 : X.mg "str" = none) (h : RJ X es a z)
    (s1 : starEach [a, .Name "str" p2] X.env = (false, eval a X.env) :: starEach [.Name "str" p2] X.env := by rfl) (s3 : (backTo pos (starEach [.Name "str" p2] X.env)).any (·.1) = false := by rfl) : RJ X es (.Call (.Name "isinstance" p) [a, .Name "str" p2] [] pos) true := .mk fun f σ F H S Q q =>
  peR (pe_callB call_isi hg hm (by decide +kernel) (pa_cons peW (pa_cons (pe_bltn (v := .ty "str") hg2 hm2 (by decide +kernel) rfl) pa_nil) s1) (by decide) (by decide) s1 s3) (h f σ F H S _ fun v F1 H1 t1 r1 =>
    ⟨v, .ty "str", .type "str", .type "str", true, rfl, .ty _, .base (by rw [show v = V.str z from r1.1]; exact .str z), kit_ty (by decide +kernel), q _ F1 H1 t1 ⟨rfl, True.intro⟩⟩)
theorem r_isiInt {z : Int} {p2 : Pos} (hg : Gl X "isinstance") (hm : X.mg "isinstance" = none) (hg2 : Gl X "int") (hm2 : X.mg "int" = none) (h : RJ X es a z)
    (s1 : starEach [a, .Name "int" p2] X.env = (false, eval a X.env) :: starEach [.Name "int" p2] X.env := by rfl) (s3 : (backTo pos (starEach [.Name "int" p2] X.env)).any (·.1) = false := by rfl) : RJ X es (.Call (.Name "isinstance" p) [a, .Name "int" p2] [] pos) true := .mk fun f σ F H S Q q =>
  peR (pe_callB call_isi hg hm (by decide +kernel) (pa_cons peW (pa_cons (pe_bltn (v := .ty "int") hg2 hm2 (by decide +kernel) rfl) pa_nil) s1) (by decide) (by decide) s1 s3) (h f σ F H S _ fun v F1 H1 t1 r1 =>
    ⟨v, .ty "int", .type "int", .type "int", true, rfl, .ty _, .base (by rw [show v = V.int z from r1.1]; exact .int z), kit_ty (by decide +kernel), q _ F1 H1 t1 ⟨rfl, True.intro⟩⟩)
theorem r_isiBoolI {z : Int} {p2 : Pos} (hg : Gl X "isinstance") (hm : X.mg "isinstance" = none) (hg2 : Gl X "bool") (hm2 : X.mg "bool" = none) (h : RJ X es a z)
    (s1 : starEach [a, .Name "bool" p2] X.env = (false, eval a X.env) :: starEach [.Name "bool" p2] X.env := by rfl) (s3 : (backTo pos (starEach [.Name "bool" p2] X.env)).any (·.1) = false := by rfl) : RJ X es (.Call (.Name "isinstance" p) [a, .Name "bool" p2] [] pos) false := .mk fun f σ F H S Q q =>
  peR (pe_callB call_isi hg hm (by decide +kernel) (pa_cons peW (pa_cons (pe_bltn (v := .ty "bool") hg2 hm2 (by decide +kernel) rfl) pa_nil) s1) (by decide) (by decide) s1 s3) (h f σ F H S _ fun v F1 H1 t1 r1 =>
    ⟨v, .ty "bool", .type "int", .type "bool", false, rfl, .ty _, .base (by rw [show v = V.int z from r1.1]; exact .int z), kit_ty (by decide +kernel), q _ F1 H1 t1 ⟨rfl, True.intro⟩⟩)
end
end Ly
namespace Ly
open PySem PySem.Spec PyProof.Rows L2 TL
section
variable {X : Cx} {es es1 es2 as : List En} {a e : Expr} {args : List Expr} {pos : Pos} {α : Type}
variable {j k : Nat} {ps : List Str} {n : Str} {p : Pos}
variable {π : Type} [r : Ow π] [OwR π] {p0 p1 p2 : π} {GU : π → List En → π → En → Prop} {i : Nat}
/-- a thing made for the call alone is lent -/
theorem fUt (D : Df X.prog X.w X.K X.mg X.base j n ps (spU X.K GU)) (hr : Room j X.A) [Rp α] {x : α} (h0 : NJ X es a p0) (ha : AJ X es args as) (hG : GU p0 as p1 (.fz x)) (hg : Gl X n := by rfl) (hdb : (n == ("__debug__" : Str)) = false := by decide) (he : starEach (a :: args) X.env = (false, eval a X.env) :: starEach args X.env := by rfl) (hpl : (backTo pos (starEach args X.env)).any (·.1) = false := by rfl) :
    FJ X es (.Call (.Name n p) (a :: args) [] pos) x := .mk fun f σ F H S Q q =>
  peR (pe_call D.ok hr hg D.mg D.kp D.bd .nil pass0 (pa_cons peW paW he) hdb he hpl) (h0 f σ F H S _ fun v F1 H1 P t1 o1 hn hp => ha f σ F1 H1 (S.step t1) _ fun vs F2 H2 t2 r2 => by
    show spU X.K GU (v :: vs ++ []) H2 Q _
    rw [List.append_nil]
    obtain ⟨b, rfl⟩ := OwR.ref o1
    refine ⟨b, vs, p0, as, p1, _, F2, P, rfl, hG, t2.e, ownStep o1 t2, hn, r2, fun w F3 H3 P' t3 o3 hn' hf r3 => ?_⟩
    exact q w F3 H3 (Stp.trans (St0.trans t1 t2) t3 fun y hy => .inl (hp y hy)) r3)
/-! a sign of a text -/
def sgnOf (z : Str) : Nat := z.cps[0]?.getD 0
theorem sgnOf_sgn (c : Nat) : sgnOf (sgn c) = c := rfl
theorem isSgn {z : Str} {c : Nat} (h : z = sgn c) (hr : RJ X es e z) : RJ X es e (sgn c) := h ▸ hr

/-! comparisons as tests -/
theorem t_cmpG {op : CmpOp} {r : R2} {β : Type} [Sc α] [Sc β] {x : α} {y : β} {z : Bool} {b : Expr} (ho : OpR X (compareOp op) r) (hr : ∀ (H : Hp) (Q : VK), Q (.bl z) H → r (Sc.toV x) (Sc.toV y) H Q) (ha : RJ X es a x) (hb : RJ X es b y) (hm : behindInMarks op b = false := by first | exact nomark _ | rfl) : TJ X es (.Compare a [op] [b] pos) z := .mk fun f σ F H S Q q =>
  ptR (pt_cmpR ho peW peW hm) (ha f σ F H S _ fun v F1 H1 t1 r1 => hb f σ F1 H1 (S.step t1) _ fun w F2 H2 t2 r2 => by
    have e1 : v = Sc.toV x := r1.1
    have e2 : w = Sc.toV y := r2.1
    subst e1 e2
    exact hr H2 _ ⟨z, rfl, q F2 H2 (t1.trans t2)⟩)
theorem xt_cmpG {op : CmpOp} {r : R2} {β : Type} [Sc α] [Sc β] {x : α} {y : β} {z : Bool} {b : Expr} (ho : OpR X (compareOp op) r) (hr : ∀ (H : Hp) (Q : VK), Q (.bl z) H → r (Sc.toV x) (Sc.toV y) H Q) (ha : XJ X es a x es1) (hb : XJ X es1 b y es2) (hm : behindInMarks op b = false := by first | exact nomark _ | rfl) : XT X es (.Compare a [op] [b] pos) z es2 := .mk fun f σ F H S Q q =>
  ptR (pt_cmpR ho peW peW hm) (ha f σ F H S _ fun v F1 H1 S1 i1 r1 => hb f σ F1 H1 S1 _ fun w F2 H2 S2 i2 r2 => by
    have e1 : v = Sc.toV x := r1.1
    have e2 : w = Sc.toV y := r2.1
    subst e1 e2
    exact hr H2 _ ⟨z, rfl, q F2 H2 S2 (i1.trans i2)⟩)
theorem t_lt {x y : Int} {b : Expr} (ha : RJ X es a x) (hb : RJ X es b y) : TJ X es (.Compare a [.Lt] [b] pos) (decide (x < y)) := t_cmpG op_lt (fun _ _ q => ⟨x, y, rfl, rfl, q⟩) ha hb
theorem t_le {x y : Int} {b : Expr} (ha : RJ X es a x) (hb : RJ X es b y) : TJ X es (.Compare a [.LtE] [b] pos) (decide (x ≤ y)) := t_cmpG op_le (fun _ _ q => ⟨x, y, rfl, rfl, q⟩) ha hb
theorem t_gt {x y : Int} {b : Expr} (ha : RJ X es a x) (hb : RJ X es b y) : TJ X es (.Compare a [.Gt] [b] pos) (decide (x > y)) := t_cmpG op_gt (fun _ _ q => ⟨x, y, rfl, rfl, q⟩) ha hb
theorem t_ge {x y : Int} {b : Expr} (ha : RJ X es a x) (hb : RJ X es b y) : TJ X es (.Compare a [.GtE] [b] pos) (decide (x ≥ y)) := t_cmpG op_ge (fun _ _ q => ⟨x, y, rfl, rfl, q⟩) ha hb
theorem t_eq [Sc α] [DecidableEq α] [ScE α] {x y : α} {b : Expr} (ha : RJ X es a x) (hb : RJ X es b y) : TJ X es (.Compare a [.Eq] [b] pos) (decide (x = y)) := t_cmpG op_eq (fun _ Q q => ⟨ScE.sc x y, by rw [ScE.dec]; exact q⟩) ha hb
theorem xt_eq [Sc α] [DecidableEq α] [ScE α] {x y : α} {b : Expr} (ha : XJ X es a x es1) (hb : XJ X es1 b y es2) : XT X es (.Compare a [.Eq] [b] pos) (decide (x = y)) es2 := xt_cmpG op_eq (fun _ Q q => ⟨ScE.sc x y, by rw [ScE.dec]; exact q⟩) ha hb
theorem t_ne [Sc α] [DecidableEq α] [ScE α] {x y : α} {b : Expr} (ha : RJ X es a x) (hb : RJ X es b y) : TJ X es (.Compare a [.NotEq] [b] pos) (!decide (x = y)) := t_cmpG op_ne (fun _ Q q => ⟨ScE.sc x y, by rw [ScE.dec]; exact q⟩) ha hb
theorem t_in [Sc α] [DecidableEq α] [Fl1 α] {x : α} {xs : List α} {b : Expr} (ha : RJ X es a x) (hb : RJ X es b xs) (hm : behindInMarks .In b = false := by rfl) : TJ X es (.Compare a [.In] [b] pos) (decide (x ∈ xs)) := .mk fun f σ F H S Q q =>
  ptR (pt_cmpR op_in_seq peW peW hm) (ha f σ F H S _ fun v F1 H1 t1 r1 => hb f σ F1 H1 (S.step t1) _ fun w F2 H2 t2 r2 => by
    have e1 : v = Sc.toV x := r1.1
    subst e1
    obtain ⟨p, vs, e, h, _, rr⟩ := repL (ovl_sub t2.sub) r2
    rw [scMap rr] at h
    refine ⟨p, _, e, .inl (.inl (.inl h)), Fl1.flat x, by simp [Fl1.flat], (inV (Sc.toV x) (xs.map Sc.toV)), rfl, ?_⟩
    rw [inV_eq]
    exact q F2 H2 (t1.trans t2))
theorem t_nin [Sc α] [DecidableEq α] [Fl1 α] {x : α} {xs : List α} {b : Expr} (ha : RJ X es a x) (hb : RJ X es b xs) (hm : behindInMarks .NotIn b = false := by rfl) : TJ X es (.Compare a [.NotIn] [b] pos) (!decide (x ∈ xs)) := .mk fun f σ F H S Q q =>
  ptR (pt_cmpR op_notIn_seq peW peW hm) (ha f σ F H S _ fun v F1 H1 t1 r1 => hb f σ F1 H1 (S.step t1) _ fun w F2 H2 t2 r2 => by
    have e1 : v = Sc.toV x := r1.1
    subst e1
    obtain ⟨p, vs, e, h, _, rr⟩ := repL (ovl_sub t2.sub) r2
    rw [scMap rr] at h
    refine ⟨p, _, e, .inl (.inl (.inl h)), Fl1.flat x, by simp [Fl1.flat], (!inV (Sc.toV x) (xs.map Sc.toV)), rfl, ?_⟩
    rw [inV_eq]
    exact q F2 H2 (t1.trans t2))
theorem t_eqD [Rp α] [DecidableEq α] {m : Nat} [DatN α m] {x y : α} {b : Expr} (hu : X.A.units + 64 < cLine) (ha : RJ X es a x) (hb : RJ X es b y) (hn : m ≤ 64 := by decide) : TJ X es (.Compare a [.Eq] [b] pos) (decide (x = y)) := .mk fun f σ F H S Q q =>
  ptR (pt_cmpR (op_eqD hu) peW peW (nomark _)) (ha f σ F H S _ fun v F1 H1 t1 r1 => hb f σ F1 H1 (S.step t1) _ fun w F2 H2 t2 r2 =>
    ⟨Dat.d x, Dat.d y, Dat.dp (ovl_sub t2.e) (Rp.mono (ovl_step t2) r1), Dat.dp (ovl_sub t2.e) r2, DatN.sh hn r1, DatN.sh hn r2, _, rfl, by rw [Dat.eq]; exact q F2 H2 (t1.trans t2)⟩)
theorem t_neD [Rp α] [DecidableEq α] {m : Nat} [DatN α m] {x y : α} {b : Expr} (hu : X.A.units + 64 < cLine) (ha : RJ X es a x) (hb : RJ X es b y) (hn : m ≤ 64 := by decide) : TJ X es (.Compare a [.NotEq] [b] pos) (!decide (x = y)) := .mk fun f σ F H S Q q =>
  ptR (pt_cmpR (op_neD hu) peW peW (nomark _)) (ha f σ F H S _ fun v F1 H1 t1 r1 => hb f σ F1 H1 (S.step t1) _ fun w F2 H2 t2 r2 =>
    ⟨Dat.d x, Dat.d y, Dat.dp (ovl_sub t2.e) (Rp.mono (ovl_step t2) r1), Dat.dp (ovl_sub t2.e) r2, DatN.sh hn r1, DatN.sh hn r2, _, rfl, by rw [Dat.eq]; exact q F2 H2 (t1.trans t2)⟩)
theorem t_ltle {x y z : Int} {b c : Expr} (ha : RJ X es a x) (hb : RJ X es b y) (hc : RJ X es c z) (hm : lastMarks [CmpOp.LtE, CmpOp.LtE] [b, c] = false := by rfl) : TJ X es (.Compare a [.LtE, .LtE] [b, c] pos) (decide (x ≤ y) && decide (y ≤ z)) := .mk fun f σ F H S Q k =>
  ptR (pt_chain op_le op_le peW peW peW hm) (ha f σ F H S _ fun v1 F1 H1 t1 r1 => hb f σ F1 H1 (S.step t1) _ fun v2 F2 H2 t2 r2 => by
    have e1 : v1 = V.int x := r1.1
    have e2 : v2 = V.int y := r2.1
    subst e1 e2
    refine ⟨x, y, rfl, rfl, decide (x ≤ y), rfl, ?_⟩
    revert k
    cases decide (x ≤ y) with
    | false => exact fun k => ⟨_, rfl, k F2 H2 (t1.trans t2)⟩
    | true =>
      intro k
      refine hc f σ F2 H2 ((S.step t1).step t2) _ fun v3 F3 H3 t3 r3 => ?_
      have e3 : v3 = V.int z := r3.1
      subst e3
      exact ⟨y, z, rfl, rfl, _, rfl, k F3 H3 ((t1.trans t2).trans t3)⟩)
end
end Ly
namespace Ly
open PySem PySem.Spec PyProof.Rows L2 TL
/-! a list whose items are own, each -/
inductive OwnAll {α : Type} [Ow α] (K : PySem.W.Frag) (F H : Hp) : List V → List α → List (List Addr) → Prop where
  | nil : OwnAll K F H [] [] []
  | cons {v : V} {x : α} {P : List Addr} {vs : List V} {xs : List α} {Ps : List (List Addr)} : Ow.own K F H v x P → OwnAll K F H vs xs Ps → OwnAll K F H (v :: vs) (x :: xs) (P :: Ps)
section
variable {α : Type} [Ow α] {K : PySem.W.Frag} {F F' H H' : Hp}
theorem OwnAll.mono (i : Inc F F') : ∀ {vs : List V} {xs : List α} {Ps : List (List Addr)}, (∀ p ∈ Ps.flatten, H' p = H p) → (∀ p ∈ Ps.flatten, F' p = none) → OwnAll K F H vs xs Ps → OwnAll K F' H' vs xs Ps
  | _, _, _, _, _, .nil => .nil
  | _, _, _, h, hf, .cons r t => .cons (Ow.mono i (fun p hp => h p (by simp [hp])) (fun p hp => hf p (by simp [hp])) r) (t.mono i (fun p hp => h p (by rw [List.flatten_cons]; exact List.mem_append_right _ hp)) fun p hp => hf p (by rw [List.flatten_cons]; exact List.mem_append_right _ hp))
theorem OwnAll.out : ∀ {vs : List V} {xs : List α} {Ps : List (List Addr)}, OwnAll K F H vs xs Ps → ∀ p ∈ Ps.flatten, H p ≠ none ∧ F p = none
  | _, _, _, .nil, p, hp => by cases hp
  | _, _, _, .cons r t, p, hp => by
    rw [List.flatten_cons] at hp
    rcases List.mem_append.mp hp with h | h
    · exact Ow.out r p h
    · exact t.out p h
theorem OwnAll.nt : ∀ {vs : List V} {xs : List α} {Ps : List (List Addr)}, OwnAll K F H vs xs Ps → ∀ p ∈ Ps.flatten, ∀ ks, H p ≠ some (sk ks)
  | _, _, _, .nil, p, hp => by cases hp
  | _, _, _, .cons r t, p, hp => by
    rw [List.flatten_cons] at hp
    rcases List.mem_append.mp hp with h | h
    · exact Ow.nt r p h
    · exact t.nt p h
theorem fzP_sub {P Q : List Addr} (h : ∀ p ∈ P, p ∈ Q) (hf : ∀ p ∈ Q, F p = none) : Inc (fzP F H P) (fzP F H Q) := fun a o e => by
  by_cases q : a ∈ P
  · rw [fzP_in q] at e; rw [fzP_in (h a q)]; exact e
  · rw [fzP_out q] at e
    by_cases q2 : a ∈ Q
    · rw [hf a q2] at e; cases e
    · rw [fzP_out q2]; exact e
theorem OwnAll.rep {Q : List Addr} (hf : ∀ p ∈ Q, F p = none) : ∀ {vs : List V} {xs : List α} {Ps : List (List Addr)}, (∀ p ∈ Ps.flatten, p ∈ Q) → OwnAll K F H vs xs Ps → Paired (@Rp.rep α Ow.rp K (fzP F H Q)) vs xs
  | _, _, _, _, .nil => .nil
  | _, _, _, hQ, .cons r t => .cons (@Rp.mono α Ow.rp _ _ _ _ _ (fzP_sub (fun p hp => hQ p (by simp [hp])) hf) (Ow.fzn r)) (t.rep hf fun p hp => hQ p (by rw [List.flatten_cons]; exact List.mem_append_right _ hp))
theorem OwnAll.len : ∀ {vs : List V} {xs : List α} {Ps : List (List Addr)}, OwnAll K F H vs xs Ps → vs.length = xs.length
  | _, _, _, .nil => rfl
  | _, _, _, .cons r t => by simp [t.len]
theorem OwnAll.app : ∀ {vs ws : List V} {xs ys : List α} {Ps Qs : List (List Addr)}, OwnAll K F H vs xs Ps → OwnAll K F H ws ys Qs → OwnAll K F H (vs ++ ws) (xs ++ ys) (Ps ++ Qs)
  | _, _, _, _, _, _, .nil, t => t
  | _, _, _, _, _, _, .cons r t, u => .cons r (t.app u)
theorem OwnAll.cut : ∀ {xs ys : List α} {vs : List V} {Ps : List (List Addr)}, OwnAll K F H vs (xs ++ ys) Ps → ∃ v1 v2 P1 P2, vs = v1 ++ v2 ∧ Ps = P1 ++ P2 ∧ OwnAll K F H v1 xs P1 ∧ OwnAll K F H v2 ys P2
  | [], ys, vs, Ps, h => ⟨[], vs, [], Ps, rfl, rfl, .nil, h⟩
  | x :: xs, ys, _, _, .cons r t => by
    obtain ⟨v1, v2, P1, P2, e1, e2, h1, h2⟩ := t.cut
    exact ⟨_ :: v1, v2, _ :: P1, P2, by rw [e1]; rfl, by rw [e2]; rfl, .cons r h1, h2⟩
end
structure Dl (α : Type) where
  l : List α
instance owDl {α : Type} [r : Ow α] : Ow (Dl α) where
  rp := ⟨fun K H v x => @Rp.rep (List α) (@rpCl _ (@clList α Ow.rp)) K H v x.l, fun i h => @Rp.mono (List α) (@rpCl _ (@clList α Ow.rp)) _ _ _ _ _ i h⟩
  own K F H v x P := ∃ a vs Ps, v = .ref a ∧ P = a :: Ps.flatten ∧ H a = some (.lst vs) ∧ F a = none ∧ x.l.length ≤ big ∧ OwnAll K F H vs x.l Ps
  mono {K F F' H H' v x P} i h hf r := by
    obtain ⟨a, vs, Ps, e, rfl, h1, h2, hz, o⟩ := r
    exact ⟨a, vs, Ps, e, rfl, (h a (by simp)).trans h1, hf a (by simp), hz, o.mono i (fun p hp => h p (List.mem_cons_of_mem _ hp)) fun p hp => hf p (List.mem_cons_of_mem _ hp)⟩
  out {K F H v x P} r p hp := by
    obtain ⟨a, vs, Ps, e, rfl, h1, h2, hz, o⟩ := r
    rcases List.mem_cons.mp hp with h | h
    · rw [h]; exact ⟨nn h1, h2⟩
    · exact o.out p h
  fzn {K F H v x P} r := by
    obtain ⟨a, vs, Ps, e, rfl, h1, h2, hz, o⟩ := r
    have hf : ∀ p ∈ a :: Ps.flatten, F p = none := fun p hp => by
      rcases List.mem_cons.mp hp with h | h
      · rw [h]; exact h2
      · exact (o.out p h).2
    exact ⟨a, _, e, (fzP_in (by simp)).trans h1, hz, vs, rfl, o.rep hf fun p hp => List.mem_cons_of_mem _ hp⟩
  nt {K F H v x P} r p hp ks := by
    obtain ⟨a, vs, Ps, e, rfl, h1, h2, hz, o⟩ := r
    rcases List.mem_cons.mp hp with h | h
    · rw [h, h1]; exact fun z => nskL ks (Option.some.inj z)
    · exact o.nt p h ks
/-- such a list, one of its items (at a) taken out -/
structure Hol (α : Type) where
  pre : List α
  suf : List α
  a : Addr
instance owHol {α : Type} [r : Ow α] : Ow (Hol α) where
  rp := ⟨fun _ _ _ _ => True, fun _ h => h⟩
  own K F H v x P := ∃ q v1 v2 P1 P2, v = .ref q ∧ P = q :: (P1.flatten ++ P2.flatten) ∧ H q = some (.lst (v1 ++ .ref x.a :: v2)) ∧ F q = none ∧ x.pre.length + 1 + x.suf.length ≤ big ∧ OwnAll K F H v1 x.pre P1 ∧ OwnAll K F H v2 x.suf P2
  mono {K F F' H H' v x P} i h hf r := by
    obtain ⟨a, v1, v2, P1, P2, e, rfl, h1, h2, hz, o1, o2⟩ := r
    exact ⟨a, v1, v2, P1, P2, e, rfl, (h a (by simp)).trans h1, hf a (by simp), hz, o1.mono i (fun p hp => h p (List.mem_cons_of_mem _ (List.mem_append_left _ hp))) (fun p hp => hf p (List.mem_cons_of_mem _ (List.mem_append_left _ hp))),
      o2.mono i (fun p hp => h p (List.mem_cons_of_mem _ (List.mem_append_right _ hp))) fun p hp => hf p (List.mem_cons_of_mem _ (List.mem_append_right _ hp))⟩
  out {K F H v x P} r p hp := by
    obtain ⟨a, v1, v2, P1, P2, e, rfl, h1, h2, hz, o1, o2⟩ := r
    rcases List.mem_cons.mp hp with h | h
    · rw [h]; exact ⟨nn h1, h2⟩
    · rcases List.mem_append.mp h with h | h
      · exact o1.out p h
      · exact o2.out p h
  fzn _ := True.intro
  nt {K F H v x P} r p hp ks := by
    obtain ⟨a, v1, v2, P1, P2, e, rfl, h1, h2, hz, o1, o2⟩ := r
    rcases List.mem_cons.mp hp with h | h
    · rw [h, h1]; exact fun z => nskL ks (Option.some.inj z)
    · rcases List.mem_append.mp h with h | h
      · exact o1.nt p h ks
      · exact o2.nt p h ks
section
variable {K : PySem.W.Frag} {f : Fr} {es : List En} {σ : L2.St} {F H : Hp} {Ps : Nat → List Addr} {α : Type} {i j : Nat}
/-- what two slots own is dealt anew -/
theorem EnvP.two {ei ej : En} {Pi Pj : List Addr} {v : Option V} (q : EnvP K f es σ F H Ps) (hij : i ≠ j) (hi : i < es.length) (hj : j < es.length) (oi : EnOk K F H (sl σ i) Pi ei) (oj : EnOk K F H (sl (σ.set j v) j) Pj ej)
    (ni : Pi.Nodup) (nj : Pj.Nodup) (dj : ∀ p ∈ Pi, p ∉ Pj) (hi2 : ∀ p ∈ Pi, p ∈ Ps i ∨ p ∈ Ps j) (hj2 : ∀ p ∈ Pj, p ∈ Ps i ∨ p ∈ Ps j) (nw : ∀ p, p ∈ Pi ∨ p ∈ Pj → f.H p = none) (ai : noAl i es) (aj : noAl j es)
    (zi : ∀ k (α : Type) (r : Ow α) (x : α), ei ≠ .alI k r x) (zj : ∀ k (α : Type) (r : Ow α) (x : α), ej ≠ .alI k r x) : EnvP K f ((es.set i ei).set j ej) (σ.set j v) F H (fun k => if k = j then Pj else if k = i then Pi else Ps k) := by
  have cov : ∀ k p, k < es.length → p ∈ (if k = j then Pj else if k = i then Pi else Ps k) → (k = i ∨ k = j) ∧ (p ∈ Ps i ∨ p ∈ Ps j) ∨ (k ≠ i ∧ k ≠ j ∧ p ∈ Ps k) := fun k p hk hp => by
    by_cases z : k = j
    · rw [if_pos z] at hp; exact .inl ⟨.inr z, hj2 p hp⟩
    · rw [if_neg z] at hp
      by_cases z2 : k = i
      · rw [if_pos z2] at hp; exact .inl ⟨.inl z2, hi2 p hp⟩
      · rw [if_neg z2] at hp; exact .inr ⟨z2, z, hp⟩
  have get : ∀ k e, ((es.set i ei).set j ej)[k]? = some e → (k = j ∧ e = ej) ∨ (k ≠ j ∧ k = i ∧ e = ei) ∨ (k ≠ j ∧ k ≠ i ∧ es[k]? = some e) := fun k e hk => by
    by_cases z : k = j
    · subst z
      rw [List.getElem?_set_self (by simpa using hj)] at hk
      exact .inl ⟨rfl, (Option.some.inj hk).symm⟩
    · rw [List.getElem?_set_ne (Ne.symm z)] at hk
      by_cases z2 : k = i
      · subst z2
        rw [List.getElem?_set_self hi] at hk
        exact .inr (.inl ⟨z, rfl, (Option.some.inj hk).symm⟩)
      · rw [List.getElem?_set_ne (Ne.symm z2)] at hk
        exact .inr (.inr ⟨z, z2, hk⟩)
  refine ⟨by simp [q.len], fun k e hk => ?_, fun k hk => ?_, fun k l p hk hl p1 p2 => ?_, fun k p hk hp => ?_, fun k p β r x hk hp => ?_, fun k l β r x hk => ?_⟩
  · rcases get k e hk with ⟨z, ee⟩ | ⟨z1, z2, ee⟩ | ⟨z1, z2, ee⟩
    · subst z ee; rw [if_pos rfl]; exact oj
    · subst z2 ee; rw [if_neg z1, if_pos rfl, sl_ne (Ne.symm z1)]; exact oi
    · rw [if_neg z1, if_neg z2, sl_ne (Ne.symm z1)]; exact q.ok k e ee
  · by_cases z : k = j
    · rw [if_pos z]; exact nj
    · rw [if_neg z]
      by_cases z2 : k = i
      · rw [if_pos z2]; exact ni
      · rw [if_neg z2]; exact q.nd k (by simpa using hk)
  · have hk' : k < es.length := by simpa using hk
    have hl' : l < es.length := by simpa using hl
    have both : ∀ k l, k < es.length → l < es.length → p ∈ (if k = j then Pj else if k = i then Pi else Ps k) → p ∈ (if l = j then Pj else if l = i then Pi else Ps l) → (k = i ∨ k = j) → ¬ (l = i ∨ l = j) → False := fun k l hk hl p1 p2 c1 c2 => by
      rcases cov k p hk p1 with ⟨_, c⟩ | ⟨y1, y2, _⟩
      · rcases cov l p hl p2 with ⟨y, _⟩ | ⟨y1, y2, y⟩
        · exact c2 y
        · rcases c with c | c
          · exact y1 (q.dj l i p hl hi y c)
          · exact y2 (q.dj l j p hl hj y c)
      · rcases c1 with c1 | c1
        · exact y1 c1
        · exact y2 c1
    by_cases c1 : k = i ∨ k = j
    · by_cases c2 : l = i ∨ l = j
      · by_cases z : k = j
        · by_cases z2 : l = j
          · rw [z, z2]
          · rw [if_pos z] at p1
            rw [if_neg z2, if_pos (c2.resolve_right z2)] at p2
            exact absurd p1 (dj p p2)
        · rw [if_neg z, if_pos (c1.resolve_right z)] at p1
          by_cases z2 : l = j
          · rw [if_pos z2] at p2; exact absurd p2 (dj p p1)
          · rw [c1.resolve_right z, c2.resolve_right z2]
      · exact (both k l hk' hl' p1 p2 c1 c2).elim
    · by_cases c2 : l = i ∨ l = j
      · exact (both l k hl' hk' p2 p1 c2 c1).elim
      · have k1 : k ≠ j := fun z => c1 (.inr z)
        have k2 : k ≠ i := fun z => c1 (.inl z)
        have l1 : l ≠ j := fun z => c2 (.inr z)
        have l2 : l ≠ i := fun z => c2 (.inl z)
        rw [if_neg k1, if_neg k2] at p1
        rw [if_neg l1, if_neg l2] at p2
        exact q.dj k l p hk' hl' p1 p2
  · rcases cov k p (by simpa using hk) hp with ⟨c, c2⟩ | ⟨c1, c2, c3⟩
    · refine .inl (nw p ?_)
      by_cases z : k = j
      · rw [if_pos z] at hp; exact .inr hp
      · rw [if_neg z, if_pos (c.resolve_right z)] at hp; exact .inl hp
    · exact q.fr k p (by simpa using hk) c3
  · by_cases z : k = j
    · rw [if_pos z] at hp; exact nw p (.inr hp)
    · rw [if_neg z] at hp
      by_cases z2 : k = i
      · rw [if_pos z2] at hp; exact nw p (.inl hp)
      · rw [if_neg z2] at hp
        rcases get k _ hk with ⟨y, _⟩ | ⟨_, y, _⟩ | ⟨_, _, y⟩
        · exact absurd y z
        · exact absurd y z2
        · exact q.nw k p β r x y hp
  · rcases get k _ hk with ⟨y, ee⟩ | ⟨_, y, ee⟩ | ⟨z1, z2, y⟩
    · exact absurd ee.symm (zj l β r x)
    · exact absurd ee.symm (zi l β r x)
    · obtain ⟨hl, w, Q, ew, hQ, o⟩ := q.al k l β r x y
      have li : l ≠ i := fun z => ai k β r x (z ▸ y)
      have lj : l ≠ j := fun z => aj k β r x (z ▸ y)
      exact ⟨by simpa using hl, w, Q, by rw [sl_ne (Ne.symm z1)]; exact ew, fun p hp => by rw [if_neg lj, if_neg li]; exact hQ p hp, o⟩

/-- an item is taken out of the list at i, into the slot j -/
theorem Sw.split [r : Ow α] [OwR α] {pre suf : List α} {x : α} (s : Sw K f es σ F H) {qa : Addr} (hi : es[i]? = some (.ow (Adr.mk qa (Dl.mk (pre ++ x :: suf))))) (hij : i ≠ j) (hj : es[j]? = some .un) (ai : noAl i es) (aj : noAl j es) :
    ∃ vs, sl σ i = some (.ref qa) ∧ H qa = some (.lst vs) ∧ vs.length = (pre ++ x :: suf).length ∧ ∀ v, vs[pre.length]? = some v → ∃ a, v = .ref a ∧ Sw K f ((es.set i (.ow (Adr.mk qa (Hol.mk pre suf a)))).set j (.ow (Adr.mk a x))) (σ.set j (some v)) F H := by
  obtain ⟨Ps, q⟩ := s.env
  obtain ⟨v0, ev0, e0, l, vs, Qs, e, eP, h1, h2, hz, o⟩ := q.ok i _ hi
  subst e0
  obtain rfl : qa = l := by injection e
  have hz : (pre ++ x :: suf).length ≤ big := hz
  have o : OwnAll K F H vs (pre ++ x :: suf) Qs := o
  refine ⟨vs, ev0, h1, o.len, fun v hv => ?_⟩
  obtain ⟨v1, v2, P1, P2, e1, e2, o1, o2⟩ := o.cut
  cases o2 with
  | @cons vx _ Px v3 _ P3 ox o3 =>
  have lv := o1.len
  have evx : v = vx := by
    rw [e1, ← lv, List.getElem?_append_right (Nat.le_refl _), Nat.sub_self] at hv
    exact (Option.some.inj hv).symm
  subst evx
  obtain ⟨a, ea⟩ := OwR.ref ox
  subst ea
  have hil := get_lt hi
  have hjl := get_lt hj
  have nd := q.nd i hil
  rw [eP, e2] at nd
  have nd2 : (qa :: (P1.flatten ++ (Px ++ P3.flatten))).Nodup := by simpa using nd
  have nd3 := List.nodup_cons.mp nd2
  have nd4 := List.nodup_append.mp nd3.2
  have nd5 := List.nodup_append.mp nd4.2.1
  have cov : ∀ p, p = qa ∨ p ∈ P1.flatten ∨ p ∈ Px ∨ p ∈ P3.flatten → p ∈ Ps i := fun p hp => by
    rw [eP, e2]
    rcases hp with h | h | h | h <;> simp [h]
  have jl : j < σ.length := by rw [← q.len]; exact hjl
  refine ⟨a, rfl, s.st, _, q.two (Pi := qa :: (P1.flatten ++ P3.flatten)) (Pj := Px) hij hil hjl ⟨_, ev0, rfl, qa, v1, v3, P1, P3, rfl, rfl, by rw [h1, e1], h2, ?_, o1, o3⟩ ⟨_, sl_set jl, rfl, ox⟩ ?_ nd5.1 ?_ ?_ ?_ ?_ ai aj (fun _ _ _ _ z => by cases z) (fun _ _ _ _ z => by cases z)⟩
  · show pre.length + 1 + suf.length ≤ big
    rw [List.length_append, List.length_cons] at hz
    omega
  · refine List.nodup_cons.mpr ⟨fun h => nd3.1 ?_, List.nodup_append.mpr ⟨nd4.1, nd5.2.1, fun p h1 q h2 => nd4.2.2 p h1 q (List.mem_append_right _ h2)⟩⟩
    rcases List.mem_append.mp h with h | h
    · exact List.mem_append_left _ h
    · exact List.mem_append_right _ (List.mem_append_right _ h)
  · intro p hp hx
    rcases List.mem_cons.mp hp with h | h
    · subst h; exact nd3.1 (List.mem_append_right _ (List.mem_append_left _ hx))
    · rcases List.mem_append.mp h with h | h
      · exact nd4.2.2 p h p (List.mem_append_left _ hx) rfl
      · exact nd5.2.2 p hx p h rfl
  · intro p hp
    rcases List.mem_cons.mp hp with h | h
    · exact .inl (cov p (.inl h))
    · rcases List.mem_append.mp h with h | h
      · exact .inl (cov p (.inr (.inl h)))
      · exact .inl (cov p (.inr (.inr (.inr h))))
  · exact fun p hp => .inl (cov p (.inr (.inr (.inl hp))))
  · intro p hp
    refine q.nw i p _ _ _ hi (cov p ?_)
    rcases hp with hp | hp
    · rcases List.mem_cons.mp hp with h | h
      · exact .inl h
      · rcases List.mem_append.mp h with h | h
        · exact .inr (.inl h)
        · exact .inr (.inr (.inr h))
    · exact .inr (.inr (.inl hp))
/-- and put back -/
theorem Sw.join [r : Ow α] {pre suf : List α} {x : α} {a : Addr} (s : Sw K f es σ F H) {qa : Addr} (hi : es[i]? = some (.ow (Adr.mk qa (Hol.mk pre suf a)))) (hij : i ≠ j) (hj : es[j]? = some (.ow (Adr.mk a x))) (ai : noAl i es) (aj : noAl j es) :
    Sw K f ((es.set i (.ow (Adr.mk qa (Dl.mk (pre ++ x :: suf))))).set j .un) σ F H := by
  obtain ⟨Ps, q⟩ := s.env
  obtain ⟨v0, ev0, e0, l, v1, v2, P1, P2, e, eP, h1, h2, hz, o1, o2⟩ := q.ok i _ hi
  obtain ⟨vj, evj, e3, ox⟩ := q.ok j _ hj
  subst e0 e3
  obtain rfl : qa = l := by injection e
  have hil := get_lt hi
  have hjl := get_lt hj
  have nd := q.nd i hil
  have ndj := q.nd j hjl
  have dj : ∀ p, p ∈ Ps i → p ∉ Ps j := fun p h1 h2 => hij (q.dj i j p hil hjl h1 h2)
  rw [eP] at nd dj
  have nd3 := List.nodup_cons.mp nd
  have nd4 := List.nodup_append.mp nd3.2
  have jl : j < σ.length := by rw [← q.len]; exact hjl
  have eσ : σ.set j (σ[j]'jl) = σ := List.set_getElem_self jl
  have z := q.two (Pi := qa :: (P1 ++ Ps j :: P2).flatten) (Pj := []) (ei := .ow (Adr.mk qa (Dl.mk (pre ++ x :: suf)))) (ej := .un) (v := σ[j]'jl) hij hil hjl ⟨_, ev0, rfl, qa, v1 ++ .ref a :: v2, P1 ++ Ps j :: P2, rfl, rfl, h1, h2, by
    show (pre ++ x :: suf).length ≤ big
    rw [List.length_append, List.length_cons]
    have hz : pre.length + 1 + suf.length ≤ big := hz
    omega, o1.app (.cons ox o2)⟩ rfl ?_ List.nodup_nil (fun p _ h => by cases h) ?_ (fun p h => by cases h) ?_ ai aj (fun _ _ _ _ z => by cases z) (fun _ _ _ _ z => by cases z)
  · rw [eσ] at z
    exact ⟨s.st, _, z⟩
  · rw [List.flatten_append, List.flatten_cons]
    refine List.nodup_cons.mpr ⟨fun h => ?_, List.nodup_append.mpr ⟨nd4.1, List.nodup_append.mpr ⟨ndj, nd4.2.1, fun p h1 q' h2 e => ?_⟩, fun p h1 q' h2 e => ?_⟩⟩
    · rcases List.mem_append.mp h with h | h
      · exact nd3.1 (List.mem_append_left _ h)
      · rcases List.mem_append.mp h with h | h
        · exact dj qa (by simp) h
        · exact nd3.1 (List.mem_append_right _ h)
    · subst e
      exact dj p (List.mem_cons_of_mem _ (List.mem_append_right _ h2)) h1
    · subst e
      rcases List.mem_append.mp h2 with h | h
      · exact dj p (List.mem_cons_of_mem _ (List.mem_append_left _ h1)) h
      · exact nd4.2.2 p h1 p h rfl
  · intro p hp
    rcases List.mem_cons.mp hp with h | h
    · exact .inl (by rw [eP, h]; simp)
    · rw [List.flatten_append, List.flatten_cons] at h
      rcases List.mem_append.mp h with h | h
      · exact .inl (by rw [eP]; exact List.mem_cons_of_mem _ (List.mem_append_left _ h))
      · rcases List.mem_append.mp h with h | h
        · exact .inr h
        · exact .inl (by rw [eP]; exact List.mem_cons_of_mem _ (List.mem_append_right _ h))
  · intro p hp
    rcases hp with hp | hp
    · rcases List.mem_cons.mp hp with h | h
      · exact q.nw i p _ _ _ hi (by rw [eP, h]; simp)
      · rw [List.flatten_append, List.flatten_cons] at h
        rcases List.mem_append.mp h with h | h
        · exact q.nw i p _ _ _ hi (by rw [eP]; exact List.mem_cons_of_mem _ (List.mem_append_left _ h))
        · rcases List.mem_append.mp h with h | h
          · exact q.nw j p _ _ _ hj h
          · exact q.nw i p _ _ _ hi (by rw [eP]; exact List.mem_cons_of_mem _ (List.mem_append_right _ h))
    · cases hp
end
section
variable {K : PySem.W.Frag} {f : Fr} {es : List En} {σ : L2.St} {F H : Hp} {α : Type} {i : Nat}
/-- the same thing, told otherwise -/
theorem Sw.re1 {e1 e2 : En} (s : Sw K f es σ F H) (hi : es[i]? = some e1) (h : ∀ P, EnOk K F H (sl σ i) P e1 → EnOk K F H (sl σ i) P e2) (ai : noAl i es)
    (hw : ∀ (α : Type) (r : Ow α) (x : α), e2 = .owI r x → ∃ (β : Type) (r : Ow β) (y : β), e1 = .owI r y) (hae : ∀ j (α : Type) (r : Ow α) (x : α), e2 ≠ .alI j r x) : Sw K f (es.set i e2) σ F H := by
  obtain ⟨Ps, q⟩ := s.env
  have hil := get_lt hi
  exact Sw.mutE s.st q hi rfl (fun _ h => h) (fun _ _ _ => rfl) (h _ (q.ok i e1 hi)) (q.nd i hil) (fun p hp => .inl hp) ai hw hae
theorem Sw.adr [r : Ow α] [OwR α] {x : α} (s : Sw K f es σ F H) (hi : es[i]? = some (.ow x)) (ai : noAl i es) : ∃ q, sl σ i = some (.ref q) ∧ Sw K f (es.set i (.ow (Adr.mk q x))) σ F H := by
  obtain ⟨Ps, p⟩ := s.env
  obtain ⟨v, ev, o⟩ := p.ok i _ hi
  obtain ⟨q, eq⟩ := OwR.ref o
  subst eq
  exact ⟨q, ev, s.re1 hi (fun P ok => by
    obtain ⟨w, ew, o⟩ := ok
    rw [ev] at ew
    cases ew
    exact ⟨_, ev, rfl, o⟩) ai (fun _ _ _ _ => ⟨_, _, _, rfl⟩) fun _ _ _ _ z => by cases z⟩
theorem Sw.unadr [r : Ow α] {x : α} {q : Addr} (s : Sw K f es σ F H) (hi : es[i]? = some (.ow (Adr.mk q x))) (ai : noAl i es) : Sw K f (es.set i (.ow x)) σ F H :=
  s.re1 hi (fun P ok => by
    obtain ⟨w, ew, e, o⟩ := ok
    subst e
    exact ⟨_, ew, o⟩) ai (fun _ _ _ _ => ⟨_, _, _, rfl⟩) fun _ _ _ _ z => by cases z
end
theorem set_of_get.{u} {α : Type u} {l : List α} {i : Nat} {x : α} (h : l[i]? = some x) : l.set i x = l := by
  obtain ⟨hl, e⟩ := List.getElem?_eq_some_iff.mp h
  subst e
  exact List.set_getElem_self hl
instance owrDl {α : Type} [Ow α] : OwR (Dl α) := ⟨fun h => let ⟨a, _, _, e, _⟩ := h; ⟨a, e⟩⟩
section
variable {X : Cx} {es es1 es2 es3 : List En} {a b c e elt tg iter : Expr} {st : Stmt} {rest body : List Stmt} {ifs : List Expr} {args : List Expr} {pos : Pos} {α β γ : Type} {i j : Nat} {scope : Scope}
theorem Sw.dlf [r : Ow α] {K : PySem.W.Frag} {f : Fr} {σ : L2.St} {F H : Hp} {l : List α} (s : Sw K f (es.set i (@En.fz (Dl α) Ow.rp (Dl.mk l))) σ F H) (hi : i < es.length) (ha : noAl i es) : Sw K f (es.set i (@En.fz (List α) (@rpCl _ (@clList α Ow.rp)) l)) σ F H := by
  have z := s.re1 (e2 := @En.fz (List α) (@rpCl _ (@clList α Ow.rp)) l) (List.getElem?_set_self hi) (fun P ok => ok) (fun k β r x hk => by
    by_cases y : k = i
    · subst y
      rw [List.getElem?_set_self hi] at hk
      cases hk
    · rw [List.getElem?_set_ne (Ne.symm y)] at hk
      exact ha k β r x hk) (fun _ _ _ z => by cases z) fun _ _ _ _ z => by cases z
  rw [List.set_set] at z
  exact z
theorem NJ.dlf [r : Ow α] {l : List α} (h : NJ X es e (Dl.mk l)) : @FJ X es e (List α) (@rpCl _ (@clList α Ow.rp)) l := ⟨(show @FJ X es e (Dl α) Ow.rp (Dl.mk l) from NJ.frz h).run⟩
theorem YJ.dlf [r : Ow α] {l : List α} (h : YJ X es e (Dl.mk l) es1) : @XJ X es e (List α) (@rpCl _ (@clList α Ow.rp)) l es1 := ⟨(show @XJ X es e (Dl α) Ow.rp (Dl.mk l) es1 from YJ.frz h).run⟩
theorem OwnAll.stp [r : Ow α] {K : PySem.W.Frag} {F H F' H' : Hp} {vs : List V} {xs : List α} {Ps : List (List Addr)} (o : OwnAll K F H vs xs Ps) (t : St0 F H F' H') : OwnAll K F' H' vs xs Ps := by
  refine o.mono t.f (fun p hp => ?_) fun p hp => by
    cases z : H p with
    | none => exact absurd z (o.out p hp).1
    | some u => exact t.nz z (fun ks e => o.nt p hp ks (by rw [z, e])) (o.out p hp).2
  cases z : H p with
  | none => exact absurd z (o.out p hp).1
  | some u => exact t.inc p u z
end
end Ly
namespace Ly
open PySem PySem.Spec PyProof.Rows L2 TL
/-! plain things, for the laws -/
section
variable {α β γ ρ : Type}
theorem pipe_eq {α β : Sort _} (x : α) (f : α → β) : pipe x f = f x := rfl
/-- what holds at each turn of a loop -/
theorem fold_inv {g : β → α → β} (I : Nat → β → Prop) : ∀ {xs : List α} {y : β} {n : Nat}, I n y → (∀ k y x, x ∈ xs → k < n + xs.length → I k y → I (k + 1) (g y x)) → I (n + xs.length) (xs.foldl g y)
  | [], y, n, h, _ => h
  | x :: xs, y, n, h, hs => by
    have z := fold_inv I (xs := xs) (y := g y x) (n := n + 1) (hs n y x List.mem_cons_self (by simp) h) (fun k y' x' hx hk => hs k y' x' (List.mem_cons_of_mem _ hx) (by rw [List.length_cons]; omega))
    rw [List.length_cons, show n + (xs.length + 1) = n + 1 + xs.length by omega]
    exact z
theorem atF_inv {g : β → α → β} (I : Nat → β → Prop) {xs : List α} {y0 y : β} {x : α} (h : AtF g xs y0 y x) (h0 : I 0 y0) (hs : ∀ k y x, x ∈ xs → k < xs.length → I k y → I (k + 1) (g y x)) : x ∈ xs ∧ ∃ k, k < xs.length ∧ xs[k]? = some x ∧ I k y := by
  obtain ⟨pre, post, e, ey⟩ := h
  subst e
  refine ⟨by simp, pre.length, by simp, by simp, ?_⟩
  have z := fold_inv I (g := g) (xs := pre) (y := y0) (n := 0) h0 fun k y x hx hk => hs k y x (by simp [hx]) (by simp at hk ⊢; omega)
  rw [ey, Nat.zero_add] at z
  exact z
theorem atF_inv0 {g : β → α → β} (I : β → Prop) {xs : List α} {y0 y : β} {x : α} (h : AtF g xs y0 y x) (h0 : I y0) (hs : ∀ y x, x ∈ xs → I y → I (g y x)) : x ∈ xs ∧ I y := by
  obtain ⟨h1, k, _, _, h2⟩ := atF_inv (fun _ y => I y) h h0 fun _ y x hx _ => hs y x hx
  exact ⟨h1, h2⟩
theorem at_inv {g : β → α → Fl β ρ} (I : Nat → β → Prop) : ∀ {pre : List α} {y0 y : β} {n : Nat}, forFl g pre y0 = .nx y → I n y0 → (∀ k y x z, x ∈ pre → I k y → g y x = .nx z → I (k + 1) z) → I (n + pre.length) y
  | [], y0, y, n, e, h, _ => by
    have e : y0 = y := by injection e
    subst e; exact h
  | x :: pre, y0, y, n, e, h, hs => by
    have e' : (match g y0 x with | .nx z => forFl g pre z | .rt r => .rt r | .bk z => .bk z) = Fl.nx y := e
    cases q : g y0 x with
    | nx w =>
      rw [q] at e'
      have z := at_inv I (pre := pre) (n := n + 1) e' (hs n y0 x w List.mem_cons_self h q) fun k y x z hx => hs k y x z (List.mem_cons_of_mem _ hx)
      rw [List.length_cons, show n + (pre.length + 1) = n + 1 + pre.length by omega]
      exact z
    | rt r => rw [q] at e'; cases e'
    | bk w => rw [q] at e'; cases e'
theorem at_at {g : β → α → Fl β ρ} (I : Nat → β → Prop) {xs : List α} {y0 y : β} {x : α} (h : At g xs y0 y x) (h0 : I 0 y0) (hs : ∀ k y x z, x ∈ xs → k < xs.length → I k y → g y x = .nx z → I (k + 1) z) : x ∈ xs ∧ ∃ k, k < xs.length ∧ xs[k]? = some x ∧ I k y := by
  obtain ⟨pre, post, e, ey⟩ := h
  subst e
  refine ⟨by simp, pre.length, by simp, by simp, ?_⟩
  have z := at_inv (fun k y => k ≤ pre.length → I k y) (n := 0) ey (fun _ => h0) fun k y x z hx hk hg hl => hs k y x z (by simp [hx]) (by simp; omega) (hk (by omega)) hg
  rw [Nat.zero_add] at z
  exact z (Nat.le_refl _)
/-- a loop whose turns all go on -/
theorem forFl_nx {g : β → α → Fl β ρ} (h : β → α → β) (I : β → Prop) : ∀ {xs : List α} {y : β}, I y → (∀ y x, x ∈ xs → I y → g y x = .nx (h y x) ∧ I (h y x)) → forFl g xs y = .nx (xs.foldl h y)
  | [], _, _, _ => rfl
  | x :: xs, y, hy, hs => by
    obtain ⟨e, hi⟩ := hs y x List.mem_cons_self hy
    show (match g y x with | .nx z => forFl g xs z | .rt r => .rt r | .bk z => .bk z) = _
    rw [e]
    exact forFl_nx h I hi fun y x hx => hs y x (List.mem_cons_of_mem _ hx)
theorem forFl_unit {g : Unit → α → Fl Unit ρ} {xs : List α} (h : ∀ x ∈ xs, g () x = .nx ()) : forFl g xs () = .nx () :=
  forFl_nx (fun _ _ => ()) (fun _ => True) trivial fun _ x hx _ => ⟨h x hx, trivial⟩
/-! places -/
theorem ixN_nat {n k : Nat} (h : k < n) : ixN n (k : Int) = some k := by
  unfold ixN
  rw [if_pos (Int.natCast_nonneg k), if_pos (by omega), Int.toNat_natCast]
theorem atI_nat {xs : List α} {k : Nat} (h : k < xs.length) : atI xs (k : Int) = some (xs[k]'h) := by
  unfold atI
  rw [ixN_nat h]
  exact List.getElem?_eq_getElem h
theorem okI_nat {xs : List α} {k : Nat} (h : k < xs.length) : okI xs (k : Int) := by
  unfold okI; rw [atI_nat h]; rfl
theorem okI_of {xs : List α} {i : Int} (h0 : 0 ≤ i) (h1 : i < xs.length) : okI xs i := by
  obtain ⟨k, rfl⟩ := Int.eq_ofNat_of_zero_le h0
  exact okI_nat (by omega)
theorem getI_nat [Inhabited α] {xs : List α} {k : Nat} (h : k < xs.length) : getI xs (k : Int) = xs[k]'h := by
  unfold getI; rw [atI_nat h]; rfl
theorem getI_mem [Inhabited α] {xs : List α} {i : Int} (h : okI xs i) : getI xs i ∈ xs := by
  have e := getI_ok h
  unfold atI at e
  cases q : ixN xs.length i with
  | none => rw [q] at e; cases e
  | some j => rw [q] at e; exact List.mem_of_getElem? e
theorem okC_of {z : Str} {i : Int} (h0 : 0 ≤ i) (h1 : i < z.length) : okC z i := by
  refine okI_of (xs := z.cps.toList) h0 ?_
  have e : z.length = z.cps.toList.length := by simp [Str.length]
  rw [← e]; exact h1
theorem chI_of {z : Str} {i : Int} (h : okC z i) : ∃ c ∈ z.cps.toList, chI z i = sgn c := by
  unfold okC at h
  unfold chI
  cases e : atI z.cps.toList i with
  | none => rw [e] at h; cases h
  | some c =>
    refine ⟨c, ?_, rfl⟩
    unfold atI at e
    cases q : ixN z.cps.toList.length i with
    | none => rw [q] at e; cases e
    | some j => rw [q] at e; exact List.mem_of_getElem? e
theorem rangeL_len (lo hi : Int) : (rangeL lo hi).length = (hi - lo).toNat := upFrom_len _ _
theorem mem_rangeL {lo hi x : Int} : x ∈ rangeL lo hi ↔ lo ≤ x ∧ x < hi := by
  unfold rangeL upFrom
  rw [List.mem_map]
  constructor
  · rintro ⟨i, hi, rfl⟩
    rw [List.mem_range] at hi
    omega
  · rintro ⟨h1, h2⟩
    exact ⟨(x - lo).toNat, by rw [List.mem_range]; omega, by omega⟩
theorem rangeL_at {lo hi : Int} {k : Nat} {x : Int} (h : (rangeL lo hi)[k]? = some x) : x = lo + k := (upFrom_at h).2
theorem cut_to {xs : List α} {k : Nat} : cutX xs none (some (k : Int)) = xs.take k := by
  unfold cutX
  rw [HT.sIx_nat]
  show (xs.drop 0).take (min k xs.length - 0) = xs.take k
  rw [List.drop_zero, Nat.sub_zero, ← List.take_eq_take_min]
theorem given_all {g : α → β} {xs : List α} : given (fun _ => true) g xs = xs.map g := by
  unfold given
  rw [List.filter_eq_self.mpr fun _ _ => rfl]
theorem all_id {xs : List Bool} : xs.all id = true ↔ ∀ b ∈ xs, b = true := by rw [List.all_eq_true]; rfl
end
/-! texts -/
theorem strlen (z : Str) : z.length = (tl z).length := len_tl z
theorem len_app (z w : Str) : (z ++ w).length = z.length + w.length := str_len z w
theorem tl_sgn (c : Nat) : tl (sgn c) = [c] := rfl
/-- parts that the separator does not begin in, whatever follows -/
def frees (S p : List Nat) : Prop := ∀ rest i, i < p.length → pre S ((p ++ rest).drop i) = false
/-- each sign s of p is followed, in p, by another sign than t -/
def follows (s t : Nat) (p : List Nat) : Prop := ∀ i : Nat, p[i]? = some s → ∃ d, p[i + 1]? = some d ∧ d ≠ t
/-! the drawing of numbers -/
/-- what is taken of a purse -/
def takeV (p : Pu) (n : Int) : Int × Pu := bif decide (p.a > 0) then (p.a % n, Pu.mk (p.a / n) p.b) else
  let b := (p.b * 39373 + 7919) % 2147483629
  (b * b % 2147483563 / 11 % n, Pu.mk p.a b)
theorem takeV_lt (p : Pu) {n : Int} (h : 0 < n) : 0 ≤ (takeV p n).1 ∧ (takeV p n).1 < n := by
  unfold takeV
  cases decide (p.a > 0) with
  | true => exact ⟨Int.emod_nonneg _ (by omega), Int.emod_lt_of_pos _ h⟩
  | false => exact ⟨Int.emod_nonneg _ (by omega), Int.emod_lt_of_pos _ h⟩
theorem mul_small {x : Int} (h0 : 0 ≤ x) (h1 : x < 2 ^ 64) : CMul x x := .inl ⟨by omega, h1⟩
theorem mod_small (x : Int) {n : Int} (h : 0 < n) (h2 : n ≤ 2 ^ 64) : CMul (x % n) (x % n) := mul_small (Int.emod_nonneg _ (by omega)) (Int.lt_of_lt_of_le (Int.emod_lt_of_pos _ h) h2)
theorem divW_of {x n : Int} (h : 0 < n) (h2 : n < 2 ^ 250) : CDivW x n := by
  refine ⟨h, ?_⟩
  have h3 : n.natAbs < 2 ^ 250 := by omega
  have h4 : n.natAbs ≠ 0 := by omega
  have h5 := (Nat.log2_lt h4).mpr h3
  omega
end Ly
namespace Ly
open PySem PySem.Spec PyProof.Rows L2 TL
/-! a thing locked while it is walked -/
def Fr.lk (f : Fr) (d : Addr) (od : Obj) (u : HO) (F : Hp) : Fr := ⟨fun a => f.io a ∧ a ≠ d, F, fun a => if a = d then some (.frz od u) else f.H a⟩
section
variable {K : PySem.W.Frag} {f : Fr} {es es' : List En} {σ σ' : L2.St} {F F' H H' : Hp} {d : Addr} {od : Obj} {u : HO} {Ps : Nat → List Addr}
theorem lkH_same : (f.lk d od u F).H d = some (.frz od u) := if_pos rfl
theorem lkH_ne {a : Addr} (h : a ≠ d) : (f.lk d od u F).H a = f.H a := if_neg h
theorem nroot {F H F' H' : Hp} (e : Sub F H) (i : Inc F F') (e2 : Sub F' H') {a : Addr} {ks : List L2.Key} (z : H a = some (sk ks)) (h : F a ≠ none) : H' a = some (sk ks) := by
  cases q : F a with
  | none => exact absurd q h
  | some u =>
    have e3 : u = sk ks := by
      rcases e a u q with w | ⟨_, ob, w⟩
      · rw [z] at w; exact (Option.some.inj w).symm
      · rw [z] at w; cases w
    subst e3
    exact (e2 a _ (i a _ q)).nd fun d => d
theorem Stp.lock (s : Stp f F H) (hd : dictO u) (hF : F d = some u) : Stp (f.lk d od u F) F (upd H d (.frz od u)) where
  f := Inc.refl _
  h a o hio e := by
    by_cases z : a = d
    · subst z
      rw [lkH_same] at e
      rw [upd_same]; exact e
    · rw [lkH_ne z] at e
      rw [upd_ne z]
      exact s.h a o (fun k => hio ⟨k, z⟩) e
  t a e := by
    by_cases z : a = d
    · subst z; exact nn upd_same
    · rw [lkH_ne z] at e
      rw [upd_ne z]; exact s.t a e
  e a o e := by
    by_cases z : a = d
    · subst z
      rw [hF] at e
      cases e
      exact .inr ⟨hd, od, upd_same⟩
    · rcases s.e a o e with r | ⟨k, ob, r⟩
      · exact .inl (by rw [upd_ne z]; exact r)
      · exact .inr ⟨k, ob, by rw [upd_ne z]; exact r⟩
  n _ _ h := .inl h
  k a ks e := by
    by_cases z : a = d
    · subst z; rw [lkH_same] at e; cases e
    · rw [lkH_ne z] at e
      rw [upd_ne z]; exact s.k a ks e
/-- it is locked already -/
theorem Stp.lock' (s : Stp f F H) (hF : F d = some u) (hH : H d = some (.frz od u)) : Stp (f.lk d od u F) F H where
  f := Inc.refl _
  h a o hio e := by
    by_cases z : a = d
    · subst z
      rw [lkH_same] at e
      rw [hH]; exact e
    · rw [lkH_ne z] at e
      exact s.h a o (fun k => hio ⟨k, z⟩) e
  t a e := by
    by_cases z : a = d
    · subst z; exact nn hH
    · rw [lkH_ne z] at e; exact s.t a e
  e := s.e
  n _ _ h := .inl h
  k a ks e := by
    by_cases z : a = d
    · subst z; rw [lkH_same] at e; cases e
    · rw [lkH_ne z] at e
      exact s.k a ks e
theorem EnvP.lkfr (q : EnvP K f es σ F H Ps) (hF : F d ≠ none) : EnvP K (f.lk d od u F) es σ F H Ps := by
  have ne : ∀ (i : Nat) p, i < es.length → p ∈ Ps i → p ≠ d := fun i p hi hp z => hF (z ▸ (q.out hi p hp).2)
  refine ⟨q.len, q.ok, q.nd, q.dj, fun i p hi hp => ?_, fun i p α r x hi hp => ?_, q.al⟩
  · have z := ne i p hi hp
    rcases q.fr i p hi hp with w | w
    · exact .inl (by rw [lkH_ne z]; exact w)
    · exact .inr ⟨w, z⟩
  · rw [lkH_ne (ne i p (get_lt hi) hp)]; exact q.nw i p α r x hi hp
/-- the heap changes where nothing is own -/
theorem EnvP.off (q : EnvP K f es σ F H Ps) (hF : F d ≠ none) (h : ∀ a, a ≠ d → H' a = H a) : EnvP K f es σ F H' Ps := by
  have ne : ∀ (i : Nat) p, i < es.length → p ∈ Ps i → p ≠ d := fun i p hi hp z => hF (z ▸ (q.out hi p hp).2)
  refine ⟨q.len, fun i e hi => ?_, q.nd, q.dj, q.fr, q.nw, fun i j α r x hi => ?_⟩
  · exact (q.ok i e hi).but (Inc.refl _) (fun p hp => h p (ne i p (get_lt hi) hp)) fun p hp => ((q.ok i e hi).out p hp).2
  · obtain ⟨hj, v, Q, ev, hQ, o⟩ := q.al i j α r x hi
    exact ⟨hj, v, Q, ev, hQ, Ow.mono (Inc.refl _) (fun p hp => h p (ne j p hj (hQ p hp))) (fun p hp => (q.out hj p (hQ p hp)).2) o⟩
theorem Sw.lock (s : Sw K f es σ F H) (hd : dictO u) (hF : F d = some u) : Sw K (f.lk d od u F) es σ F (upd H d (.frz od u)) :=
  let ⟨Ps, q⟩ := s.env
  ⟨s.st.lock hd hF, Ps, (q.off (nn hF) fun a z => upd_ne z).lkfr (nn hF)⟩
theorem Sw.lock' (s : Sw K f es σ F H) (hF : F d = some u) (hH : H d = some (.frz od u)) : Sw K (f.lk d od u F) es σ F H :=
  let ⟨Ps, q⟩ := s.env
  ⟨s.st.lock' hF hH, Ps, q.lkfr (nn hF)⟩
theorem Stp.locked (t : Stp (f.lk d od u F) F' H') : H' d = some (.frz od u) := t.h d _ (fun z => z.2 rfl) lkH_same
theorem Stp.unlock (s : Stp f F H) (hF : F d = some u) (hH : H d = some u) (t : Stp (f.lk d od u F) F' H') : Stp f F' (upd H' d u) where
  f := s.f.trans t.f
  h a o hio e := by
    by_cases z : a = d
    · subst z
      have e2 := s.h a o hio e
      rw [hH] at e2
      rw [upd_same]; exact e2
    · rw [upd_ne z]
      exact t.h a o (fun k => hio k.1) (by rw [lkH_ne z]; exact e)
  t a e := by
    by_cases z : a = d
    · subst z; exact nn upd_same
    · rw [upd_ne z]; exact t.t a (by rw [lkH_ne z]; exact e)
  e a o e := by
    by_cases z : a = d
    · subst z
      have e2 := t.f a u hF
      rw [e] at e2
      exact .inl (by rw [upd_same]; exact e2.symm)
    · rcases t.e a o e with r | ⟨k, ob, r⟩
      · exact .inl (by rw [upd_ne z]; exact r)
      · exact .inr ⟨k, ob, by rw [upd_ne z]; exact r⟩
  n a h1 h2 := by
    by_cases z : a = d
    · subst z
      rcases s.n a h1 h2 with h3 | ⟨ks, h3⟩
      · rw [hF] at h3; cases h3
      · rw [hH] at h3
        exact .inr ⟨ks, by rw [upd_same]; exact h3⟩
    · rw [upd_ne z]
      have tn := t.n a (by rw [lkH_ne z]; exact h1)
      rcases s.n a h1 h2 with h3 | ⟨ks, h3⟩
      · exact tn h3
      · cases q : F a with
        | none => exact tn q
        | some v => exact .inr ⟨ks, nroot s.e t.f t.e h3 (nn q)⟩
  k a ks e := by
    by_cases z : a = d
    · subst z
      have e2 := s.k a ks e
      rw [hH] at e2
      rw [upd_same]; exact e2
    · rw [upd_ne z]; exact t.k a ks (by rw [lkH_ne z]; exact e)
theorem Stp.unlock' (s : Stp f F H) (hF : F d = some u) (hH : H d = some (.frz od u)) (t : Stp (f.lk d od u F) F' H') : Stp f F' H' where
  f := s.f.trans t.f
  h a o hio e := by
    by_cases z : a = d
    · subst z
      have e2 := s.h a o hio e
      rw [hH] at e2
      rw [t.locked]; exact e2
    · exact t.h a o (fun k => hio k.1) (by rw [lkH_ne z]; exact e)
  t a e := by
    by_cases z : a = d
    · subst z; exact nn t.locked
    · exact t.t a (by rw [lkH_ne z]; exact e)
  e := t.e
  n a h1 h2 := by
    by_cases z : a = d
    · subst z
      rcases s.n a h1 h2 with h3 | ⟨ks, h3⟩
      · rw [hF] at h3; cases h3
      · rw [hH] at h3; cases h3
    · have tn := t.n a (by rw [lkH_ne z]; exact h1)
      rcases s.n a h1 h2 with h3 | ⟨ks, h3⟩
      · exact tn h3
      · cases q : F a with
        | none => exact tn q
        | some v => exact .inr ⟨ks, nroot s.e t.f t.e h3 (nn q)⟩
  k a ks e := by
    by_cases z : a = d
    · subst z
      have e2 := s.k a ks e
      rw [hH] at e2; cases e2
    · exact t.k a ks (by rw [lkH_ne z]; exact e)
theorem EnvP.unfr (q : EnvP K (f.lk d od u F) es σ F' H' Ps) : EnvP K f es σ F' H' Ps := by
  refine ⟨q.len, q.ok, q.nd, q.dj, fun i p hi hp => ?_, fun i p α r x hi hp => ?_, q.al⟩
  · rcases q.fr i p hi hp with w | w
    · have z : p ≠ d := fun z => by subst z; rw [lkH_same] at w; cases w
      exact .inl (by rw [lkH_ne z] at w; exact w)
    · exact .inr w.1
  · have w := q.nw i p α r x hi hp
    have z : p ≠ d := fun z => by subst z; rw [lkH_same] at w; cases w
    rw [lkH_ne z] at w; exact w
theorem Sw.unlock (s : Stp f F H) (hF : F d = some u) (hH : H d = some u) (t : Sw K (f.lk d od u F) es' σ' F' H') : Sw K f es' σ' F' (upd H' d u) :=
  let ⟨Ps, q⟩ := t.env
  ⟨s.unlock hF hH t.st, Ps, (q.off (nn (t.st.f d u hF)) fun a z => upd_ne z).unfr⟩
theorem Sw.unlock' (s : Stp f F H) (hF : F d = some u) (hH : H d = some (.frz od u)) (t : Sw K (f.lk d od u F) es' σ' F' H') : Sw K f es' σ' F' H' :=
  let ⟨Ps, q⟩ := t.env
  ⟨s.unlock' hF hH t.st, Ps, q.unfr⟩
theorem own_off {α : Type} [Ow α] {v : V} {x : α} {P : List Addr} (o : Ow.own K F' H' v x P) (hF : F' d ≠ none) : Ow.own K F' (upd H' d u) v x P :=
  Ow.mono (Inc.refl _) (fun p hp => upd_ne fun z => hF (z ▸ (Ow.out o p hp).2)) (fun p hp => (Ow.out o p hp).2) o
theorem lk_free {p : Addr} (h : (f.lk d od u F).H p = none) : f.H p = none := by
  have z : p ≠ d := fun z => by subst z; rw [lkH_same] at h; cases h
  rw [lkH_ne z] at h; exact h
theorem lk_fr {p : Addr} (h : (f.lk d od u F).free p) : f.free p := by
  rcases h with w | w
  · exact .inl (lk_free w)
  · exact .inr w.1
/-- the ends behind the lock -/
def lkD (d : Addr) (od : Obj) (u : HO) (D : Ends) : Ends := ⟨fun σ' H' => H' d = some (.frz od u) ∧ D.nx σ' (upd H' d u), fun v H' => H' d = some (.frz od u) ∧ D.rt v (upd H' d u), fun σ' H' => H' d = some (.frz od u) ∧ D.bk σ' (upd H' d u), fun σ' H' => H' d = some (.frz od u) ∧ D.ct σ' (upd H' d u)⟩
theorem RetK.lock {R : VK} (s : Stp f F H) (hF : F d = some u) (hH : H d = some u) {e : En} (h : RetK K f R e) : RetK K (f.lk d od u F) (fun v H' => H' d = some (.frz od u) ∧ R v (upd H' d u)) e := by
  cases e with
  | fzI _ x => exact fun v F' H' st r => ⟨st.locked, h v F' _ (s.unlock hF hH st) r⟩
  | owI _ x => exact fun v F' H' P st r hn hp => ⟨st.locked, h v F' _ P (s.unlock hF hH st) (own_off r (nn (st.f d u hF))) hn fun p hp' => lk_free (hp p hp')⟩
  | un => exact h
  | atI _ _ _ => exact h
  | alI _ _ _ => exact h
theorem RetU.lock {R : VK} (s : Stp f F H) (hF : F d = some u) (hH : H d = some u) {a : Addr} {α : Type} {r : Ow α} {p : α} {e : En} (h : RetU K f R a r p e) : RetU K (f.lk d od u F) (fun v H' => H' d = some (.frz od u) ∧ R v (upd H' d u)) a r p e := by
  cases e with
  | fzI _ x => exact fun v F' H' P st o hn hf r => ⟨st.locked, h v F' _ P (s.unlock hF hH st) (own_off o (nn (st.f d u hF))) hn (fun q hq => lk_fr (hf q hq)) r⟩
  | owI _ x => exact fun v F' H' P P' st o hn hf r a b c => ⟨st.locked, h v F' _ P P' (s.unlock hF hH st) (own_off o (nn (st.f d u hF))) hn (fun q hq => lk_fr (hf q hq)) (own_off r (nn (st.f d u hF))) a (fun q hq => lk_free (b q hq)) c⟩
  | un => exact h
  | atI _ _ _ => exact h
  | alI _ _ _ => exact h
theorem OutK.lock {D : Ends} {out : Out} (s : Stp f F H) (hF : F d = some u) (hH : H d = some u) (h : OutK K f D out) : OutK K (f.lk d od u F) (lkD d od u D) out := by
  cases out with
  | nx es => exact fun σ F' H' t => ⟨t.st.locked, h σ F' _ (Sw.unlock s hF hH t)⟩
  | bk es => exact fun σ F' H' t => ⟨t.st.locked, h σ F' _ (Sw.unlock s hF hH t)⟩
  | en => exact fun σ F' H' t => ⟨t.locked, h σ F' _ (s.unlock hF hH t)⟩
  | rt e => exact RetK.lock s hF hH h
  | eu a r p => exact fun σ F' H' P t o hn hf => ⟨t.locked, h σ F' _ P (s.unlock hF hH t) (own_off o (nn (t.f d u hF))) hn fun q hq => lk_fr (hf q hq)⟩
  | ru a r p e => exact RetU.lock s hF hH h
theorem RetK.lock' {R : VK} (s : Stp f F H) (hF : F d = some u) (hH : H d = some (.frz od u)) {e : En} (h : RetK K f R e) : RetK K (f.lk d od u F) R e := by
  cases e with
  | fzI _ x => exact fun v F' H' st r => h v F' _ (s.unlock' hF hH st) r
  | owI _ x => exact fun v F' H' P st r hn hp => h v F' _ P (s.unlock' hF hH st) r hn fun p hp' => lk_free (hp p hp')
  | un => exact h
  | atI _ _ _ => exact h
  | alI _ _ _ => exact h
theorem RetU.lock' {R : VK} (s : Stp f F H) (hF : F d = some u) (hH : H d = some (.frz od u)) {a : Addr} {α : Type} {r : Ow α} {p : α} {e : En} (h : RetU K f R a r p e) : RetU K (f.lk d od u F) R a r p e := by
  cases e with
  | fzI _ x => exact fun v F' H' P st o hn hf r => h v F' _ P (s.unlock' hF hH st) o hn (fun q hq => lk_fr (hf q hq)) r
  | owI _ x => exact fun v F' H' P P' st o hn hf r a b c => h v F' _ P P' (s.unlock' hF hH st) o hn (fun q hq => lk_fr (hf q hq)) r a (fun q hq => lk_free (b q hq)) c
  | un => exact h
  | atI _ _ _ => exact h
  | alI _ _ _ => exact h
theorem OutK.lock' {D : Ends} {out : Out} (s : Stp f F H) (hF : F d = some u) (hH : H d = some (.frz od u)) (h : OutK K f D out) : OutK K (f.lk d od u F) D out := by
  cases out with
  | nx es => exact fun σ F' H' t => h σ F' _ (Sw.unlock' s hF hH t)
  | bk es => exact fun σ F' H' t => h σ F' _ (Sw.unlock' s hF hH t)
  | en => exact fun σ F' H' t => h σ F' _ (s.unlock' hF hH t)
  | rt e => exact RetK.lock' s hF hH h
  | eu a r p => exact fun σ F' H' P t o hn hf => h σ F' _ P (s.unlock' hF hH t) o hn fun q hq => lk_fr (hf q hq)
  | ru a r p e => exact RetU.lock' s hF hH h
/-- the same thing, locked for one expression -/
theorem St0.unlock (hF : F d = some u) (hH : H d = some u) (t : St0 F (upd H d (.frz od u)) F' H') : H' d = some (.frz od u) ∧ St0 F H F' (upd H' d u) := by
  have ne : ∀ {a : Addr} {o : HO}, a ≠ d → H a = some o → H' a = some o := fun {a o} z e => t.inc a o (by rw [upd_ne z]; exact e)
  refine ⟨t.inc d _ upd_same, t.f, fun a o _ e => ?_, fun a e => ?_, fun a o e => ?_, fun a h1 h2 => ?_, fun a ks e => ?_⟩
  · have e : H a = some o := e
    by_cases z : a = d
    · subst z; rw [hH] at e; rw [upd_same]; exact e
    · rw [upd_ne z]; exact ne z e
  · have e : H a ≠ none := e
    by_cases z : a = d
    · subst z; exact nn upd_same
    · rw [upd_ne z]
      cases q : H a with
      | none => exact absurd q e
      | some o => exact nn (ne z q)
  · by_cases z : a = d
    · subst z
      have e2 := t.f a u hF
      rw [e] at e2
      exact .inl (by rw [upd_same]; exact e2.symm)
    · rcases t.e a o e with r | ⟨k, ob, r⟩
      · exact .inl (by rw [upd_ne z]; exact r)
      · exact .inr ⟨k, ob, by rw [upd_ne z]; exact r⟩
  · have z : a ≠ d := fun z => by
      have h2 : F a = none := h2
      rw [z, hF] at h2; cases h2
    rw [upd_ne z]
    refine t.n a ?_ h2
    show upd H d (.frz od u) a ≠ none
    rw [upd_ne z]; exact h1
  · have e : H a = some (sk ks) := e
    by_cases z : a = d
    · subst z; rw [hH] at e; rw [upd_same]; exact e
    · rw [upd_ne z]; exact ne z e
end
/-! either locked or as it is -/
def tOrS (t : TS) : TS := fun D σ H => t D σ H ∨ tLock t D σ H
def tOrE (t : TE) : TE := fun σ H Q => t σ H Q ∨ tLockE t σ H Q
theorem ps_or {X : Cx} {st : Stmt} {t : TS} (h : PS X st t) : PS X st (tOrS t) := ⟨fun pins s σ H D I q => q.elim (fun k => h.run pins s σ H D I k) fun k => (ps_lock h).run pins s σ H D I k⟩
theorem pe_or {X : Cx} {e : Expr} {t : TE} (h : PE X e t) : PE X e (tOrE t) := ⟨fun pins s σ H Q I q => q.elim (fun k => h.run pins s σ H Q I k) fun k => (pe_lock h).run pins s σ H Q I k⟩
theorem dict_mut {u : HO} (h : dictO u) : Mut (some u) := by
  cases u <;> first | exact True.intro | exact h.elim
section
variable {X : Cx} {es es1 es2 : List En} {st : Stmt} {out : Out}
/-- a statement whose dict (frozen) is locked while it runs -/
theorem s_lock {t : TS} (hst : PS X st t) (hd : ∀ (f : Fr) (σ : L2.St) (F H : Hp), Sw X.K f es σ F H → ∃ d u, F d = some u ∧ dictO u ∧
    ∀ (f1 : Fr) (H1 : Hp) (od : Obj) (D : Ends), Sw X.K f1 es σ F H1 → f1.H d = some (.frz od u) → ¬ f1.io d → OutK X.K f1 D out → t D σ H1) : S1 X es st out := .mk fun f σ F H D S q =>
  psR (ps_or hst) (by
    obtain ⟨d, u, hF, du, go⟩ := hd f σ F H S
    rcases S.sub d u hF with hH | ⟨_, od, hH⟩
    · refine .inr ⟨d, u, hH, dict_mut du, fun od => ?_⟩
      exact go _ _ od _ (S.lock du hF) lkH_same (fun z => z.2 rfl) (OutK.lock S.st hF hH q)
    · refine .inl ?_
      exact go _ _ od _ (S.lock' hF hH) lkH_same (fun z => z.2 rfl) (OutK.lock' S.st hF hH q))
/-- a reading likewise, of a new object -/
theorem rd_lock {α : Type} [Ow α] {x : α} {t : TE} (hd : ∀ (f : Fr) (σ : L2.St) (F H : Hp), Sw X.K f es σ F H → ∃ d u, F d = some u ∧ dictO u ∧
    ∀ (f1 : Fr) (H1 : Hp) (od : Obj) (Q : VK), Sw X.K f1 es σ F H1 → H1 d = some (.frz od u) → (∀ v F' H' P, St0 F H1 F' H' → Ow.own X.K F' H' v x P → P.Nodup → (∀ p ∈ P, H1 p = none) → Q v H') → t σ H1 Q) : NRd X.K es (tOrE t) x := .mk fun f σ F H S Q q => by
  obtain ⟨d, u, hF, du, go⟩ := hd f σ F H S
  rcases S.sub d u hF with hH | ⟨_, od, hH⟩
  · refine .inr ⟨d, u, hH, dict_mut du, fun od => ?_⟩
    refine go _ _ od _ (S.lock du hF) upd_same fun v F' H' P t1 o hn hp => ?_
    obtain ⟨l, t2⟩ := St0.unlock hF hH t1
    refine ⟨l, q v F' _ P t2 (own_off o (nn (t1.f d u hF))) hn fun p hp' => ?_⟩
    have z := hp p hp'
    have ne : p ≠ d := fun e => by rw [e, upd_same] at z; cases z
    rw [upd_ne ne] at z; exact z
  · exact .inl (go _ _ od _ (S.lock' hF hH) hH q)
end
end Ly
namespace Ly
open PySem PySem.Spec PyProof.Rows L2 TL
/-! dicts -/
class Ky (κ : Type) [Sc κ] where
  key : κ → Key
  kv : ∀ k, kV (key k) = Sc.toV k
  inj : ∀ k l, key k = key l → k = l
instance : Ky Int := ⟨.inl, fun _ => rfl, fun _ _ h => by injection h⟩
instance : Ky Str := ⟨.inr, fun _ => rfl, fun _ _ h => by injection h⟩
structure Dct (κ α : Type) where
  l : List (κ × α)
section
variable {κ α : Type} [DecidableEq κ]
def look (l : List (κ × α)) (k : κ) : Option α := (l.find? fun p => decide (p.1 = k)).map (·.2)
def hasD (d : Dct κ α) (k : κ) : Bool := (look d.l k).isSome
def getD [Inhabited α] (d : Dct κ α) (k : κ) : α := (look d.l k).getD default
def getOr (d : Dct κ α) (k : κ) (x : α) : α := (look d.l k).getD x
def putL (l : List (κ × α)) (k : κ) (x : α) : List (κ × α) := if (look l k).isSome = true then l.map (fun p => if p.1 = k then (p.1, x) else p) else l ++ [(k, x)]
def putD (d : Dct κ α) (k : κ) (x : α) : Dct κ α := ⟨putL d.l k x⟩
def delD (d : Dct κ α) (k : κ) : Dct κ α := ⟨d.l.filter fun p => decide (p.1 ≠ k)⟩
def keysD (d : Dct κ α) : List κ := d.l.map (·.1)
def valsD (d : Dct κ α) : List α := d.l.map (·.2)
theorem look_cons (p : κ × α) (l : List (κ × α)) (k : κ) : look (p :: l) k = if p.1 = k then some p.2 else look l k := by
  unfold look
  rw [List.find?_cons]
  by_cases h : p.1 = k
  · rw [decide_eq_true h, if_pos h]; rfl
  · rw [decide_eq_false h, if_neg h]
theorem look_none {l : List (κ × α)} {k : κ} : look l k = none ↔ ∀ p ∈ l, p.1 ≠ k := by
  unfold look
  rw [Option.map_eq_none_iff, List.find?_eq_none]
  constructor
  · intro h p hp e
    exact h p hp (decide_eq_true e)
  · intro h p hp e
    exact h p hp (of_decide_eq_true e)
theorem look_mem {l : List (κ × α)} {k : κ} {x : α} (h : look l k = some x) : (k, x) ∈ l := by
  induction l with
  | nil => cases h
  | cons p l ih =>
    rw [look_cons] at h
    by_cases e : p.1 = k
    · rw [if_pos e] at h
      cases h
      rw [← e]; exact List.mem_cons_self
    · rw [if_neg e] at h
      exact List.mem_cons_of_mem _ (ih h)
theorem look_of_mem {l : List (κ × α)} {k : κ} {x : α} (nd : (l.map (·.1)).Nodup) (h : (k, x) ∈ l) : look l k = some x := by
  induction l with
  | nil => cases h
  | cons p l ih =>
    rw [List.map_cons, List.nodup_cons] at nd
    rw [look_cons]
    rcases List.mem_cons.mp h with e | e
    · rw [← e, if_pos rfl]
    · have ne : p.1 ≠ k := fun z => nd.1 (by rw [z]; exact List.mem_map.mpr ⟨_, e, rfl⟩)
      rw [if_neg ne]; exact ih nd.2 e
theorem putL_keys {l : List (κ × α)} {k : κ} {x : α} (h : (l.map (·.1)).Nodup) : ((putL l k x).map (·.1)).Nodup := by
  unfold putL
  by_cases c : (look l k).isSome = true
  · rw [if_pos c, List.map_map]
    have e : ((fun p : κ × α => p.1) ∘ fun p : κ × α => if p.1 = k then (p.1, x) else p) = fun p => p.1 := by
      funext p
      show (if p.1 = k then (p.1, x) else p).1 = p.1
      split <;> rfl
    rw [e]; exact h
  · rw [if_neg c, List.map_append]
    refine List.nodup_append.mpr ⟨h, by simp, fun a ha b hb e => ?_⟩
    have hb' : b = k := by simpa using hb
    obtain ⟨p, hp, rfl⟩ := List.mem_map.mp ha
    have z : look l k = none := by
      cases q : look l k with
      | none => rfl
      | some y => rw [q] at c; exact absurd rfl c
    exact look_none.mp z p hp (e.trans hb')
theorem putL_len (l : List (κ × α)) (k : κ) (x : α) : (putL l k x).length ≤ l.length + 1 := by
  unfold putL
  split
  · rw [List.length_map]; omega
  · rw [List.length_append]; exact Nat.le_refl _
theorem look_putL {l : List (κ × α)} {k j : κ} {x : α} : look (putL l k x) j = if j = k then some x else look l j := by
  unfold putL
  by_cases c : (look l k).isSome = true
  · rw [if_pos c]
    have key : ∀ m : List (κ × α), look (m.map fun p => if p.1 = k then (p.1, x) else p) j = (if j = k then (look m k).map (fun _ => x) else look m j) := by
      intro m
      induction m with
      | nil => unfold look; split <;> rfl
      | cons p m ih =>
        rw [List.map_cons, look_cons, look_cons, look_cons, ih]
        by_cases h1 : p.1 = k
        · rw [if_pos h1]
          by_cases h2 : j = k
          · rw [if_pos h2, if_pos (show (p.1, x).1 = j from h1.trans h2.symm), if_pos h1, if_pos h2]; rfl
          · rw [if_neg h2, if_neg (show ¬ (p.1, x).1 = j from fun z => h2 (z.symm.trans h1)), if_neg h2, if_neg (fun z => h2 (z.symm.trans h1))]
        · rw [if_neg h1, if_neg h1]
          by_cases h2 : j = k
          · rw [if_pos h2, if_neg (fun z => h1 (z.trans h2)), if_pos h2]
          · rw [if_neg h2, if_neg h2]
    rw [key l]
    by_cases h2 : j = k
    · rw [if_pos h2, if_pos h2]
      cases q : look l k with
      | none => rw [q] at c; cases c
      | some y => rfl
    · rw [if_neg h2, if_neg h2]
  · rw [if_neg c]
    have z : look l k = none := by
      cases q : look l k with
      | none => rfl
      | some y => rw [q] at c; exact absurd rfl c
    have key : ∀ m : List (κ × α), look m k = none → look (m ++ [(k, x)]) j = if j = k then some x else look m j := by
      intro m
      induction m with
      | nil =>
        intro _
        rw [List.nil_append, look_cons]
        by_cases h2 : j = k
        · rw [if_pos h2, if_pos (show (k, x).1 = j from h2.symm)]
        · rw [if_neg h2, if_neg (show ¬ (k, x).1 = j from fun e => h2 e.symm)]
      | cons p m ih =>
        intro hz
        rw [look_cons] at hz
        by_cases h1 : p.1 = k
        · rw [if_pos h1] at hz; cases hz
        · rw [if_neg h1] at hz
          rw [List.cons_append, look_cons, look_cons, ih hz]
          by_cases h2 : j = k
          · rw [if_pos h2, if_neg (fun e => h1 (e.trans h2)), if_pos h2]
          · rw [if_neg h2, if_neg h2]
    exact key l z
end
/-- an entry -/
def DR {κ α : Type} [Sc κ] [Ky κ] [Rp α] (K : PySem.W.Frag) (H : Hp) (p : Key × V) (q : κ × α) : Prop := p.1 = Ky.key q.1 ∧ Sc.ok q.1 ∧ Rp.rep K H p.2 q.2
instance clDct {κ α : Type} [Sc κ] [Ky κ] [Rp α] : Cl (Dct κ α) where
  cell K H o d := d.l.length ≤ big ∧ (d.l.map (·.1)).Nodup ∧ ∃ ks : List (Key × V), o = .dK ks ∧ Paired (DR K H) ks d.l
  mono {K H H' o d} i h := by
    obtain ⟨h1, h2, ks, e, r⟩ := h
    exact ⟨h1, h2, ks, e, Paired.mapP r fun _ _ z => ⟨z.1, z.2.1, Rp.mono i z.2.2⟩⟩
instance clmDct {κ α : Type} [Sc κ] [Ky κ] [Rp α] : Clm (Dct κ α) := ⟨fun h ks e => by
  obtain ⟨_, _, kvs, e2, _⟩ := h
  rw [e2] at e; cases e⟩
section
variable {κ α : Type} [Sc κ] [Ky κ] [Rp α] [DecidableEq κ] {K : PySem.W.Frag} {H F : Hp}
theorem dr_look {ks : List (Key × V)} {l : List (κ × α)} (r : Paired (DR K F) ks l) (k : κ) : (∃ v x, valV ks (Ky.key k) = some v ∧ look l k = some x ∧ Rp.rep K F v x) ∨ (valV ks (Ky.key k) = none ∧ look l k = none) := by
  induction r with
  | nil => exact .inr ⟨rfl, rfl⟩
  | @cons p q ps qs h t ih =>
    rw [look_cons]
    by_cases e : q.1 = k
    · rw [if_pos e, valV_pos (show p.1 = Ky.key k by rw [h.1, e])]
      exact .inl ⟨p.2, q.2, rfl, rfl, h.2.2⟩
    · rw [if_neg e, valV_neg (show ¬ p.1 = Ky.key k from fun z => e (Ky.inj _ _ (h.1.symm.trans z)))]
      exact ih
theorem dr_put {ks : List (Key × V)} {l : List (κ × α)} (r : Paired (DR K F) ks l) {k : κ} {v : V} {x : α} (hk : Sc.ok k) (hv : Rp.rep K F v x) : Paired (DR K F) (putK ks (Ky.key k) v) (putL l k x) := by
  unfold putK putL
  rw [valV_any]
  have e : (valV ks (Ky.key k)).isSome = (look l k).isSome := by
    rcases dr_look r k with ⟨v', x', h1, h2, _⟩ | ⟨h1, h2⟩
    · rw [h1, h2]; rfl
    · rw [h1, h2]; rfl
  rw [e]
  by_cases c : (look l k).isSome = true
  · rw [if_pos c, if_pos c]
    clear e c
    induction r with
    | nil => exact .nil
    | @cons p q ps qs h t ih =>
      rw [List.map_cons, List.map_cons]
      refine .cons ?_ ih
      by_cases e : q.1 = k
      · rw [if_pos e, if_pos (show p.1 = Ky.key k by rw [h.1, e])]
        exact ⟨h.1, h.2.1, hv⟩
      · rw [if_neg e, if_neg (show ¬ p.1 = Ky.key k from fun z => e (Ky.inj _ _ (h.1.symm.trans z)))]
        exact h
  · rw [if_neg c, if_neg c]
    exact pairedApp r (.cons ⟨rfl, hk, hv⟩ .nil)
theorem repD {d : Dct κ α} {v : V} (sb : Sub F H) (r : Rp.rep K F v d) : ∃ a ks, v = .ref a ∧ F a = some (.dK ks) ∧ Rd H a (.dK ks) ∧ d.l.length ≤ big ∧ (d.l.map (·.1)).Nodup ∧ Paired (DR K F) ks d.l := by
  obtain ⟨a, o, e, h1, h2, h3, ks, e2, r⟩ := r
  subst e2
  refine ⟨a, ks, e, h1, ?_, h2, h3, r⟩
  rcases sb a _ h1 with q | ⟨_, ob, q⟩
  · exact .inl q
  · exact .inr ⟨ob, q⟩
end
theorem un1 {n : Nat} (h : n + 64 < cLine) : n + 1 < cLine := Nat.lt_of_le_of_lt (Nat.add_le_add_left (by decide) n) h
section
variable {X : Cx} {es es1 es2 es3 : List En} {a b c e elt tg iter : Expr} {ifs : List Expr} {args : List Expr} {pos : Pos} {κ α β γ : Type} [Sc κ] [Ky κ] [DecidableEq κ] [Rp α] {i : Nat} {st : Stmt} {d : Dct κ α} {k : κ}
theorem f_dget [Inhabited α] (hu : X.A.units + 64 < cLine) (hk : hasD d k = true) (ha : FJ X es a d) (hb : RJ X es b k) (hs : NoSl b := by exact fun _ _ => rfl) : FJ X es (.Subscript a b pos) (getD d k) := .mk fun f σ F H S Q q =>
  peR (pe_dget (un1 hu) peW peW hs) (ha f σ F H S _ fun v F1 H1 t1 r1 => hb f σ F1 H1 (S.step t1) _ fun w F2 H2 t2 r2 => by
    obtain ⟨p, ks, e, hF, hR, _, _, rr⟩ := repD t2.e (Rp.mono t2.f r1)
    have e2 : w = Sc.toV k := r2.1
    unfold hasD at hk
    rcases dr_look rr k with ⟨v', x', h1, h2, h3⟩ | ⟨h1, h2⟩
    · refine ⟨p, v', e, .inl ⟨ks, Ky.key k, hR, by rw [e2, Ky.kv], h1.symm⟩, q v' F2 H2 (t1.trans t2) ?_⟩
      unfold getD
      rw [h2]; exact h3
    · rw [h2] at hk; cases hk)
theorem r_dget [Inhabited α] (hu : X.A.units + 64 < cLine) (hk : hasD d k = true) (ha : RJ X es a d) (hb : RJ X es b k) (hs : NoSl b := by exact fun _ _ => rfl) : RJ X es (.Subscript a b pos) (getD d k) := .mk fun f σ F H S Q q =>
  peR (pe_dget (un1 hu) peW peW hs) (ha f σ F H S _ fun v F1 H1 t1 r1 => hb f σ F1 H1 (S.step t1) _ fun w F2 H2 t2 r2 => by
    obtain ⟨p, ks, e, hF, hR, _, _, rr⟩ := repD (ovl_sub t2.e) (Rp.mono (ovl_step t2) r1)
    have e2 : w = Sc.toV k := r2.1
    unfold hasD at hk
    rcases dr_look rr k with ⟨v', x', h1, h2, h3⟩ | ⟨h1, h2⟩
    · refine ⟨p, v', e, .inl ⟨ks, Ky.key k, hR, by rw [e2, Ky.kv], h1.symm⟩, q v' F2 H2 (t1.trans t2) ?_⟩
      unfold getD
      rw [h2]; exact h3
    · rw [h2] at hk; cases hk)
theorem dr_is {K : PySem.W.Frag} {F : Hp} {ks : List (Key × V)} {l : List (κ × α)} (r : Paired (DR K F) ks l) (k : κ) : (valV ks (Ky.key k)).isSome = (look l k).isSome := by
  rcases dr_look r k with ⟨v', x', h1, h2, _⟩ | ⟨h1, h2⟩
  · rw [h1, h2]; rfl
  · rw [h1, h2]; rfl
theorem c_din {Q : VK} {f : Fr} {σ : L2.St} {F H : Hp} (S : Sw X.K f es σ F H) (ha : RJ X es a k) (hb : RJ X es b d) (r : Bool → Bool) (q : ∀ F' H', St0 F H F' H' → Q (.bl (r (hasD d k))) H') : wpE X a σ H fun y H1 => wpE X b σ H1 fun x H2 => ∃ p o, x = .ref p ∧ DGet H2 p y o ∧ Q (.bl (r o.isSome)) H2 :=
  ha f σ F H S _ fun v F1 H1 t1 r1 => hb f σ F1 H1 (S.step t1) _ fun w F2 H2 t2 r2 => by
    obtain ⟨p, ks, e, hF, hR, _, _, rr⟩ := repD (ovl_sub t2.e) r2
    have e2 : v = Sc.toV k := r1.1
    refine ⟨p, _, e, .inl ⟨ks, Ky.key k, hR, by rw [e2, Ky.kv], rfl⟩, ?_⟩
    rw [dr_is rr k]
    exact q F2 H2 (t1.trans t2)
theorem t_din (hu : X.A.units + 64 < cLine) (ha : RJ X es a k) (hb : RJ X es b d) (hm : behindInMarks .In b = false := by rfl) : TJ X es (.Compare a [.In] [b] pos) (hasD d k) := .mk fun f σ F H S Q q =>
  ptR (pt_cmp (pc_din (un1 hu) peW peW) hm) (c_din (Q := fun x H' => ∃ c, x = .bl c ∧ Q c H') S ha hb (fun c => c) fun F' H' t => ⟨_, rfl, q F' H' t⟩)
theorem t_dnin (hu : X.A.units + 64 < cLine) (ha : RJ X es a k) (hb : RJ X es b d) (hm : behindInMarks .NotIn b = false := by rfl) : TJ X es (.Compare a [.NotIn] [b] pos) (!hasD d k) := .mk fun f σ F H S Q q =>
  ptR (pt_cmp (pc_dnotin (un1 hu) peW peW) hm) (c_din (Q := fun x H' => ∃ c, x = .bl c ∧ Q c H') S ha hb (fun c => !c) fun F' H' t => ⟨_, rfl, q F' H' t⟩)
/-- {} -/
theorem n_dnew : NJ X es (.Dict [] [] pos) (Dct.mk ([] : List (κ × α))) := .mk fun f σ F H S Q q =>
  peR pe_dnewK fun p hp => q _ F _ [p] (St0.new S.sub hp) ⟨p, _, rfl, rfl, upd_same, sub_none S.sub hp, Nat.zero_le _, List.nodup_nil, [], rfl, .nil⟩ (by simp) fun z hz => by
    have e : z = p := by simpa using hz
    rw [e]; exact hp
/-- d[k] = x -/
theorem s_dput {e1 e2 : En} {x : α} (hu : X.A.units + 64 < cLine) (hst : PS X st (sDPut (tVar i) (wpE X b) (wpE X e))) (h : XJ X es e x es1) (hk : XJ X es1 b k es2) (hi : es2[i]? = some e1) (hl : Lent owCl d (putD d k x) e1 e2) (hz : d.l.length < big) (hes : es2.set i e2 = es3 := by rfl) (ha : alFree i es2 = true := by rfl)
    (h0 : ∃ e0 d0, es1[i]? = some e0 ∧ Lent owCl (d0 : Dct κ α) d0 e0 e0) : E1 X es st es3 := .mk fun f σ F H D S q =>
  psR hst (h f σ F H S _ fun v F1 H1 S1 i1 r1 => by
    obtain ⟨e0, d0, he0, hl0⟩ := h0
    have ref : ∃ l, sl σ i = some (.ref l) := by
      obtain ⟨Ps, p⟩ := S1.env
      have ok := p.ok i e0 he0
      cases hl0 with
      | ow =>
        obtain ⟨w, ew, l, o, el, _⟩ := ok
        exact ⟨l, by rw [ew, el]⟩
      | «at» c => exact ⟨c, ok.1⟩
      | ad c =>
        obtain ⟨w, ew, el, _⟩ := ok
        exact ⟨c, by rw [ew, el]⟩
    obtain ⟨l0, ev0⟩ := ref
    refine ⟨.ref l0, sl_of ev0, hk f σ F1 H1 S1 _ fun w F2 H2 S2 i2 r2 => ?_⟩
    obtain ⟨l, o, ev, h1, h2, ⟨hz2, nd, ks, eo, rr⟩, go⟩ := S2.cell hi hl ha
    subst eo hes
    rw [ev0] at ev
    cases ev
    have e2 : w = Sc.toV k := r2.1
    have hlen : ks.length < sizeLine := by rw [pairedLen rr]; exact big_lt (Nat.le_of_lt hz)
    refine ⟨l0, _, rfl, .inl ⟨ks, Ky.key k, h1, by rw [e2, Ky.kv], hlen, rfl⟩, q _ F2 _ (go _ ⟨?_, putL_keys nd, _, rfl, dr_put rr r2.2 (Rp.mono i2 r1)⟩)⟩
    exact Nat.le_trans (putL_len _ _ _) hz)
/-- dict(d) -/
theorem n_dictof {p : Pos} (hg : Gl X "dict") (hm : X.mg "dict" = none) (ha : FJ X es a d) (s1 : starEach [a] X.env = (false, eval a X.env) :: starEach [] X.env := by rfl) : NJ X es (.Call (.Name "dict" p) [a] [] pos) d := .mk fun f σ F H S Q q =>
  peR (pe_callTy call_dictD hg hm (by decide +kernel) (pa_cons peW pa_nil s1) (by decide) (by decide) s1) (ha f σ F H S _ fun v F1 H1 t1 r1 => by
    obtain ⟨p, ks, e, hF, hR, h1, h2, rr⟩ := repD t1.e r1
    exact ⟨p, ks, by rw [e], hR, fun p' hp => q _ F1 _ [p'] (t1.trans (St0.new t1.e hp)) ⟨p', _, rfl, rfl, upd_same, sub_none t1.e hp, h1, h2, ks, rfl, rr⟩ (by simp) fun z hz => by
      have e : z = p' := by simpa using hz
      rw [e]; exact t1.back hp⟩)
/-! a dict is walked -/
def YlK (K : PySem.W.Frag) (J : It) (p : Addr) (od : Obj) (u : HO) (F0 : Hp) [Rp γ] (xs : List γ) : Prop := xs.length ≤ big ∧ ∀ (i : Nat) (F H : Hp), Inc F0 F → H p = some (.frz od u) → Sub F H → (i = xs.length → J.stop i H) ∧ ∀ x, xs[i]? = some x → J.go i H ∧ ∀ v H', J.yld i H v H' → ∃ F', St0 F H F' H' ∧ Rp.rep K F' v x
/-- a thing that stands already -/
def PJ (X : Cx) (es : List En) (e : Expr) [Rp γ] (x : γ) : Prop := ∀ (f : Fr) (σ : L2.St) (F H : Hp), Sw X.K f es σ F H → ∃ v, Rp.rep X.K F v x ∧ ∀ (f1 : Fr) (H1 : Hp), Sw X.K f1 es σ F H1 → ∀ Q : VK, Q v H1 → wpE X e σ H1 Q
theorem p_var [Rp γ] {x : γ} (hv : PE X e (tVar i)) (h : es[i]? = some (.fz x) := by rfl) : PJ X es e x := fun f σ F H S => by
  obtain ⟨v, ev, r⟩ := S.fz h
  exact ⟨v, r, fun f1 H1 S1 Q q => peR hv ⟨v, ev, q⟩⟩
def IK (X : Cx) (tg : Expr) (es : List En) (iter : Expr) [Rp γ] (xs : List γ) : Prop := ∀ (f : Fr) (σ : L2.St) (F H : Hp), Sw X.K f es σ F H → ∃ p u, F p = some u ∧ dictO u ∧
  ∀ (f1 : Fr) (H1 : Hp) (od : Obj), Sw X.K f1 es σ F H1 → H1 p = some (.frz od u) → ∀ R : It → Hp → Prop, (∀ J, YlK X.K J p od u F xs → R J H1) → wpI X tg iter σ H1 R
theorem getM {γ δ : Type} {f : γ → δ} {l : List γ} {i : Nat} {y : δ} (h : (l.map f)[i]? = some y) : ∃ x, l[i]? = some x ∧ y = f x := by
  rw [List.getElem?_map] at h
  cases q : l[i]? with
  | none => rw [q] at h; cases h
  | some x => rw [q] at h; exact ⟨x, rfl, (Option.some.inj h).symm⟩
theorem pairedM2 {γ δ : Type} {R R' : γ → δ → Prop} (h : ∀ a b, R a b → R' a b) {xs : List γ} {ys : List δ} (p : Paired R xs ys) : Paired R' xs ys := Paired.mapP p h
theorem getP {γ δ : Type} {R : γ → δ → Prop} {xs : List γ} {ys : List δ} (p : Paired R xs ys) {i : Nat} {y : δ} (h : ys[i]? = some y) : ∃ x, xs[i]? = some x ∧ R x y := by
  induction p generalizing i with
  | nil => simp at h
  | cons r t ih =>
    cases i with
    | zero =>
      rw [List.getElem?_cons_zero] at h
      cases h
      exact ⟨_, by simp, r⟩
    | succ i =>
      obtain ⟨x, h1, h2⟩ := ih (by simpa using h)
      exact ⟨x, by simpa using h1, h2⟩
theorem k_keys (h : PJ X es e d) : IK X tg es e (keysD d) := fun f σ F H S => by
  obtain ⟨v, r, go⟩ := h f σ F H S
  obtain ⟨p, ks, ev, hF, _, hz, nd, rr⟩ := repD S.sub r
  subst ev
  refine ⟨p, _, hF, True.intro, fun f1 H1 od S1 hd R q => piR (pi_keys peW) (go f1 H1 S1 _ ⟨p, od, rfl, .inl ⟨ks, hd, q _ ⟨by unfold keysD; rw [List.length_map]; exact hz, fun j F2 H2 i2 d2 s2 => ?_⟩⟩⟩)⟩
  have hl : ks.length = d.l.length := pairedLen rr
  refine ⟨fun ej => ?_, fun x hx => ?_⟩
  · unfold keysD at ej
    rw [List.length_map, ← hl] at ej
    rw [ej]; exact walk_keys.stops _ d2
  · obtain ⟨q', hq, ex⟩ := getM hx
    obtain ⟨pk, hpk, dr⟩ := getP rr hq
    have jl : j < ks.length := (List.getElem?_eq_some_iff.mp hpk).1
    refine ⟨walk_keys.goes j _ jl d2, fun v H' y => ?_⟩
    obtain ⟨eH, k', v', e1, e2⟩ := walk_keys.yields j _ _ _ jl d2 y
    rw [hpk] at e1
    cases e1
    subst eH ex
    exact ⟨F2, St0.refl s2, by rw [e2, show k' = Ky.key q'.1 from dr.1, Ky.kv], dr.2.1⟩
theorem k_items {elts : List Expr} {kk : Nat} {tpos apos cpos : Pos} (h : PJ X es e d) (hbase : attributeBase e "items" X.env (eval e X.env) = eval e X.env := by rfl) (hline : (apos.endLine == cpos.line) = true := by rfl) : IK X (.Tuple elts kk tpos) es (.Call (.Attribute e "items" apos) [] [] cpos) d.l := fun f σ F H S => by
  obtain ⟨v, r, go⟩ := h f σ F H S
  obtain ⟨p, ks, ev, hF, _, hz, nd, rr⟩ := repD S.sub r
  subst ev
  refine ⟨p, _, hF, True.intro, fun f1 H1 od S1 hd R q => piR (pi_items peW hbase hline) (go f1 H1 S1 _ ⟨p, od, ks, rfl, hd, q _ ⟨hz, fun j F2 H2 i2 d2 s2 => ?_⟩⟩)⟩
  have hl : ks.length = d.l.length := pairedLen rr
  refine ⟨fun ej => ?_, fun x hx => ?_⟩
  · rw [← hl] at ej
    rw [ej]; exact walk_items.stops _ d2
  · obtain ⟨pk, hpk, dr⟩ := getP rr hx
    have jl : j < ks.length := (List.getElem?_eq_some_iff.mp hpk).1
    refine ⟨walk_items.goes j _ jl d2, fun v H' y => ?_⟩
    obtain ⟨T, a', b', ev, hT, eH, e1, e2⟩ := walk_items.yields j _ _ _ jl d2 y
    have e1 : (ks[j]?).map (fun kv => kV kv.1) = some a' := e1
    have e2 : (ks[j]?).map Prod.snd = some b' := e2
    rw [hpk] at e1 e2
    have e1 : kV pk.1 = a' := Option.some.inj e1
    have e2 : pk.2 = b' := Option.some.inj e2
    subst ev eH e1 e2
    have t := St0.new s2 hT (o := .tup [kV pk.1, pk.2])
    have n2 : F2 T = none := sub_none s2 hT
    refine ⟨_, t.freeze (P := [T]) fun z hz => ?_, T, _, rfl, (fzP_in (by simp)).trans upd_same, kV pk.1, pk.2, rfl, ?_, ?_⟩
    · have e : z = T := by simpa using hz
      rw [e]; exact ⟨n2, hT⟩
    · exact ⟨by rw [dr.1, Ky.kv], dr.2.1⟩
    · exact Rp.mono (i2.trans (fzP_inc fun z hz => by
        have e : z = T := by simpa using hz
        rw [e]; exact n2)) dr.2.2
theorem YlK.s {K : PySem.W.Frag} {J : It} {p : Addr} {od : Obj} {u : HO} {F0 : Hp} {f : Fr} [Rp γ] {xs : List γ} (h : YlK K J p od u F0 xs) (h1 : f.H p = some (.frz od u)) (h2 : ¬ f.io p) : YlS K J (f.at F0) xs := fun i F H st => h.2 i F H st.f (st.h p _ h2 h1) st.e
theorem YlK.h {K : PySem.W.Frag} {J : It} {p : Addr} {od : Obj} {u : HO} {F0 H0 : Hp} [Rp γ] {xs : List γ} (h : YlK K J p od u F0 xs) (h1 : H0 p = some (.frz od u)) : YlH K J F0 H0 xs := ⟨h.1, fun i F H i1 i2 s => h.2 i F H i1 (i2 p _ h1) s⟩
theorem s_forK {ρ : Type} {body : List Stmt} {tst : PassesOwn (model X.prog X.w) X.A X.env X.xe} {y0 : β} [Rp γ] {xs : List γ} {esf : β → List En} {est : β → γ → List En} {kr : ρ → Out} {g : β → γ → Fl β ρ} (hc : X.calm = true) (hi : IK X tg (esf y0) iter xs)
    (ht : ∀ y x, GJ X tg (esf y) x (est y x)) (hk : ∀ r, (kr r).rets = true) (hb : ∀ y x, At g xs y0 y x → ES X (est y x) body (flO esf kr (g y x))) (hs : ∀ x, foldedSetIterable iter X.env x = pure x := by intro _; rfl) : S1 X (esf y0) (.For tg iter body [] pos) (flN esf kr (forFl g xs y0)) :=
  s_lock (ps_for tst hc piW pgW pssW hs) fun f σ F H S => by
    obtain ⟨p, u, hF, du, go⟩ := hi f σ F H S
    refine ⟨p, u, hF, du, fun f1 H1 od D S1 h1 h2 q => for_core (F := F) (fun R k => ?_) ht hk hb q⟩
    refine go f1 H1 od S1 (S1.st.h p _ h2 h1) R fun J yl => k J F H1 S1 (Inc.refl _) (yl.s h1 h2)
theorem s_forKF {body : List Stmt} {tst : PassesOwn (model X.prog X.w) X.A X.env X.xe} {y0 : β} [Rp γ] {xs : List γ} {esf : β → List En} {est : β → γ → List En} {g : β → γ → β} (hc : X.calm = true) (hi : IK X tg (esf y0) iter xs)
    (ht : ∀ y x, GJ X tg (esf y) x (est y x)) (hb : ∀ y x, AtF g xs y0 y x → ES X (est y x) body (.nx (esf (g y x)))) (he : esf (xs.foldl g y0) = es2 := by rfl) (hs : ∀ x, foldedSetIterable iter X.env x = pure x := by intro _; rfl) : E1 X (esf y0) (.For tg iter body [] pos) es2 := by
  have z := s_forK (X := X) (tst := tst) (ρ := Empty) (g := fun y x => .nx (g y x)) (kr := fun r => nomatch r) (pos := pos) (body := body) hc hi ht (fun r => nomatch r) (fun y x hat => hb y x (by
    obtain ⟨pre, post, e, h⟩ := hat
    rw [forFl_fold] at h
    exact ⟨pre, post, e, by injection h⟩)) hs
  rw [forFl_fold] at z
  subst he
  exact z
/-- [g x for x in a dict's .. if p x] -/
theorem rd_lcK {scope : Scope} {vs : List Nat} [Rp γ] [Rp β] {xs : List γ} {p : γ → Bool} {g : γ → β} {est : γ → List En} (hi : IK X tg es iter xs) (hal : alFrees vs es = true := by rfl)
    (ht : ∀ (s : Shared) (H : Hp) (C : Addr) (cl : List (Str × Addr)) (fp : List Addr) x, CT (blkX X scope s H C cl fp) tg vs (wpd vs es) x (est x))
    (hp : ∀ (s : Shared) (H : Hp) (C : Addr) (cl : List (Str × Addr)) (fp : List Addr) x, x ∈ xs → IfJ (blkX X scope s H C cl fp) (est x) ifs (p x))
    (he : ∀ (s : Shared) (H : Hp) (C : Addr) (cl : List (Str × Addr)) (fp : List Addr) x, x ∈ xs → p x = true → FJ (blkX X scope s H C cl fp) (est x) elt (g x)) : NRd X.K es (tOrE (rdLc X scope tg iter elt ifs vs)) (given p g xs) :=
  rd_lock fun f σ F H S => by
    obtain ⟨d, u, hF, du, go⟩ := hi f σ F H S
    refine ⟨d, u, hF, du, fun f1 H1 od Q S1 hd q => lc_core S1 (fun R k => go f1 H1 od S1 hd R fun J yl => k J F H1 (St0.refl S1.sub) (yl.h hd)) hal ht hp he q⟩
end
end Ly
namespace Ly
open PySem PySem.Spec PyProof.Rows L2 TL
theorem noAls_set {α : Type} [Rp α] {x : α} : ∀ {es : List En} {i : Nat}, noAls es = true → noAls (es.set i (.fz x)) = true
  | [], _, h => h
  | e :: es, 0, h => by
    have h2 : noAls es = true := by cases e <;> first | exact h | cases h
    exact h2
  | e :: es, i + 1, h => by
    have h2 : noAls es = true := by cases e <;> first | exact h | cases h
    have z := noAls_set (x := x) (i := i) h2
    show noAls (e :: es.set i (.fz x)) = true
    cases e <;> first | exact z | cases h
/-! tuples of three and more -/
structure Tp3 (α β γ : Type) where
  a : α
  b : β
  c : γ
  deriving DecidableEq
instance {α β γ : Type} [Inhabited α] [Inhabited β] [Inhabited γ] : Inhabited (Tp3 α β γ) := ⟨⟨default, default, default⟩⟩
instance clTp3 {α β γ : Type} [Rp α] [Rp β] [Rp γ] : Cl (Tp3 α β γ) where
  cell K H o x := ∃ v0 v1 v2, o = .tup [v0, v1, v2] ∧ Rp.rep K H v0 x.a ∧ Rp.rep K H v1 x.b ∧ Rp.rep K H v2 x.c
  mono i h := by
    obtain ⟨v0, v1, v2, e, h0, h1, h2⟩ := h
    exact ⟨v0, v1, v2, e, Rp.mono i h0, Rp.mono i h1, Rp.mono i h2⟩
structure Tp4 (α β γ δ : Type) where
  a : α
  b : β
  c : γ
  d : δ
  deriving DecidableEq
instance {α β γ δ : Type} [Inhabited α] [Inhabited β] [Inhabited γ] [Inhabited δ] : Inhabited (Tp4 α β γ δ) := ⟨⟨default, default, default, default⟩⟩
instance clTp4 {α β γ δ : Type} [Rp α] [Rp β] [Rp γ] [Rp δ] : Cl (Tp4 α β γ δ) where
  cell K H o x := ∃ v0 v1 v2 v3, o = .tup [v0, v1, v2, v3] ∧ Rp.rep K H v0 x.a ∧ Rp.rep K H v1 x.b ∧ Rp.rep K H v2 x.c ∧ Rp.rep K H v3 x.d
  mono i h := by
    obtain ⟨v0, v1, v2, v3, e, h0, h1, h2, h3⟩ := h
    exact ⟨v0, v1, v2, v3, e, Rp.mono i h0, Rp.mono i h1, Rp.mono i h2, Rp.mono i h3⟩
structure Tp5 (α β γ δ ε : Type) where
  a : α
  b : β
  c : γ
  d : δ
  e : ε
  deriving DecidableEq
instance {α β γ δ ε : Type} [Inhabited α] [Inhabited β] [Inhabited γ] [Inhabited δ] [Inhabited ε] : Inhabited (Tp5 α β γ δ ε) := ⟨⟨default, default, default, default, default⟩⟩
instance clTp5 {α β γ δ ε : Type} [Rp α] [Rp β] [Rp γ] [Rp δ] [Rp ε] : Cl (Tp5 α β γ δ ε) where
  cell K H o x := ∃ v0 v1 v2 v3 v4, o = .tup [v0, v1, v2, v3, v4] ∧ Rp.rep K H v0 x.a ∧ Rp.rep K H v1 x.b ∧ Rp.rep K H v2 x.c ∧ Rp.rep K H v3 x.d ∧ Rp.rep K H v4 x.e
  mono i h := by
    obtain ⟨v0, v1, v2, v3, v4, e, h0, h1, h2, h3, h4⟩ := h
    exact ⟨v0, v1, v2, v3, v4, e, Rp.mono i h0, Rp.mono i h1, Rp.mono i h2, Rp.mono i h3, Rp.mono i h4⟩
section
variable {X : Cx} {es es1 es2 es3 : List En} {a b c e e0 e1 e2 e3 e4 elt tg iter : Expr} {ifs : List Expr} {args : List Expr} {pos : Pos} {α β γ δ ε : Type} {i j : Nat}
/-! tuples taken apart -/
theorem g_tup2 [Rp α] [Rp β] {x : α × β} (hg : PG X tg (gTup X.K 2 (gCons (gName i) (gCons (gName j) gNil)))) (hl : i < es.length ∧ j < es.length) (hal : noAls es = true := by rfl) : GJ X tg es x ((es.set i (.fz x.1)).set j (.fz x.2)) := fun f σ F H v S r Q q => by
  obtain ⟨p, o, e, h1, u, w, eo, r1, r2⟩ := r
  subst eo
  exact pgR hg ⟨p, _, e, .inl (.inl ((S.sub p _ h1).nd fun z => z)), rfl, u, _, rfl, w, _, rfl, rfl, q _ F H ((S.setF hl.1 r1 (noAls_of hal _)).setF (by simpa using hl.2) r2 (noAls_of (noAls_set hal) _)) (Inc.refl _)⟩
theorem ct_tup2 {vs : List Nat} [Rp α] [Rp β] {x : α × β} (hg : PG X tg (gTup X.K 2 (gCons (gName i) (gCons (gName j) gNil)))) (hv : i ∈ vs ∧ j ∈ vs) (hl : i < es.length ∧ j < es.length) (hal : noAls es = true := by rfl) : CT X tg vs es x ((es.set i (.fz x.1)).set j (.fz x.2)) := fun f σ F H v S r Q q => by
  obtain ⟨p, o, e, h1, u, w, eo, r1, r2⟩ := r
  subst eo
  exact pgR hg ⟨p, _, e, .inl (.inl ((S.sub p _ h1).nd fun z => z)), rfl, u, _, rfl, w, _, rfl, rfl, q _ F H ((S.setF hl.1 r1 (noAls_of hal _)).setF (by simpa using hl.2) r2 (noAls_of (noAls_set hal) _)) (St0.refl S.sub) (by rw [wipe_set hv.2, wipe_set hv.1])⟩
theorem f_tup4 {k} [Rp α] [Rp β] [Rp γ] [Rp δ] {x0 : α} {x1 : β} {x2 : γ} {x3 : δ} (h0 : FJ X es e0 x0) (h1 : FJ X es e1 x1) (h2 : FJ X es e2 x2) (h3 : FJ X es e3 x3) (s0 : starEach [e0, e1, e2, e3] X.env = (false, eval e0 X.env) :: starEach [e1, e2, e3] X.env := by rfl) (s1 : starEach [e1, e2, e3] X.env = (false, eval e1 X.env) :: starEach [e2, e3] X.env := by rfl) (s2 : starEach [e2, e3] X.env = (false, eval e2 X.env) :: starEach [e3] X.env := by rfl) (s3 : starEach [e3] X.env = (false, eval e3 X.env) :: starEach [] X.env := by rfl) : FJ X es (.Tuple [e0, e1, e2, e3] k pos) (Tp4.mk x0 x1 x2 x3) := .mk fun f σ F H S Q q =>
  peR (pe_tup (pa_cons peW (pa_cons peW (pa_cons peW (pa_cons peW pa_nil s3) s2) s1) s0)) (h0 f σ F H S _ fun v0 F0 H0 t0 r0 => h1 f σ F0 H0 (S.step t0) _ fun v1 F1 H1 t1 r1 => h2 f σ F1 H1 ((S.step t0).step t1) _ fun v2 F2 H2 t2 r2 => h3 f σ F2 H2 (((S.step t0).step t1).step t2) _ fun v3 F3 H3 t3 r3 => ⟨show 4 ≤ sizeLine by decide, fun p hp => by
    have t := newC (o := .tup [v0, v1, v2, v3]) t3.e hp
    exact q _ _ _ ((((t0.trans t1).trans t2).trans t3).trans t) ⟨p, _, rfl, upd_same, v0, v1, v2, v3, rfl, Rp.mono (t1.f.trans (t2.f.trans (t3.f.trans t.f))) r0, Rp.mono (t2.f.trans (t3.f.trans t.f)) r1, Rp.mono (t3.f.trans t.f) r2, Rp.mono t.f r3⟩⟩)
theorem g_tup4 {i0 i1 i2 i3 : Nat} [Rp α] [Rp β] [Rp γ] [Rp δ] {x : Tp4 α β γ δ} (hg : PG X tg (gTup X.K 4 (gCons (gName i0) (gCons (gName i1) (gCons (gName i2) (gCons (gName i3) gNil)))))) (hl : i0 < es.length ∧ i1 < es.length ∧ i2 < es.length ∧ i3 < es.length) (hal : noAls es = true := by rfl) : GJ X tg es x ((((es.set i0 (.fz x.a)).set i1 (.fz x.b)).set i2 (.fz x.c)).set i3 (.fz x.d)) := fun f σ F H v S r Q q => by
  obtain ⟨p, o, e, h1, v0, v1, v2, v3, eo, r0, r1, r2, r3⟩ := r
  subst eo
  exact pgR hg ⟨p, _, e, .inl (.inl ((S.sub p _ h1).nd fun z => z)), rfl, v0, _, rfl, v1, _, rfl, v2, _, rfl, v3, _, rfl, rfl, q _ F H (((((S).setF (by simpa using hl.1) r0 (noAls_of hal _)).setF (by simpa using hl.2.1) r1 (noAls_of (noAls_set hal) _)).setF (by simpa using hl.2.2.1) r2 (noAls_of (noAls_set (noAls_set hal)) _)).setF (by simpa using hl.2.2.2) r3 (noAls_of (noAls_set (noAls_set (noAls_set hal))) _)) (Inc.refl _)⟩
/-! walks over pairs -/
def zipN (xs : List α) : List (Int × α) := xs.zipIdx.map fun p => ((p.2 : Int), p.1)
theorem zipN_len (xs : List α) : (zipN xs).length = xs.length := by unfold zipN; rw [List.length_map, List.length_zipIdx]
theorem zipN_at {xs : List α} {k : Nat} {x : Int × α} (h : (zipN xs)[k]? = some x) : xs[k]? = some x.2 ∧ x.1 = (k : Int) := by
  unfold zipN at h
  obtain ⟨q, hq, rfl⟩ := getM h
  rw [List.getElem?_zipIdx] at hq
  cases z : xs[k]? with
  | none => rw [z] at hq; cases hq
  | some y =>
    rw [z] at hq
    have e : (y, 0 + k) = q := Option.some.inj hq
    rw [← e]
    exact ⟨rfl, by show ((0 + k : Nat) : Int) = _; rw [Nat.zero_add]⟩
theorem pair_new [Rp α] [Rp β] {K : PySem.W.Frag} {F H : Hp} {T : Addr} {u w : V} {x : α} {y : β} (s : Sub F H) (hT : H T = none) (hu : Rp.rep K F u x) (hw : Rp.rep K F w y) : ∃ F', St0 F H F' (upd H T (.tup [u, w])) ∧ Rp.rep K F' (.ref T) (x, y) := by
  have t := newC (o := .tup [u, w]) s hT
  exact ⟨_, t, T, _, rfl, upd_same, u, w, rfl, Rp.mono t.f hu, Rp.mono t.f hw⟩
theorem i_enum [Rp α] {xs : List α} {elts : List Expr} {kk : Nat} {tpos p : Pos} (hg : Gl X "enumerate") (hm : X.mg "enumerate" = none) (h : XJ X es e xs es1) (hs : starEach [e] X.env = (false, eval e X.env) :: starEach [] X.env := by rfl) : IJ X (.Tuple elts kk tpos) es (.Call (.Name "enumerate" p) [e] [] pos) (zipN xs) es1 := fun f σ F H S R q =>
  piR (pi_enum hg hm (pa_cons peW pa_nil hs) (hs.trans (by rfl))) (h f σ F H S _ fun v F1 H1 S1 i1 r => by
    obtain ⟨p, vs, e, hH, hF, rr⟩ := repL S1.sub r
    refine ⟨p, vs, by rw [e], .inl (.inl hH), q _ F1 H1 S1 i1 fun i F2 H2 i2 s2 => ?_⟩
    have hH2 : H2 p = some (.lst vs) := (s2 p _ (i2 p _ hF)).nd fun z => z
    have rr2 : Paired (Rp.rep X.K F2) vs xs := pairedM i2 rr
    refine ⟨fun ei => ⟨vs, .inl (.inl hH2), by rw [pairedLen rr2]; rw [zipN_len] at ei; omega⟩, fun x hx => ?_⟩
    obtain ⟨hx1, hx2⟩ := zipN_at hx
    obtain ⟨w, hw, rw_⟩ := pairedGet rr2 hx1
    refine ⟨⟨vs, w, .inl (.inl hH2), hw⟩, fun v' H' y => ?_⟩
    obtain ⟨T, z, ev, hT, eH, hy⟩ := y
    have ez := hy vs (.inl (.inl hH2))
    rw [hw] at ez
    cases ez
    subst ev eH
    have ri : Rp.rep X.K F2 (V.int (i : Nat)) x.1 := ⟨show V.int (i : Nat) = V.int x.1 by rw [hx2], True.intro⟩
    obtain ⟨F3, t3, r3⟩ := pair_new s2 hT ri rw_
    exact ⟨F3, t3, r3⟩)
/-- an own slot is frozen from here on -/
theorem es_frz {sts : List Stmt} {out : Out} [Ow α] {x : α} (hi : es[i]? = some (.ow x)) (h : ES X es1 sts out) (he : es.set i (@En.fz α Ow.rp x) = es1 := by rfl) (ha : alFree i es = true := by rfl) : ES X es sts out := .mk fun f σ F H D S q => by
  obtain ⟨v, F', ev, inc, r, S'⟩ := S.frz1 hi (noAl_of ha)
  subst he
  exact h f σ F' H D S' q
theorem s_asgLcKF {st : Stmt} {scope : Scope} {vs : List Nat} [Rp γ] [Rp β] {xs : List γ} {p : γ → Bool} {g : γ → β} {est : γ → List En} (hst : PS X st (tAsg (rdLc X scope tg iter elt ifs vs) (gName i))) (hi : IK X tg es iter xs)
    (ht : ∀ (s : Shared) (H : Hp) (C : Addr) (cl : List (Str × Addr)) (fp : List Addr) x, CT (blkX X scope s H C cl fp) tg vs (wpd vs es) x (est x))
    (hp : ∀ (s : Shared) (H : Hp) (C : Addr) (cl : List (Str × Addr)) (fp : List Addr) x, x ∈ xs → IfJ (blkX X scope s H C cl fp) (est x) ifs (p x))
    (he : ∀ (s : Shared) (H : Hp) (C : Addr) (cl : List (Str × Addr)) (fp : List Addr) x, x ∈ xs → p x = true → FJ (blkX X scope s H C cl fp) (est x) elt (g x)) (hal : alFrees vs es = true := by rfl)
    (hes : es.set i (.fz (given p g xs)) = es1 := by rfl) (hl : i < es.length := by exact Nat.le_of_ble_eq_true rfl) (ha : alFree i es = true := by rfl) : E1 X es st es1 :=
  s_lock hst fun f σ F H S => by
    obtain ⟨d, u, hF, du, go⟩ := hi f σ F H S
    refine ⟨d, u, hF, du, fun f1 H1 od D S1 h1 h2 q => ?_⟩
    show rdLc X scope tg iter elt ifs vs σ H1 (fun x H2 => gName i x σ H2 D.nx)
    refine lc_core S1 (fun R k => go f1 H1 od S1 (S1.st.h d _ h2 h1) R fun J yl => k J F H1 (St0.refl S1.sub) (yl.h (S1.st.h d _ h2 h1))) hal ht hp he fun v F2 H2 P t o hn hp' => ?_
    subst hes
    have t2 := t.freeze (P := P) fun p z => ⟨(Ow.out o p z).2, hp' p z⟩
    exact q _ (fzP F2 H2 P) H2 ((S1.step t2).setF hl (Ow.fzn o) (noAl_of ha))
end
end Ly
namespace Ly
open PySem PySem.Spec PyProof.Rows L2 TL
def setI {α : Type} (xs : List α) (k : Int) (y : α) : List α := xs.take k.toNat ++ y :: xs.drop (k.toNat + 1)
section
variable {X : Cx} {es es1 es2 es3 : List En} {a b c e elt tg iter : Expr} {ifs : List Expr} {args : List Expr} {pos : Pos} {α β γ : Type} {i j : Nat} {st : Stmt} {rest : List Stmt} {out : Out}
/-! comprehensions whose walk has an effect -/
def IHX (X : Cx) (tg : Expr) (es : List En) (iter : Expr) [Rp α] (xs : List α) (es1 : List En) : Prop := ∀ (f : Fr) (σ : L2.St) (F H : Hp), Sw X.K f es σ F H → ∀ R : It → Hp → Prop, (∀ J F' H', Sw X.K f es1 σ F' H' → Inc F F' → YlH X.K J F' H' xs → R J H') → wpI X tg iter σ H R
end
end Ly
/-! == of data that hold dicts -/
namespace PySem.SeqAt
open AutoSeq1 (wpAny_loadPart')
open MeetsSeq MeetsSeq2 MeetsSeq3 SeqRoads2
section
variable {pr : Program} {ww : World}
theorem ly_neLoop (p q : Addr) (us vs : Array Value) (m m2 : Nat) (dp dq : Option Addr) (sp sq : Array (Option Value)) (hz : us.size = vs.size) (c : Nat → Bool) (k : Nat) :
    ∀ i : Nat, us.size - i = k → MeetsIn pr ww (Builtin.«list.__eq__.loop» ⟨[.ref p, .ref q, rawInt i, rawInt 3], []⟩)
      (fun A R s => s.heap.get? p = some { cls := .type "list", dict := dp, data := .seq us m, slots := sp } ∧ s.heap.get? q = some { cls := .type "list", dict := dq, data := .seq vs m2, slots := sq } ∧
        (∀ j (j1 : j < us.size) (j2 : j < vs.size), EqIn pr ww A.in1 s us[j] vs[j] (c j)) ∧
        R (.ok (.ret (.bool (!((List.range us.size).drop i).all c)))) s) := by
  induction k with
  | zero =>
    intro i hk A R s z
    obtain ⟨hp, g, d, tk, os⟩ := s; obtain ⟨z1, z2, zc, z⟩ := z
    wp_walk using wpAny_loadPart' z1, wpAny_loadPart' z2
    have n1 : us[((i : Nat) : Int).toNat]? = none := by simp; omega
    have n2 : vs[((i : Nat) : Int).toNat]? = none := by simp; omega
    have n3 : (List.range us.size).drop i = [] := by simp; omega
    rw [n3] at z
    rw [n1, n2]
    wp_walk using wpAny_loadPart' z1, wpAny_loadPart' z2
    show R (.ok (.ret (.bool (us.size != vs.size)))) _
    rw [hz]
    simpa using z
  | succ k ih =>
    intro i hk A R s z
    obtain ⟨hp, g, d, tk, os⟩ := s; obtain ⟨z1, z2, zc, z⟩ := z
    wp_walk using wpAny_loadPart' z1, wpAny_loadPart' z2
    have l1 : i < us.size := by omega
    have l2 : i < vs.size := by omega
    have n1 : us[((i : Nat) : Int).toNat]? = some us[i] := by simp [l1]
    have n2 : vs[((i : Nat) : Int).toNat]? = some vs[i] := by simp [l2]
    have n3 : (List.range us.size).drop i = i :: (List.range us.size).drop (i + 1) := by simp [List.drop_eq_getElem_cons, l1]
    have n4 : ((i : Int) + 1) = ((i + 1 : Nat) : Int) := by push_cast; rfl
    rw [n3, List.all_cons] at z
    rw [n1, n2]
    refine wpAny_bind (zc i l1 l2 _ _ ?_)
    cases bb : c i with
    | true =>
      rw [bb] at z
      wp_walk
      rw [n4]
      exact ⟨plainId_quiet plain_eq_loop _, codeAny_builtin entry_eq_loop (by
        rw [Around.under_plainId plain_eq_loop _]
        exact ih (i + 1) (by omega) A R _ ⟨z1, z2, zc, by simpa using z⟩)⟩
    | false =>
      rw [bb] at z
      wp_walk using wpAny_loadPart' z1, wpAny_loadPart' z2
      rw [n1, n2]
      wp_walk
      simpa using z
theorem ly_neList (p q : Addr) (us vs : Array Value) (m m2 : Nat) (dp dq : Option Addr) (sp sq : Array (Option Value)) (hz : us.size = vs.size) (c : Nat → Bool) :
    MeetsIn pr ww (Builtin.«list.__ne__» ⟨[.ref p, .ref q], []⟩)
      (fun A R s => s.heap.get? p = some { cls := .type "list", dict := dp, data := .seq us m, slots := sp } ∧ s.heap.get? q = some { cls := .type "list", dict := dq, data := .seq vs m2, slots := sq } ∧
        (∀ j (j1 : j < us.size) (j2 : j < vs.size), EqIn pr ww A.in1 s us[j] vs[j] (c j)) ∧
        R (.ok (.ret (.bool (!(List.range us.size).all c)))) s) := by
  intro A R s z
  obtain ⟨hp, g, d, tk, os⟩ := s; obtain ⟨z1, z2, zc, z⟩ := z
  have f3 := AutoSeq1.sub_list_list
  have nn : ¬ (us.size != vs.size) = true := by simp [hz]
  wp_walk using wpAny_loadPart' z1, wpAny_loadPart' z2
  exact ⟨plainId_quiet plain_eq_loop _, codeAny_builtin entry_eq_loop (by
    rw [Around.under_plainId plain_eq_loop _]
    exact ly_neLoop p q us vs m m2 dp dq sp sq hz c _ 0 rfl A R _ ⟨z1, z2, zc, by simpa using z⟩)⟩
theorem ly_neTuple (p q : Addr) (us vs : Array Value) (m m2 : Nat) (dp dq : Option Addr) (sp sq : Array (Option Value)) (c : Nat → Bool) :
    MeetsIn pr ww (Builtin.«tuple.__ne__» ⟨[.ref p, .ref q], []⟩)
      (fun A R s => s.heap.get? p = some { cls := .type "tuple", dict := dp, data := .seq us m, slots := sp } ∧ s.heap.get? q = some { cls := .type "tuple", dict := dq, data := .seq vs m2, slots := sq } ∧
        (∀ j (j1 : j < us.size) (j2 : j < vs.size), EqIn pr ww A.in1 s us[j] vs[j] (c j)) ∧
        R (.ok (.ret (.bool (!((List.range (min us.size vs.size)).all c && us.size == vs.size))))) s) := 
  .of_wp fun A R s z => by
    obtain ⟨hp, g, d, tk, os⟩ := s; obtain ⟨z1, z2, zc, z⟩ := z
    have f2 := AutoSeq1.sub_tuple_tuple
    have zl : (us.toList.zip vs.toList).length = min us.size vs.size := by simp
    wp_walk using wpAny_loadPart' z1, wpAny_loadPart' z2, wpAny_forIn_list _ (fun rest r s' => r.1 = none ∧ s' = ⟨hp, g, d, tk, os⟩ ∧ ∃ i, rest = (us.toList.zip vs.toList).drop i ∧
      R (.ok (.ret (.bool (!(((List.range (min us.size vs.size)).drop i).all c && us.size == vs.size))))) ⟨hp, g, d, tk, os⟩) _
    case turn =>
      rintro ⟨y, x⟩ rest r s' ⟨r0, rfl, i, ez, zR⟩
      have il : i < (us.toList.zip vs.toList).length := by
        rcases Nat.lt_or_ge i (us.toList.zip vs.toList).length with o | o
        · exact o
        · rw [List.drop_of_length_le o] at ez; cases ez
      have im : i < min us.size vs.size := zl ▸ il
      have i1 : i < us.size := Nat.lt_of_lt_of_le im (Nat.min_le_left _ _)
      have i2 : i < vs.size := Nat.lt_of_lt_of_le im (Nat.min_le_right _ _)
      rw [List.drop_eq_getElem_cons il] at ez
      injection ez with e1 e2
      have ey : y = us[i] := by have := congrArg Prod.fst e1; simpa using this
      have ex : x = vs[i] := by have := congrArg Prod.snd e1; simpa using this
      subst ey ex
      have ed : (List.range (min us.size vs.size)).drop i = i :: (List.range (min us.size vs.size)).drop (i + 1) := by simp [List.drop_eq_getElem_cons, im]
      rw [ed, List.all_cons] at zR
      refine wpAny_bind (zc i i1 i2 _ _ ?_)
      cases bb : c i with
      | true =>
        rw [bb] at zR
        wp_walk
        exact ⟨rfl, rfl, i + 1, e2, by simpa using zR⟩
      | false =>
        rw [bb] at zR
        wp_walk
        exact ⟨_, rfl, by simpa using zR⟩
    case fin =>
      rintro ⟨b1, b2⟩ s' ⟨r0, rfl, i, ez, zR⟩
      simp only at r0
      subst r0
      have ig : min us.size vs.size ≤ i := by
        rcases Nat.lt_or_ge i (us.toList.zip vs.toList).length with o | o
        · rw [List.drop_eq_getElem_cons o] at ez; cases ez
        · exact zl ▸ o
      rw [List.drop_of_length_le (by simpa using ig)] at zR
      wp_walk
      exact ⟨_, rfl, by simpa [Builtin.Tuple.tupleCompareSizes, bne] using zR⟩
    case h =>
      exact ⟨rfl, rfl, 0, rfl, by simpa using z⟩
end
section
variable {pr : Program} {ww : World} {A : Around} {s : Shared} {E Q : Value → Shared → Prop}
theorem ly_rcNeL {p q : Addr} {us vs : Array Value} {c : Nat → Bool} (z1 : s.heap.IsList p us) (z2 : s.heap.IsList q vs) (hz : us.size = vs.size) (hu : A.units < cLine)
    (zc : ∀ j (j1 : j < us.size) (j2 : j < vs.size), EqIn pr ww A.in1 s us[j] vs[j] (c j)) (k : Q (.bool (!(List.range us.size).all c)) s) : wpAny (model pr ww) A (richCompare .NotEq (.ref p) (.ref q)) Q E s := by
  obtain ⟨⟨k1, d1, o1, s1⟩, g1, w1, m1, t1⟩ := id z1
  obtain ⟨⟨k2, d2, o2, s2⟩, g2, w2, m2, t2⟩ := id z2
  simp only at w1 t1 w2 t2
  subst w1 t1 w2 t2
  exact wpAny_richCompare_same_room (T := "list") (op := .NotEq) ⟨_, g1, rfl⟩ ⟨_, g2, rfl⟩ F.slot_list_ne (call_meetsIn F.slot_list_ne ⟨_, g1, rfl⟩ F.entry_list_ne (F.args_list_ne_2 _ _) (ly_neList p q us vs m1 m2 d1 d2 s1 s2 hz c)
    ⟨g1, g2, zc, show Value.bool (!(List.range us.size).all c) ≠ Value.notImplemented ∧ Q (.bool (!(List.range us.size).all c)) s from ⟨(fun x => nomatch x), k⟩⟩) hu
theorem ly_rcNeT {p q : Addr} {us vs : Array Value} {c : Nat → Bool} (z1 : s.heap.IsTuple p us) (z2 : s.heap.IsTuple q vs) (hu : A.units < cLine)
    (zc : ∀ j (j1 : j < us.size) (j2 : j < vs.size), EqIn pr ww A.in1 s us[j] vs[j] (c j)) (k : Q (.bool (!((List.range (min us.size vs.size)).all c && us.size == vs.size))) s) : wpAny (model pr ww) A (richCompare .NotEq (.ref p) (.ref q)) Q E s := by
  obtain ⟨⟨k1, d1, o1, s1⟩, g1, w1, m1, t1⟩ := id z1
  obtain ⟨⟨k2, d2, o2, s2⟩, g2, w2, m2, t2⟩ := id z2
  simp only at w1 t1 w2 t2
  subst w1 t1 w2 t2
  exact wpAny_richCompare_same_room (T := "tuple") (op := .NotEq) ⟨_, g1, rfl⟩ ⟨_, g2, rfl⟩ F.slot_tuple_ne (call_meetsIn F.slot_tuple_ne ⟨_, g1, rfl⟩ F.entry_tuple_ne (F.args_tuple_ne_2 _ _) (ly_neTuple p q us vs m1 m2 d1 d2 s1 s2 c)
    ⟨g1, g2, zc, show Value.bool (!((List.range (min us.size vs.size)).all c && us.size == vs.size)) ≠ Value.notImplemented ∧ Q (.bool (!((List.range (min us.size vs.size)).all c && us.size == vs.size))) s from ⟨(fun x => nomatch x), k⟩⟩) hu
end
end PySem.SeqAt
namespace PySem.W
open PySem PySem.Calls PyProof.Rows PyProof.V PySem.Spec
section
variable {pr : Program} {ww : World} {K : Type} [DecidableEq K] {kd : KeyKind pr ww K} {A : Around} {E : Value → Shared → Prop} {s : Shared}
theorem ly_rcNeD {p q : Addr} {k1 k2 : List (K × Value)} {r : Bool} {Q : Value → Shared → Prop} (hp : (p == sysModules) = false) (hq : (q == sysModules) = false)
    (d1 : s.heap.DictOf kd p k1) (d2 : s.heap.DictOf kd q k2) (hu : A.units < cLine) (hi : k1.length = k2.length → KeqHitsIn pr ww A.in1 s k2 k1 r) (z : Q (.bool (!(k1.length == k2.length && r))) s) :
    wpAny (model pr ww) A (compareOp .NotEq (.ref p) (.ref q)) Q E s := by
  refine wpAny_richCompare_same_room (op := .NotEq) d1.typeIs d2.typeIs PySem.F.slot_dict_ne (wpAny_call_entry PySem.F.slot_dict_ne d1.typeIs PySem.F.entry_dict_ne ?_ (PySem.F.args_dict_ne_2 _ _)) hu
  show wpAny _ _ (Builtin.Dict.dictSlotArgs "__ne__" ⟨[.ref p, .ref q], []⟩ >>= _) _ _ s
  refine wpAny_bind ?_
  unfold Builtin.Dict.dictSlotArgs
  refine wpAny_bind (wpAny_notOrdered_dict d1.typeIs ?_)
  show wpAny _ _ (pure (Value.ref p, Value.ref q)) _ _ s
  refine wpAny_pure ?_
  refine wpAny_bind (wpAny_isInstance (T := "dict") d2.typeIs PySem.F.sub_dict_dict ?_)
  rw [Bool.not_true, if_neg Bool.false_ne_true]
  refine wpAny_bind (wpAny_pure (wpAny_bind (wpAny_pure ?_)))
  refine wpAny_bind (keq_samePairsIn hp hq d1 d2 hi ?_)
  refine wpAny_pure ⟨_, rfl, ?_, ?_⟩
  · exact fun x => nomatch x
  · simpa using z
end
end PySem.W
namespace Ly
open PySem PySem.Spec PyProof.Rows L2
def EqS (X : Cx) (H : Hp) (n : Nat) (x y : V) (b : Bool) : Prop := ∀ (pins : List (Addr × Obj)) (σ : L2.St) (s : Shared) (v u : Value), Inv X pins σ H s → RelV x v → RelV y u → PySem.W.EqTree X.prog X.w s n v u b
def RcS (X : Cx) (H : Hp) (n : Nat) (op : CmpOp) (x y : V) (b : Bool) : Prop := ∀ (pins : List (Addr × Obj)) (σ : L2.St) (s : Shared) (v u : Value), Inv X pins σ H s → RelV x v → RelV y u → ∀ A : Around, A.units + n < cLine → ∀ E Q : Value → Shared → Prop, Q (.bool b) s → wpAny (model X.prog X.w) A (richCompare op v u) Q E s
class EqB (α : Type) [Rp α] where
  eqb : α → α → Bool
  dep : Nat
  tree : ∀ {X : Cx} {F H : Hp} {v w : V} {x y : α}, Sub F H → Rp.rep X.K F v x → Rp.rep X.K F w y → EqS X H dep v w (eqb x y)
  eq : ∀ {X : Cx} {F H : Hp} {v w : V} {x y : α}, Sub F H → Rp.rep X.K F v x → Rp.rep X.K F w y → RcS X H dep .Eq v w (eqb x y)
  ne : ∀ {X : Cx} {F H : Hp} {v w : V} {x y : α}, Sub F H → Rp.rep X.K F v x → Rp.rep X.K F w y → RcS X H dep .NotEq v w (!eqb x y)
  same : ∀ {K : PySem.W.Frag} {F : Hp} {v : V} {x y : α}, Rp.rep K F v x → Rp.rep K F v y → eqb x y = true
def eqb {α : Type} [Rp α] [EqB α] (x y : α) : Bool := EqB.eqb x y
section
variable {X : Cx} {H : Hp} {n : Nat} {a b : Addr} {xs ys : List V}
/-- items by places -/
def atE (f : V → V → Bool) (xs ys : List V) (j : Nat) : Bool := match xs[j]?, ys[j]? with
  | some x, some y => f x y
  | _, _ => true
theorem vals_at : ∀ {xs : List V} {us : List Value}, Vals xs us → ∀ (j : Nat) (h : j < us.length), ∃ x, xs[j]? = some x ∧ RelV x us[j]
  | _, _, .nil, j, h => absurd h (Nat.not_lt_zero j)
  | _, _, .cons r t, 0, _ => ⟨_, rfl, r⟩
  | _, _, .cons r t, j + 1, h => vals_at t j (Nat.lt_of_succ_lt_succ h)
theorem list_trees (c : Nat → Bool) (ha : SqL X.K H a xs) (hb : SqL X.K H b ys) (hc : ∀ (j : Nat) x y, xs[j]? = some x → ys[j]? = some y → EqS X H n x y (c j)) :
    (a ≠ b → EqS X H (n + 1) (.ref a) (.ref b) (xs.length == ys.length && (List.range xs.length).all c)) ∧ RcS X H (n + 1) .Eq (.ref a) (.ref b) (xs.length == ys.length && (List.range xs.length).all c) ∧ RcS X H (n + 1) .NotEq (.ref a) (.ref b) (!(xs.length == ys.length && (List.range xs.length).all c)) := by
  have key : ∀ (pins : List (Addr × Obj)) (σ : L2.St) (s : Shared), Inv X pins σ H s → ∃ us ws : List Value, s.heap.IsList a us.toArray ∧ s.heap.IsList b ws.toArray ∧ us.length = xs.length ∧ ws.length = ys.length ∧
      ∀ j (h1 : j < us.toArray.size) (h2 : j < ws.toArray.size), PySem.W.EqTree X.prog X.w s n us.toArray[j] ws.toArray[j] (c j) := fun pins σ s I => by
    obtain ⟨us, r1, p1, _⟩ := I.list ha
    obtain ⟨ws, r2, p2, _⟩ := I.list hb
    refine ⟨us, ws, p1.isList, p2.isList, r1.length.symm, r2.length.symm, fun j h1 h2 => ?_⟩
    obtain ⟨x, ex, rx⟩ := vals_at r1 j (by simpa using h1)
    obtain ⟨y, ey, ry⟩ := vals_at r2 j (by simpa using h2)
    have z := hc j x y ex ey pins σ s _ _ I rx ry
    simpa using z
  refine ⟨fun hne pins σ s v u I rv ru => ?_, fun pins σ s v u I rv ru A hu E Q q => ?_, fun pins σ s v u I rv ru A hu E Q q => ?_⟩
  all_goals
    cases (show v = Value.ref a from rv)
    cases (show u = Value.ref b from ru)
    obtain ⟨us, ws, l1, l2, e1, e2, t⟩ := key pins σ s I
    by_cases hl : xs.length = ys.length
  · have hz : us.toArray.size = ws.toArray.size := by simp [e1, e2, hl]
    have z := PySem.W.EqTree.lists hne l1 l2 hz t
    have e : (xs.length == ys.length && (List.range xs.length).all c) = (List.range us.toArray.size).all c := by simp [hl, e1]
    rw [e]; exact z
  · have z := PySem.W.EqTree.listsLen (prog := X.prog) (w := X.w) (n := n) hne l1 l2 (by simp [e1, e2, hl])
    have e : (xs.length == ys.length && (List.range xs.length).all c) = false := by simp [hl]
    rw [e]; exact z
  · have hz : us.toArray.size = ws.toArray.size := by simp [e1, e2, hl]
    have e : (xs.length == ys.length && (List.range xs.length).all c) = (List.range us.toArray.size).all c := by simp [hl, e1]
    rw [e] at q
    exact PySem.W.eq_listsT l1 l2 hz t hu q
  · have e : (xs.length == ys.length && (List.range xs.length).all c) = false := by simp [hl]
    rw [e] at q
    exact SeqAt.RcAt.lists_lengths l1 l2 (by simp [e1, e2, hl]) (by omega) X.prog X.w E Q q
  · have hz : us.toArray.size = ws.toArray.size := by simp [e1, e2, hl]
    have e : (xs.length == ys.length && (List.range xs.length).all c) = (List.range us.toArray.size).all c := by simp [hl, e1]
    rw [e] at q
    exact SeqAt.ly_rcNeL l1 l2 hz (by omega) (fun j h1 h2 => (t j h1 h2).at A.in1 (by show A.units + 1 + _ < cLine; omega)) q
  · have e : (xs.length == ys.length && (List.range xs.length).all c) = false := by simp [hl]
    rw [e] at q
    exact SeqAt.RcNeAt.lists_lengths l1 l2 (by simp [e1, e2, hl]) (by omega) X.prog X.w E Q q
theorem tup_trees (c : Nat → Bool) (ha : SqT X.K H a xs) (hb : SqT X.K H b ys) (hl : xs.length = ys.length) (hc : ∀ (j : Nat) x y, xs[j]? = some x → ys[j]? = some y → EqS X H n x y (c j)) :
    (a ≠ b → EqS X H (n + 1) (.ref a) (.ref b) ((List.range xs.length).all c)) ∧ RcS X H (n + 1) .Eq (.ref a) (.ref b) ((List.range xs.length).all c) ∧ RcS X H (n + 1) .NotEq (.ref a) (.ref b) (!((List.range xs.length).all c)) := by
  have key : ∀ (pins : List (Addr × Obj)) (σ : L2.St) (s : Shared), Inv X pins σ H s → ∃ us ws : List Value, s.heap.IsTuple a us.toArray ∧ s.heap.IsTuple b ws.toArray ∧ us.length = xs.length ∧ ws.length = ys.length ∧
      ∀ j (h1 : j < us.toArray.size) (h2 : j < ws.toArray.size), PySem.W.EqTree X.prog X.w s n us.toArray[j] ws.toArray[j] (c j) := fun pins σ s I => by
    obtain ⟨us, r1, ⟨o, h1, h2, m, h3⟩, _⟩ := I.tuple ha
    obtain ⟨ws, r2, ⟨o2, k1, k2, m2, k3⟩, _⟩ := I.tuple hb
    refine ⟨us, ws, ⟨o, h1, h2, m, h3⟩, ⟨o2, k1, k2, m2, k3⟩, r1.length.symm, r2.length.symm, fun j h1 h2 => ?_⟩
    obtain ⟨x, ex, rx⟩ := vals_at r1 j (by simpa using h1)
    obtain ⟨y, ey, ry⟩ := vals_at r2 j (by simpa using h2)
    have z := hc j x y ex ey pins σ s _ _ I rx ry
    simpa using z
  refine ⟨fun hne pins σ s v u I rv ru => ?_, fun pins σ s v u I rv ru A hu E Q q => ?_, fun pins σ s v u I rv ru A hu E Q q => ?_⟩
  all_goals
    cases (show v = Value.ref a from rv)
    cases (show u = Value.ref b from ru)
    obtain ⟨us, ws, l1, l2, e1, e2, t⟩ := key pins σ s I
    have e : (List.range xs.length).all c = ((List.range (min us.toArray.size ws.toArray.size)).all c && us.toArray.size == ws.toArray.size) := by simp [hl, e1, e2]
  · rw [e]; exact PySem.W.EqTree.tuples hne l1 l2 t
  · rw [e] at q
    exact PySem.W.eq_tuplesT l1 l2 t hu q
  · rw [e] at q
    exact SeqAt.ly_rcNeT l1 l2 (by omega) (fun j h1 h2 => (t j h1 h2).at A.in1 (by show A.units + 1 + _ < cLine; omega)) q
theorem kv_at {κ : Type} : ∀ {ks : List (κ × V)} {vs : List (κ × Value)}, KV ks vs → ∀ {i : Nat} {k : κ} {v : Value}, vs[i]? = some (k, v) → ∃ x, ks[i]? = some (k, x) ∧ RelV x v
  | _, _, .nil, i, k, v, h => by cases h
  | p :: _, _, .cons r t, 0, k, v, h => by
    have e := Option.some.inj h
    subst e
    exact ⟨p.2, by rw [← show p.1 = k from r.1]; rfl, r.2⟩
  | _, _, .cons r t, i + 1, k, v, h => kv_at t h
theorem dict_trees {ks ls : List (Key × V)} (c : Key → Bool) (ha : Rd H a (.dK ks)) (hb : Rd H b (.dK ls)) (hc : ∀ k x y, (k, x) ∈ ks → valV ls k = some y → EqS X H n x y (c k)) :
    (a ≠ b → EqS X H (n + 1) (.ref a) (.ref b) (ks.length == ls.length && ks.all fun p => (valV ls p.1).isSome && c p.1)) ∧ RcS X H (n + 1) .Eq (.ref a) (.ref b) (ks.length == ls.length && ks.all fun p => (valV ls p.1).isSome && c p.1) ∧ RcS X H (n + 1) .NotEq (.ref a) (.ref b) (!(ks.length == ls.length && ks.all fun p => (valV ls p.1).isSome && c p.1)) := by
  have alls : ∀ {ks : List (Key × V)} {va : List (Key × Value)} {vb : List (Key × Value)}, KV ks va → KV ls vb → (va.all fun p => (valueAt vb p.1).isSome && c p.1) = (ks.all fun p => (valV ls p.1).isSome && c p.1) := by
    intro ks va vb r1 r2
    unfold KV at r1
    induction r1 with
    | nil => rfl
    | @cons p q ps qs h t k =>
      rw [List.all_cons, List.all_cons, k]
      have rr := r2.val q.1
      rw [← h.1] at rr ⊢
      congr 2
      cases e1 : valV ls p.1 with
      | none => rw [e1] at rr; rw [show valueAt vb p.1 = none from by cases e2 : valueAt vb p.1 with
          | none => rfl
          | some z => rw [e2] at rr; exact rr.elim]
                rfl
      | some z => rw [e1] at rr; obtain ⟨y, hy, _⟩ := rr.some_of; rw [hy]; rfl
  have key : ∀ (pins : List (Addr × Obj)) (σ : L2.St) (s : Shared), Inv X pins σ H s → ∃ va vb : List (Key × Value), (a == sysModules) = false ∧ (b == sysModules) = false ∧ s.heap.DictOf (mixKind X.prog X.w) a va ∧ s.heap.DictOf (mixKind X.prog X.w) b vb ∧ (ks.length == ls.length && ks.all fun p => (valV ls p.1).isSome && c p.1) = (va.length == vb.length && va.all fun p => (valueAt vb p.1).isSome && c p.1) ∧
      ∀ k v y, (k, v) ∈ va → valueAt vb k = some y → PySem.W.EqTree X.prog X.w s n v y (c k) := fun pins σ s I => by
    obtain ⟨_, ya, va, ra, da⟩ := dk_rd I.hok ha
    obtain ⟨_, yb, vb, rb, db⟩ := dk_rd I.hok hb
    refine ⟨va, vb, ya, yb, da, db, by rw [alls ra rb, ra.length, rb.length], fun k v y hm hy => ?_⟩
    obtain ⟨i, hi, e⟩ := List.getElem_of_mem hm
    obtain ⟨x, hx, rx⟩ := kv_at ra (i := i) (k := k) (v := v) (by rw [List.getElem?_eq_getElem hi, e])
    have rr := rb.val k
    rw [hy] at rr
    cases e1 : valV ls k with
    | none => rw [e1] at rr; exact rr.elim
    | some z =>
      rw [e1] at rr
      exact hc k x z (List.mem_of_getElem? hx) e1 pins σ s _ _ I rx rr
  refine ⟨fun hne pins σ s v u I rv ru => ?_, fun pins σ s v u I rv ru A hu E Q q => ?_, fun pins σ s v u I rv ru A hu E Q q => ?_⟩
  all_goals
    cases (show v = Value.ref a from rv)
    cases (show u = Value.ref b from ru)
    obtain ⟨va, vb, ya, yb, da, db, e, t⟩ := key pins σ s I
  · rw [e]; exact PySem.W.EqTree.dicts hne ya yb da db t
  · rw [e] at q
    exact PySem.W.eq_dictsT ya yb da db t hu q
  · rw [e] at q
    exact PySem.W.ly_rcNeD ya yb da db (by omega) (fun _ => PySem.W.KeqHitsIn.of _ fun k v y hm hv => (t k v y hm hv).at A.in1 (by show A.units + 1 + _ < cLine; omega)) q
end
/-! scalars -/
theorem sc_eq {α : Type} [Sc α] [DecidableEq α] [ScE α] {K : PySem.W.Frag} {F : Hp} {v : V} {x y : α} (r1 : Rp.rep K F v x) (r2 : Rp.rep K F v y) : decide (x = y) = true := by
  refine decide_eq_true ?_
  have e : Sc.toV x = Sc.toV y := r1.1.symm.trans r2.1
  have z := ScE.dec x y
  rw [decide_eq_true e] at z
  exact of_decide_eq_true z.symm
instance : EqB Int where
  eqb x y := decide (x = y)
  dep := 0
  tree _ r1 r2 := fun pins σ s v u I rv ru => by
    rw [r1.1] at rv; rw [r2.1] at ru
    obtain ⟨t, rfl⟩ := rv
    obtain ⟨t2, rfl⟩ := ru
    refine .leaf fun A _ => ?_
    rw [← Bool.beq_eq_decide_eq]
    exact SeqAt.EqAt.int_int _ t _ t2
  eq _ r1 r2 := fun pins σ s v u I rv ru A hu E Q q => by
    rw [r1.1] at rv; rw [r2.1] at ru
    obtain ⟨t, rfl⟩ := rv
    obtain ⟨t2, rfl⟩ := ru
    rw [← Bool.beq_eq_decide_eq] at q
    exact SeqAt.RcAt.int_int _ t _ t2 _ _ E Q q
  ne _ r1 r2 := fun pins σ s v u I rv ru A hu E Q q => by
    rw [r1.1] at rv; rw [r2.1] at ru
    obtain ⟨t, rfl⟩ := rv
    obtain ⟨t2, rfl⟩ := ru
    rw [← Bool.beq_eq_decide_eq] at q
    exact SeqAt.RcNeAt.int_int _ t _ t2 _ _ E Q q
  same r1 r2 := sc_eq r1 r2
instance : EqB Str where
  eqb x y := decide (x = y)
  dep := 0
  tree _ r1 r2 := fun pins σ s v u I rv ru => by
    rw [r1.1] at rv; rw [r2.1] at ru
    obtain ⟨t, rfl⟩ := rv
    obtain ⟨t2, rfl⟩ := ru
    refine .leaf fun A _ => ?_
    rw [← Bool.beq_eq_decide_eq]
    exact SeqAt.EqAt.str_str _ t _ t2
  eq _ r1 r2 := fun pins σ s v u I rv ru A hu E Q q => by
    rw [r1.1] at rv; rw [r2.1] at ru
    obtain ⟨t, rfl⟩ := rv
    obtain ⟨t2, rfl⟩ := ru
    rw [← Bool.beq_eq_decide_eq] at q
    exact SeqAt.RcAt.str_str _ t _ t2 _ _ E Q q
  ne _ r1 r2 := fun pins σ s v u I rv ru A hu E Q q => by
    rw [r1.1] at rv; rw [r2.1] at ru
    obtain ⟨t, rfl⟩ := rv
    obtain ⟨t2, rfl⟩ := ru
    rw [← Bool.beq_eq_decide_eq] at q
    exact SeqAt.RcNeAt.str_str _ t _ t2 _ _ E Q q
  same r1 r2 := sc_eq r1 r2
instance : EqB Bool where
  eqb x y := decide (x = y)
  dep := 0
  tree _ r1 r2 := fun pins σ s v u I rv ru => by
    rw [r1.1] at rv; rw [r2.1] at ru
    cases rv
    cases ru
    refine .leaf fun A _ => ?_
    rw [← Bool.beq_eq_decide_eq]
    exact SeqAt.EqAt.bool_bool _ _
  eq _ r1 r2 := fun pins σ s v u I rv ru A hu E Q q => by
    rw [r1.1] at rv; rw [r2.1] at ru
    cases rv
    cases ru
    rw [← Bool.beq_eq_decide_eq] at q
    exact SeqAt.RcAt.bool_bool _ _ _ _ E Q q
  ne _ r1 r2 := fun pins σ s v u I rv ru A hu E Q q => by
    rw [r1.1] at rv; rw [r2.1] at ru
    cases rv
    cases ru
    rw [← Bool.beq_eq_decide_eq] at q
    exact SeqAt.RcNeAt.bool_bool _ _ _ _ E Q q
  same r1 r2 := sc_eq r1 r2
/-! lists -/
section
variable {α β γ δ ε : Type}
def eqbL [Rp α] [EqB α] : List α → List α → Bool
  | [], [] => true
  | x :: xs, y :: ys => eqb x y && eqbL xs ys
  | _, _ => false
def eqAtL [Rp α] [EqB α] (xs ys : List α) (j : Nat) : Bool := match xs[j]?, ys[j]? with
  | some x, some y => eqb x y
  | _, _ => true
theorem eqbL_range [Rp α] [EqB α] : ∀ xs ys : List α, eqbL xs ys = (xs.length == ys.length && (List.range xs.length).all (eqAtL xs ys))
  | [], [] => rfl
  | [], _ :: _ => rfl
  | _ :: _, [] => rfl
  | x :: xs, y :: ys => by
    show (eqb x y && eqbL xs ys) = _
    rw [eqbL_range xs ys, List.length_cons, List.length_cons, List.range_succ_eq_map, List.all_cons, List.all_map]
    show (eqb x y && _) = (_ && (eqb x y && (List.range xs.length).all (eqAtL xs ys)))
    rw [show (xs.length + 1 == ys.length + 1) = (xs.length == ys.length) from by rw [Bool.eq_iff_iff]; simp]
    cases eqb x y <;> simp
theorem paired_get2 [Rp α] {K : PySem.W.Frag} {F : Hp} {vs : List V} {xs : List α} (r : Paired (Rp.rep K F) vs xs) {j : Nat} {v : V} (h : vs[j]? = some v) : ∃ x, xs[j]? = some x ∧ Rp.rep K F v x := by
  induction r generalizing j with
  | nil => cases h
  | cons a b ih =>
    cases j with
    | zero => cases h; exact ⟨_, rfl, a⟩
    | succ j => exact ih h
theorem eqbL_same [Rp α] [EqB α] {K : PySem.W.Frag} {F : Hp} : ∀ {vs : List V} {xs ys : List α}, Paired (Rp.rep K F) vs xs → Paired (Rp.rep K F) vs ys → eqbL xs ys = true
  | _, _, _, .nil, .nil => rfl
  | _, _, _, .cons r1 t1, .cons r2 t2 => by
    show (eqb _ _ && eqbL _ _) = true
    rw [eqbL_same t1 t2, show eqb _ _ = true from EqB.same r1 r2]; rfl
theorem Sub.refl (F : Hp) : Sub F F := fun a o h => .inl h
theorem list_same [Rp α] [EqB α] {K : PySem.W.Frag} {F : Hp} {v : V} {xs ys : List α} (r1 : Rp.rep K F v xs) (r2 : Rp.rep K F v ys) : eqbL xs ys = true := by
  obtain ⟨p, vs, e1, _, f1, p1⟩ := repL (Sub.refl F) r1
  obtain ⟨q, ws, e2, _, f2, p2⟩ := repL (Sub.refl F) r2
  subst e1
  cases e2
  rw [f1] at f2
  cases f2
  exact eqbL_same p1 p2
theorem list_eqb [Rp α] [EqB α] {X : Cx} {F H : Hp} {v w : V} {xs ys : List α} (s : Sub F H) (r1 : Rp.rep X.K F v xs) (r2 : Rp.rep X.K F w ys) :
    EqS X H (EqB.dep α + 1) v w (eqbL xs ys) ∧ RcS X H (EqB.dep α + 1) .Eq v w (eqbL xs ys) ∧ RcS X H (EqB.dep α + 1) .NotEq v w (!eqbL xs ys) := by
  obtain ⟨p, vs, e1, h1, f1, p1⟩ := repL s r1
  obtain ⟨q, ws, e2, h2, f2, p2⟩ := repL s r2
  have sm := fun e : v = w => list_same r1 (e ▸ r2)
  subst e1 e2
  have z := list_trees (X := X) (n := EqB.dep α) (eqAtL xs ys) (.inl (.inl h1)) (.inl (.inl h2)) fun j x y hx hy => by
    obtain ⟨x', ex, rx⟩ := paired_get2 p1 hx
    obtain ⟨y', ey, ry⟩ := paired_get2 p2 hy
    have e : eqAtL xs ys j = eqb x' y' := by unfold eqAtL; rw [ex, ey]
    rw [e]
    exact EqB.tree s rx ry
  rw [pairedLen p1, pairedLen p2, ← eqbL_range] at z
  refine ⟨?_, z.2.1, z.2.2⟩
  by_cases c : p = q
  · subst c
    rw [sm rfl]
    exact fun pins σ s v u I rv ru => by cases rv; cases ru; exact .same
  · exact z.1 c
instance eqbList [Rp α] [EqB α] : EqB (List α) where
  eqb := eqbL
  dep := EqB.dep α + 1
  tree s r1 r2 := (list_eqb s r1 r2).1
  eq s r1 r2 := (list_eqb s r1 r2).2.1
  ne s r1 r2 := (list_eqb s r1 r2).2.2
  same r1 r2 := list_same r1 r2
/-! tuples -/
theorem EqS.mono {X : Cx} {H : Hp} {n m : Nat} {x y : V} {b : Bool} (h : EqS X H n x y b) (hm : n ≤ m) : EqS X H m x y b := by
  have key : ∀ {P : Program} {W : World} {s : Shared} {n : Nat} {v y : Value} {b : Bool}, PySem.W.EqTree P W s n v y b → ∀ {m : Nat}, n ≤ m → PySem.W.EqTree P W s m v y b := by
    intro P W s n v y b t
    induction t with
    | leaf h => exact fun hm => .leaf fun A hu => h A (by omega)
    | same => exact fun _ => .same
    | lists a1 a2 a3 a4 _ ih =>
      intro m hm
      obtain ⟨k, rfl⟩ : ∃ k, m = k + 1 := ⟨m - 1, by omega⟩
      exact .lists a1 a2 a3 a4 fun j h1 h2 => ih j h1 h2 (by omega)
    | listsLen a1 a2 a3 a4 =>
      intro m hm
      obtain ⟨k, rfl⟩ : ∃ k, m = k + 1 := ⟨m - 1, by omega⟩
      exact .listsLen a1 a2 a3 a4
    | tuples a1 a2 a3 _ ih =>
      intro m hm
      obtain ⟨k, rfl⟩ : ∃ k, m = k + 1 := ⟨m - 1, by omega⟩
      exact .tuples a1 a2 a3 fun j h1 h2 => ih j h1 h2 (by omega)
    | dicts a1 a2 a3 a4 a5 _ ih =>
      intro m hm
      obtain ⟨k, rfl⟩ : ∃ k, m = k + 1 := ⟨m - 1, by omega⟩
      exact .dicts a1 a2 a3 a4 a5 fun j h1 h2 h3 h4 => ih j h1 h2 h3 h4 (by omega)
  exact fun pins σ s v u I rv ru => key (h pins σ s v u I rv ru) hm
theorem tup_core {X : Cx} {H : Hp} {n : Nat} {a b : Addr} {xs ys : List V} {bs : List Bool} (ha : H a = some (.tup xs)) (hb : H b = some (.tup ys)) (l1 : xs.length = bs.length) (l2 : ys.length = bs.length) (hs : a = b → bs.all id = true)
    (hc : ∀ (j : Nat) x y c, xs[j]? = some x → ys[j]? = some y → bs[j]? = some c → EqS X H n x y c) : EqS X H (n + 1) (.ref a) (.ref b) (bs.all id) ∧ RcS X H (n + 1) .Eq (.ref a) (.ref b) (bs.all id) ∧ RcS X H (n + 1) .NotEq (.ref a) (.ref b) (!bs.all id) := by
  have z := tup_trees (X := X) (H := H) (n := n) (a := a) (b := b) (fun j => bs.getD j false) (.inl (.inl ha)) (.inl (.inl hb)) (by omega) fun j x y hx hy => by
    have hj : j < bs.length := by have := get_lt hx; omega
    exact hc j x y _ hx hy (by rw [List.getD_eq_getElem?_getD, List.getElem?_eq_getElem hj]; rfl)
  rw [l1, L2.all_range] at z
  refine ⟨?_, z.2⟩
  by_cases c : a = b
  · rw [hs c]
    subst c
    exact fun pins σ s v u I rv ru => by cases rv; cases ru; exact .same
  · exact z.1 c
theorem tupR {F H : Hp} {p : Addr} {l : List V} (s : Sub F H) (h : F p = some (.tup l)) : H p = some (.tup l) := (s p _ h).nd fun z => z
theorem pair_same [Rp α] [EqB α] [Rp β] [EqB β] {K : PySem.W.Frag} {F : Hp} {v : V} {x y : α × β} (r1 : Rp.rep K F v x) (r2 : Rp.rep K F v y) : [eqb x.1 y.1, eqb x.2 y.2].all id = true := by
  obtain ⟨p, o, e1, f1, a, b, eo, ra, rb⟩ := r1
  obtain ⟨q, o2, e2, f2, a2, b2, eo2, ra2, rb2⟩ := r2
  subst e1 eo eo2
  cases e2
  rw [f1] at f2
  cases f2
  simp [show eqb x.1 y.1 = true from EqB.same ra ra2, show eqb x.2 y.2 = true from EqB.same rb rb2]
theorem pair_eqb [Rp α] [EqB α] [Rp β] [EqB β] {X : Cx} {F H : Hp} {v w : V} {x y : α × β} (s : Sub F H) (r1 : Rp.rep X.K F v x) (r2 : Rp.rep X.K F w y) :
    EqS X H (max (EqB.dep α) (EqB.dep β) + 1) v w ([eqb x.1 y.1, eqb x.2 y.2].all id) ∧ RcS X H (max (EqB.dep α) (EqB.dep β) + 1) .Eq v w ([eqb x.1 y.1, eqb x.2 y.2].all id) ∧ RcS X H (max (EqB.dep α) (EqB.dep β) + 1) .NotEq v w (![eqb x.1 y.1, eqb x.2 y.2].all id) := by
  have sm := fun e : v = w => pair_same r1 (e ▸ r2)
  obtain ⟨p, o, e1, f1, a, b, eo, ra, rb⟩ := r1
  obtain ⟨q, o2, e2, f2, a2, b2, eo2, ra2, rb2⟩ := r2
  subst e1 eo e2 eo2
  refine tup_core (tupR s f1) (tupR s f2) rfl rfl (fun e => sm (by rw [e])) fun j u w c hu hw hc => ?_
  match j, hu, hw, hc with
  | 0, hu, hw, hc => cases hu; cases hw; cases hc; exact (EqB.tree s ra ra2).mono (by omega)
  | 1, hu, hw, hc => cases hu; cases hw; cases hc; exact (EqB.tree s rb rb2).mono (by omega)
instance eqbPair [Rp α] [EqB α] [Rp β] [EqB β] : EqB (α × β) where
  eqb x y := [eqb x.1 y.1, eqb x.2 y.2].all id
  dep := max (EqB.dep α) (EqB.dep β) + 1
  tree s r1 r2 := (pair_eqb s r1 r2).1
  eq s r1 r2 := (pair_eqb s r1 r2).2.1
  ne s r1 r2 := (pair_eqb s r1 r2).2.2
  same r1 r2 := pair_same r1 r2
theorem tp3_same [Rp α] [EqB α] [Rp β] [EqB β] [Rp γ] [EqB γ] {K : PySem.W.Frag} {F : Hp} {v : V} {x y : Tp3 α β γ} (r1 : Rp.rep K F v x) (r2 : Rp.rep K F v y) : [eqb x.a y.a, eqb x.b y.b, eqb x.c y.c].all id = true := by
  obtain ⟨p, o, e1, f1, a, b, c, eo, ra, rb, rc⟩ := r1
  obtain ⟨q, o2, e2, f2, a2, b2, c2, eo2, ra2, rb2, rc2⟩ := r2
  subst e1 eo eo2
  cases e2
  rw [f1] at f2
  cases f2
  simp [show eqb x.a y.a = true from EqB.same ra ra2, show eqb x.b y.b = true from EqB.same rb rb2, show eqb x.c y.c = true from EqB.same rc rc2]
theorem tp3_eqb [Rp α] [EqB α] [Rp β] [EqB β] [Rp γ] [EqB γ] {X : Cx} {F H : Hp} {v w : V} {x y : Tp3 α β γ} (s : Sub F H) (r1 : Rp.rep X.K F v x) (r2 : Rp.rep X.K F w y) :
    EqS X H (max (EqB.dep α) (max (EqB.dep β) (EqB.dep γ)) + 1) v w ([eqb x.a y.a, eqb x.b y.b, eqb x.c y.c].all id) ∧ RcS X H (max (EqB.dep α) (max (EqB.dep β) (EqB.dep γ)) + 1) .Eq v w ([eqb x.a y.a, eqb x.b y.b, eqb x.c y.c].all id) ∧ RcS X H (max (EqB.dep α) (max (EqB.dep β) (EqB.dep γ)) + 1) .NotEq v w (![eqb x.a y.a, eqb x.b y.b, eqb x.c y.c].all id) := by
  have sm := fun e : v = w => tp3_same r1 (e ▸ r2)
  obtain ⟨p, o, e1, f1, a, b, c, eo, ra, rb, rc⟩ := r1
  obtain ⟨q, o2, e2, f2, a2, b2, c2, eo2, ra2, rb2, rc2⟩ := r2
  subst e1 eo e2 eo2
  refine tup_core (tupR s f1) (tupR s f2) rfl rfl (fun e => sm (by rw [e])) fun j u w c hu hw hc => ?_
  match j, hu, hw, hc with
  | 0, hu, hw, hc => cases hu; cases hw; cases hc; exact (EqB.tree s ra ra2).mono (by omega)
  | 1, hu, hw, hc => cases hu; cases hw; cases hc; exact (EqB.tree s rb rb2).mono (by omega)
  | 2, hu, hw, hc => cases hu; cases hw; cases hc; exact (EqB.tree s rc rc2).mono (by omega)
instance eqbTp3 [Rp α] [EqB α] [Rp β] [EqB β] [Rp γ] [EqB γ] : EqB (Tp3 α β γ) where
  eqb x y := [eqb x.a y.a, eqb x.b y.b, eqb x.c y.c].all id
  dep := max (EqB.dep α) (max (EqB.dep β) (EqB.dep γ)) + 1
  tree s r1 r2 := (tp3_eqb s r1 r2).1
  eq s r1 r2 := (tp3_eqb s r1 r2).2.1
  ne s r1 r2 := (tp3_eqb s r1 r2).2.2
  same r1 r2 := tp3_same r1 r2
end
/-! dicts -/
section
variable {κ α : Type} [Sc κ] [Ky κ] [DecidableEq κ] [Rp α] [EqB α]
/-- the same keys, the same values -/
def eqbD (d e : Dct κ α) : Bool := d.l.length == e.l.length && d.l.all fun p => match look e.l p.1 with
  | some y => eqb p.2 y
  | none => false
def eqKey (d e : List (κ × α)) (k : Key) : Bool := match d.find? (fun p => decide (Ky.key p.1 = k)), e.find? (fun p => decide (Ky.key p.1 = k)) with
  | some p, some q => eqb p.2 q.2
  | _, _ => true
theorem find_key {l : List (κ × α)} (k : κ) : (l.find? fun p => decide ((Ky.key p.1 : Key) = Ky.key k)) = l.find? fun p => decide (p.1 = k) := by
  congr 1
  funext p
  by_cases c : p.1 = k
  · rw [c]; simp
  · rw [decide_eq_false c, decide_eq_false fun e => c (Ky.inj _ _ e)]
theorem dct_same {K : PySem.W.Frag} {F : Hp} {v : V} {x y : Dct κ α} (r1 : Rp.rep K F v x) (r2 : Rp.rep K F v y) : eqbD x y = true := by
  obtain ⟨p, ks, e1, f1, _, z1, n1, p1⟩ := repD (Sub.refl F) r1
  obtain ⟨q, ls, e2, f2, _, z2, n2, p2⟩ := repD (Sub.refl F) r2
  subst e1
  cases e2
  rw [f1] at f2
  cases f2
  have hl : x.l.length = y.l.length := by rw [← pairedLen p1, ← pairedLen p2]
  unfold eqbD
  rw [hl, beq_self_eq_true, Bool.true_and, List.all_eq_true]
  intro r hr
  obtain ⟨i, hi, e⟩ := List.getElem_of_mem hr
  obtain ⟨kv, h3, d1⟩ := pairedGet p1 (i := i) (y := r) (by rw [List.getElem?_eq_getElem hi, e])
  have h4 : i < y.l.length := by omega
  obtain ⟨kv2, h5, d2⟩ := pairedGet p2 (i := i) (y := y.l[i]) (List.getElem?_eq_getElem h4)
  rw [h3] at h5
  cases h5
  have ek : r.1 = (y.l[i]).1 := Ky.inj _ _ (d1.1.symm.trans d2.1)
  have lk : look y.l r.1 = some (y.l[i]).2 := by
    rw [ek]
    exact look_of_mem n2 (List.getElem_mem h4)
  rw [lk]
  exact EqB.same d1.2.2 d2.2.2
theorem dct_eqb {X : Cx} {F H : Hp} {v w : V} {x y : Dct κ α} (s : Sub F H) (r1 : Rp.rep X.K F v x) (r2 : Rp.rep X.K F w y) :
    EqS X H (EqB.dep α + 1) v w (eqbD x y) ∧ RcS X H (EqB.dep α + 1) .Eq v w (eqbD x y) ∧ RcS X H (EqB.dep α + 1) .NotEq v w (!eqbD x y) := by
  have sm := fun e : v = w => dct_same r1 (e ▸ r2)
  obtain ⟨p, ks, e1, f1, h1, z1, n1, p1⟩ := repD s r1
  obtain ⟨q, ls, e2, f2, h2, z2, n2, p2⟩ := repD s r2
  subst e1 e2
  have z := dict_trees (X := X) (n := EqB.dep α) (eqKey x.l y.l) h1 h2 fun k u u2 hm hv => by
    obtain ⟨i, hi, e⟩ := List.getElem_of_mem hm
    have hx : i < x.l.length := by rw [← pairedLen p1]; exact hi
    obtain ⟨kv, h3, d1⟩ := pairedGet p1 (i := i) (y := x.l[i]) (List.getElem?_eq_getElem hx)
    rw [List.getElem?_eq_getElem hi, e] at h3
    cases h3
    have k1 : k = Ky.key (x.l[i]).1 := d1.1
    subst k1
    rcases dr_look p2 (x.l[i]).1 with ⟨v', y', g1, g2, g3⟩ | ⟨g1, g2⟩
    · rw [hv] at g1
      cases g1
      have e3 : eqKey x.l y.l (Ky.key (x.l[i]).1) = eqb (x.l[i]).2 y' := by
        unfold eqKey
        rw [find_key, find_key]
        have a1 : look x.l (x.l[i]).1 = some (x.l[i]).2 := look_of_mem n1 (List.getElem_mem hx)
        unfold look at a1 g2
        cases q1 : x.l.find? fun p => decide (p.1 = (x.l[i]).1) with
        | none => rw [q1] at a1; cases a1
        | some w1 =>
          cases q2 : y.l.find? fun p => decide (p.1 = (x.l[i]).1) with
          | none => rw [q2] at g2; cases g2
          | some w2 =>
            rw [q1] at a1
            rw [q2] at g2
            have b1 : w1.2 = (x.l[i]).2 := Option.some.inj a1
            have b2 : w2.2 = y' := Option.some.inj g2
            show eqb w1.2 w2.2 = _
            rw [b1, b2]
      rw [e3]
      exact EqB.tree s d1.2.2 g3
    · rw [hv] at g1; cases g1
  have e : (ks.length == ls.length && ks.all fun p => (valV ls p.1).isSome && eqKey x.l y.l p.1) = eqbD x y := by
    have key : ∀ {ks : List (Key × V)} {l : List (κ × α)}, Paired (DR X.K F) ks l → (∀ r ∈ l, look x.l r.1 = some r.2) → (ks.all fun p => (valV ls p.1).isSome && eqKey x.l y.l p.1) = l.all fun p => match look y.l p.1 with
        | some y => eqb p.2 y
        | none => false := by
      intro ks l r
      induction r with
      | nil => intro _; rfl
      | @cons a b as bs d t ih =>
        intro hl
        rw [List.all_cons, List.all_cons, ih fun r hr => hl r (List.mem_cons_of_mem _ hr)]
        congr 1
        have a1 := hl b List.mem_cons_self
        rcases dr_look p2 b.1 with ⟨v', y', g1, g2, g3⟩ | ⟨g1, g2⟩
        · have d0 : a.1 = Ky.key b.1 := d.1
          rw [d0, g1, g2]
          unfold eqKey
          rw [find_key, find_key]
          unfold look at a1 g2
          cases q1 : x.l.find? fun p => decide (p.1 = b.1) with
          | none => rw [q1] at a1; cases a1
          | some w1 =>
            cases q2 : y.l.find? fun p => decide (p.1 = b.1) with
            | none => rw [q2] at g2; cases g2
            | some w2 =>
              rw [q1] at a1
              rw [q2] at g2
              have b1 : w1.2 = b.2 := Option.some.inj a1
              have b2 : w2.2 = y' := Option.some.inj g2
              show (true && eqb w1.2 w2.2) = _
              rw [b1, b2]; rfl
        · have d0 : a.1 = Ky.key b.1 := d.1
          rw [d0, g1, g2]; rfl
    unfold eqbD
    rw [pairedLen p1, pairedLen p2, key p1 fun r hr => look_of_mem n1 hr]
  rw [e] at z
  refine ⟨?_, z.2.1, z.2.2⟩
  by_cases c : p = q
  · subst c
    rw [sm rfl]
    exact fun pins σ s v u I rv ru => by cases rv; cases ru; exact .same
  · exact z.1 c
instance eqbDct : EqB (Dct κ α) where
  eqb := eqbD
  dep := EqB.dep α + 1
  tree s r1 r2 := (dct_eqb s r1 r2).1
  eq s r1 r2 := (dct_eqb s r1 r2).2.1
  ne s r1 r2 := (dct_eqb s r1 r2).2.2
  same r1 r2 := dct_same r1 r2
end
/-! the rules -/
section
variable {X : Cx} {es : List En} {a b : Expr} {pos : Pos} {α : Type}
def rEqS (X : Cx) (op : CmpOp) : R2 := fun x y H Q => ∃ n c, n ≤ 64 ∧ RcS X H n op x y c ∧ Q (.bl c) H
variable [Rp α] [EqB α] {x y : α}
end
end Ly
/-! dict(reversed(xs)) of a list of pairs -/
namespace LyR
open PySem PySem.Calls PyProof.Rows
abbrev RI : String := "list_reverseiterator"
abbrev special : List Str := ["__module__", "__name__", "__qualname__", "__doc__", "__annotations__"]
/-- the iterator at I that goes back over the list at l, whose items are the pairs ps -/
structure Back (I l : Addr) (items : Array Value) (Ts : Nat → Addr) (ps : List (Value × Value)) (h : Heap) : Prop where
  it : h.get? I = some (revObj l ((items.size : Int) - 1))
  ls : h.IsList l items
  pi : PairItems h items Ts ps
end LyR
namespace Ly
open PySem PySem.Spec PyProof.Rows L2
def tDictRev (K : PySem.W.Frag) (te : TE) : TE := fun σ H Q => te σ H fun v H1 => ∃ (a : Addr) (ps : List Addr) (kvs : List (Key × V)), v = .ref a ∧ SqL K H1 a (ps.map V.ref) ∧ Paired (fun p kv => SqT K H1 p [kV kv.1, kv.2]) ps kvs ∧ ∀ q, H1 q = none → Q (.ref q) (upd H1 q (.dK (mergeK [] kvs.reverse)))
section
variable {X : Cx}
/-! merging pairs whose keys are unlike -/
theorem dr_keys {κ α : Type} [Sc κ] [Ky κ] [Rp α] {K : PySem.W.Frag} {F : Hp} {ks : List (Key × V)} {l : List (κ × α)} (r : Paired (DR K F) ks l) : ks.map (·.1) = (l.map (·.1)).map Ky.key := by
  induction r with
  | nil => rfl
  | cons h t ih => rw [List.map_cons, List.map_cons, List.map_cons, ih, h.1]
end
end Ly
/-! sorted: of lists, of dicts, either way round; ints, texts, tuples of ints and texts -/
namespace LyS
open PySem PyProof.Rows Srt SrtO
/-! orders -/
structure TO {α : Type} (lt : α → α → Bool) : Prop where
  irr : ∀ x, lt x x = false
  tra : ∀ x y z, lt x y = true → lt y z = true → lt x z = true
  tot : ∀ x y, lt x y = false → lt y x = false → x = y
theorem TO.asym {α : Type} {lt : α → α → Bool} (O : TO lt) {x y : α} (h : lt x y = true) : lt y x = false := by
  cases q : lt y x with
  | false => rfl
  | true =>
    have z := O.tra x y x h q
    rw [O.irr] at z; cases z
theorem TO.swo {α β : Type} {lt : α → α → Bool} (O : TO lt) (f : β → α) : Swo fun x y => lt (f x) (f y) := by
  refine ⟨fun x y h => O.asym h, fun x y z h1 h2 => ?_⟩
  cases q : lt (f z) (f x) with
  | false => rfl
  | true =>
    cases q2 : lt (f x) (f y) with
    | false =>
      have e := O.tot _ _ q2 h1
      rw [e] at q
      rw [h2] at q; cases q
    | true =>
      have z := O.tra _ _ _ q q2
      rw [h2] at z; cases z
/-- what is sorted twice is one -/
theorem srt_one {α : Type} {lt : α → α → Bool} (O : TO lt) : ∀ {l m : List α}, Srtd lt l → Srtd lt m → l.Perm m → l = m
  | [], m, _, _, p => (List.Perm.eq_nil p.symm).symm
  | x :: l, [], _, _, p => absurd p.length_eq (by simp)
  | x :: l, y :: m, hl, hm, p => by
    have h1 : lt x y = false := by
      rcases List.mem_cons.mp (p.mem_iff.mp (List.mem_cons_self (a := x) (l := l))) with e | hx
      · rw [e]; exact O.irr y
      · exact srtd_head hm x hx
    have h2 : lt y x = false := by
      rcases List.mem_cons.mp (p.mem_iff.mpr (List.mem_cons_self (a := y) (l := m))) with e | hy
      · rw [e]; exact O.irr x
      · exact srtd_head hl y hy
    have e := O.tot _ _ h1 h2
    subst e
    rw [srt_one O (List.pairwise_cons.mp hl).2 (List.pairwise_cons.mp hm).2 p.cons_inv]
def ins {α : Type} (lt : α → α → Bool) (x : α) : List α → List α
  | [] => [x]
  | y :: l => bif lt y x then y :: ins lt x l else x :: y :: l
def srt {α : Type} (lt : α → α → Bool) : List α → List α
  | [] => []
  | x :: l => ins lt x (srt lt l)
theorem ins_perm {α : Type} (lt : α → α → Bool) (x : α) : ∀ l : List α, (ins lt x l).Perm (x :: l)
  | [] => List.Perm.refl _
  | y :: l => by
    unfold ins
    cases lt y x with
    | true => exact ((ins_perm lt x l).cons y).trans (List.Perm.swap x y l)
    | false => exact List.Perm.refl _
theorem srt_perm {α : Type} (lt : α → α → Bool) : ∀ l : List α, (srt lt l).Perm l
  | [] => List.Perm.refl _
  | x :: l => (ins_perm lt x _).trans ((srt_perm lt l).cons x)
theorem ins_srtd {α : Type} {lt : α → α → Bool} (O : Swo lt) (x : α) : ∀ {l : List α}, Srtd lt l → Srtd lt (ins lt x l)
  | [], _ => srtd_one x
  | y :: l, h => by
    obtain ⟨h1, h2⟩ := List.pairwise_cons.mp h
    unfold ins
    cases q : lt y x with
    | true =>
      refine List.pairwise_cons.mpr ⟨fun z hz => ?_, ins_srtd O x h2⟩
      rcases List.mem_cons.mp ((ins_perm lt x l).mem_iff.mp hz) with e | hz
      · rw [e]; exact O.asym _ _ q
      · exact h1 z hz
    | false =>
      refine List.pairwise_cons.mpr ⟨fun z hz => ?_, h⟩
      rcases List.mem_cons.mp hz with e | hz
      · rw [e]; exact q
      · exact O.tr _ _ _ q (h1 z hz)
theorem srt_srtd {α : Type} {lt : α → α → Bool} (O : Swo lt) : ∀ l : List α, Srtd lt (srt lt l)
  | [] => List.Pairwise.nil
  | x :: l => ins_srtd O x (srt_srtd O l)
/-- an int or a text -/
inductive Sca where
  | i (n : Int)
  | s (z : Str)
  deriving DecidableEq
def ltN (a b : List Nat) : Bool := decide (a < b)
theorem toN : TO ltN := by
  refine ⟨fun x => decide_eq_false (List.lt_irrefl x), fun x y z h1 h2 => decide_eq_true (List.lt_trans (of_decide_eq_true h1) (of_decide_eq_true h2)), fun x y h1 h2 => ?_⟩
  exact List.le_antisymm (List.not_lt.mp (of_decide_eq_false h2)) (List.not_lt.mp (of_decide_eq_false h1))
def Sca.lt : Sca → Sca → Bool
  | .i a, .i b => decide (a < b)
  | .s a, .s b => decide (a.cps.toList < b.cps.toList)
  | .i _, .s _ => true
  | .s _, .i _ => false
theorem str_ext {a b : Str} (h : a.cps.toList = b.cps.toList) : a = b := by
  obtain ⟨⟨x⟩⟩ := a
  obtain ⟨⟨y⟩⟩ := b
  cases h; rfl
theorem toSca : TO Sca.lt := by
  refine ⟨fun x => ?_, fun x y z h1 h2 => ?_, fun x y h1 h2 => ?_⟩
  · cases x with
    | i a => exact decide_eq_false (Int.lt_irrefl a)
    | s a => exact toN.irr _
  · cases x <;> cases y <;> cases z <;> first
      | rfl
      | (cases h1; done)
      | (cases h2; done)
      | exact decide_eq_true (Int.lt_trans (of_decide_eq_true h1) (of_decide_eq_true h2))
      | exact toN.tra _ _ _ h1 h2
  · cases x <;> cases y <;> first
      | (cases h1; done)
      | (cases h2; done)
      | (have a := of_decide_eq_false h1
         have b := of_decide_eq_false h2
         congr 1; omega)
      | (congr 1; exact str_ext (toN.tot _ _ h1 h2))
def lexS : List Sca → List Sca → Bool
  | [], [] => false
  | [], _ :: _ => true
  | _ :: _, [] => false
  | x :: xs, y :: ys => if x = y then lexS xs ys else Sca.lt x y
theorem toLex : TO lexS := by
  refine ⟨fun x => ?_, fun x => ?_, fun x => ?_⟩
  · induction x with
    | nil => rfl
    | cons a x ih => unfold lexS; rw [if_pos rfl]; exact ih
  · induction x with
    | nil =>
      intro y z h1 h2
      cases y with
      | nil => cases h1
      | cons b y =>
        cases z with
        | nil => cases h2
        | cons c z => rfl
    | cons a x ih =>
      intro y z h1 h2
      cases y with
      | nil => cases h1
      | cons b y =>
        cases z with
        | nil => cases h2
        | cons c z =>
          unfold lexS at h1 h2 ⊢
          by_cases e1 : a = b
          · subst e1
            rw [if_pos rfl] at h1
            by_cases e2 : a = c
            · subst e2
              rw [if_pos rfl] at h2 ⊢
              exact ih y z h1 h2
            · rw [if_neg e2] at h2 ⊢
              exact h2
          · rw [if_neg e1] at h1
            by_cases e2 : b = c
            · subst e2
              rw [if_neg e1]
              exact h1
            · rw [if_neg e2] at h2
              have t := toSca.tra _ _ _ h1 h2
              have ne : ¬ a = c := fun e => by rw [e, toSca.irr] at t; cases t
              rw [if_neg ne]; exact t
  · induction x with
    | nil =>
      intro y h1 h2
      cases y with
      | nil => rfl
      | cons b y => cases h1
    | cons a x ih =>
      intro y h1 h2
      cases y with
      | nil => cases h2
      | cons b y =>
        unfold lexS at h1 h2
        by_cases e : a = b
        · subst e
          rw [if_pos rfl] at h1 h2
          rw [ih y h1 h2]
        · rw [if_neg e] at h1
          rw [if_neg (Ne.symm e)] at h2
          exact absurd (toSca.tot _ _ h1 h2) e
/-! values -/
def scOf : Value → Sca
  | .int n _ => .i n
  | .str z _ => .s z
  | _ => .i 0
def IsSc (v : Value) (c : Sca) : Prop := match c with
  | .i n => ∃ t, v = .int n t
  | .s z => ∃ t, v = .str z t
theorem IsSc.of {v : Value} {c : Sca} (h : IsSc v c) : scOf v = c := by
  cases c with
  | i n => obtain ⟨t, e⟩ := h; rw [e]; rfl
  | s z => obtain ⟨t, e⟩ := h; rw [e]; rfl
def Sca.isS : Sca → Bool
  | .i _ => false
  | .s _ => true
section
variable {pr : Program} {ww : World} {A : Around} {E : Value → Shared → Prop} {s : Shared}
theorem sc_eqIn {v u : Value} {c d : Sca} (hv : IsSc v c) (hu : IsSc u d) (hk : c.isS = d.isS) : SeqAt.EqAt A s v u (decide (c = d)) := by
  cases c with
  | i n =>
    cases d with
    | i m =>
      obtain ⟨t, rfl⟩ := hv
      obtain ⟨t2, rfl⟩ := hu
      have z := SeqAt.EqAt.int_int (A := A) (s := s) n t m t2
      rw [show decide (Sca.i n = Sca.i m) = (n == m) from by rw [Bool.beq_eq_decide_eq]; simp]
      exact z
    | s w => cases hk
  | s w =>
    cases d with
    | i m => cases hk
    | s w2 =>
      obtain ⟨t, rfl⟩ := hv
      obtain ⟨t2, rfl⟩ := hu
      have z := SeqAt.EqAt.str_str (A := A) (s := s) w t w2 t2
      rw [show decide (Sca.s w = Sca.s w2) = (w == w2) from by rw [Bool.beq_eq_decide_eq]; simp]
      exact z
theorem sc_lt {f : Bool} {v u : Value} {c d : Sca} {Q : Bool → Shared → Prop} (hv : IsSc v c) (hu : IsSc u d) (hk : c.isS = d.isS) (h : Q (Sca.lt c d) s) : wpAny (model pr ww) A (oneLt' f v u) Q E s := by
  cases c with
  | i n =>
    cases d with
    | i m =>
      obtain ⟨t, rfl⟩ := hv
      obtain ⟨t2, rfl⟩ := hu
      exact oneLt_any_int h
    | s w => cases hk
  | s w =>
    cases d with
    | i m => cases hk
    | s w2 =>
      obtain ⟨t, rfl⟩ := hv
      obtain ⟨t2, rfl⟩ := hu
      exact oneLt_any_str h
theorem lex_walk {b : Bool} {Q : Bool → Shared → Prop} : ∀ {vs us : List Value} {cs ds : List Sca}, Paired IsSc vs cs → Paired IsSc us ds → cs.map Sca.isS = ds.map Sca.isS → ∀ i, Q (lexS cs ds) s → PySem.W.KatLex pr ww A b false Q (vs.zip us) i s
  | _, _, _, _, .nil, .nil, _, i, h => PySem.W.kat_nil h
  | _, _, _, _, .nil, .cons _ _, hk, i, h => by cases hk
  | _, _, _, _, .cons _ _, .nil, hk, i, h => by cases hk
  | v :: vs, u :: us, c :: cs, d :: ds, .cons h1 t1, .cons h2 t2, hk, i, h => by
    rw [List.map_cons, List.map_cons] at hk
    have k1 := (List.cons.inj hk).1
    have k2 := (List.cons.inj hk).2
    refine PySem.W.kat_cons (sc_eqIn h1 h2 k1 pr ww _ _ ?_)
    unfold lexS at h
    refine PySem.W.kat_go (fun e => ?_) (fun e => ?_)
    · rw [if_pos (of_decide_eq_true e)] at h
      exact PySem.W.kat_yes (lex_walk t1 t2 k2 (i + 1) h)
    · rw [if_neg (of_decide_eq_false e)] at h
      exact PySem.W.kat_no (sc_lt h1 h2 k1 h)
/-- a tuple of ints and texts -/
def IsTu (h : Heap) (v : Value) (cs : List Sca) : Prop := ∃ a o xs n, v = .ref a ∧ h.get? a = some o ∧ o.cls = .type "tuple" ∧ o.data = .seq xs n ∧ Paired IsSc xs.toList cs
def tuOf (h : Heap) : Value → List Sca
  | .ref a => match h.get? a with
    | some o => match o.data with
      | .seq xs _ => xs.toList.map scOf
      | _ => []
    | none => []
  | _ => []
theorem scs_of : ∀ {vs : List Value} {cs : List Sca}, Paired IsSc vs cs → vs.map scOf = cs
  | _, _, .nil => rfl
  | _, _, .cons h t => by rw [List.map_cons, h.of, scs_of t]
theorem IsTu.of {h : Heap} {v : Value} {cs : List Sca} (t : IsTu h v cs) : tuOf h v = cs := by
  obtain ⟨a, o, xs, n, rfl, h1, h2, h3, h4⟩ := t
  show (match h.get? a with
    | some o => match o.data with
      | .seq xs _ => xs.toList.map scOf
      | _ => []
    | none => []) = cs
  rw [h1]
  show (match o.data with
      | .seq xs _ => xs.toList.map scOf
      | _ => []) = cs
  rw [h3]
  exact scs_of h4
theorem tu_cmp {h : Heap} {vs : List Value} {sh : List Bool} {b : Bool} (hv : ∀ v ∈ vs, ∃ cs, IsTu h v cs ∧ cs.map Sca.isS = sh) (hh : ∀ v ∈ vs, ∀ cs, IsTu h v cs → IsTu s.heap v cs) : Cmp pr ww A s (tuples' b) (fun p => p.1 ∈ vs) (lt2 fun v u => lexS (tuOf h v) (tuOf h u)) := by
  intro p q hm hm'
  obtain ⟨cs, t1, k1⟩ := hv _ hm
  obtain ⟨ds, t2, k2⟩ := hv _ hm'
  show wpAny (model pr ww) A (keyLt' (tuples' b) p.1 q.1) (fun r s' => s' = s ∧ r = lexS (tuOf h p.1) (tuOf h q.1)) (fun _ _ => False) s
  rw [t1.of, t2.of]
  obtain ⟨a, o, xs, n, e, h1, h2, h3, h4⟩ := hh _ hm _ t1
  obtain ⟨a2, o2, xs2, n2, e2, g1, g2, g3, g4⟩ := hh _ hm' _ t2
  rw [e, e2]
  have hl : xs.size = xs2.size := by
    have l1 := Paired.length h4
    have l2 := Paired.length g4
    have l3 := congrArg List.length (k1.trans k2.symm)
    rw [List.length_map, List.length_map] at l3
    rw [Array.length_toList] at l1 l2
    omega
  refine PySem.W.kat_lt h1 h3 g1 g3 ?_
  rw [show decide (xs.size < xs2.size) = false from decide_eq_false (by omega)]
  exact lex_walk h4 g4 (k1.trans k2.symm) 0 ⟨rfl, rfl⟩
theorem tu_firsts {h : Heap} : ∀ {vs : List Value} {sh : Bool} {r : List Bool}, (∀ v ∈ vs, ∃ cs, IsTu h v cs ∧ cs.map Sca.isS = sh :: r) → ∃ fs, PySem.W.KatTups h vs fs ∧ fs.length = vs.length ∧ ∀ f ∈ fs, ∃ c : Sca, IsSc f c ∧ c.isS = sh
  | [], _, _, _ => ⟨[], PySem.W.KatTups.nil, rfl, fun f hf => by cases hf⟩
  | v :: vs, sh, r, hv => by
    obtain ⟨fs, k1, k2, k3⟩ := tu_firsts (vs := vs) fun u hu => hv u (List.mem_cons_of_mem _ hu)
    obtain ⟨cs, ⟨a, o, xs, n, e, h1, h2, h3, h4⟩, hk⟩ := hv v List.mem_cons_self
    subst e
    obtain ⟨xl⟩ := xs
    cases h4 with
    | nil => cases hk
    | @cons x c xl cl hx ht =>
      refine ⟨x :: fs, PySem.W.KatTups.cons h1 h2 h3 (by simp) k1, by simp [k2], fun f hf => ?_⟩
      rcases List.mem_cons.mp hf with e | hf
      · rw [e]; exact ⟨c, hx, (List.cons.inj hk).1⟩
      · exact k3 f hf
theorem tu_sortable {a : Addr} {vs : List Value} {sh : Bool} {r : List Bool} (h0 : 0 < vs.length) (hv : ∀ v ∈ vs, ∃ cs, IsTu s.heap v cs ∧ cs.map Sca.isS = sh :: r) (ha : ∀ o, s.heap.get? a = some o → o.cls ≠ .type "tuple") (H0 : Heap) (hH : ∀ v ∈ vs, ∀ cs, IsTu H0 v cs ↔ IsTu s.heap v cs) :
    SortableO pr ww A s a vs fun v u => lexS (tuOf H0 v) (tuOf H0 u) := by
  intro h' keep
  have up : ∀ v cs, IsTu s.heap v cs → IsTu h' v cs := fun v cs t => by
    obtain ⟨b, o, xs, n, e, h1, h2, h3, h4⟩ := t
    exact ⟨b, o, xs, n, e, keep b o (fun z => by subst z; exact ha o h1 h2) h1, h2, h3, h4⟩
  obtain ⟨fs, k1, k2, k3⟩ := tu_firsts (h := h') fun v hm => let ⟨cs, t, k⟩ := hv v hm; ⟨cs, up _ _ t, k⟩
  refine ⟨tuples' true, fun Q E hq => ?_, tu_cmp (s := { s with heap := h' }) (sh := sh :: r) (fun v hm => let ⟨cs, t, k⟩ := hv v hm; ⟨cs, (hH v hm cs).mpr t, k⟩) fun v hm cs t => up _ _ ((hH v hm cs).mp t)⟩
  cases sh with
  | false =>
    refine PySem.W.kat_kind (T := .type "int") k1 (by omega) (fun f hm => ?_) (by rfl) ?_
    · obtain ⟨c, hc, e⟩ := k3 f hm
      cases c with
      | i n => obtain ⟨t, rfl⟩ := hc; exact PySem.W.Looks.now
      | s z => cases e
    · rw [show (Value.type "int" != Value.type "tuple") = true from by first | decide +kernel | rfl | decide]
      exact hq
  | true =>
    refine PySem.W.kat_kind (T := .type "str") k1 (by omega) (fun f hm => ?_) (by rfl) ?_
    · obtain ⟨c, hc, e⟩ := k3 f hm
      cases c with
      | i n => cases e
      | s z => obtain ⟨t, rfl⟩ := hc; exact PySem.W.Looks.now
    · rw [show (Value.type "str" != Value.type "tuple") = true from by first | decide +kernel | rfl | decide]
      exact hq
/-! texts alone -/
theorem one_cmp {vs : List Value} {sh : Bool} (hv : ∀ v ∈ vs, ∃ c, IsSc v c ∧ c.isS = sh) : Cmp pr ww A s oneType' (fun p => p.1 ∈ vs) (lt2 fun v u => Sca.lt (scOf v) (scOf u)) := by
  intro p q hm hm'
  obtain ⟨c, t1, k1⟩ := hv _ hm
  obtain ⟨d, t2, k2⟩ := hv _ hm'
  show wpAny (model pr ww) A (keyLt' oneType' p.1 q.1) (fun r s' => s' = s ∧ r = Sca.lt (scOf p.1) (scOf q.1)) (fun _ _ => False) s
  rw [t1.of, t2.of, keyLt'_oneType]
  exact sc_lt t1 t2 (k1.trans k2.symm) ⟨rfl, rfl⟩
theorem ints_of : ∀ {vs : List Value}, (∀ v ∈ vs, ∃ c : Sca, IsSc v c ∧ c.isS = false) → ∃ ns, IntsAre vs ns
  | [], _ => ⟨[], .nil⟩
  | v :: vs, h => by
    obtain ⟨ns, r⟩ := ints_of (vs := vs) fun u hu => h u (List.mem_cons_of_mem _ hu)
    obtain ⟨c, hc, e⟩ := h v List.mem_cons_self
    cases c with
    | i n => obtain ⟨t, rfl⟩ := hc; exact ⟨n :: ns, .cons n t r⟩
    | s z => cases e
theorem strs_of : ∀ {vs : List Value}, (∀ v ∈ vs, ∃ c : Sca, IsSc v c ∧ c.isS = true) → ∃ zs, StrsAre vs zs
  | [], _ => ⟨[], .nil⟩
  | v :: vs, h => by
    obtain ⟨ns, r⟩ := strs_of (vs := vs) fun u hu => h u (List.mem_cons_of_mem _ hu)
    obtain ⟨c, hc, e⟩ := h v List.mem_cons_self
    cases c with
    | i n => cases e
    | s z => obtain ⟨t, rfl⟩ := hc; exact ⟨z :: ns, .cons z t r⟩
theorem one_sortable {a : Addr} {vs : List Value} {sh : Bool} (h2 : 2 ≤ vs.length) (hv : ∀ v ∈ vs, ∃ c, IsSc v c ∧ c.isS = sh) : SortableO pr ww A s a vs fun v u => Sca.lt (scOf v) (scOf u) := by
  intro h' _
  refine ⟨oneType', fun Q E hq => ?_, one_cmp hv⟩
  match vs, hv, h2 with
  | v1 :: v2 :: rest, hv, _ =>
    cases sh with
    | false =>
      obtain ⟨ns, r⟩ := ints_of hv
      rw [keyKind_ints r]
      exact wpAny_pure hq
    | true =>
      obtain ⟨ns, r⟩ := strs_of hv
      rw [keyKind_strs r]
      exact wpAny_pure hq
  | [], _, h => exact absurd h (by decide)
  | [v], _, h => exact absurd h (by simp)
end
end LyS
namespace LyS
open PySem PyProof.Rows Srt SrtO
section
variable {pr : Program} {ww : World} {A : Around} {E : Value → Shared → Prop} {s : Shared}
abbrev kwR (r : Option Bool) : List (Str × Value) := match r with
  | none => []
  | some b => [(Str.ofString "reverse", .bool b)]
def rvB (r : Option Bool) : Bool := r.getD false
def Sorted (s : Shared) (P : List Value → Prop) (ltv : Value → Value → Bool) (r : Option Bool) (Q : Value → Shared → Prop) : Prop := ∀ (vs out : List Value) (hm h' : Heap) (tk : Nat) (d : Addr) (n : Nat), P vs → vs.length ≤ sizeLine → Srtd ltv out → Stb ltv out (if rvB r = true then vs.reverse else vs) → (∀ c o, s.heap.get? c = some o → hm.get? c = some o) → d = hm.objs.size → (∀ c o, hm.get? c = some o → h'.get? c = some o) →
  h'.get? d = some (seqObj "list" (if rvB r = true then out.toArray.reverse else out.toArray) n) → Q (.ref d) { s with heap := h', toks := tk }
theorem sorted_body {u : Value} {P : List Value → Prop} {ltv : Value → Value → Bool} {r : Option Bool} {Q : Value → Shared → Prop} (O : Swo ltv)
    (hcol : ∀ R : List Value → Shared → Prop, (∀ h' tk acc, (∀ c o, s.heap.get? c = some o → h'.get? c = some o) → P acc → acc.length ≤ sizeLine → R acc { s with heap := h', toks := tk }) → wpAny (model pr ww) A.in1 (collect u) R E s)
    (hS : ∀ vs, P vs → 2 ≤ vs.length → ∀ (h₁ : Heap) (tk : Nat) (a : Addr), h₁.get? a = some (seqObj "list" vs.toArray 0) → (∀ c o, s.heap.get? c = some o → h₁.get? c = some o) → SortableO pr ww A.in1.in1 { s with heap := h₁, toks := tk } a vs ltv)
    (h : Sorted s P ltv r Q) : wpAny (model pr ww) A.in1 (Builtin.«sorted» ⟨[u], kwR r⟩) (fun fin s' => ∃ v, fin = .done (.ret v) ∧ Q v s') E s := by
  unfold Builtin.«sorted»
  refine wpAny_bind (m := checkCount "sorted" 1 1 _) (wpAny_pure ?_)
  refine wpAny_bind (hcol _ fun h' tk acc k1 hP hz => ?_)
  refine wpAny_bind (wpAny_newList ?_ hz)
  have ho : (h'.push (seqObj "list" acc.toArray 0)).get? h'.objs.size = some (seqObj "list" acc.toArray 0) := Heap.get?_push_size _ rfl
  have k2 : ∀ c o, s.heap.get? c = some o → (h'.push (seqObj "list" acc.toArray 0)).get? c = some o := fun c o e => Heap.get?_push_of_some _ (k1 c o e)
  show wpAny _ _ _ _ _ { s with heap := h'.push (seqObj "list" acc.toArray 0), toks := tk }
  have out_ok : ∀ out : List Value, Srtd ltv out → Stb ltv out (if rvB r = true then acc.reverse else acc) → Q (.ref h'.objs.size) { s with heap := sortedHeap (h'.push (seqObj "list" acc.toArray 0)) h'.objs.size acc (if rvB r = true then out.toArray.reverse else out.toArray), toks := tk } := fun out o1 o2 => by
    obtain ⟨n, hn⟩ := sortedHeap_at (vs := acc) (out := if rvB r = true then out.toArray.reverse else out.toArray) ho
    refine h acc out h' _ tk _ n hP hz o1 o2 k1 rfl (fun c o e => ?_) hn
    have hb : c < h'.objs.size := Heap.lt_size e
    rw [sortedHeap_old (Nat.ne_of_lt hb) (by rw [size_push']; exact Nat.lt_succ_of_lt hb)]
    exact Heap.get?_push_of_some _ e
  cases r with
  | none =>
    refine wpAny_bind (wpAny_holding (wpAny_call_entry slot_list_sort ⟨_, ho, rfl⟩ entry_list_sort (list_sort_ord O ho hz (fun h2 => hS acc hP h2 _ _ _ ho k2) fun out hs hb => ⟨_, rfl, ?_⟩) (args_list_sort _)))
    exact wpAny_pure ⟨_, rfl, out_ok out hs hb⟩
  | some b =>
    refine wpAny_bind (wpAny_holding (wpAny_call_entry_kw slot_list_sort ⟨_, ho, rfl⟩ entry_list_sort (SrtR.list_sort_ordR (b := b) O ho hz (fun h2 => hS acc hP h2 _ _ _ ho k2) fun out hs hb => ⟨_, rfl, ?_⟩) (args_list_sort_rev _ _)))
    exact wpAny_pure ⟨_, rfl, out_ok out hs hb⟩
theorem sorted_call {u : Value} {P : List Value → Prop} {ltv : Value → Value → Bool} {r : Option Bool} {Q : Value → Shared → Prop} (O : Swo ltv)
    (hcol : ∀ R : List Value → Shared → Prop, (∀ h' tk acc, (∀ c o, s.heap.get? c = some o → h'.get? c = some o) → P acc → acc.length ≤ sizeLine → R acc { s with heap := h', toks := tk }) → wpAny (model pr ww) A.in1 (collect u) R E s)
    (hS : ∀ vs, P vs → 2 ≤ vs.length → ∀ (h₁ : Heap) (tk : Nat) (a : Addr), h₁.get? a = some (seqObj "list" vs.toArray 0) → (∀ c o, s.heap.get? c = some o → h₁.get? c = some o) → SortableO pr ww A.in1.in1 { s with heap := h₁, toks := tk } a vs ltv)
    (h : Sorted s P ltv r Q) : wpAny (model pr ww) A (call (.builtin "sorted") [u] (kwR r)) Q E s := by
  cases r with
  | none => exact Calls.call_function_entry kind_sorted plain_sorted entry_sorted (args_sorted1 _) (sorted_body (r := none) O hcol hS h)
  | some b => exact call_function_entry_kw kind_sorted plain_sorted entry_sorted (args_sorted_rev _ _) (sorted_body (r := some b) O hcol hS h)
end
end LyS

namespace Ly
open PySem PySem.Spec PyProof.Rows L2 LyS
/-- a scalar as a key of sorting -/
class ScaE (α : Type) [Sc α] where
  sca : α → Sca
  isS : Bool
  kind : ∀ x, (sca x).isS = isS
  val : ∀ (x : α) (u : Value), RelV (Sc.toV x) u → IsSc u (sca x)
  inj : ∀ x y, sca x = sca y → x = y
instance : ScaE Int := ⟨.i, false, fun _ => rfl, fun x u r => r, fun x y h => by cases h; rfl⟩
instance : ScaE Str := ⟨.s, true, fun _ => rfl, fun x u r => r, fun x y h => by cases h; rfl⟩
/-- what may be sorted, by its key -/
class SorE (α : Type) [Rp α] where
  key : α → List Sca
  inj : ∀ x y, key x = key y → x = y
  raw : ∀ {X : Cx} {pins : List (Addr × Obj)} {σ : L2.St} {F H : Hp} {s : Shared} {vs : List V} {us : List Value} {xs : List α}, Inv X pins σ H s → Sub F H → Paired (Rp.rep X.K F) vs xs → Vals vs us →
    ∃ kf : Value → List Sca, us.map kf = xs.map key ∧ (2 ≤ us.length → ∀ (h₁ : Heap) (tk : Nat) (a : Addr), h₁.get? a = some (seqObj "list" us.toArray 0) → (∀ c o, s.heap.get? c = some o → h₁.get? c = some o) → SrtO.SortableO X.prog X.w X.A.in1.in1 { s with heap := h₁, toks := tk } a us fun v u => lexS (kf v) (kf u))
def ltE {α : Type} [Rp α] [SorE α] (x y : α) : Bool := lexS (SorE.key x) (SorE.key y)
def srtE {α : Type} [Rp α] [SorE α] (xs : List α) : List α := srt ltE xs
theorem lex1 (c d : Sca) : lexS [c] [d] = Sca.lt c d := by
  unfold lexS
  by_cases e : c = d
  · rw [if_pos e, e, toSca.irr]; rfl
  · rw [if_neg e]
theorem pairedV {X : Cx} {α : Type} [Sc α] [ScaE α] {F : Hp} : ∀ {vs : List V} {us : List Value} {xs : List α}, Paired (Rp.rep X.K F) vs xs → Vals vs us → Paired IsSc us (xs.map ScaE.sca)
  | _, _, _, .nil, .nil => .nil
  | _, _, _, .cons r t, .cons rv tv => .cons (ScaE.val _ _ (by rw [← r.1]; exact rv)) (pairedV t tv)
instance sorSc {α : Type} [Sc α] [ScaE α] : SorE α where
  key x := [ScaE.sca x]
  inj x y h := ScaE.inj x y (List.cons.inj h).1
  raw {X pins σ F H s vs us xs} I sb r rv := by
    have pv := pairedV r rv
    refine ⟨fun v => [scOf v], ?_, fun h2 h₁ tk a _ _ => ?_⟩
    · have e := scs_of pv
      rw [show us.map (fun v => [scOf v]) = (us.map scOf).map fun c => [c] from by rw [List.map_map]; rfl, e, List.map_map]; rfl
    · have e : (fun v u : Value => lexS [scOf v] [scOf u]) = fun v u => Sca.lt (scOf v) (scOf u) := funext fun v => funext fun u => lex1 _ _
      rw [e]
      refine one_sortable (sh := ScaE.isS α) h2 fun v hv => ?_
      obtain ⟨i, hi, e⟩ := List.getElem_of_mem hv
      have hl := Paired.length pv
      have z : ∀ {us : List Value} {cs : List Sca}, Paired IsSc us cs → (∀ c ∈ cs, c.isS = ScaE.isS α) → ∀ v ∈ us, ∃ c, IsSc v c ∧ c.isS = ScaE.isS α := by
        intro us cs p
        induction p with
        | nil => intro _ v hv; cases hv
        | cons h t ih =>
          intro hc v hv
          rcases List.mem_cons.mp hv with e | hv
          · rw [e]; exact ⟨_, h, hc _ List.mem_cons_self⟩
          · exact ih (fun c hm => hc c (List.mem_cons_of_mem _ hm)) v hv
      refine z pv (fun c hc => ?_) v hv
      obtain ⟨x, _, rfl⟩ := List.mem_map.mp hc
      exact ScaE.kind x
/-- tuples of scalars -/
class TuE (α : Type) [Rp α] where
  key : α → List Sca
  inj : ∀ x y, key x = key y → x = y
  sh : Bool
  shs : List Bool
  kind : ∀ x, (key x).map Sca.isS = sh :: shs
  val : ∀ {X : Cx} {F : Hp} {v : V} {x : α}, Rp.rep X.K F v x → ∃ p ws, v = .ref p ∧ F p = some (.tup ws) ∧ ∀ us, Vals ws us → Paired IsSc us (key x)
theorem tu_raw {X : Cx} {pins : List (Addr × Obj)} {σ : L2.St} {F H : Hp} {s : Shared} {α : Type} [Rp α] [TuE α] (I : Inv X pins σ H s) (sb : Sub F H) {v : V} {u : Value} {x : α} (r : Rp.rep X.K F v x) (rv : RelV v u) : IsTu s.heap u (TuE.key x) := by
  obtain ⟨p, ws, e, h1, h2⟩ := TuE.val r
  subst e
  obtain rfl : u = Value.ref p := rv
  have hH : H p = some (.tup ws) := (sb p _ h1).nd fun z => z
  obtain ⟨its, rv, ⟨o, g1, g2, n, g3⟩, _⟩ := I.tuple (.inl (.inl hH))
  exact ⟨p, o, _, _, rfl, g1, g2, g3, h2 its rv⟩
instance sorTu {α : Type} [Rp α] [TuE α] : SorE α where
  key := TuE.key
  inj := TuE.inj
  raw {X pins σ F H s vs us xs} I sb r rv := by
    have pv : ∀ {vs : List V} {us : List Value} {xs : List α}, Paired (Rp.rep X.K F) vs xs → Vals vs us → Paired (fun u x => IsTu s.heap u (TuE.key x)) us xs := by
      intro vs us xs r
      induction r generalizing us with
      | nil => intro rv; cases rv; exact .nil
      | cons h t ih => intro rv; cases rv with
        | cons a b => exact .cons (tu_raw I sb h a) (ih b)
    have pp := pv r rv
    have mem : ∀ {us : List Value} {xs : List α}, Paired (fun u x => IsTu s.heap u (TuE.key x)) us xs → ∀ v ∈ us, ∃ x : α, IsTu s.heap v (TuE.key x) := by
      intro us xs p
      induction p with
      | nil => intro v hv; cases hv
      | cons h t ih =>
        intro v hv
        rcases List.mem_cons.mp hv with e | hv
        · rw [e]; exact ⟨_, h⟩
        · exact ih v hv
    refine ⟨tuOf s.heap, ?_, fun h2 h₁ tk a ha kk => ?_⟩
    · clear rv r
      induction pp with
      | nil => rfl
      | cons h t ih => rw [List.map_cons, List.map_cons, h.of, ih]
    · have up : ∀ v cs, IsTu s.heap v cs → IsTu h₁ v cs := fun v cs t => by
        obtain ⟨b, o, ys, n, e, k1, k2, k3, k4⟩ := t
        exact ⟨b, o, ys, n, e, kk _ _ k1, k2, k3, k4⟩
      refine tu_sortable (s := { s with heap := h₁, toks := tk }) (sh := TuE.sh α) (r := TuE.shs α) (by omega) (fun v hv => ?_) (fun o e => ?_) s.heap fun v hv cs => ⟨fun t => up v cs t, fun t => ?_⟩
      · obtain ⟨x, t⟩ := mem pp v hv
        exact ⟨_, up _ _ t, TuE.kind x⟩
      · have e' : some o = some (seqObj "list" us.toArray 0) := e.symm.trans ha
        cases e'
        intro c
        exact absurd (Value.type.inj c) (by decide)
      · obtain ⟨x, t2⟩ := mem pp v hv
        have e1 := (up _ _ t2).of
        have e2 := t.of
        have e3 : TuE.key x = cs := e1.symm.trans e2
        exact e3 ▸ t2
theorem vals2' {a b : V} {us : List Value} (r : Vals [a, b] us) : ∃ u v, us = [u, v] ∧ RelV a u ∧ RelV b v := by
  cases r with
  | cons h1 t => cases t with
    | cons h2 t => cases t; exact ⟨_, _, rfl, h1, h2⟩
instance tuPair {α β : Type} [Sc α] [ScaE α] [Sc β] [ScaE β] : TuE (α × β) where
  key x := [ScaE.sca x.1, ScaE.sca x.2]
  inj x y h := by
    have h1 := List.cons.inj h
    have h2 := List.cons.inj h1.2
    exact Prod.ext (ScaE.inj _ _ h1.1) (ScaE.inj _ _ h2.1)
  sh := ScaE.isS α
  shs := [ScaE.isS β]
  kind x := by simp [ScaE.kind]
  val {X F v x} r := by
    obtain ⟨p, o, e1, f1, a, b, eo, ra, rb⟩ := r
    subst eo
    refine ⟨p, _, e1, f1, fun us rv => ?_⟩
    obtain ⟨u, w, rfl, k1, k2⟩ := vals2' rv
    exact .cons (ScaE.val _ _ (by rw [← ra.1]; exact k1)) (.cons (ScaE.val _ _ (by rw [← rb.1]; exact k2)) .nil)
instance tuTp3 {α β γ : Type} [Sc α] [ScaE α] [Sc β] [ScaE β] [Sc γ] [ScaE γ] : TuE (Tp3 α β γ) where
  key x := [ScaE.sca x.a, ScaE.sca x.b, ScaE.sca x.c]
  inj x y h := by
    have h1 := List.cons.inj h
    have h2 := List.cons.inj h1.2
    have h3 := List.cons.inj h2.2
    obtain ⟨a, b, c⟩ := x
    obtain ⟨a2, b2, c2⟩ := y
    have e1 : a = a2 := ScaE.inj _ _ h1.1
    have e2 : b = b2 := ScaE.inj _ _ h2.1
    have e3 : c = c2 := ScaE.inj _ _ h3.1
    rw [e1, e2, e3]
  sh := ScaE.isS α
  shs := [ScaE.isS β, ScaE.isS γ]
  kind x := by simp [ScaE.kind]
  val {X F v x} r := by
    obtain ⟨p, o, e1, f1, a, b, c, eo, ra, rb, rc⟩ := r
    subst eo
    refine ⟨p, _, e1, f1, fun us rv => ?_⟩
    cases rv with
    | cons k1 t => cases t with
      | cons k2 t => cases t with
        | cons k3 t =>
          cases t
          exact .cons (ScaE.val _ _ (by rw [← ra.1]; exact k1)) (.cons (ScaE.val _ _ (by rw [← rb.1]; exact k2)) (.cons (ScaE.val _ _ (by rw [← rc.1]; exact k3)) .nil))
section
variable {X : Cx} {α : Type} [Rp α] [SorE α]
theorem out_vals {F : Hp} {kf : Value → List Sca} : ∀ {out : List Value} {ys : List α}, out.map kf = ys.map SorE.key → (∀ v ∈ out, ∃ (w : V) (x : α), RelV w v ∧ Rp.rep X.K F w x ∧ kf v = SorE.key x) → ∃ ws, Vals ws out ∧ Paired (Rp.rep X.K F) ws ys
  | [], [], _, _ => ⟨[], .nil, .nil⟩
  | [], _ :: _, h, _ => by cases h
  | _ :: _, [], h, _ => by cases h
  | v :: out, y :: ys, h, hv => by
    rw [List.map_cons, List.map_cons] at h
    have h1 := List.cons.inj h
    obtain ⟨ws, k1, k2⟩ := out_vals h1.2 fun u hu => hv u (List.mem_cons_of_mem _ hu)
    obtain ⟨w, x, r1, r2, e⟩ := hv v List.mem_cons_self
    have exy : x = y := SorE.inj _ _ (e.symm.trans h1.1)
    subst exy
    exact ⟨w :: ws, .cons r1 k1, .cons r2 k2⟩
theorem trip {F : Hp} {kf : Value → List Sca} : ∀ {vs : List V} {us : List Value} {xs : List α}, Paired (Rp.rep X.K F) vs xs → Vals vs us → us.map kf = xs.map SorE.key → ∀ v ∈ us, ∃ (w : V) (x : α), RelV w v ∧ Rp.rep X.K F w x ∧ kf v = SorE.key x
  | _, _, _, .nil, .nil, _, v, hv => by cases hv
  | _, _, _, .cons r t, .cons rv tv, h, v, hv => by
    rw [List.map_cons, List.map_cons] at h
    have h1 := List.cons.inj h
    rcases List.mem_cons.mp hv with e | hv
    · rw [e]; exact ⟨_, _, rv, r, h1.1⟩
    · exact trip t tv h1.2 v hv
theorem swoE : SrtO.Swo (ltE : α → α → Bool) := toLex.swo SorE.key
theorem srtE_len (xs : List α) : (srtE xs).length = xs.length := (srt_perm _ xs).length_eq
theorem srtE_perm (xs : List α) : (srtE xs).Perm xs := srt_perm _ xs
theorem srtE_srtd (xs : List α) : SrtO.Srtd ltE (srtE xs) := srt_srtd swoE xs
theorem out_eq {kf : Value → List Sca} {us out : List Value} {xs : List α} {r : Option Bool} (h : us.map kf = xs.map SorE.key) (hs : SrtO.Srtd (fun v u => lexS (kf v) (kf u)) out) (hb : SrtO.Stb (fun v u => lexS (kf v) (kf u)) out (if rvB r = true then us.reverse else us)) : out.map kf = (srtE xs).map SorE.key := by
  refine srt_one toLex (SrtO.srtd_map hs) (SrtO.srtd_map (srtE_srtd xs)) ?_
  have p1 := hb.perm.map kf
  have p2 : ((if rvB r = true then us.reverse else us).map kf).Perm (us.map kf) := by
    split
    · exact (List.reverse_perm us).map kf
    · exact List.Perm.refl _
  rw [h] at p2
  exact p1.trans (p2.trans ((srtE_perm xs).map SorE.key).symm)
/-- the value of sorted(.., reverse=r) -/
def srtR (r : Option Bool) (xs : List α) : List α := bif rvB r then (srtE xs).reverse else srtE xs
theorem srtR_len (r : Option Bool) (xs : List α) : (srtR r xs).length = xs.length := by
  unfold srtR
  cases rvB r with
  | true => show (srtE xs).reverse.length = _; rw [List.length_reverse, srtE_len]
  | false => exact srtE_len xs
theorem sorted_fin {pins : List (Addr × Obj)} {σ : L2.St} {F H : Hp} {s : Shared} {xs : List α} {r : Option Bool} {kf : Value → List Sca} {Q : VK} {P : List Value → Prop} (I : Inv X pins σ H s) (hz : xs.length ≤ big)
    (hP : ∀ us, P us → ∃ vs, Paired (Rp.rep X.K F) vs xs ∧ Vals vs us ∧ us.map kf = xs.map SorE.key) (q : ∀ q ws, H q = none → Paired (Rp.rep X.K F) ws (srtR r xs) → Q (.ref q) (upd H q (.lst ws))) :
    Sorted s P (fun v u => lexS (kf v) (kf u)) r (EP X pins σ Q) := fun us out hm h' tk d n hp hz2 o1 o2 k1 ed k2 hd => by
  obtain ⟨vs, p1, p2, p3⟩ := hP us hp
  have e := out_eq (r := r) p3 o1 o2
  have tr := trip p1 p2 p3
  obtain ⟨ws, w1, w2⟩ := out_vals (X := X) (F := F) e fun v hv => tr v (by
    have z := o2.perm.mem_iff.mp hv
    split at z
    · exact List.mem_reverse.mp z
    · exact z)
  have I1 : Inv X pins σ H { s with heap := hm, toks := tk } := I.kept k1
  subst ed
  obtain ⟨ws2, us2, g1, g2, g3⟩ : ∃ (ws2 : List V) (us2 : List Value), Vals ws2 us2 ∧ Paired (Rp.rep X.K F) ws2 (srtR r xs) ∧ (if rvB r = true then out.toArray.reverse else out.toArray) = us2.toArray := by
    unfold srtR
    cases rvB r with
    | true => exact ⟨ws.reverse, out.reverse, pairedRev w1, pairedRev w2, by simp⟩
    | false => exact ⟨ws, out, w1, w2, by simp⟩
  rw [g3] at hd
  have hlen : ws2.length ≤ sizeLine := by rw [pairedLen g2, srtR_len]; exact big_line hz
  exact ⟨.ref hm.objs.size, upd H hm.objs.size (.lst ws2), I1.laid (t' := tk) k2 (Nat.le_refl _) (show ObjOk X.prog X.w _ _ _ (.lst ws2) from ⟨hlen, us2, n, g1, hd⟩), rfl, q _ ws2 (I1.hok.fresh (Nat.le_refl _)) g2⟩
/-- a list sorted -/
def rSorL (X : Cx) (α : Type) [Rp α] [SorE α] (r : Option Bool) : V → Hp → VK → Prop := fun v H Q => ∃ (F : Hp) (p : Addr) (vs : List V) (xs : List α), v = .ref p ∧ Sub F H ∧ H p = some (.lst vs) ∧ Paired (Rp.rep X.K F) vs xs ∧ xs.length ≤ big ∧ ∀ q ws, H q = none → Paired (Rp.rep X.K F) ws (srtR r xs) → Q (.ref q) (upd H q (.lst ws))
theorem run_sorL {r : Option Bool} {pins : List (Addr × Obj)} {s : Shared} {σ : L2.St} {H : Hp} {v : V} {u : Value} {Q : VK} (I : Inv X pins σ H s) (rv : RelV v u) (h : rSorL X α r v H Q) : wpAny (model X.prog X.w) X.A (call (.builtin "sorted") [u] (kwR r)) (EP X pins σ Q) X.xe s := by
  obtain ⟨F, p, vs, xs, rfl, sb, hp, pr, hz, q⟩ := h
  obtain rfl : u = Value.ref p := rv
  obtain ⟨us, rv, hl, hz2⟩ := I.list (.inl (.inl hp))
  obtain ⟨kf, e1, e2⟩ := SorE.raw I sb pr rv
  refine sorted_call (P := fun vs => vs = us) (toLex.swo kf) (fun R hR => ?_) (fun vs' e h2 h₁ tk a ha kk => ?_) (sorted_fin I hz (fun us' e => ⟨vs, pr, by rw [e]; exact rv, by rw [e]; exact e1⟩) q)
  · refine PyProof.Rows.collect_list hl.isList ?_ (by rw [← rv.length]; exact hz2)
    refine hR _ _ _ (fun c o e => ?_) rfl (by rw [← rv.length]; exact hz2)
    rw [Heap.get?_update_ne _ _ _ _ (Nat.ne_of_lt (Heap.lt_size e))]
    exact Heap.get?_push_of_some _ e
  · subst e
    exact e2 h2 h₁ tk a ha kk
theorem cr_sorL : CallR X (.builtin "sorted") (fun vs H Q => ∃ v, vs = [v] ∧ rSorL X α none v H Q) := by
  intro pins s σ H vs us Q I r h
  obtain ⟨v, rfl, h⟩ := h
  obtain ⟨u, rfl, rv⟩ := vals1 r
  exact run_sorL (r := none) I rv h
variable {es : List En} {e : Expr} {pos p : Pos}
theorem rSorL.own {f : Fr} {σ : L2.St} {F H F1 H1 : Hp} {r : Option Bool} {xs : List α} {vs : List V} {a : Addr} (t1 : St0 F H F1 H1) (hp : H1 a = some (.lst vs)) (rp : Paired (Rp.rep X.K F1) vs xs) (hz : xs.length ≤ big) {Q : VK} (q : ∀ v F' H' P, St0 F H F' H' → Ow.own X.K F' H' v (srtR r xs) P → P.Nodup → (∀ p ∈ P, H p = none) → Q v H') : rSorL X α r (.ref a) H1 Q :=
  ⟨F1, a, vs, xs, rfl, t1.e, hp, rp, hz, fun q0 ws hq pw => q _ F1 _ [q0] (t1.trans (St0.new t1.e hq)) (newL t1.e hq (by rw [srtR_len]; exact hz) pw) (by simp) fun z hz => by
    have e : z = q0 := by simpa using hz
    rw [e]; exact t1.back hq⟩
theorem n_sorted {xs : List α} (hg : Gl X "sorted") (hm : X.mg "sorted" = none) (ha : LR X es e xs) (s1 : starEach [e] X.env = (false, eval e X.env) :: starEach [] X.env := by rfl) : NJ X es (.Call (.Name "sorted" p) [e] [] pos) (srtR none xs) := .mk fun f σ F H S Q q =>
  peR (pe_callB (cr_sorL (α := α)) hg hm (by decide +kernel) (pa_cons peW pa_nil s1) (by decide) (by decide) s1) (ha f σ F H S _ fun a vs F1 H1 t1 hp rp hz => ⟨_, rfl, rSorL.own (f := f) (σ := σ) t1 hp rp hz q⟩)
end
/-! dicts sorted: the keys -/
section
variable {X : Cx} {κ α : Type} [Sc κ] [Ky κ] [DecidableEq κ] [Rp α] [ScaE κ]
def rSorD (X : Cx) (κ : Type) [Sc κ] [Ky κ] [ScaE κ] (r : Option Bool) : V → Hp → VK → Prop := fun v H Q => ∃ (F : Hp) (p : Addr) (ks : List (Key × V)) (xs : List κ), v = .ref p ∧ Sub F H ∧ Rd H p (.dK ks) ∧ ks.map (·.1) = xs.map Ky.key ∧ (∀ x ∈ xs, Sc.ok x) ∧ xs.length ≤ big ∧ ∀ q ws, H q = none → Paired (Rp.rep X.K F) ws (srtR r xs) → Q (.ref q) (upd H q (.lst ws))
variable {es : List En} {e : Expr} {pos p : Pos}
theorem rSorD.own {f : Fr} {σ : L2.St} {F H F1 H1 : Hp} {r : Option Bool} {d : Dct κ α} {v : V} (t1 : St0 F H F1 H1) (rd : Rp.rep X.K (ovl F1 H1) v d) {Q : VK} (q : ∀ v F' H' P, St0 F H F' H' → Ow.own X.K F' H' v (srtR r (keysD d)) P → P.Nodup → (∀ p ∈ P, H p = none) → Q v H') : rSorD X κ r v H1 Q := by
  obtain ⟨a, ks, e, hF, hR, h1, h2, rr⟩ := repD (ovl_sub t1.e) rd
  refine ⟨F1, a, ks, keysD d, e, t1.e, hR, dr_keys rr, fun x hx => ?_, by unfold keysD; rw [List.length_map]; exact h1, fun q0 ws hq pw => q _ F1 _ [q0] (t1.trans (St0.new t1.e hq)) (newL t1.e hq (by rw [srtR_len]; unfold keysD; rw [List.length_map]; exact h1) pw) (by simp) fun z hz => by
    have e : z = q0 := by simpa using hz
    rw [e]; exact t1.back hq⟩
  have z : ∀ {ks : List (Key × V)} {l : List (κ × α)}, Paired (DR X.K (ovl F1 H1)) ks l → ∀ x ∈ l.map (·.1), Sc.ok x := by
    intro ks l r
    induction r with
    | nil => intro x hx; cases hx
    | cons h t ih =>
      intro x hx
      rcases List.mem_cons.mp hx with e | hx
      · rw [e]; exact h.2.1
      · exact ih x hx
  exact z rr x hx
end
end Ly
namespace LyV
open PySem PySem.W PyProof.Rows
end LyV
namespace Ly
open PySem PySem.Spec PyProof.Rows L2 TL
section
variable {X : Cx} {es es1 es2 : List En} {a b c e : Expr} {pos : Pos} {α β γ : Type} {i : Nat} {st : Stmt}
/-! None or a scalar -/
def optV {α : Type} [Sc α] : Option α → V
  | none => .non
  | some x => Sc.toV x
instance scOpt {α : Type} [Sc α] : Sc (Option α) := ⟨optV, fun o => match o with
  | none => True
  | some x => Sc.ok x⟩
/-- a scalar that is not None -/
class NoN (α : Type) [Sc α] : Prop where
  nn : ∀ x : α, Sc.toV x ≠ V.non
instance : NoN Int := ⟨fun x h => by cases h⟩
instance : NoN Str := ⟨fun x h => by cases h⟩
instance : NoN Bool := ⟨fun x h => by cases h⟩
theorem r_none {α : Type} [Sc α] {j} : RJ X es (.Constant .none j pos) (none : Option α) := r_con pe_non True.intro
theorem r_some [Sc α] {x : α} (h : RJ X es a x) : RJ X es a (some x) := .mk fun f σ F H S Q q => h f σ F H S Q fun v F' H' t r => q v F' H' t ⟨r.1, r.2⟩
/-- x is None -/
theorem opt_dec [Sc α] [NoN α] (o : Option α) : decide (Sc.toV o = V.non) = !o.isSome := by
  cases o with
  | none => rfl
  | some x => exact decide_eq_false (NoN.nn x)
theorem t_isNone [Sc α] [NoN α] {o : Option α} {j} {p2 : Pos} (h : RJ X es a o) : TJ X es (.Compare a [.Is] [.Constant .none j p2] pos) (!o.isSome) := t_cmpG (y := ()) op_isN (fun _ Q q => ⟨rfl, by rw [opt_dec]; exact q⟩) h r_non
theorem t_isntNone [Sc α] [NoN α] {o : Option α} {j} {p2 : Pos} (h : RJ X es a o) : TJ X es (.Compare a [.IsNot] [.Constant .none j p2] pos) o.isSome := t_cmpG (y := ()) op_notN (fun _ Q q => ⟨rfl, by rw [opt_dec, Bool.not_not]; exact q⟩) h r_non
/-! a tuple of one type, of any length -/
structure Tl (α : Type) where
  l : List α
  deriving DecidableEq, Inhabited
instance clTl {α : Type} [Rp α] : Cl (Tl α) where
  cell K H o (x : Tl α) := x.l.length ≤ big ∧ ∃ vs, o = .tup vs ∧ Paired (Rp.rep K H) vs x.l
  mono {K H H' o x} i h := by
    obtain ⟨z, vs, e, h⟩ := h
    exact ⟨z, vs, e, pairedM i h⟩
theorem f_tl2 {k} [Rp α] {x y : α} (ha : FJ X es a x) (hb : FJ X es b y) (s1 : starEach [a, b] X.env = (false, eval a X.env) :: starEach [b] X.env := by rfl) (s2 : starEach [b] X.env = (false, eval b X.env) :: starEach [] X.env := by rfl) : FJ X es (.Tuple [a, b] k pos) (Tl.mk [x, y]) := .mk fun f σ F H S Q q =>
  peR (pe_tup (pa_cons peW (pa_cons peW pa_nil s2) s1)) (ha f σ F H S _ fun v F1 H1 t1 r1 => hb f σ F1 H1 (S.step t1) _ fun w F2 H2 t2 r2 => ⟨show 2 ≤ sizeLine by decide, fun p hp => by
    have t3 := newC (o := .tup [v, w]) t2.e hp
    exact q _ _ _ ((t1.trans t2).trans t3) ⟨p, _, rfl, upd_same, by show 2 ≤ big; decide, [v, w], rfl, .cons (Rp.mono (t2.f.trans t3.f) r1) (.cons (Rp.mono t3.f r2) .nil)⟩⟩)
theorem f_tl0 {k} [Rp α] : FJ X es (.Tuple [] k pos) (Tl.mk ([] : List α)) := .mk fun f σ F H S Q q =>
  peR (pe_tup pa_nil) (⟨show 0 ≤ sizeLine by decide, fun p hp => by
    have t3 := newC (o := .tup []) S.sub hp
    exact q _ _ _ t3 ⟨p, _, rfl, upd_same, by show 0 ≤ big; decide, [], rfl, .nil⟩⟩)
theorem tlR [Rp α] {K : PySem.W.Frag} {F H : Hp} {v : V} {x : Tl α} (s : Sub F H) (r : Rp.rep K F v x) : ∃ p vs, v = .ref p ∧ H p = some (.tup vs) ∧ F p = some (.tup vs) ∧ Paired (Rp.rep K F) vs x.l := by
  obtain ⟨p, o, e, h1, z, vs, eo, r⟩ := r
  subst eo
  exact ⟨p, vs, e, (s p _ h1).nd fun z => z, h1, r⟩
/-! isinstance -/
class KindOf (α : Type) [Rp α] where
  nm : String
  ty : ∀ {K : PySem.W.Frag} {F H : Hp} {v : V} {x : α}, Sub F H → Rp.rep K F v x → TyX K H v (.type nm)
instance : KindOf Int := ⟨"int", fun _ r => by rw [r.1]; exact .base (.int _)⟩
instance : KindOf Str := ⟨"str", fun _ r => by rw [r.1]; exact .base (.str _)⟩
instance : KindOf Bool := ⟨"bool", fun _ r => by rw [r.1]; exact .base (.bl _)⟩
instance [Rp α] : KindOf (List α) := ⟨"list", fun s r => by
  obtain ⟨p, vs, e, h, _⟩ := repL s r
  subst e
  exact .base (.lst h)⟩
instance [Rp α] : KindOf (Tl α) := ⟨"tuple", fun s r => by
  obtain ⟨p, vs, e, h, _⟩ := tlR s r
  subst e
  exact .base (.tup h)⟩
instance [Rp α] [Rp β] : KindOf (α × β) := ⟨"tuple", fun s r => by
  obtain ⟨p, o, e, h1, v, w, eo, _⟩ := r
  subst e eo
  exact .base (.tup ((s p _ h1).nd fun z => z))⟩
instance [Rp α] [Rp β] [Rp γ] : KindOf (Tp3 α β γ) := ⟨"tuple", fun s r => by
  obtain ⟨p, o, e, h1, v, w, u, eo, _⟩ := r
  subst e eo
  exact .base (.tup ((s p _ h1).nd fun z => z))⟩
instance {δ : Type} [Rp α] [Rp β] [Rp γ] [Rp δ] : KindOf (Tp4 α β γ δ) := ⟨"tuple", fun s r => by
  obtain ⟨p, o, e, h1, v, w, u, t, eo, _⟩ := r
  subst e eo
  exact .base (.tup ((s p _ h1).nd fun z => z))⟩
instance {κ : Type} [Sc κ] [Ky κ] [DecidableEq κ] [Rp α] : KindOf (Dct κ α) := ⟨"dict", fun s r => by
  obtain ⟨p, ks, e, _, h, _⟩ := repD s r
  subst e
  rcases h with h | ⟨o, h⟩
  · exact .base (.dK h)
  · exact .fDict h⟩
/-! == of Tl -/
theorem tl_same [Rp α] [EqB α] {K : PySem.W.Frag} {F : Hp} {v : V} {x y : Tl α} (r1 : Rp.rep K F v x) (r2 : Rp.rep K F v y) : eqbL x.l y.l = true := by
  obtain ⟨p, vs, e1, _, f1, p1⟩ := tlR (Sub.refl F) r1
  obtain ⟨q, ws, e2, _, f2, p2⟩ := tlR (Sub.refl F) r2
  subst e1
  cases e2
  rw [f1] at f2
  cases f2
  exact eqbL_same p1 p2
theorem tupN_trees {H : Hp} {n : Nat} {a b : Addr} {xs ys : List V} (c : Nat → Bool) (ha : SqT X.K H a xs) (hb : SqT X.K H b ys) (hc : ∀ (j : Nat) x y, xs[j]? = some x → ys[j]? = some y → EqS X H n x y (c j)) :
    (a ≠ b → EqS X H (n + 1) (.ref a) (.ref b) ((List.range (min xs.length ys.length)).all c && xs.length == ys.length)) ∧ RcS X H (n + 1) .Eq (.ref a) (.ref b) ((List.range (min xs.length ys.length)).all c && xs.length == ys.length) ∧ RcS X H (n + 1) .NotEq (.ref a) (.ref b) (!((List.range (min xs.length ys.length)).all c && xs.length == ys.length)) := by
  have key : ∀ (pins : List (Addr × Obj)) (σ : L2.St) (s : Shared), Inv X pins σ H s → ∃ us ws : List Value, s.heap.IsTuple a us.toArray ∧ s.heap.IsTuple b ws.toArray ∧ us.length = xs.length ∧ ws.length = ys.length ∧
      ∀ j (h1 : j < us.toArray.size) (h2 : j < ws.toArray.size), PySem.W.EqTree X.prog X.w s n us.toArray[j] ws.toArray[j] (c j) := fun pins σ s I => by
    obtain ⟨us, r1, ⟨o, h1, h2, m, h3⟩, _⟩ := I.tuple ha
    obtain ⟨ws, r2, ⟨o2, k1, k2, m2, k3⟩, _⟩ := I.tuple hb
    refine ⟨us, ws, ⟨o, h1, h2, m, h3⟩, ⟨o2, k1, k2, m2, k3⟩, r1.length.symm, r2.length.symm, fun j h1 h2 => ?_⟩
    obtain ⟨x, ex, rx⟩ := vals_at r1 j (by simpa using h1)
    obtain ⟨y, ey, ry⟩ := vals_at r2 j (by simpa using h2)
    have z := hc j x y ex ey pins σ s _ _ I rx ry
    simpa using z
  refine ⟨fun hne pins σ s v u I rv ru => ?_, fun pins σ s v u I rv ru A hu E Q q => ?_, fun pins σ s v u I rv ru A hu E Q q => ?_⟩
  all_goals
    cases (show v = Value.ref a from rv)
    cases (show u = Value.ref b from ru)
    obtain ⟨us, ws, l1, l2, e1, e2, t⟩ := key pins σ s I
    have e : ((List.range (min xs.length ys.length)).all c && xs.length == ys.length) = ((List.range (min us.toArray.size ws.toArray.size)).all c && us.toArray.size == ws.toArray.size) := by simp [e1, e2]
  · rw [e]; exact PySem.W.EqTree.tuples hne l1 l2 t
  · rw [e] at q
    exact PySem.W.eq_tuplesT l1 l2 t hu q
  · rw [e] at q
    exact SeqAt.ly_rcNeT l1 l2 (by omega) (fun j h1 h2 => (t j h1 h2).at A.in1 (by show A.units + 1 + _ < cLine; omega)) q
theorem eqbL_min [Rp α] [EqB α] (xs ys : List α) : ((List.range (min xs.length ys.length)).all (eqAtL xs ys) && xs.length == ys.length) = eqbL xs ys := by
  rw [eqbL_range]
  by_cases c : xs.length = ys.length
  · rw [c, Nat.min_self, Bool.and_comm]
  · rw [beq_false_of_ne c, Bool.and_false, Bool.false_and]
theorem tl_eqb [Rp α] [EqB α] {F H : Hp} {v w : V} {x y : Tl α} (s : Sub F H) (r1 : Rp.rep X.K F v x) (r2 : Rp.rep X.K F w y) :
    EqS X H (EqB.dep α + 1) v w (eqbL x.l y.l) ∧ RcS X H (EqB.dep α + 1) .Eq v w (eqbL x.l y.l) ∧ RcS X H (EqB.dep α + 1) .NotEq v w (!eqbL x.l y.l) := by
  have sm := fun e : v = w => tl_same r1 (e ▸ r2)
  obtain ⟨p, vs, e1, h1, f1, p1⟩ := tlR s r1
  obtain ⟨q, ws, e2, h2, f2, p2⟩ := tlR s r2
  subst e1 e2
  have z := tupN_trees (X := X) (n := EqB.dep α) (eqAtL x.l y.l) (.inl (.inl h1)) (.inl (.inl h2)) fun j u u2 hx hy => by
    obtain ⟨x', ex, rx⟩ := paired_get2 p1 hx
    obtain ⟨y', ey, ry⟩ := paired_get2 p2 hy
    have e : eqAtL x.l y.l j = eqb x' y' := by unfold eqAtL; rw [ex, ey]
    rw [e]
    exact EqB.tree s rx ry
  rw [pairedLen p1, pairedLen p2, eqbL_min] at z
  refine ⟨?_, z.2.1, z.2.2⟩
  by_cases c : p = q
  · subst c
    rw [sm rfl]
    exact fun pins σ s v u I rv ru => by cases rv; cases ru; exact .same
  · exact z.1 c
instance eqbTl [Rp α] [EqB α] : EqB (Tl α) where
  eqb x y := eqbL x.l y.l
  dep := EqB.dep α + 1
  tree s r1 r2 := (tl_eqb s r1 r2).1
  eq s r1 r2 := (tl_eqb s r1 r2).2.1
  ne s r1 r2 := (tl_eqb s r1 r2).2.2
  same r1 r2 := tl_same r1 r2
/-! a, b = e -/
theorem s_asgG {tg : Expr} [Rp α] {x : α} (hst : PS X st (tAsg (wpE X e) (wpG X tg))) (h : FJ X es e x) (hg : GJ X tg es x es1) : E1 X es st es1 := .mk fun f σ F H D S q =>
  psR hst (h f σ F H S _ fun v F1 H1 t1 r1 => hg f σ F1 H1 v (S.step t1) r1 _ fun σ2 F2 H2 S2 _ => q σ2 F2 H2 S2)
/-! and, or with an effect behind -/
theorem xt_and {τ : Type} {k l : Bool} {p1 p2 : τ} (esf : τ → List En) (h : XT X es a k (esf p1)) (h2 : k = true → XT X (esf p1) b l (esf p2)) (he : esf (bif k then p2 else p1) = es2 := by rfl) : XT X es (.BoolOp .And [a, b] pos) (k && l) es2 := .mk fun f σ F H S Q q => by
  subst he
  refine ptR (pwW (X := X) (e := .BoolOp .And [a, b] pos)).pt (pwR (pw_and ptW pwW) (h f σ F H S _ fun F1 H1 S1 i1 => ?_))
  cases k with
  | true => exact pwR (pw_and1 ptW) (h2 rfl f σ F1 H1 S1 _ fun F2 H2 S2 i2 => q F2 H2 S2 (i1.trans i2))
  | false => exact q F1 H1 S1 i1
/-! d.get(k), d.get(k, x) -/
section
variable {κ : Type} [Sc κ] [Ky κ] [DecidableEq κ] [Rp α] {d : Dct κ α} {k : κ} {apos : Pos}
end
end
end Ly
namespace Ly
open PySem PySem.Spec PyProof.Rows L2 TL
/-! d.values() -/
def VwO (v d : Addr) : HO := .ext fun h => h.IsValuesView v d
def tValues (te : TE) : TE := fun σ H Q => te σ H fun x H1 => ∃ (d : Addr) (ks : List (Key × V)), x = .ref d ∧ Rd H1 d (.dK ks) ∧ ∀ v, H1 v = none → Q (.ref v) (upd H1 v (VwO v d))
section
variable {X : Cx} {e : Expr} {te : TE} {apos cpos : Pos}
end
/-- the values of a dict, as they are told -/
structure Vw (α : Type) where
  l : List α
def VwR {α : Type} [Rp α] (K : PySem.W.Frag) (H : Hp) (v : V) (x : Vw α) : Prop := ∃ (p d : Addr) (ks : List (Key × V)), v = .ref p ∧ H p = some (VwO p d) ∧ Rd H d (.dK ks) ∧ Paired (Rp.rep K H) (ks.map (·.2)) x.l ∧ x.l.length ≤ big
/-- a view that is read at once -/
structure VJ (X : Cx) (es : List En) (e : Expr) {α : Type} [Rp α] (xs : List α) : Prop where
  run : ∀ (f : Fr) (σ : L2.St) (F H : Hp), Sw X.K f es σ F H → ∀ Q : VK, (∀ p d ks F' H', St0 F H F' H' → H' p = some (VwO p d) → Rd H' d (.dK ks) → Paired (Rp.rep X.K (ovl F' H')) (ks.map (·.2)) xs → xs.length ≤ big → Q (.ref p) H') → wpE X e σ H Q
instance {X : Cx} {es : List En} {e : Expr} {α : Type} [Rp α] {xs : List α} : CoeFun (VJ X es e xs) (fun _ => ∀ (f : Fr) (σ : L2.St) (F H : Hp), Sw X.K f es σ F H → ∀ Q : VK, (∀ p d ks F' H', St0 F H F' H' → H' p = some (VwO p d) → Rd H' d (.dK ks) → Paired (Rp.rep X.K (ovl F' H')) (ks.map (·.2)) xs → xs.length ≤ big → Q (.ref p) H') → wpE X e σ H Q) := ⟨VJ.run⟩
section
variable {X : Cx} {es : List En} {a e : Expr} {pos apos p : Pos} {α κ : Type} [Sc κ] [Ky κ] [DecidableEq κ] [Rp α]
end
end Ly
namespace Ly
open PySem PySem.Spec PyProof.Rows L2 TL
section
variable {X : Cx} {es es1 es2 es3 : List En} {a b c d e : Expr} {pos : Pos} {α β γ δ : Type} {i : Nat} {st : Stmt}
/-! == of four in a tuple -/
theorem tp4_same [Rp α] [EqB α] [Rp β] [EqB β] [Rp γ] [EqB γ] [Rp δ] [EqB δ] {K : PySem.W.Frag} {F : Hp} {v : V} {x y : Tp4 α β γ δ} (r1 : Rp.rep K F v x) (r2 : Rp.rep K F v y) : [eqb x.a y.a, eqb x.b y.b, eqb x.c y.c, eqb x.d y.d].all id = true := by
  obtain ⟨p, o, e1, f1, a, b, c, d, eo, ra, rb, rc, rd⟩ := r1
  obtain ⟨q, o2, e2, f2, a2, b2, c2, d2, eo2, ra2, rb2, rc2, rd2⟩ := r2
  subst e1 eo eo2
  cases e2
  rw [f1] at f2
  cases f2
  simp [show eqb x.a y.a = true from EqB.same ra ra2, show eqb x.b y.b = true from EqB.same rb rb2, show eqb x.c y.c = true from EqB.same rc rc2, show eqb x.d y.d = true from EqB.same rd rd2]
abbrev dep4 (α β γ δ : Type) [Rp α] [EqB α] [Rp β] [EqB β] [Rp γ] [EqB γ] [Rp δ] [EqB δ] : Nat := max (max (EqB.dep α) (EqB.dep β)) (max (EqB.dep γ) (EqB.dep δ))
theorem tp4_eqb [Rp α] [EqB α] [Rp β] [EqB β] [Rp γ] [EqB γ] [Rp δ] [EqB δ] {X : Cx} {F H : Hp} {v w : V} {x y : Tp4 α β γ δ} (s : Sub F H) (r1 : Rp.rep X.K F v x) (r2 : Rp.rep X.K F w y) :
    EqS X H (dep4 α β γ δ + 1) v w ([eqb x.a y.a, eqb x.b y.b, eqb x.c y.c, eqb x.d y.d].all id) ∧ RcS X H (dep4 α β γ δ + 1) .Eq v w ([eqb x.a y.a, eqb x.b y.b, eqb x.c y.c, eqb x.d y.d].all id) ∧ RcS X H (dep4 α β γ δ + 1) .NotEq v w (![eqb x.a y.a, eqb x.b y.b, eqb x.c y.c, eqb x.d y.d].all id) := by
  have sm := fun e : v = w => tp4_same r1 (e ▸ r2)
  obtain ⟨p, o, e1, f1, a, b, c, d, eo, ra, rb, rc, rd⟩ := r1
  obtain ⟨q, o2, e2, f2, a2, b2, c2, d2, eo2, ra2, rb2, rc2, rd2⟩ := r2
  subst e1 eo e2 eo2
  refine tup_core (tupR s f1) (tupR s f2) rfl rfl (fun e => sm (by rw [e])) fun j u w c hu hw hc => ?_
  match j, hu, hw, hc with
  | 0, hu, hw, hc => cases hu; cases hw; cases hc; exact (EqB.tree s ra ra2).mono (by unfold dep4; omega)
  | 1, hu, hw, hc => cases hu; cases hw; cases hc; exact (EqB.tree s rb rb2).mono (by unfold dep4; omega)
  | 2, hu, hw, hc => cases hu; cases hw; cases hc; exact (EqB.tree s rc rc2).mono (by unfold dep4; omega)
  | 3, hu, hw, hc => cases hu; cases hw; cases hc; exact (EqB.tree s rd rd2).mono (by unfold dep4; omega)
instance eqbTp4 [Rp α] [EqB α] [Rp β] [EqB β] [Rp γ] [EqB γ] [Rp δ] [EqB δ] : EqB (Tp4 α β γ δ) where
  eqb x y := [eqb x.a y.a, eqb x.b y.b, eqb x.c y.c, eqb x.d y.d].all id
  dep := dep4 α β γ δ + 1
  tree s r1 r2 := (tp4_eqb s r1 r2).1
  eq s r1 r2 := (tp4_eqb s r1 r2).2.1
  ne s r1 r2 := (tp4_eqb s r1 r2).2.2
  same r1 r2 := tp4_same r1 r2
/-! range with a step -/
def stepN (lo hi c : Int) : Nat := (if lo < hi then (hi - lo - 1) / c + 1 else 0).toNat
def rangeS (lo hi c : Int) : List Int := (List.range (stepN lo hi c)).map fun (i : Nat) => lo + (i : Int) * c
/-! max, min of two with an effect -/
/-! chains -/
/-! None or a scalar, compared -/
class ScO (α : Type) [Sc α] : Prop where
  so : ∀ x : α, L2.scal .non (Sc.toV x) = true ∧ L2.scal (Sc.toV x) .non = true
instance : ScO Int := ⟨fun _ => ⟨rfl, rfl⟩⟩
instance : ScO Str := ⟨fun _ => ⟨rfl, rfl⟩⟩
instance : ScO Bool := ⟨fun _ => ⟨rfl, rfl⟩⟩
instance [Sc α] [DecidableEq α] [ScE α] [NoN α] [ScO α] : ScE (Option α) where
  sc x y := match x, y with
    | none, none => rfl
    | none, some y => (ScO.so y).1
    | some x, none => (ScO.so x).2
    | some x, some y => ScE.sc x y
  inj x y := match x, y with
    | none, none => fun _ => rfl
    | none, some y => fun h => (NoN.nn y h.symm).elim
    | some x, none => fun h => (NoN.nn x h).elim
    | some x, some y => fun h => by rw [ScE.inj x y h]
/-! len of a dict -/
/-- a test that never holds -/
theorem es_ifx {A rest : List Stmt} {b : Bool} {o : Out} {c : Expr} (hb : b = false) (h : XT X es c b es1) (h2 : ES X es1 rest o) : ES X es (.If c A [] pos :: rest) o := .mk fun f σ F H D S q =>
  pssR (pss_cons (ps_if ptW pssW pss_nil) pssW) (h f σ F H S _ fun F1 H1 S1 i1 => by
    subst hb
    exact h2 f σ F1 H1 D S1 q)
end
end Ly
namespace Ly
open PySem PySem.Spec PyProof.Rows L2 TL
/-! a new tuple of three whose middle part is one's own -/
structure Tm (α β γ : Type) where
  x : Tp3 α β γ
section
variable {α β γ δ : Type}
instance owTm [ra : Rp α] [rb : Ow β] [OwR β] [rc : Rp γ] : Ow (Tm α β γ) where
  rp := ⟨fun K H v x => @Rp.rep (Tp3 α β γ) (@rpCl _ (@clTp3 _ _ _ ra Ow.rp rc)) K H v x.x, fun i h => @Rp.mono (Tp3 α β γ) (@rpCl _ (@clTp3 _ _ _ ra Ow.rp rc)) _ _ _ _ _ i h⟩
  own K F H v x P := ∃ a va vb vc Q, v = .ref a ∧ P = a :: Q ∧ H a = some (.tup [va, vb, vc]) ∧ F a = none ∧ Rp.rep K F va x.x.a ∧ Ow.own K F H vb x.x.b Q ∧ Rp.rep K F vc x.x.c
  mono {K F F' H H' v x P} i h hf r := by
    obtain ⟨a, va, vb, vc, Q, e, rfl, h1, h2, r0, r1, r2⟩ := r
    exact ⟨a, va, vb, vc, Q, e, rfl, (h a (by simp)).trans h1, hf a (by simp), Rp.mono i r0, Ow.mono i (fun p hp => h p (List.mem_cons_of_mem _ hp)) (fun p hp => hf p (List.mem_cons_of_mem _ hp)) r1, Rp.mono i r2⟩
  out {K F H v x P} r p hp := by
    obtain ⟨a, va, vb, vc, Q, e, rfl, h1, h2, r0, r1, r2⟩ := r
    rcases List.mem_cons.mp hp with h | h
    · rw [h]; exact ⟨nn h1, h2⟩
    · exact Ow.out r1 p h
  fzn {K F H v x P} r := by
    obtain ⟨a, va, vb, vc, Q, e, rfl, h1, h2, r0, r1, r2⟩ := r
    have hf : ∀ p ∈ a :: Q, F p = none := fun p hp => by
      rcases List.mem_cons.mp hp with h | h
      · rw [h]; exact h2
      · exact (Ow.out r1 p h).2
    have i0 : Inc F (fzP F H (a :: Q)) := fzP_inc hf
    exact ⟨a, _, e, (fzP_in (by simp)).trans h1, va, vb, vc, rfl, Rp.mono i0 r0, @Rp.mono β Ow.rp _ _ _ _ _ (fzP_sub (fun p hp => List.mem_cons_of_mem _ hp) hf) (Ow.fzn r1), Rp.mono i0 r2⟩
  nt {K F H v x P} r p hp ks := by
    obtain ⟨a, va, vb, vc, Q, e, rfl, h1, h2, r0, r1, r2⟩ := r
    rcases List.mem_cons.mp hp with h | h
    · rw [h, h1]
      intro z
      obtain ⟨b, eb⟩ := OwR.ref r1
      injection z with z
      injection z with z
      match ks, z with
      | [_, kb, _], z =>
        have zb : vb = kV kb := (List.cons.inj (List.cons.inj z).2).1
        rw [eb] at zb
        cases kb <;> cases zb
    · exact Ow.nt r1 p h ks
variable {X : Cx} {es es1 es2 : List En} {a b c d e : Expr} {pos : Pos} {i : Nat} {st : Stmt}
theorem NJ.tmf [ra : Rp α] [Ow β] [OwR β] [rc : Rp γ] {x : Tp3 α β γ} (h : NJ X es e (Tm.mk x)) : @FJ X es e (Tp3 α β γ) (@rpCl _ (@clTp3 _ _ _ ra Ow.rp rc)) x := ⟨(show @FJ X es e (Tm α β γ) Ow.rp (Tm.mk x) from NJ.frz h).run⟩
theorem YJ.tmf [ra : Rp α] [Ow β] [OwR β] [rc : Rp γ] {x : Tp3 α β γ} (h : YJ X es e (Tm.mk x) es1) : @XJ X es e (Tp3 α β γ) (@rpCl _ (@clTp3 _ _ _ ra Ow.rp rc)) x es1 := ⟨(show @XJ X es e (Tm α β γ) Ow.rp (Tm.mk x) es1 from YJ.frz h).run⟩
/-! len of a tuple -/
class TupN (α : Type) [Rp α] where
  n : Nat
  tup : ∀ {K : PySem.W.Frag} {F : Hp} {v : V} {x : α}, Rp.rep K F v x → ∃ p vs, v = .ref p ∧ F p = some (.tup vs) ∧ vs.length = n
instance [Rp α] [Rp β] : TupN (α × β) := ⟨2, fun r => by
  obtain ⟨p, o, e, h1, v, w, eo, _⟩ := r
  subst eo
  exact ⟨p, _, e, h1, rfl⟩⟩
instance [Rp α] [Rp β] [Rp γ] : TupN (Tp3 α β γ) := ⟨3, fun r => by
  obtain ⟨p, o, e, h1, v, w, u, eo, _⟩ := r
  subst eo
  exact ⟨p, _, e, h1, rfl⟩⟩
instance [Rp α] [Rp β] [Rp γ] [Rp δ] : TupN (Tp4 α β γ δ) := ⟨4, fun r => by
  obtain ⟨p, o, e, h1, v, w, u, t, eo, _⟩ := r
  subst eo
  exact ⟨p, _, e, h1, rfl⟩⟩
/-! int or text -/
inductive IS where
  | i (x : Int)
  | s (x : Str)
  deriving DecidableEq, Inhabited
instance scIS : Sc IS := ⟨fun x => match x with
  | .i x => .int x
  | .s x => .str x, fun x => match x with
  | .i _ => True
  | .s x => sOk x⟩
instance : ScE IS where
  sc x y := match x, y with
    | .i _, .i _ => rfl
    | .i _, .s _ => rfl
    | .s _, .i _ => rfl
    | .s _, .s _ => rfl
  inj x y := match x, y with
    | .i _, .i _ => fun h => by injection h with h; rw [h]
    | .i _, .s _ => fun h => by cases h
    | .s _, .i _ => fun h => by cases h
    | .s _, .s _ => fun h => by injection h with h; rw [h]
def sel4 (x : Tp4 Int Str Int Int) (i : Int) : IS := if i = 0 then .i x.a else if i = 1 then .s x.b else if i = 2 then .i x.c else .i x.d
end
/-! a chain of three -/
section
variable {X : Cx} {es : List En} {a b c d : Expr} {pos : Pos} {ta tb tc td : TE}
def tChain3 (r r' r2 : R2) (ta tb tc td : TE) : TE := fun σ H Q => ta σ H fun x H1 => tb σ H1 fun y H2 => r x y H2 fun z H3 => ∃ k, z = .bl k ∧
  (if k = true then tc σ H3 fun w H4 => r' y w H4 fun z' H5 => ∃ k', z' = .bl k' ∧ (if k' = true then td σ H5 fun u H6 => r2 w u H6 Q else Q (.bl false) H5) else Q (.bl false) H3)
end
end Ly
namespace Ly
open PySem PySem.Spec PyProof.Rows L2 TL
/-! d.items(), told as a list -/
def ItO (v d : Addr) : HO := .ext fun h => h.IsItemsView v d
def tItems (te : TE) : TE := fun σ H Q => te σ H fun x H1 => ∃ (d : Addr) (ks : List (Key × V)), x = .ref d ∧ Rd H1 d (.dK ks) ∧ ∀ v, H1 v = none → Q (.ref v) (upd H1 v (ItO v d))
section
variable {X : Cx} {e : Expr} {te : TE} {apos cpos : Pos}
end
section
variable {X : Cx} {es es1 : List En} {a e : Expr} {pos apos p : Pos} {α κ : Type} [Sc κ] [Ky κ] [DecidableEq κ] [Rp α]
/-- the items of a dict, read at once -/
structure VI (X : Cx) (es : List En) (e : Expr) {κ α : Type} [Sc κ] [Ky κ] [Rp α] (xs : List (κ × α)) : Prop where
  run : ∀ (f : Fr) (σ : L2.St) (F H : Hp), Sw X.K f es σ F H → ∀ Q : VK, (∀ p d ks F' H', St0 F H F' H' → H' p = some (ItO p d) → Rd H' d (.dK ks) → Paired (DR X.K F') ks xs → xs.length ≤ big → Q (.ref p) H') → wpE X e σ H Q
instance {X : Cx} {es : List En} {e : Expr} {κ α : Type} [Sc κ] [Ky κ] [Rp α] {xs : List (κ × α)} : CoeFun (VI X es e xs) (fun _ => ∀ (f : Fr) (σ : L2.St) (F H : Hp), Sw X.K f es σ F H → ∀ Q : VK, (∀ p d ks F' H', St0 F H F' H' → H' p = some (ItO p d) → Rd H' d (.dK ks) → Paired (DR X.K F') ks xs → xs.length ≤ big → Q (.ref p) H') → wpE X e σ H Q) := ⟨VI.run⟩
/-! dict(xs) of a list of pairs whose keys are unlike -/
end
/-! what is told: a plan or a crowd -/
inductive Told where
  | plan (l : List (Int × List Str))
  | crowd (x y : Int) (ns : List Str)
  deriving DecidableEq, Inhabited
namespace Told
def kind : Told → Str
  | .plan _ => "plan"
  | .crowd _ _ _ => "crowd"
def isCrowd : Told → Bool
  | .plan _ => false
  | .crowd _ _ _ => true
def names : Told → List Str
  | .plan _ => []
  | .crowd _ _ ns => ns
def rows : Told → List (Int × List Str)
  | .plan l => l
  | .crowd _ _ _ => []
end Told
instance clTold : Cl Told where
  cell K H o x := match x with
    | .plan l => Cl.cell K H o (("plan" : Str), l)
    | .crowd a b ns => Cl.cell K H o (Tp4.mk ("crowd" : Str) a b ns)
  mono {K H H' o x} i h := by
    cases x with
    | plan l => exact Cl.mono i h
    | crowd a b ns => exact Cl.mono i h
section
variable {X : Cx} {es es1 : List En} {a b c d e tg : Expr} {pos : Pos} {α β γ δ : Type} {i j k : Nat} {st : Stmt}
/-! targets in comprehensions -/
end
end Ly
namespace Ly
open PySem PySem.Spec PyProof.Rows L2 TL
/-- the out of a def with a lent argument; told without looking into the pair -/
@[irreducible] def ruO {π ρ : Type} (pa : Addr) (r : Ow π) (w : ρ → En) (m : ρ × π) : Out := Out.ru pa r m.2 (w m.1)
section
variable {X : Cx} {es : List En} {sts : List Stmt} {π ρ : Type} {pa : Addr} {r : Ow π} {w : ρ → En}
theorem ruO_def {m : ρ × π} : ruO pa r w m = Out.ru pa r m.2 (w m.1) := by unfold ruO; rfl
theorem ruO_ends {m : ρ × π} : (ruO pa r w m).ends = true := by rw [ruO_def]; rfl
theorem ruO_rets {m : ρ × π} : (ruO pa r w m).rets = true := by rw [ruO_def]; rfl
theorem es_ru {x : ρ} {p : π} (h : ES X es sts (Out.ru pa r p (w x))) : ES X es sts (ruO pa r w (x, p)) := by rw [ruO_def]; exact h
theorem es_ruO {m : ρ × π} (h : ES X es sts (ruO pa r w m)) : ES X es sts (Out.ru pa r m.2 (w m.1)) := by rw [ruO_def] at h; exact h
end
/-- on with the state m; told without looking into m -/
@[irreducible] def nxO {β : Type} (esf : β → List En) (m : β) : Out := .nx (esf m)
section
variable {X : Cx} {es es1 : List En} {sts : List Stmt} {β : Type} {esf : β → List En} {m m1 m2 : β} {c : Expr} {pos : Pos}
theorem nxO_def : nxO esf m = .nx (esf m) := by unfold nxO; rfl
theorem es_nxO (h : ES X es sts (nxO esf m)) : ES X es sts (.nx (esf m)) := by rw [nxO_def] at h; exact h
theorem es_nilO (w : Wk es (esf m)) (n : noAls (esf m) = true := by rfl) : ES X es [] (nxO esf m) := by rw [nxO_def]; exact es_nil w n
theorem s_ifeO {A B : List Stmt} {b : Bool} (esf : β → List En) (h : XT X es c b es1) (h1 : b = true → ES X es1 A (nxO esf m1)) (h2 : b = false → ES X es1 B (nxO esf m2)) : E1 X es (.If c A B pos) (esf (bif b then m1 else m2)) := by
  have z := s_ife (pos := pos) (k := nxO esf) h h1 h2
  rw [nxO_def] at z
  exact z
end
end Ly
namespace LyT
open PySem L2
/-- the round of i -> 5 i + 1, n steps from i on -/
def orb (m : Nat) : Nat → Nat → List Nat
  | 0, _ => []
  | n + 1, i => i :: orb m n ((i * 5 + 1) % (m + 1))
theorem lcgI_front (m i : Nat) : ∀ k, lcgI m i (k + 1) = lcgI m ((i * 5 + 1) % (m + 1)) k
  | 0 => rfl
  | k + 1 => by
    have e := lcgI_front m i k
    have e1 : lcgI m i (k + 1 + 1) = (lcgI m i (k + 1) * 5 + 1) % (m + 1) := rfl
    rw [e1, e]; rfl
theorem orb_mem {m j : Nat} : ∀ (n i : Nat), j ∈ orb m n i → ∃ k, k < n ∧ lcgI m i k = j
  | 0, _, h => by cases h
  | n + 1, i, h => by
    rcases List.mem_cons.mp h with e | e
    · exact ⟨0, by omega, e.symm⟩
    · obtain ⟨k, hk, e2⟩ := orb_mem n _ e
      exact ⟨k + 1, by omega, by rw [lcgI_front]; exact e2⟩
theorem lcgI_join (m i a : Nat) : ∀ k, lcgI m (lcgI m i a) k = lcgI m i (a + k)
  | 0 => rfl
  | k + 1 => by
    have e1 : lcgI m (lcgI m i a) (k + 1) = (lcgI m (lcgI m i a) k * 5 + 1) % (m + 1) := rfl
    rw [e1, lcgI_join m i a k]; rfl
theorem orb511 : ((List.range 512).all fun j => (orb 511 512 0).contains j) = true := by decide +kernel
theorem back511 : lcgI 511 0 512 = 0 := by decide +kernel
theorem from0 {j : Nat} (hj : j ≤ 511) : ∃ k, k ≤ 511 ∧ lcgI 511 0 k = j := by
  have h1 := List.all_eq_true.mp orb511 j (List.mem_range.mpr (by omega))
  obtain ⟨k, hk, e⟩ := orb_mem 512 0 (List.contains_iff_mem.mp h1)
  exact ⟨k, by omega, e⟩
/-- with mask 511, too, each slot is met within a round -/
theorem round511 {i j : Nat} (hi : i ≤ 511) (hj : j ≤ 511) : ∃ k, k ≤ 511 ∧ lcgI 511 i k = j := by
  obtain ⟨a, ha, ea⟩ := from0 hi
  obtain ⟨b, hb, eb⟩ := from0 hj
  rcases Nat.lt_or_ge b a with c | c
  · refine ⟨512 - a + b, by omega, ?_⟩
    rw [← ea, lcgI_join, show a + (512 - a + b) = 512 + b by omega, ← lcgI_join, back511]
    exact eb
  · refine ⟨b - a, by omega, ?_⟩
    rw [← ea, lcgI_join, show a + (b - a) = b by omega]
    exact eb
/-- the masks that come for up to 300 members -/
def MaskW (m : Nat) : Prop := MaskOk m ∨ m = 511
theorem roundW {m i j : Nat} (hm : MaskW m) (hi : i ≤ m) (hj : j ≤ m) : ∃ k, k ≤ m ∧ lcgI m i k = j := by
  rcases hm with h | h
  · exact lcgI_all h hi hj
  · subst h; exact round511 hi hj
theorem meetsW {m : Nat} (hm : MaskW m) (h : Int) {j : Nat} (hj : j ≤ m) : ∃ k, k < 10 * SetTable.turns m ∧ way m h k = j := by
  obtain ⟨k0, hk0, e0⟩ := roundW hm (runI_le m (SetTable.bits h) 12) hj
  obtain ⟨k, hk, e2⟩ := run_nth m (SetTable.bits h) (12 + k0)
  refine ⟨k, by unfold SetTable.turns; omega, ?_⟩
  show (nth m (runAt m (SetTable.bits h % (m + 1)) (SetTable.bits h)) k).j = j
  rw [e2]
  show runI m (SetTable.bits h) (12 + k0) = j
  rw [runI_tail (bits_lt h)]
  exact e0
end LyT
namespace LyT
open PySem L2
/-- a table (with mask 511, too) whose places are all found again -/
structure TabW (t : SetTable) (hs : List Int) : Prop where
  up : Ris t.place.toList
  nodum : t.dummies = #[]
  len : t.place.size = hs.length
  mw : MaskW t.mask
  low : ∀ x ∈ t.place.toList, x ≤ t.mask
  seen : ∀ (i : Nat) (g : Int) (j : Nat), hs[i]? = some g → t.place.toList[i]? = some j → ∃ k, way t.mask g k = j ∧ ∀ u, u < k → way t.mask g u ∈ t.place.toList
theorem TabW.free {t : SetTable} {hs : List Int} (T : TabW t hs) (hl : hs.length ≤ t.mask) (g : Int) : ∃ n, n < 10 * SetTable.turns t.mask ∧ way t.mask g n ∉ t.place.toList ∧ ∀ u, u < n → way t.mask g u ∈ t.place.toList := by
  obtain ⟨j, hj, hn⟩ := st_missing t.place.toList (t.mask + 1) (by rw [Array.length_toList, T.len]; omega)
  obtain ⟨k, hk, e⟩ := meetsW T.mw g (Nat.le_of_lt_succ hj)
  obtain ⟨n, a1, a2, a3⟩ := st_least (p := fun u => way t.mask g u ∉ t.place.toList) k (by rw [e]; exact hn)
  exact ⟨n, by omega, a2, fun u hu => Classical.byContradiction fun c => a3 u hu c⟩
theorem TabW.ahead {t : SetTable} {hs : List Int} (T : TabW t hs) {g : Int} {n i j : Nat} (hn : way t.mask g n ∉ t.place.toList) (hi : hs[i]? = some g) (hj : t.place.toList[i]? = some j) : ∃ k, k < n ∧ way t.mask g k = j := by
  obtain ⟨k, e, hb⟩ := T.seen i g j hi hj
  by_cases c : k < n
  · exact ⟨k, c, e⟩
  · by_cases d : k = n
    · subst d
      rw [e] at hn
      exact (hn (List.mem_of_getElem? hj)).elim
    · exact (hn (hb n (by omega))).elim
end LyT
namespace LyT
open PySem L2
theorem way_in (m : Nat) (g : Int) (k : Nat) : way m g k ≤ m := by
  have a1 : SetTable.bits g % (m + 1) ≤ m := Nat.le_of_lt_succ (Nat.mod_lt _ (Nat.succ_pos _))
  have a2 := runEnd_bd a1
  have a3 := nth_in k (runAt m (SetTable.bits g % (m + 1)) (SetTable.bits g)) (m := m) (by
    show SetTable.bits g % (m + 1) + (SetTable.runEnd m (SetTable.bits g % (m + 1)) - SetTable.bits g % (m + 1)) ≤ m
    omega)
  have a4 : way m g k = (nth m (runAt m (SetTable.bits g % (m + 1)) (SetTable.bits g)) k).j := rfl
  omega
/-- one more is put where its way first finds room -/
theorem TabW.more {t : SetTable} {hs : List Int} (T : TabW t hs) {g : Int} {n : Nat} (hn : way t.mask g n ∉ t.place.toList) (hb : ∀ u, u < n → way t.mask g u ∈ t.place.toList) :
    SetTable.below t.place (way t.mask g n) ≤ hs.length ∧ TabW (t.put (way t.mask g n)).1 (hs.take (SetTable.below t.place (way t.mask g n)) ++ g :: hs.drop (SetTable.below t.place (way t.mask g n))) ∧ (t.put (way t.mask g n)).1.fill = hs.length + 1 := by
  have lo := way_in t.mask g n
  generalize hw : way t.mask g n = w at hn lo ⊢
  obtain ⟨b1, _, _⟩ := below_cut T.up w
  generalize hp : SetTable.below t.place w = p at b1
  have q1 : p ≤ hs.length := by rw [← T.len]; exact b1
  have q2 : p ≤ t.place.toList.length := by rw [Array.length_toList]; exact b1
  have pl : (t.put w).1.place.toList = t.place.toList.take p ++ w :: t.place.toList.drop p := by rw [← hp]; exact put_place t w
  have sz : (t.put w).1.place.size = hs.length + 1 := by rw [← Array.length_toList, pl, len_ins _ q2, Array.length_toList, T.len]
  have ne : t.place[SetTable.below t.place w]? ≠ some w := fun e => hn (List.mem_of_getElem? (by rw [Array.getElem?_toList]; exact e))
  have grow : ∀ x, x ∈ t.place.toList → x ∈ (t.put w).1.place.toList := fun x hx => by rw [pl]; exact mem_ins.2 (.inr hx)
  refine ⟨q1, ⟨ris_insert T.up ne, put_dm T.nodum w, by rw [len_ins _ q1]; exact sz, T.mw, fun x hx => ?_, fun i g' j' h1 h2 => ?_⟩, ?_⟩
  · rw [pl] at hx
    show x ≤ t.mask
    rcases mem_ins.1 hx with e | e
    · omega
    · exact T.low x e
  · rw [tins_get hs q1] at h1
    rw [pl, tins_get _ q2] at h2
    have old : ∀ i0, hs[i0]? = some g' → t.place.toList[i0]? = some j' → ∃ k, way (t.put w).1.mask g' k = j' ∧ ∀ u, u < k → way (t.put w).1.mask g' u ∈ (t.put w).1.place.toList := fun i0 z1 z2 => by
      obtain ⟨k, e, z⟩ := T.seen i0 g' j' z1 z2
      exact ⟨k, e, fun u hu => grow _ (z u hu)⟩
    by_cases c : i < p
    · rw [if_pos c] at h1 h2
      exact old i h1 h2
    · rw [if_neg c] at h1 h2
      by_cases d : i = p
      · rw [if_pos d] at h1 h2
        cases h1
        cases h2
        exact ⟨n, hw, fun u hu => grow _ (hb u hu)⟩
      · rw [if_neg d] at h1 h2
        exact old (i - 1) h1 h2
  · show (t.put w).1.place.size + (t.put w).1.dummies.size = hs.length + 1
    rw [sz, put_dm T.nodum w]
    rfl
end LyT
namespace LyT
open PySem L2
theorem oddW {m : Nat} (hm : MaskW m) : m % 2 = 1 := by
  rcases hm with a | a
  · exact mask_odd a
  · subst a; rfl
theorem leW {m : Nat} (hm : MaskW m) : m ≤ 511 := by
  rcases hm with (a | a | a) | a <;> omega
theorem runsW {m : Nat} (hm : MaskW m) (g : Int) {j : Nat} (hj : j ≤ m) : ∃ n, n ≤ m + 12 ∧ runI m (SetTable.bits g) n = j := by
  obtain ⟨u, hu, eu⟩ := roundW hm (runI_le m (SetTable.bits g) 12) hj
  refine ⟨12 + u, by omega, ?_⟩
  rw [runI_tail (bits_lt g)]
  exact eu
/-- room is found where the way first meets it -/
theorem roomW {m : Nat} (hm : MaskW m) (ow : Array (Option Nat)) (g : Int) {j : Nat} (hj : j ≤ m) (hf : oAt ow j = none) :
    ∃ N, SetTable.layClean.free m ow (SetTable.turns m) (SetTable.bits g % (m + 1)) (SetTable.bits g) = some (way m g N) ∧ oAt ow (way m g N) = none ∧ ∀ u, u < N → oAt ow (way m g u) ≠ none := by
  obtain ⟨n, hn, e⟩ := runsW hm g hj
  have at0 : way m g (off m (SetTable.bits g % (m + 1)) (SetTable.bits g) n) = j := by
    unfold way
    rw [nth_off, itL_run]
    exact e
  obtain ⟨N, n1, n2, n3⟩ := st_least (p := fun u => oAt ow (way m g u) = none) (off m (SetTable.bits g % (m + 1)) (SetTable.bits g) n) (by
    show oAt ow (way m g _) = none
    rw [at0]; exact hf)
  refine ⟨N, free_spec m ow (SetTable.turns m) n _ _ N (by unfold SetTable.turns; omega) n1 (fun u hu => ?_) ?_, n2, n3⟩
  · have q := n3 u hu
    unfold way at q
    cases z : oAt ow (nth m (runAt m (SetTable.bits g % (m + 1)) (SetTable.bits g)) u).j with
    | none => exact (q z).elim
    | some _ => rfl
  · unfold way at n2
    rw [n2]
    rfl
/-- one more finds its owner's place -/
theorem ownMore {m : Nat} (hm : MaskW m) {ds : List Int} {ow : Array (Option Nat)} (W : Own m ds ow) (hl : ds.length ≤ m) (g : Int) :
    ∃ j, SetTable.layClean.free m ow (SetTable.turns m) (SetTable.bits g % (m + 1)) (SetTable.bits g) = some j ∧ Own m (ds ++ [g]) (ow.setIfInBounds j (some ds.length)) := by
  obtain ⟨ps, c1, c2⟩ := W.ps
  obtain ⟨j0, b1, b2⟩ := st_missing ps (m + 1) (by omega)
  obtain ⟨N, e1, e2, e3⟩ := roomW hm ow g (Nat.le_of_lt_succ b1) (by
    cases z : oAt ow j0 with
    | none => rfl
    | some u => exact (b2 (c2 j0 (Nat.le_of_lt_succ b1) (by rw [z]; intro y; cases y))).elim)
  have wl := way_in m g N
  generalize hw : way m g N = w at e1 e2 wl
  have ws : w < ow.size := by have z := W.sz; omega
  have here := oAt_set_self (some ds.length) ws
  have grow : ∀ i, oAt ow i ≠ none → oAt (ow.setIfInBounds w (some ds.length)) i ≠ none := fun i hi => by
    by_cases c : i = w
    · subst c; rw [here]; intro y; cases y
    · rw [oAt_set_ne _ c]; exact hi
  refine ⟨w, e1, by rw [Array.size_setIfInBounds]; exact W.sz, fun j u hj e => ?_, fun u hu => ?_, w :: ps, by simp [c1], fun j hj e => ?_⟩
  · by_cases c : j = w
    · subst c
      rw [here] at e
      cases e
      exact ⟨g, N, by simp, hw, fun x hx => grow _ (e3 x hx)⟩
    · rw [oAt_set_ne _ c] at e
      obtain ⟨g', N', z1, z2, z3⟩ := W.at_ j u hj e
      have z4 := (List.getElem?_eq_some_iff.mp z1).1
      exact ⟨g', N', by rw [List.getElem?_append_left z4]; exact z1, z2, fun x hx => grow _ (z3 x hx)⟩
  · rw [List.length_append] at hu
    by_cases c : u < ds.length
    · obtain ⟨j, hj, e⟩ := W.all u c
      have ne : j ≠ w := fun y => by rw [y, e2] at e; cases e
      exact ⟨j, hj, by rw [oAt_set_ne _ ne]; exact e⟩
    · have eu : u = ds.length := by
        have : ([g] : List Int).length = 1 := rfl
        omega
      exact ⟨w, wl, by rw [eu]; exact here⟩
  · by_cases c : j = w
    · rw [c]; exact List.mem_cons_self
    · rw [oAt_set_ne _ c] at e
      exact List.mem_cons_of_mem _ (c2 j hj e)
theorem foldW {m : Nat} (hm : MaskW m) : ∀ (gs ds : List Int) (ow : Array (Option Nat)), Own m ds ow → ds.length + gs.length ≤ m →
    ∃ ow2, gs.foldl (stepF m) (some (ow, ds.length)) = some (ow2, (ds ++ gs).length) ∧ Own m (ds ++ gs) ow2
  | [], ds, ow, W, _ => ⟨ow, by simp, by simpa using W⟩
  | g :: gs, ds, ow, W, hl => by
    have hl2 : ds.length + (gs.length + 1) ≤ m := hl
    obtain ⟨j, e, W2⟩ := ownMore hm W (by omega) g
    have ln : (ds ++ [g]).length = ds.length + 1 := by simp
    obtain ⟨ow2, f, W3⟩ := foldW hm gs (ds ++ [g]) _ W2 (by omega)
    have ap : ds ++ [g] ++ gs = ds ++ g :: gs := by simp
    rw [ap, ln] at f
    rw [ap] at W3
    exact ⟨ow2, by rw [List.foldl_cons, stepF_some e, f], W3⟩
theorem cleanW {m : Nat} (hm : MaskW m) {gs : Array Int} (hn : gs.size ≤ m) : ∃ ow, SetTable.layClean m gs = some ow ∧ Own m gs.toList ow := by
  obtain ⟨ow, f, W⟩ := foldW hm gs.toList [] _ (Own.init m) (by rw [Array.length_toList]; simpa using hn)
  refine ⟨ow, ?_, by simpa using W⟩
  have f2 : gs.toList.foldl (stepF m) (some (Array.replicate (m + 1) none, 0)) = some (ow, ([] ++ gs.toList).length) := f
  rw [layClean_eq, f2]
  rfl
/-- laid anew, the table is whole -/
theorem relaidW (t : SetTable) {gs : Array Int} {wanted M : Nat} (hw : SetTable.sizeAbove wanted - 1 = M) (hM : MaskW M) (hn : gs.size ≤ M) :
    ∃ t2 ord, t.relaid gs wanted = some (t2, ord) ∧ ord.toList.Perm (List.range gs.size) ∧ TabW t2 (ord.toList.map fun i => gs.getD i 0) ∧ t2.mask = M ∧ t2.led = t.led ∧ t2.plain = t.plain := by
  obtain ⟨ow, e, W⟩ := cleanW hM hn
  have r0 := ris_live (fun j => ow.getD j none) (List.range (M + 1)) List.pairwise_lt_range
  have r1 : Ris ((liveOf M ow).map (·.1)) := r0.1
  have r2 : ∀ x ∈ (liveOf M ow).map (·.1), x ∈ List.range (M + 1) := r0.2
  have mem : ∀ {j k : Nat}, (j, k) ∈ liveOf M ow ↔ j ≤ M ∧ oAt ow j = some k := fun {j k} => mem_live W.sz
  have allK : ∀ u, u < gs.size → u ∈ (liveOf M ow).map (·.2) := fun u hu => by
    obtain ⟨j, b1, b2⟩ := W.all u (by simpa using hu)
    exact List.mem_map.mpr ⟨(j, u), mem.2 ⟨b1, b2⟩, rfl⟩
  have ln : (liveOf M ow).length = gs.size := by
    obtain ⟨ps, p1, p2⟩ := W.ps
    have le1 := nat_nodup_len ((liveOf M ow).map (·.1)) ps (by unfold Ris at r1; exact r1.imp fun z => Nat.ne_of_lt z) fun x hx => by
      obtain ⟨⟨y, u⟩, hq, rfl⟩ := List.mem_map.mp hx
      obtain ⟨b1, b2⟩ := mem.1 hq
      exact p2 y b1 (by rw [b2]; intro z; cases z)
    have le2 := nat_nodup_len (List.range gs.size) ((liveOf M ow).map (·.2)) List.nodup_range fun u hu => allK u (List.mem_range.mp hu)
    simp only [List.length_map, List.length_range, p1, Array.length_toList] at le1 le2
    omega
  refine ⟨tabOf t M ow, ((liveOf M ow).map (·.2)).toArray, by rw [relaid_eq, hw, e]; rfl, perm_range gs.size _ (by simpa using ln) allK, ⟨r1, rfl, ?_, hM, fun x hx => Nat.le_of_lt_succ (List.mem_range.mp (r2 x hx)), fun i g j h1 h2 => ?_⟩, rfl, rfl, rfl⟩
  · show ((liveOf M ow).map (·.1)).toArray.size = _
    simp
  · have g1 : (((liveOf M ow).map (·.2)).map fun i => gs.getD i 0)[i]? = some g := h1
    have g2 : ((liveOf M ow).map (·.1))[i]? = some j := h2
    rw [List.getElem?_map] at g2
    rw [List.map_map, List.getElem?_map] at g1
    cases hq : (liveOf M ow)[i]? with
    | none => rw [hq] at g2; cases g2
    | some q =>
      obtain ⟨y, u⟩ := q
      rw [hq] at g1 g2
      have ey : y = j := Option.some.inj g2
      have eg : gs.getD u 0 = g := Option.some.inj g1
      subst ey
      obtain ⟨b1, b2⟩ := mem.1 (List.mem_of_getElem? hq)
      obtain ⟨g0, N, a1, a2, a3⟩ := W.at_ y u b1 b2
      have e0 : gs.getD u 0 = g0 := by
        rw [Array.getD_eq_getD_getElem?, ← Array.getElem?_toList, a1]; rfl
      have eq2 : g0 = g := e0.symm.trans eg
      subst eq2
      refine ⟨N, a2, fun x hx => ?_⟩
      show way M g0 x ∈ (liveOf M ow).map (·.1)
      cases z : oAt ow (way M g0 x) with
      | none => exact (a3 x hx z).elim
      | some v => exact List.mem_map.mpr ⟨(way M g0 x, v), mem.2 ⟨way_in M g0 x, z⟩, rfl⟩
theorem grow5 : SetTable.sizeAbove (SetTable.grown 5) = 32 := by decide +kernel
theorem grow19 : SetTable.sizeAbove (SetTable.grown 19) = 128 := by decide +kernel
theorem grow77 : SetTable.sizeAbove (SetTable.grown 77) = 512 := by decide +kernel
end LyT
namespace LyT
open PySem PySem.Spec PyProof.Rows L2
abbrev Ky2 := List Key
abbrev hk2 (P : Program) (w : World) (k : Ky2) : Int := tupleKeyHash (mixKind P w) k
abbrev At2 (P : Program) (w : World) (h : Heap) (k : Ky2) (a : Addr) : Prop := IsTupleKey (mixKind P w) h k a
section
variable {P : Program} {w : World} {A : Around} {E : Value → Shared → Prop} {s : Shared}
/-- an int or a text -/
def Plain (v : Value) : Prop := (∃ i t, v = Value.int i t) ∨ ∃ x t, v = Value.str x t
theorem plain_all {k : Ky2} {vs : List Value} (h : ItemsAre (mixKind P w) k vs) : ∀ v ∈ vs, Plain v := by
  induction h with
  | nil => intro v z; cases z
  | @cons k0 v0 ks us h1 _ ih =>
    intro v z
    rcases List.mem_cons.mp z with e | z
    · rw [e]
      rcases keyIs_shape h1 with ⟨i, t, _, e2⟩ | ⟨x, t, _, e2⟩
      · exact .inl ⟨i, t, e2⟩
      · exact .inr ⟨x, t, e2⟩
    · exact ih v z
theorem plain_cls (n : Nat) {v : Value} (h : Plain v) : ofAClassStatement n v = pure false := by
  rcases h with ⟨i, t, e⟩ | ⟨x, t, e⟩ <;> subst e <;> cases n <;> rfl
theorem plain_hash (n : Nat) {v : Value} (h : Plain v) : ∃ b, hashByValue n v = pure b := by
  rcases h with ⟨i, t, e⟩ | ⟨x, t, e⟩
  · exact ⟨true, by subst e; cases n <;> simp [hashByValue]⟩
  · exact ⟨false, by subst e; cases n <;> simp [hashByValue]⟩
theorem tup_cls {k : Ky2} {b : Addr} {R : Bool → Shared → Prop} (hb : At2 P w s.heap k b) (z : R false s) : wpAny (model P w) A (ofAClassStatement 8 (.ref b)) R E s := by
  have ty := hb.typeIs
  obtain ⟨ob, its, n, g1, _, g2, g3⟩ := hb
  have yes : (("tuple" : String) == "tuple") = true := by decide
  unfold ofAClassStatement
  refine wpAny_bind (wpAny_typeOf ty ?_)
  dsimp only
  simp only [yes, if_true, Bool.not_true, Bool.false_eq_true, if_false]
  try refine wpAny_bind (wpAny_pure ?_)
  try simp only [Bool.not_true, Bool.false_eq_true, if_false]
  show wpAny _ _ (seqItems? (.ref b) >>= _) _ _ s
  refine wpAny_bind (wpAny_seqItems g1 g2 ?_)
  dsimp only
  refine wpAny_bind ?_
  show wpAny _ _ (forIn its _ _) _ _ s
  rw [← Array.forIn_toList]
  refine wpAny_forIn_list _ (fun l r s1 => r.1 = none ∧ s1 = s ∧ ∀ v ∈ l, Plain v) _ (fun v l r s1 q => ?_) (fun r s1 q => ?_) _ _ ⟨rfl, rfl, plain_all g3⟩
  · obtain ⟨_, rfl, q3⟩ := q
    rw [plain_cls 7 (q3 v List.mem_cons_self)]
    refine wpAny_bind (wpAny_pure ?_)
    simp only [Bool.false_eq_true, if_false]
    exact wpAny_pure ⟨rfl, rfl, fun u hu => q3 u (List.mem_cons_of_mem _ hu)⟩
  · obtain ⟨r1, r2⟩ := r
    obtain ⟨q1, rfl, _⟩ := q
    simp only at q1
    subst q1
    exact wpAny_pure z
theorem tup_hash {k : Ky2} {b : Addr} {R : Bool → Shared → Prop} (hb : At2 P w s.heap k b) (z : ∀ q, R q s) : wpAny (model P w) A (hashByValue 8 (.ref b)) R E s := by
  have ty := hb.typeIs
  obtain ⟨ob, its, n, g1, _, g2, g3⟩ := hb
  unfold hashByValue
  refine wpAny_bind (wpAny_specialOf ty F.slot_tuple_hash.lookup ?_)
  show wpAny _ _ (seqItems? (.ref b) >>= _) _ _ s
  refine wpAny_bind (wpAny_seqItems g1 g2 ?_)
  refine wpAny_bind ?_
  show wpAny _ _ (forIn its _ _) _ _ s
  rw [← Array.forIn_toList]
  refine wpAny_mono (wpAny_forIn_list (E := E) _ (fun l r s1 => r.1 = none ∧ s1 = s ∧ ∀ v ∈ l, Plain v) (fun r s1 => s1 = s) (fun v l r s1 q => ?_) (fun r s1 q => q.2.1) _ _ ⟨rfl, rfl, plain_all g3⟩) (fun r s1 q => ?_) fun _ _ y => y
  · obtain ⟨_, rfl, q3⟩ := q
    obtain ⟨d, ed⟩ := plain_hash 7 (q3 v List.mem_cons_self)
    rw [ed]
    refine wpAny_bind (wpAny_pure ?_)
    cases d with
    | true =>
      simp only [Bool.not_true, Bool.false_eq_true, if_false]
      exact wpAny_pure ⟨rfl, rfl, fun u hu => q3 u (List.mem_cons_of_mem _ hu)⟩
    | false =>
      simp only [Bool.not_false, if_true]
      exact wpAny_pure rfl
  · obtain ⟨r1, r2⟩ := r
    subst q
    cases r1 with
    | none => exact wpAny_pure (z _)
    | some d => exact wpAny_pure (z _)
/-- nobody sees a search among such tuples -/
theorem tup_seen {k : Ky2} {b : Addr} {R : Bool → Shared → Prop} (hb : At2 P w s.heap k b) {ys : List Value} (hy : ∀ y ∈ ys, ∃ k2 c, y = Value.ref c ∧ At2 P w s.heap k2 c) (z : R false s) :
    wpAny (model P w) A (searchCouldBeSeen (.ref b) ys) R E s := by
  unfold searchCouldBeSeen
  refine wpAny_bind ?_
  refine wpAny_forIn_list _ (fun l r s1 => r.1 = none ∧ s1 = s ∧ ∀ y ∈ l, ∃ k2 c, y = Value.ref c ∧ At2 P w s.heap k2 c) _ (fun v l r s1 q => ?_) (fun r s1 q => ?_) _ _ ⟨rfl, rfl, hy⟩
  · obtain ⟨_, rfl, q3⟩ := q
    obtain ⟨k2, c, rfl, hc⟩ := q3 v List.mem_cons_self
    have tl : ∀ y ∈ l, ∃ k2 c, y = Value.ref c ∧ At2 P w s1.heap k2 c := fun u hu => q3 u (List.mem_cons_of_mem _ hu)
    dsimp only
    by_cases hv : (b == c || (carriedByValue (.ref b) && carriedByValue (.ref c))) = true
    · exact wp_if_pos hv (wpAny_pure ⟨rfl, rfl, tl⟩)
    · refine wp_if_neg hv (wpAny_bind (wpAny_eqIsQuiet_tuple hb ?_))
      simp only [Bool.not_true, Bool.false_eq_true, if_false]
      refine wpAny_bind (wpAny_eqIsQuiet_tuple hc ?_)
      simp only [Bool.not_true, Bool.false_eq_true, if_false]
      refine wpAny_bind (tup_cls hb ?_)
      simp only [Bool.false_eq_true, if_false]
      refine wpAny_bind (tup_cls hc ?_)
      simp only [Bool.false_eq_true, if_false]
      exact wpAny_pure ⟨rfl, rfl, tl⟩
  · obtain ⟨r1, r2⟩ := r
    obtain ⟨q1, rfl, _⟩ := q
    simp only at q1
    subst q1
    exact wpAny_pure z
/-! the set of such tuples -/
abbrev Mem := Addr × Ky2
def rows2 (P : Program) (w : World) (L : List Mem) : List (Int × Value) := L.map fun p => (hk2 P w p.2, Value.ref p.1)
def hs2 (P : Program) (w : World) (L : List Mem) : List Int := L.map fun p => hk2 P w p.2
theorem hs2_len (L : List Mem) : (hs2 P w L).length = L.length := List.length_map _
structure SetW (P : Program) (w : World) (h : Heap) (a : Addr) (L : List Mem) (xs : Array (Int × Value)) (n : Nat) (t : SetTable) : Prop where
  obj : ∃ o, h.get? a = some o ∧ o.ExactSet ∧ o.data = .set xs n t
  ents : xs.toList = rows2 P w L
  wo : TabW t (hs2 P w L)
  uniq : (L.map (·.2)).Nodup
  keys : ∀ p ∈ L, At2 P w h p.2 p.1
  lead : w.params.followText "set-order" = true ∨ t.led = true
  loose : L.length * 5 < t.mask * 3
  some300 : L.length < 300
variable {a : Addr} {L : List Mem} {xs : Array (Int × Value)} {n : Nat} {t : SetTable}
theorem rows_size (h : xs.toList = rows2 P w L) : xs.size = L.length := by
  rw [← Array.length_toList, h]
  unfold rows2
  rw [List.length_map]
theorem fitsW (h1 : xs.toList = rows2 P w L) (h2 : t.place.size = xs.size) (h3 : t.dummies = #[]) (h4 : L.length ≤ t.mask) : t.fits xs.size = true := by
  have z := rows_size h1
  unfold SetTable.fits SetTable.fill
  rw [h3, Bool.and_eq_true, beq_iff_eq, decide_eq_true_eq]
  have z2 : (#[] : Array Nat).size = 0 := rfl
  omega
theorem SetW.ok (R : SetW P w s.heap a L xs n t) : t.fits xs.size = true := by
  have z1 := R.wo.len
  have z2 := rows_size R.ents
  have z3 := R.loose
  rw [hs2_len] at z1
  exact fitsW R.ents (by omega) R.wo.nodum (by omega)
theorem row_at (h : xs.toList = rows2 P w L) {i : Nat} {p : Mem} (hp : L[i]? = some p) : xs[i]? = some (hk2 P w p.2, Value.ref p.1) := by
  rw [← Array.getElem?_toList, h]
  unfold rows2
  rw [List.getElem?_map, hp]
  rfl
theorem notAway (hm : MaskW t.mask) : ¬ t.gaveWay = true := by
  unfold SetTable.gaveWay
  rw [oddW hm]
  decide
/-- where the way stands behind c steps -/
def stand (m : Nat) (g : Int) (c : Nat) : SetTable.Probe := nth m (runAt m (SetTable.bits g % (m + 1)) (SetTable.bits g)) c
theorem stand_j (m : Nat) (g : Int) (c : Nat) : (stand m g c).j = way m g c := rfl
theorem stand_on (m : Nat) (g : Int) (c q : Nat) : nth m (stand m g c) q = stand m g (c + q) := (nth_add m c _ q).symm
theorem stand_dummy (m : Nat) (g : Int) (c : Nat) : (stand m g c).dummy = none := by
  have key : ∀ (u : Nat) (p : SetTable.Probe), p.dummy = none → (nth m p u).dummy = none := by
    intro u
    induction u with
    | zero => exact fun p h => h
    | succ u ih =>
      intro p h
      refine ih (adv m p) ?_
      unfold adv
      split <;> exact h
  exact key c _ rfl
/-- the search, the way's first c steps gone -/
theorem seekW (R : SetW P w s.heap a L xs n t) {x : Addr} {k : Ky2} (hx : At2 P w s.heap k x) (hu : A.units < cLine) {N : Nat} (hN : N < 10 * SetTable.turns t.mask)
    (free : way t.mask (hk2 P w k) N ∉ t.place.toList) (busy : ∀ c, c < N → way t.mask (hk2 P w k) c ∈ t.place.toList) {Q : SetFound → Shared → Prop}
    (yes : k ∈ L.map (·.2) → Q (.there none) s) (no : k ∉ L.map (·.2) → Q (.free (way t.mask (hk2 P w k) N) false) s) :
    ∀ (f c : Nat) (st : Option SetTable.Probe), st.getD (t.probeStart (hk2 P w k)) = stand t.mask (hk2 P w k) c → c ≤ N → N - c < f →
      (∀ (i : Nat) p, L[i]? = some p → p.2 = k → ∃ d, c ≤ d ∧ d < N ∧ t.place.toList[i]? = some (way t.mask (hk2 P w k) d)) →
      wpAny (model P w) A (setSearchFrom a (.ref x) (hk2 P w k) true f st) Q E s
  | 0, c, st, _, _, hf, _ => (Nat.not_lt_zero _ hf).elim
  | f + 1, c, st, hst, hc, hf, still => by
    obtain ⟨ob, ho, hex, hd⟩ := R.obj
    rw [setSearchFrom_succ]
    refine wpAny_bind (wpAny_setState_of ho hd R.ok ?_)
    dsimp only
    refine wp_if_neg (notAway R.wo.mw) ?_
    try refine wpAny_bind (wpAny_pure ?_)
    have jj : ∀ q, (nth t.mask (stand t.mask (hk2 P w k) c) q).j = way t.mask (hk2 P w k) (c + q) := fun q => by rw [stand_on, stand_j]
    have hashAt : ∀ (i : Nat) p, L[i]? = some p → (fun i => (xs[i]?.map (·.1)).getD 0) i = hk2 P w p.2 := fun i p hp => by
      show (xs[i]?.map (·.1)).getD 0 = _
      rw [row_at R.ents hp]
      rfl
    have nope : ∀ {m : Nat}, m ≤ N - c → (∀ q' i', q' < m → t.place.toList[i']? = some (nth t.mask (stand t.mask (hk2 P w k) c) q').j → (fun i : Nat => (xs[i]?.map (·.1)).getD 0) i' ≠ hk2 P w k) →
        ∀ (i : Nat) (p : Mem) (d : Nat), L[i]? = some p → p.2 = k → c ≤ d → t.place.toList[i]? = some (way t.mask (hk2 P w k) d) → ¬ d < c + m := fun {m} _ hno i p d hp hpk hcd hpl hlt => by
      refine hno (d - c) i (by omega) (by rw [jj, show c + (d - c) = d by omega]; exact hpl) ?_
      rw [hashAt i p hp, hpk]
    have pick := go_spec t R.wo.up R.wo.nodum (fun i => (xs[i]?.map (·.1)).getD 0) (hk2 P w k) (10 * SetTable.turns t.mask) (N - c) _ (stand_dummy t.mask (hk2 P w k) c) (by omega)
      (fun q hq => by rw [jj]; exact busy (c + q) (by omega)) (by rw [jj, show c + (N - c) = N by omega]; exact free)
    rcases pick with ⟨q, i, hq, hi, hh, hno, hpr⟩ | ⟨hno, hpr⟩
    · have hpr2 : t.probe (fun i => (xs[i]?.map (·.1)).getD 0) (hk2 P w k) (st.getD (t.probeStart (hk2 P w k))) = some (.candidate (way t.mask (hk2 P w k) (c + q)) i (stand t.mask (hk2 P w k) (c + (q + 1)))) := by
        rw [hst, ← jj, ← stand_on]
        exact hpr
      rw [hpr2]
      dsimp only
      rw [jj] at hi
      have hil : i < L.length := by
        have z1 := (List.getElem?_eq_some_iff.mp hi).1
        have z2 := R.wo.len
        rw [hs2_len] at z2
        rw [Array.length_toList] at z1
        omega
      obtain ⟨p, hp⟩ : ∃ p, L[i]? = some p := ⟨_, List.getElem?_eq_getElem hil⟩
      have hmem := List.mem_of_getElem? hp
      have go : wpAny (model P w) A (searchRest a (.ref x) (hk2 P w k) true f xs t (way t.mask (hk2 P w k) (c + q)) i (stand t.mask (hk2 P w k) (c + (q + 1)))) Q E s := by
        unfold searchRest
        rw [row_at R.ents hp]
        dsimp only
        refine wpAny_bind (wpAny_holding (wpAny_eqBool_tuple hu (R.keys p hmem) hx ?_))
        refine wpAny_bind (wpAny_setState_of ho hd R.ok ?_)
        dsimp only
        by_cases same : p.2 = k
        · exact wp_if_pos (by simp [same]) (wpAny_pure (yes (List.mem_map.mpr ⟨p, hmem, same⟩)))
        · refine wp_if_neg (by simp [same]) ?_
          try refine wpAny_bind (wpAny_pure ?_)
          rw [sameMem]
          dsimp only
          have live : t.slot (way t.mask (hk2 P w k) (c + q)) = .live i := slot_live R.wo.up hi
          simp only [if_true, live, row_at R.ents hp]
          refine wpAny_bind (wpAny_isSame_ref_self (wpAny_bind (wpAny_pure ?_)))
          simp only [if_true]
          refine wp_if_neg (by simp [same]) ?_
          refine seekW R hx hu hN free busy yes no f (c + (q + 1)) _ rfl (by omega) (by omega) fun i0 p0 h0 hk0 => ?_
          obtain ⟨d, a1, a2, a3⟩ := still i0 p0 h0 hk0
          refine ⟨d, ?_, a2, a3⟩
          have y1 := nope (m := q) (by omega) hno i0 p0 d h0 hk0 a1 a3
          by_cases y2 : d = c + q
          · exfalso
            rw [y2] at a3
            have s0 := slot_live R.wo.up a3
            rw [live] at s0
            injection s0 with s0
            rw [← s0, hp] at h0
            cases h0
            exact same hk0
          · omega
      by_cases hl : t.led = true
      · refine wp_if_neg (by simp [hl]) ?_
        try refine wpAny_bind (wpAny_pure ?_)
        exact go
      · refine wp_if_pos (by simp [hl]) (wpAny_bind (tup_seen hx (fun y hy => ?_) ?_))
        · obtain ⟨e, he, ee⟩ := List.mem_map.mp hy
          have he1 : e ∈ xs ∧ e.1 = hk2 P w k := by simpa using he
          have he2 : e ∈ xs.toList := by simpa using he1.1
          rw [R.ents] at he2
          obtain ⟨p2, hp2, e2⟩ := List.mem_map.mp he2
          exact ⟨p2.2, p2.1, by rw [← ee, ← e2], R.keys p2 hp2⟩
        · refine wp_if_neg (by decide) ?_
          try refine wpAny_bind (wpAny_pure ?_)
          exact go
    · have hpr2 : t.probe (fun i => (xs[i]?.map (·.1)).getD 0) (hk2 P w k) (st.getD (t.probeStart (hk2 P w k))) = some (.empty (way t.mask (hk2 P w k) N) none) := by
        have y : way t.mask (hk2 P w k) N = (nth t.mask (stand t.mask (hk2 P w k) c) (N - c)).j := by
          rw [jj, show c + (N - c) = N by omega]
        rw [hst, y]
        exact hpr
      rw [hpr2]
      dsimp only
      refine wpAny_pure (no fun hm => ?_)
      obtain ⟨p0, h0, hk0⟩ := List.mem_map.mp hm
      obtain ⟨i0, hi0, e0⟩ := List.getElem_of_mem h0
      have at0 : L[i0]? = some p0 := by rw [List.getElem?_eq_getElem hi0, e0]
      obtain ⟨d, a1, a2, a3⟩ := still i0 p0 at0 hk0
      exact nope (m := N - c) (Nat.le_refl _) hno i0 p0 d at0 hk0 a1 a3 (by omega)
theorem searchW (R : SetW P w s.heap a L xs n t) {x : Addr} {k : Ky2} (hx : At2 P w s.heap k x) (hu : A.units < cLine) {Q : SetFound → Shared → Prop}
    (yes : k ∈ L.map (·.2) → Q (.there none) s)
    (no : ∀ N, k ∉ L.map (·.2) → way t.mask (hk2 P w k) N ∉ t.place.toList → (∀ c, c < N → way t.mask (hk2 P w k) c ∈ t.place.toList) → Q (.free (way t.mask (hk2 P w k) N) false) s) :
    wpAny (model P w) A (setSearch a (.ref x) (hk2 P w k) true) Q E s := by
  have z := R.loose
  obtain ⟨N, n1, n2, n3⟩ := R.wo.free (by rw [hs2_len]; omega) (hk2 P w k)
  have big : N < 100000 := by
    have z2 := leW R.wo.mw
    unfold SetTable.turns at n1
    omega
  unfold setSearch
  refine seekW R hx hu n1 n2 n3 yes (fun hn => no N hn n2 n3) 100000 0 none rfl (Nat.zero_le _) (by omega) fun i p hp hk => ?_
  have g1 : (hs2 P w L)[i]? = some (hk2 P w k) := by
    unfold hs2
    rw [List.getElem?_map, hp, ← hk]
    rfl
  have il : i < t.place.toList.length := by
    have z1 := (List.getElem?_eq_some_iff.mp g1).1
    have z2 := R.wo.len
    rw [Array.length_toList]
    omega
  have g2 := List.getElem?_eq_getElem il
  obtain ⟨d, hd, e⟩ := R.wo.ahead n2 g1 g2
  exact ⟨d, Nat.zero_le _, hd, by rw [g2, e]⟩
end
end LyT
namespace LyT
open PySem PySem.Spec PyProof.Rows L2
section
variable {P : Program} {w : World} {A : Around} {E : Value → Shared → Prop} {s : Shared} {a : Addr} {L : List Mem} {xs : Array (Int × Value)} {n : Nat} {t : SetTable}
theorem at2_same {h h2 : Heap} {k : Ky2} {b : Addr} {o : Obj} (hb : At2 P w h k b) (ho : h.get? a = some o) (hd : o.data = .set xs n t) (hs : Heap.SameBut a h h2) : At2 P w h2 k b := by
  obtain ⟨o2, its, m, g1, g2, g3, g4⟩ := hb
  refine ⟨o2, its, m, (hs.2 b fun e => ?_).trans g1, g2, g3, g4⟩
  subst e
  rw [g1] at ho
  cases ho
  rw [hd] at g3
  cases g3
theorem at2_keep {h h2 : Heap} {k : Ky2} {b : Addr} (x : At2 P w h k b) (keep : ∀ c o, h.get? c = some o → h2.get? c = some o) : At2 P w h2 k b := by
  obtain ⟨o, its, m, g1, g⟩ := x
  exact ⟨o, its, m, keep b o g1, g⟩
theorem rows2_in (p : Nat) (x : Addr) (k : Ky2) : rows2 P w (L.take p ++ (x, k) :: L.drop p) = (rows2 P w L).take p ++ (hk2 P w k, Value.ref x) :: (rows2 P w L).drop p := by
  simp only [rows2, List.map_append, List.map_cons, List.map_take, List.map_drop]
theorem hs2_in (p : Nat) (x : Addr) (k : Ky2) : hs2 P w (L.take p ++ (x, k) :: L.drop p) = (hs2 P w L).take p ++ hk2 P w k :: (hs2 P w L).drop p := by
  simp only [hs2, List.map_append, List.map_cons, List.map_take, List.map_drop]
theorem all_picked {α : Type} (l : List α) : (List.range l.length).filterMap (fun i => l[i]?) = l := by
  have key : ∀ m, m ≤ l.length → (List.range m).filterMap (fun i => l[i]?) = l.take m := by
    intro m
    induction m with
    | zero => intro _; rfl
    | succ m ih =>
      intro hm
      rw [List.range_succ, List.filterMap_append, ih (by omega), List.take_succ]
      simp [List.getElem?_eq_getElem (show m < l.length from hm)]
  rw [key _ (Nat.le_refl _), List.take_length]
theorem reorder (L : List Mem) (xs : Array (Int × Value)) (ord : Array Nat) (hr : xs.toList = rows2 P w L) (hp : ord.toList.Perm (List.range L.length)) :
    ∃ L2, (ord.filterMap (xs[·]?)).toList = rows2 P w L2 ∧ L2.Perm L ∧ hs2 P w L2 = ord.toList.map fun i => (xs.map (·.1)).getD i 0 := by
  have sz := rows_size hr
  have key : ∀ l : List Nat, (∀ i ∈ l, i < L.length) → l.filterMap (fun i => xs[i]?) = rows2 P w (l.filterMap fun i => L[i]?) ∧ hs2 P w (l.filterMap fun i => L[i]?) = l.map fun i => (xs.map (·.1)).getD i 0 := by
    intro l
    induction l with
    | nil => intro _; exact ⟨rfl, rfl⟩
    | cons i l ih =>
      intro hl
      obtain ⟨e1, e2⟩ := ih fun j hj => hl j (List.mem_cons_of_mem _ hj)
      have hi := List.getElem?_eq_getElem (hl i List.mem_cons_self)
      have hx := row_at (P := P) (w := w) hr hi
      have hz : (xs.map (·.1)).getD i 0 = hk2 P w (L[i]'(hl i List.mem_cons_self)).2 := by
        rw [Array.getD_eq_getD_getElem?, Array.getElem?_map, hx]
        rfl
      rw [List.filterMap_cons_some hx, List.filterMap_cons_some hi, e1, List.map_cons, hz, ← e2]
      exact ⟨rfl, rfl⟩
  obtain ⟨e1, e2⟩ := key ord.toList fun i hi => List.mem_range.mp (hp.mem_iff.mp hi)
  refine ⟨ord.toList.filterMap fun i => L[i]?, by simpa using e1, ?_, e2⟩
  have z := hp.filterMap (fun i => L[i]?)
  rw [all_picked] at z
  exact z
/-- the set, laid anew with more room -/
theorem relayW {o : Obj} (ho : s.heap.get? a = some o) (hex : o.ExactSet) (hd : o.data = .set xs n t) (hr : xs.toList = rows2 P w L) (hz : t.place.size = xs.size) (hdm : t.dummies = #[]) (hfl : L.length ≤ t.mask)
    (nd : (L.map (·.2)).Nodup) (kys : ∀ p ∈ L, At2 P w s.heap p.2 p.1) (ld : w.params.followText "set-order" = true ∨ t.led = true) (few : L.length < 300) {wanted M : Nat}
    (hw : SetTable.sizeAbove wanted - 1 = M) (hM : MaskW M) (hw2 : SetTable.sizeAbove wanted ≤ 512) (hn : L.length * 5 < M * 3) {Q : Unit → Shared → Prop}
    (q : ∀ h2 L2 ys m t2, Heap.SameBut a s.heap h2 → SetW P w h2 a L2 ys m t2 → L2.Perm L → Q () { s with heap := h2 }) : wpAny (model P w) A (setRelay a wanted) Q E s := by
  have sz := rows_size hr
  obtain ⟨t2, ord, e, hp, T, em, el, _⟩ := relaidW t (gs := xs.map (·.1)) (wanted := wanted) hw hM (by rw [Array.size_map, sz]; omega)
  rw [Array.size_map, sz] at hp
  obtain ⟨L2, r1, r2, r3⟩ := reorder L xs ord hr hp
  rw [← r3] at T
  have sz2 : (ord.filterMap (xs[·]?)).size = xs.size := by rw [rows_size r1, r2.length_eq, sz]
  rw [setRelay_eq]
  refine wpAny_bind (wpAny_setState_of ho hd (fitsW hr hz hdm hfl) ?_)
  dsimp only
  refine wp_if_neg (by rw [sizeLine_eq]; omega) ?_
  try refine wpAny_bind (wpAny_pure ?_)
  rw [e]
  dsimp only
  refine wpAny_bind ?_
  refine wp_if_neg (by rw [sz2]; simp) ?_
  try refine wpAny_bind (wpAny_pure ?_)
  refine wpAny_pure ?_
  dsimp only
  refine wpAny_storeSet_of ho hd ?_ (by rw [sz2, sz, sizeLine_eq]; omega)
  have sb : Heap.SameBut a s.heap (s.heap.update a (Obj.putSet (ord.filterMap (xs[·]?)) t2)) := Heap.SameBut.update ..
  refine q _ L2 _ (n + 1) t2 sb ⟨⟨_, store_at ho hd, ⟨hex.1, hex.2.1, hex.2.2⟩, rfl⟩, r1, T, (r2.map (·.2)).nodup_iff.mpr nd, fun p hp => at2_same (kys p (r2.mem_iff.mp hp)) ho hd sb, by rw [el]; exact ld, ?_, by rw [r2.length_eq]; exact few⟩ r2
  rw [r2.length_eq, em]
  exact hn
theorem TabW.unplain {t : SetTable} {hs : List Int} (T : TabW t hs) (b : Bool) : TabW { t with plain := b } hs := ⟨T.up, T.nodum, T.len, T.mw, T.low, T.seen⟩
theorem fullW {L : List Mem} {t : SetTable} (hl : t.place.size = L.length) (hd : t.dummies = #[]) : t.tooFull = decide (L.length * 5 ≥ t.mask * 3) := by
  have z2 : (#[] : Array Nat).size = 0 := rfl
  unfold SetTable.tooFull SetTable.fill
  rw [hd, hl, z2]
  rfl
/-- one more is put in -/
theorem addW (R : SetW P w s.heap a L xs n t) {x : Addr} {k : Ky2} (hx : At2 P w s.heap k x) (hu : A.units < cLine) (few : L.length + 1 < 300) {Q : Bool → Shared → Prop}
    (q : ∀ b h2 L2 ys m t2, Heap.SameBut a s.heap h2 → SetW P w h2 a L2 ys m t2 → (k ∈ L.map (·.2) → L2 = L) → (k ∉ L.map (·.2) → L2.Perm ((x, k) :: L)) → Q b { s with heap := h2 }) :
    wpAny (model P w) A (setAddHashed a (.ref x) (hk2 P w k)) Q E s := by
  obtain ⟨o, ho, hex, hd⟩ := R.obj
  have sz := rows_size R.ents
  have room := R.loose
  unfold setAddHashed
  refine wpAny_holding ?_
  rw [show (100000 : Nat) = 99999 + 1 from rfl, setAddHashedIn_succ]
  refine wpAny_bind (wpAny_setState_of ho hd R.ok ?_)
  dsimp only
  refine wp_if_neg (by simp [byScan, Value.scannable]) ?_
  try refine wpAny_bind (wpAny_pure ?_)
  refine wpAny_bind (searchW R hx hu (fun hm => wpAny_pure (q false s.heap L xs n t (Heap.SameBut.refl a s.heap) R (fun _ => rfl) fun z => (z hm).elim)) fun N hm hK hb => ?_)
  dsimp only
  refine wpAny_bind (wpAny_setState_of ho hd R.ok ?_)
  dsimp only
  obtain ⟨m1, m2, m3⟩ := R.wo.more hK hb
  have mk : (t.put (way t.mask (hk2 P w k) N)).1.mask = t.mask := rfl
  have ml : (t.put (way t.mask (hk2 P w k) N)).1.led = t.led := rfl
  have mp : (t.put (way t.mask (hk2 P w k) N)).2 = SetTable.below t.place (way t.mask (hk2 P w k) N) := rfl
  generalize hpt : t.put (way t.mask (hk2 P w k) N) = pt at m2 m3 mk ml mp ⊢
  obtain ⟨t1, p0⟩ := pt
  dsimp only at m2 m3 mk ml mp ⊢
  subst mp
  generalize SetTable.below t.place (way t.mask (hk2 P w k) N) = p at m1 m2 ⊢
  have pm := put_perm L p (x, k)
  have ents1 : (SetTable.insertAt xs p (hk2 P w k, Value.ref x)).toList = rows2 P w (L.take p ++ (x, k) :: L.drop p) := by
    rw [SetTable.toList_insertAt, rows2_in, R.ents]
  rw [← hs2_in p x k] at m2
  generalize L.take p ++ (x, k) :: L.drop p = L1 at pm ents1 m2
  have len1 : L1.length = L.length + 1 := pm.length_eq
  have sz1 := rows_size ents1
  have nd1 : (L1.map (·.2)).Nodup := by
    refine (pm.map (·.2)).nodup_iff.mpr ?_
    exact List.nodup_cons.mpr ⟨hm, R.uniq⟩
  generalize SetTable.insertAt xs p (hk2 P w k, Value.ref x) = ys at ents1 sz1 ⊢
  -- whatever the hash is said to be
  have fin : ∀ t2 : SetTable, TabW t2 (hs2 P w L1) → t2.mask = t.mask → t2.led = t.led → wpAny (model P w) A (do
      storeSet a ys t2
      if !false && t2.tooFull then setRelay a (SetTable.grown (xs.size + 1))
      return true) Q E s := fun t2 T2 k2 l2 => by
    have sb : Heap.SameBut a s.heap (s.heap.update a (Obj.putSet ys t2)) := Heap.SameBut.update ..
    have ho1 := store_at (es' := ys) (t' := t2) ho hd
    refine wpAny_bind (wpAny_storeSet_of ho hd ?_ (by rw [sz1, len1, sizeLine_eq]; omega))
    generalize s.heap.update a (Obj.putSet ys t2) = h1 at sb ho1 ⊢
    have kys1 : ∀ p ∈ L1, At2 P w h1 p.2 p.1 := fun p hp => by
      rcases List.mem_cons.mp (pm.mem_iff.mp hp) with e | hp
      · rw [e]; exact at2_same hx ho hd sb
      · exact at2_same (R.keys p hp) ho hd sb
    have ld1 : w.params.followText "set-order" = true ∨ t2.led = true := by rw [l2]; exact R.lead
    have pz := T2.len
    rw [hs2_len] at pz
    have tf := fullW pz T2.nodum
    by_cases hf : t2.tooFull = true
    · have full := of_decide_eq_true (tf.symm.trans hf)
      rw [k2, len1] at full
      have go : ∀ M, SetTable.sizeAbove (SetTable.grown (L.length + 1)) - 1 = M → MaskW M → SetTable.sizeAbove (SetTable.grown (L.length + 1)) ≤ 512 → (L.length + 1) * 5 < M * 3 →
          wpAny (model P w) A (setRelay a (SetTable.grown (L.length + 1))) (fun _ s1 => wpAny (model P w) A (pure true) Q E s1) E { s with heap := h1 } := fun M a1 a2 a3 a4 =>
        relayW (s := { s with heap := h1 }) ho1 ⟨hex.1, hex.2.1, hex.2.2⟩ rfl ents1 (by rw [pz, sz1]) T2.nodum (by rw [k2, len1]; omega) nd1 kys1 ld1 (by rw [len1]; exact few) a1 a2 a3 (by rw [len1]; exact a4) fun h2 L2 zs m t3 sb2 R2 pm2 =>
          wpAny_pure (q true h2 L2 zs m t3 (sb.trans sb2) R2 (fun z => (hm z).elim) fun _ => pm2.trans pm)
      have which : (L.length = 4 ∨ L.length = 18) ∨ L.length = 76 := by
        rcases R.wo.mw with (e | e | e) | e <;> rw [e] at full room <;> omega
      rw [sz]
      first
        | (refine wpAny_bind ?_; refine wp_if_pos (by simp [hf]) ?_)
        | (refine wp_if_pos (by simp [hf]) ?_; refine wpAny_bind ?_)
      rcases which with (e | e) | e
      · exact go 31 (by rw [e, grow5]) (.inl (.inr (.inl rfl))) (by rw [e, grow5]; decide) (by omega)
      · exact go 127 (by rw [e, grow19]) (.inl (.inr (.inr rfl))) (by rw [e, grow19]; decide) (by omega)
      · exact go 511 (by rw [e, grow77]) (.inr rfl) (by rw [e, grow77]; decide) (by omega)
    · first
        | refine wp_if_neg (by simp [hf]) ?_
        | (refine wpAny_bind ?_; refine wp_if_neg (by simp [hf]) ?_; refine wpAny_pure ?_)
      refine wpAny_pure (q true h1 L1 ys (n + 1) t2 sb ⟨⟨_, ho1, ⟨hex.1, hex.2.1, hex.2.2⟩, rfl⟩, ents1, T2, nd1, kys1, ld1, ?_, by rw [len1]; exact few⟩ (fun z => (hm z).elim) fun _ => pm)
      rw [tf, decide_eq_true_eq] at hf
      omega
  have both : ∀ c : Bool, wpAny (model P w) A (do
      let t2 := if c then t1 else { t1 with plain := false }
      storeSet a ys t2
      if !false && t2.tooFull then setRelay a (SetTable.grown (xs.size + 1))
      return true) Q E s := fun c => by
    cases c with
    | true => exact fin t1 m2 mk ml
    | false => exact fin { t1 with plain := false } (m2.unplain false) mk ml
  by_cases pl : t1.plain = true
  · first
      | (refine wpAny_bind ?_; refine wp_if_pos pl ?_; exact tup_hash hx both)
      | exact wp_if_pos pl (wpAny_bind (tup_hash hx both))
  · first
      | (refine wpAny_bind ?_; refine wp_if_neg pl ?_; exact wpAny_pure (both true))
      | exact wp_if_neg pl (wpAny_bind (wpAny_pure (both true)))
end
end LyT
namespace LyT
open PySem PySem.Spec PyProof.Rows L2
/-- behind i of the told ones -/
structure Had (ks : List Mem) (i : Nat) (L : List Mem) : Prop where
  from_ : ∀ p ∈ L, p ∈ ks.take i
  each : ∀ p ∈ ks.take i, p.2 ∈ L.map (·.2)
  most : L.length ≤ i
theorem Had.none (ks : List Mem) : Had ks 0 [] := ⟨fun p h => (by cases h), fun p h => (by simp at h), Nat.le_refl _⟩
theorem Had.stay {ks L : List Mem} {i : Nat} {x : Mem} (g : Had ks i L) (h : ks[i]? = some x) (hm : x.2 ∈ L.map (·.2)) : Had ks (i + 1) L := by
  have tk := take_next h
  refine ⟨fun p hp => by rw [tk]; exact List.mem_append_left _ (g.from_ p hp), fun p hp => ?_, Nat.le_succ_of_le g.most⟩
  rw [tk] at hp
  rcases List.mem_append.mp hp with z | z
  · exact g.each p z
  · have e : p = x := by simpa using z
    rw [e]; exact hm
theorem Had.next {ks L L2 : List Mem} {i : Nat} {x : Mem} (g : Had ks i L) (h : ks[i]? = some x) (pm : L2.Perm (x :: L)) : Had ks (i + 1) L2 := by
  have tk := take_next h
  refine ⟨fun p hp => ?_, fun p hp => ?_, by rw [pm.length_eq]; exact Nat.succ_le_succ g.most⟩
  · rw [tk]
    rcases List.mem_cons.mp (pm.mem_iff.mp hp) with e | z
    · rw [e]; simp
    · exact List.mem_append_left _ (g.from_ p z)
  · rw [tk] at hp
    refine (pm.map (·.2)).mem_iff.mpr ?_
    rw [List.map_cons]
    rcases List.mem_append.mp hp with z | z
    · exact List.mem_cons_of_mem _ (g.each p z)
    · have e : p = x := by simpa using z
      rw [e]; exact List.mem_cons_self
section
variable {P : Program} {w : World} {A : Around} {E : Value → Shared → Prop} {s : Shared}
theorem SetW.later {h h2 : Heap} {a : Addr} {L : List Mem} {xs : Array (Int × Value)} {n : Nat} {t : SetTable} (R : SetW P w h a L xs n t) (ha : ∀ o, h.get? a = some o → h2.get? a = some o) (hk : ∀ p ∈ L, At2 P w h2 p.2 p.1) : SetW P w h2 a L xs n t := by
  obtain ⟨o, ho, r⟩ := R.obj
  exact ⟨⟨o, ha o ho, r⟩, R.ents, R.wo, R.uniq, hk, R.lead, R.loose, R.some300⟩
/-- the object of a new set -/
abbrev newSet (w : World) : Obj := { cls := .type "set", dict := none, data := .set #[] 0 (.fresh 0 0 (!w.params.followText "set-order")) }
theorem setW_new {h : Heap} {a : Addr} (ho : h.get? a = some (newSet w)) : SetW P w h a [] #[] 0 (.fresh 0 0 (!w.params.followText "set-order")) where
  obj := ⟨_, ho, ⟨rfl, rfl, rfl⟩, rfl⟩
  ents := rfl
  wo := ⟨List.Pairwise.nil, rfl, rfl, .inl (.inl rfl), fun x hx => (by cases hx), fun i g j hi => (by simp [hs2] at hi)⟩
  uniq := List.nodup_nil
  keys := fun p hp => (by cases hp)
  lead := by
    show _ ∨ (!w.params.followText "set-order") = true
    cases w.params.followText "set-order"
    · exact .inr rfl
    · exact .inl rfl
  loose := by
    show 0 * 5 < 7 * 3
    decide
  some300 := by
    show 0 < 300
    decide
/-- the loop that puts in all that a list gives -/
theorem loopW {I : Addr} {fp wr : List Addr} {G : Array GenState → Array GenState → Prop} {N : Nat} {Pv : Nat → Value → Prop} {Z : Nat → Shared → Prop} {R : Result → Shared → Prop}
    (W : WalksS P w A.in1 I fp wr G N Pv Z) (T : Addr) (hTf : T ∉ fp) (ks : List Mem) (hN : N = ks.length) (few : ks.length < 300) (hval : ∀ i v, Pv i v → ∃ p, ks[i]? = some p ∧ v = .ref p.1)
    (h0 : Heap) (hk : ∀ p ∈ ks, At2 P w h0 p.2 p.1) (hT0 : h0.get? T = none) (hw0 : ∀ b ∈ wr, h0.get? b = none) (hu : A.in1.units < cLine) :
    ∀ (d i : Nat) (s : Shared), N - i = d → i ≤ N → Z i s → (∀ b o, h0.get? b = some o → s.heap.get? b = some o) → (∃ L xs m t, SetW P w s.heap T L xs m t ∧ Had ks i L) →
      (∀ s2 L xs m t, Moved (T :: wr) G s s2 → SetW P w s2.heap T L xs m t → Had ks N L → (∀ b o, h0.get? b = some o → s2.heap.get? b = some o) → R (.ok (.ret .none)) s2) →
      codeAny (model P w) A (.builtin "set.update.loop" ⟨[.ref T, .ref I], []⟩) R s := by
  have Tw : T ∉ wr := fun z => hTf (W.sub _ z)
  have sub2 : ∀ b ∈ wr, b ∈ T :: wr := fun b hb => List.mem_cons_of_mem _ hb
  have keepM : ∀ {s s2 : Shared}, Moved wr G s s2 → (∀ b o, h0.get? b = some o → s.heap.get? b = some o) → ∀ b o, h0.get? b = some o → s2.heap.get? b = some o := fun hm hb b o e =>
    hm.heap b o (fun z => by rw [hw0 b z] at e; cases e) (hb b o e)
  intro d
  induction d with
  | zero =>
    intro i s hd hi hz hb ⟨L, xs, m, t, hS, g⟩ hR
    obtain rfl : i = N := by omega
    refine codeAny_builtin F.entry_set_update_loop ?_
    rw [Around.under_plainId F.plain_set_update_loop _]
    show wpAny _ A.in1 (pyNext (.ref I) >>= _) _ _ s
    refine wpAny_bind (W.done s _ _ hz fun s2 hm => ?_)
    show wpAny _ A.in1 (ret Value.none) _ _ s2
    have hb2 := keepM hm hb
    have inks : ∀ p ∈ L, p ∈ ks := fun p hp => List.mem_of_mem_take (g.from_ p hp)
    exact wpAny_pure (hR s2 L xs m t (hm.mono sub2) (hS.later (fun o e => hm.heap T o Tw e) fun p hp => at2_keep (hk p (inks p hp)) hb2) g hb2)
  | succ d ih =>
    intro i s hd hi hz hb ⟨L, xs, m, t, hS, g⟩ hR
    have lt : i < N := by omega
    refine codeAny_builtin F.entry_set_update_loop ?_
    rw [Around.under_plainId F.plain_set_update_loop _]
    show wpAny _ A.in1 (pyNext (.ref I) >>= _) _ _ s
    refine wpAny_bind (W.item i s _ _ lt hz fun v s2 hP hz2 hm => ?_)
    obtain ⟨p, hp, rfl⟩ := hval i v hP
    have hb2 := keepM hm hb
    have inks : ∀ p ∈ L, p ∈ ks := fun p hp => List.mem_of_mem_take (g.from_ p hp)
    have hS2 : SetW P w s2.heap T L xs m t := hS.later (fun o e => hm.heap T o Tw e) fun r hr => at2_keep (hk r (inks r hr)) hb2
    have hx : At2 P w s2.heap p.2 p.1 := at2_keep (hk p (List.mem_of_getElem? hp)) hb2
    show wpAny _ A.in1 (holding [Value.ref p.1] (setAdd T (.ref p.1)) >>= _) _ _ s2
    refine wpAny_bind (wpAny_holding ?_)
    unfold setAdd
    refine wpAny_holding (wpAny_bind (wpAny_pyHash_tuple hu hx ?_))
    refine addW (s := { s2 with toks := s2.toks + (p.2.length + 1) }) hS2 hx hu (by have z := g.most; omega) fun c h2 L2 ys m2 t2 sb hS3 c1 c2 => ?_
    have g2 : Had ks (i + 1) L2 := by
      by_cases c : p.2 ∈ L.map (·.2)
      · rw [c1 c]; exact g.stay hp c
      · exact g.next hp (c2 c)
    have hb3 : ∀ b o, h0.get? b = some o → h2.get? b = some o := fun b o e => (sb.2 b (fun z => by rw [z, hT0] at e; cases e)).trans (hb2 b o e)
    refine wpAny_pure ⟨plainId_quiet F.plain_set_update_loop _, ih (i + 1) _ (by omega) lt (W.frame _ s2 _ _ hz2 (Nat.le_add_right _ _) fun b hb o e => ?_) hb3 ⟨L2, ys, m2, t2, hS3, g2⟩ fun s3 L3 zs m3 t3 hm3 hS4 g3 hb4 => ?_⟩
    · rw [sb.2 b (fun z => hTf (by rw [← z]; exact hb))]; exact e
    · refine hR s3 L3 zs m3 t3 (Moved.trans W.gtrans ((hm.mono sub2).then_heap (Nat.le_add_right _ _) fun b o hb e => ?_) hm3) hS4 g3 hb4
      rw [sb.2 b (fun z => hb (by rw [z]; exact List.mem_cons_self))]; exact e
set_option maxRecDepth 100000 in
set_option maxHeartbeats 3200000 in
/-- set(xs), xs a list of such tuples -/
theorem callW {l : Addr} {its : Array Value} (ks : List Mem) {Q : Value → Shared → Prop} (hh : A.handled = none) (hl : s.heap.IsList l its) (hit : its.toList = ks.map fun p => Value.ref p.1)
    (hk : ∀ p ∈ ks, At2 P w s.heap p.2 p.1) (few : ks.length < 300) (hu : A.units + 3 < cLine)
    (q : ∀ (h2 : Heap) (tk : Nat) L xs m t, SetW P w h2 s.heap.objs.size L xs m t → Had ks ks.length L → (∀ b o, s.heap.get? b = some o → h2.get? b = some o) → Q (.ref s.heap.objs.size) { s with heap := h2, toks := tk }) :
    wpAny (model P w) A (call (.type "set") [.ref l]) Q E s := by
  have iz : its.size = ks.length := by
    have z := congrArg List.length hit
    rw [Array.length_toList, List.length_map] at z
    exact z
  obtain ⟨c, tl, hmro⟩ := F.called_set.mro
  have c1 := F.called_set.made
  have c2 := F.called_set.sub
  refine wpAny_call (codeAny_of_tree ?_)
  show wpAny _ _ (callAny (.type "set") _) _ _ _
  refine wpAny_pure ⟨Code.quiet_builtin _ (by decide +kernel), codeAny_builtin F.entry_type_call ?_⟩
  rw [Around.under_plain (weight_type_call_type "set" [.ref l] []) rfl]
  have c3 := F.called_set.notType
  have c4 := F.called_set.canCreate
  have c5 := F.typeCall_set_1 (.ref l)
  repeat (any_goals (first | assumption | wp_step))

  refine codeAny_mono (code_set_led1 (.ref l) (E := E) (Q₁ := fun obj s1 => obj = .ref s.heap.objs.size ∧ s1 = { s with heap := s.heap.push (newSet w) }) ⟨rfl, rfl⟩) fun r s1 hr => ?_
  cases r with
  | error e => exact hr
  | ok fl =>
    cases fl with
    | ret obj =>
      obtain ⟨rfl, rfl⟩ := hr
      have hT : (s.heap.push (newSet w)).get? s.heap.objs.size = some (newSet w) := Heap.get?_push_size _ rfl
      have tyT : Shared.TypeIs { s with heap := s.heap.push (newSet w) } (.ref s.heap.objs.size) "set" := ⟨_, hT, rfl⟩
      have i1 := F.called_set.init.lookup
      have i2 := F.called_set.init.bind (.ref s.heap.objs.size)
      repeat (any_goals (first | assumption | wp_step))

      refine codeAny_mono (codeAny_call_builtin (R := wants (fun r s2 => r = .none ∧ ∃ h2 tk L xs m t, s2 = { s with heap := h2, toks := tk } ∧ SetW P w h2 s.heap.objs.size L xs m t ∧ Had ks ks.length L ∧
          (∀ b o, s.heap.get? b = some o → h2.get? b = some o)) E) F.called_set.init.plain F.entry_set_init (check_set_init_1 tyT ?_)) fun r2 s2 hr2 => ?_
      · obtain ⟨ol, hol, hcl, nl, hdl⟩ := hl
        obtain ⟨ocls, odict, odata, oslots⟩ := ol
        simp only at hcl hdl
        subst hcl; subst hdl
        have g1 : (s.heap.push (newSet w)).get? l = some { cls := .type "list", dict := odict, data := .seq its nl, slots := oslots } := Heap.get?_push_of_some _ hol
        have g2 := F.sub_list_set
        have g3 := F.sub_list_frozenset
        have g4 : (Value.type "list" == Value.type "dict") = false := by decide
        have hl1 : (s.heap.push (newSet w)).IsList l its := ⟨_, g1, rfl, nl, rfl⟩
        unfold Builtin.«set.__init__» noKeywords Builtin.Frozenset.updateFrom
        generalize hPI : pyIter = PI
        wp_walk
        subst hPI

        refine wpAny_pyIter_list hl1 ?_
        refine wpAny_bind (wpAny_runValue ?_)
        have lT : l < s.heap.objs.size := Heap.lt_size hol
        have hh3 : A.in1.in1.in1.handled = none := by simp [hh]
        have nz : (s.heap.push (newSet w)).objs.size = s.heap.objs.size + 1 := Heap.size_push ..
        have lI : l ≠ (s.heap.push (newSet w)).objs.size := by
          rw [nz]; exact Nat.ne_of_lt (Nat.lt_succ_of_lt lT)
        have Tf : s.heap.objs.size ∉ [(s.heap.push (newSet w)).objs.size, l] := by
          rw [nz]; simp only [List.mem_cons, List.mem_singleton, List.not_mem_nil, or_false, not_or]
          exact ⟨Nat.ne_of_lt (Nat.lt_succ_self _), Nat.ne_of_gt lT⟩
        have hval : ∀ (i : Nat) (v : Value), its[i]? = some v → ∃ p, ks[i]? = some p ∧ v = .ref p.1 := fun i v hv => by
          have z : its.toList[i]? = some v := by rw [Array.getElem?_toList]; exact hv
          rw [hit, List.getElem?_map] at z
          obtain ⟨p, z1, z2⟩ := Option.map_eq_some_iff.mp z
          exact ⟨p, z1, z2.symm⟩
        have no : ∀ b, s.heap.objs.size ≤ b → s.heap.get? b = none := fun b hb => by
          cases z : s.heap.get? b with
          | none => rfl
          | some o => exact (Nat.lt_irrefl _ (Nat.lt_of_lt_of_le (Heap.lt_size z) hb)).elim
        refine loopW ((Walks.list hh3 _ l lI its).toS) s.heap.objs.size
          Tf ks iz few hval s.heap hk (no _ (Nat.le_refl _)) (fun b hb => no b (by
            rw [List.mem_singleton.mp hb, nz]
            exact Nat.le_succ _)) hu (its.size - 0) 0 _ (by omega) (Nat.zero_le _)
          ⟨⟨_, Heap.get?_push_size _ rfl, rfl, rfl⟩, (hl1.push _)⟩ (fun b o e => Heap.get?_push_of_some _ (Heap.get?_push_of_some _ e)) ?hS0 ?hR
        case hS0 =>
          have g5 : ((s.heap.push (newSet w)).push { cls := .type "list_iterator", data := .fields #[.ref l, .int 0 0] }).get? s.heap.objs.size
              = some (newSet w) := Heap.get?_push_of_some _ hT
          exact ⟨[], #[], 0, _, setW_new g5, Had.none ks⟩
        case hR =>
          intro s2 L xs m t hm hS had hb
          obtain ⟨h2, gen2, d2, tk2, os2⟩ := s2
          have eg : gen2 = s.gens := hm.gens
          have ed : d2 = s.drawn := hm.drawn
          have eo : os2 = s.os := hm.os
          subst eg; subst ed; subst eo
          show wpAny _ _ _ _ _ _
          refine wpAny_pure ?_
          show wpAny _ _ (ret Value.none) _ _ _
          rw [iz] at had
          exact wpAny_pure ⟨rfl, h2, tk2, L, xs, m, t, rfl, hS, had, hb⟩

      · cases r2 with
        | error e => exact hr2
        | ok fl2 =>
          cases fl2 with
          | ret r =>
            obtain ⟨rfl, h2, tk, L, xs, m, t, rfl, hS, had, hb⟩ := hr2
            repeat (any_goals (first | assumption | wp_step))
            exact q _ _ _ _ _ _ hS had hb
          | _ => exact hr2.elim
    | _ => exact hr.elim
end
end LyT
namespace LyT
open PySem PySem.Spec PyProof.Rows L2 LyS Ly Srt SrtO
theorem perm_back {α β : Type} {f : α → β} {a b : List β} (h : a.Perm b) : ∀ l, b = l.map f → ∃ l2 : List α, l2.Perm l ∧ a = l2.map f := by
  induction h with
  | nil =>
    intro l e
    cases l with
    | nil => exact ⟨[], .nil, rfl⟩
    | cons x l => cases e
  | cons x h ih =>
    intro l e
    cases l with
    | nil => cases e
    | cons y l =>
      obtain ⟨e1, e2⟩ := List.cons.inj e
      obtain ⟨l2, p, e3⟩ := ih l e2
      exact ⟨y :: l2, p.cons y, by rw [List.map_cons, e1, e3]⟩
  | swap x y l0 =>
    intro l e
    match l, e with
    | u :: v :: l, e =>
      obtain ⟨e1, e2⟩ := List.cons.inj e
      obtain ⟨e3, e4⟩ := List.cons.inj e2
      exact ⟨v :: u :: l, List.Perm.swap u v l, by rw [List.map_cons, List.map_cons, e1, e3, e4]⟩
  | trans h1 h2 ih1 ih2 =>
    intro l e
    obtain ⟨l2, p2, e2⟩ := ih2 l e
    obtain ⟨l3, p3, e3⟩ := ih1 l2 e2
    exact ⟨l3, p3.trans p2, e3⟩
/-- the set at an address -/
def SetZ (P : Program) (w : World) (h : Heap) (a : Addr) (L : List Mem) : Prop := ∃ (xs : Array (Int × Value)) (n : Nat) (t : SetTable), (∃ o, h.get? a = some o ∧ o.ExactSet ∧ o.data = .set xs n t) ∧ xs.toList = rows2 P w L ∧ TabW t (hs2 P w L) ∧ (w.params.followText "set-order" = true ∨ t.led = true) ∧ L.length * 5 < t.mask * 3 ∧ L.length < 300
def SetO (P : Program) (w : World) (a : Addr) (L : List Mem) : HO := .ext fun h => SetZ P w h a L
theorem setO_new {P : Program} {w : World} {H : Hp} {h : Heap} {a : Addr} {L : List Mem} (R : SetZ P w h a L) : ObjOk P w H h a (SetO P w a L) := by
  have R2 := R
  obtain ⟨xs, n, t, ⟨o, ho, r⟩, q⟩ := R
  refine ⟨R2, ⟨o, ho⟩, fun h1 h2 p k => ?_⟩
  obtain ⟨xs, n, t, ⟨o, ho, r⟩, q⟩ := p
  exact ⟨xs, n, t, ⟨o, k o ho, r⟩, q⟩
/-- what may be put into a set: tuples of ints and texts -/
class K2 (α : Type) [Rp α] where
  k2 : α → Ky2
  inj : ∀ x y, k2 x = k2 y → x = y
  at_ : ∀ {K : PySem.W.Frag} {F : Hp} {v : V} {x : α}, Rp.rep K F v x → ∃ p, v = .ref p ∧ F p = some (.tup ((k2 x).map kV))
instance k2Pair {α β : Type} [Sc α] [Ky α] [Sc β] [Ky β] : K2 (α × β) where
  k2 x := [Ky.key x.1, Ky.key x.2]
  inj x y h := by
    have h1 := List.cons.inj h
    have h2 := List.cons.inj h1.2
    exact Prod.ext (Ky.inj _ _ h1.1) (Ky.inj _ _ h2.1)
  at_ {K F v x} r := by
    obtain ⟨p, o, e1, f1, a, b, eo, ra, rb⟩ := r
    subst eo
    refine ⟨p, e1, ?_⟩
    rw [f1, ra.1, rb.1]
    simp [Ky.kv]
section
variable {X : Cx} {α : Type} [Rp α] [K2 α]
def mems (zs : List (Addr × α)) : List Mem := zs.map fun z => (z.1, K2.k2 z.2)
theorem with_addr {F : Hp} : ∀ {vs : List V} {xs : List α}, Paired (Rp.rep X.K F) vs xs → ∃ zs : List (Addr × α), vs = zs.map (fun z => V.ref z.1) ∧ xs = zs.map (·.2) ∧ ∀ z ∈ zs, Rp.rep X.K F (.ref z.1) z.2
  | _, _, .nil => ⟨[], rfl, rfl, fun z h => by cases h⟩
  | v :: vs, x :: xs, .cons r t => by
    obtain ⟨zs, e1, e2, h⟩ := with_addr t
    obtain ⟨p, e, _⟩ := K2.at_ r
    subst e
    refine ⟨(p, x) :: zs, by rw [e1]; rfl, by rw [e2]; rfl, fun z hz => ?_⟩
    rcases List.mem_cons.mp hz with e | hz
    · rw [e]; exact r
    · exact h z hz
theorem refs_vals {α : Type} : ∀ {zs : List (Addr × α)} {us : List Value}, Vals (zs.map fun z => V.ref z.1) us → us = zs.map fun z => Value.ref z.1
  | [], _, .nil => rfl
  | z :: zs, _, .cons r t => by
    cases r
    rw [refs_vals t]
    rfl
theorem vals_refs {α : Type} : ∀ (zs : List (Addr × α)), Vals (zs.map fun z => V.ref z.1) (zs.map fun z => Value.ref z.1)
  | [] => .nil
  | z :: zs => .cons rfl (vals_refs zs)
theorem pick_zs {zs : List (Addr × α)} : ∀ {L : List Mem}, (∀ p ∈ L, p ∈ mems zs) → ∃ l : List (Addr × α), L = mems l ∧ ∀ z ∈ l, z ∈ zs
  | [], _ => ⟨[], rfl, fun z h => by cases h⟩
  | p :: L, h => by
    obtain ⟨l, e, hl⟩ := pick_zs (L := L) fun q hq => h q (List.mem_cons_of_mem _ hq)
    obtain ⟨z, hz, e2⟩ := List.mem_map.mp (h p List.mem_cons_self)
    refine ⟨z :: l, by rw [e, ← e2]; rfl, fun y hy => ?_⟩
    rcases List.mem_cons.mp hy with e | hy
    · rw [e]; exact hz
    · exact hl y hy
/-- set(xs) -/
def rSetW (X : Cx) (α : Type) [Rp α] [K2 α] : List V → Hp → VK → Prop := fun vs H Q => ∃ (F : Hp) (p : Addr) (ws : List V) (xs : List α), vs = [.ref p] ∧ Sub F H ∧ H p = some (.lst ws) ∧ Paired (Rp.rep X.K F) ws xs ∧ xs.length < 300 ∧
  ∀ a (zs : List (Addr × α)), H a = none → (zs.map (·.2)).Nodup → (∀ x, x ∈ zs.map (·.2) ↔ x ∈ xs) → (∀ z ∈ zs, Rp.rep X.K F (.ref z.1) z.2) → zs.length < 300 → Q (.ref a) (upd H a (SetO X.prog X.w a (mems zs)))
theorem cr_setW (hc : X.calm = true) (hu : X.A.units + 64 < cLine) : CallR X (.type "set") (rSetW X α) := by
  intro pins s σ H vs us Q I r h
  obtain ⟨F, p, ws, xs, rfl, sb, hp, pr, few, q⟩ := h
  rw [Vals.ref1 r]
  obtain ⟨its, rv, pl, hz⟩ := I.list (.inl (.inl hp))
  obtain ⟨zs, e1, e2, hzs⟩ := with_addr pr
  subst e1 e2
  have hn : H s.heap.objs.size = none := I.hok.fresh (Nat.le_refl _)
  have hk : ∀ z ∈ zs, At2 X.prog X.w s.heap (K2.k2 z.2) z.1 := fun z hz => by
    obtain ⟨p0, e, hF⟩ := K2.at_ (hzs z hz)
    cases e
    exact key_of I.hok ((sb _ _ hF).nd fun z => z)
  refine callW (P := X.prog) (w := X.w) (mems zs) (I.ok.hd hc) pl.isList (by rw [refs_vals rv]; simp [mems]) (fun m hm => ?_) (by simpa [mems] using few) (by omega) fun h2 tk L ys n t R g keep => ?_
  · obtain ⟨z, hz, e⟩ := List.mem_map.mp hm
    subst e
    exact hk z hz
  · have inks : ∀ p ∈ L, p ∈ mems zs := fun p hp => List.mem_of_mem_take (g.from_ p hp)
    obtain ⟨l, e, hl⟩ := pick_zs inks
    subst e
    have un := R.uniq
    have e3 : (mems l).map (·.2) = (l.map (·.2)).map K2.k2 := by simp [mems]
    have few2 := R.some300
    refine ⟨.ref s.heap.objs.size, upd H s.heap.objs.size (SetO X.prog X.w s.heap.objs.size (mems l)), I.laid (t' := tk) keep (Nat.le_refl _) (setO_new ⟨ys, n, t, R.obj, R.ents, R.wo, R.lead, R.loose, R.some300⟩), rfl, q _ l hn (nodup_of_map (by rw [← e3]; exact un)) (fun x => ⟨fun hx => ?_, fun hx => ?_⟩) (fun z hz => hzs z (hl z hz)) (by simpa [mems] using few2)⟩
    · obtain ⟨z, hz, e⟩ := List.mem_map.mp hx
      exact List.mem_map.mpr ⟨z, hl z hz, e⟩
    · obtain ⟨z, hz, e⟩ := List.mem_map.mp hx
      have z1 := g.each (z.1, K2.k2 z.2) (by rw [List.take_length]; exact List.mem_map.mpr ⟨z, hz, rfl⟩)
      rw [e3] at z1
      obtain ⟨y, hy, e4⟩ := List.mem_map.mp z1
      have e5 := K2.inj _ _ e4
      rw [← e, ← e5]
      exact hy
variable [SorE α]
/-- sorted(set) -/
def rSortW (X : Cx) (α : Type) [Rp α] [K2 α] [SorE α] : List V → Hp → VK → Prop := fun vs H Q => ∃ (F : Hp) (a : Addr) (zs : List (Addr × α)), vs = [.ref a] ∧ Sub F H ∧ H a = some (SetO X.prog X.w a (mems zs)) ∧ (∀ z ∈ zs, Rp.rep X.K F (.ref z.1) z.2) ∧
  ∀ q ws, H q = none → Paired (Rp.rep X.K F) ws (srtE (zs.map (·.2))) → Q (.ref q) (upd H q (.lst ws))
theorem reps_of {F : Hp} : ∀ {zs : List (Addr × α)}, (∀ z ∈ zs, Rp.rep X.K F (.ref z.1) z.2) → Paired (Rp.rep X.K F) (zs.map fun z => V.ref z.1) (zs.map (·.2))
  | [], _ => .nil
  | z :: zs, h => .cons (h z List.mem_cons_self) (reps_of fun y hy => h y (List.mem_cons_of_mem _ hy))
theorem cr_sortW (hc : X.calm = true) : CallR X (.builtin "sorted") (rSortW X α) := by
  intro pins s σ H vs us Q I r h
  obtain ⟨F, a, zs, rfl, sb, ha, hzs, q⟩ := h
  obtain ⟨xs, n, t, ⟨o, ho, hex, hd⟩, ents, wo, lead, loose, few⟩ : SetZ X.prog X.w s.heap a (mems zs) := (I.hok a _ ha).1
  have ml : (mems zs).length = zs.length := List.length_map _
  rw [ml] at few loose
  have sz := rows_size ents
  have pz := wo.len
  rw [hs2_len, ml] at pz
  rw [ml] at sz
  rw [Vals.ref1 r]
  refine Calls.call_function_entry kind_sorted plain_sorted entry_sorted (args_sorted1 _) ?_
  unfold Builtin.«sorted»
  refine wpAny_bind (m := checkCount "sorted" 1 1 _) (wpAny_pure ?_)
  refine wpAny_bind (collect_set (A := X.A.in1) (I.ok.hd hc) ⟨o, ho, hex.1, hd⟩ (fitsW ents (by omega) wo.nodum (by rw [ml]; omega)) (by unfold scanBound; omega) wo.up lead fun s1 acc k1 hz1 g1 o1 pm => ?_)
  have ev : xs.toList.map (·.2) = zs.map fun z => Value.ref z.1 := by
    rw [ents]
    simp [rows2, mems]
  rw [ev] at pm
  obtain ⟨ys, py, ey⟩ := perm_back pm zs rfl
  subst ey
  have hys : ∀ z ∈ ys, Rp.rep X.K F (.ref z.1) z.2 := fun z hz => hzs z (py.mem_iff.mp hz)
  have I1 : Inv X pins σ H s1 := I.call' (ch := []) o1 (Un.kept k1) (I.hok.kept k1) (by rw [g1]; exact I.bare) (fun _ z => nomatch z)
  obtain ⟨kf, e1, e2⟩ := SorE.raw I1 sb (reps_of hys) (vals_refs ys)
  have al : (ys.map fun z => Value.ref z.1).length ≤ sizeLine := by
    rw [List.length_map, py.length_eq, sizeLine_eq]
    omega
  refine wpAny_bind (wpAny_newList ?_ al)
  generalize hacc : ys.map (fun z => Value.ref z.1) = acc at e1 e2 al ⊢
  have hoL : (s1.heap.push (seqObj "list" acc.toArray 0)).get? s1.heap.objs.size = some (seqObj "list" acc.toArray 0) := Heap.get?_push_size _ rfl
  have kp : ∀ c o, s1.heap.get? c = some o → (s1.heap.push (seqObj "list" acc.toArray 0)).get? c = some o := fun c o e => Heap.get?_push_of_some _ e
  refine wpAny_bind (wpAny_holding (wpAny_call_entry slot_list_sort ⟨_, hoL, rfl⟩ entry_list_sort (list_sort_ord (toLex.swo kf) hoL al (fun h2 => e2 h2 _ s1.toks _ hoL kp) fun out hs hb => ⟨_, rfl, ?_⟩) (args_list_sort _)))
  have eo : out.map kf = (srtE (zs.map (·.2))).map SorE.key := by
    refine srt_one toLex (srtd_map hs) (srtd_map (srtE_srtd _)) ?_
    have p1 := hb.perm.map kf
    rw [e1] at p1
    exact p1.trans (((py.map (·.2)).map SorE.key).trans ((srtE_perm (zs.map (·.2))).map SorE.key).symm)
  have tr := trip (reps_of hys) (by rw [hacc.symm]; exact vals_refs ys) e1
  obtain ⟨ws, w1, w2⟩ := out_vals (X := X) (F := F) eo fun v hv => tr v (hb.perm.mem_iff.mp hv)
  obtain ⟨m, hm⟩ := sortedHeap_at (vs := acc) (out := out.toArray) hoL
  have hlen : ws.length ≤ sizeLine := by
    rw [pairedLen w2, (srtE_perm _).length_eq, List.length_map, sizeLine_eq]
    omega
  have I2 := I1.laid (a := s1.heap.objs.size) (t' := s1.toks) (o := .lst ws) (h' := sortedHeap (s1.heap.push (seqObj "list" acc.toArray 0)) s1.heap.objs.size acc out.toArray) (fun c u e => by
    have hb := Heap.lt_size e
    rw [sortedHeap_old (Nat.ne_of_lt hb) (by rw [size_push']; exact Nat.lt_succ_of_lt hb)]
    exact Heap.get?_push_of_some _ e) (Nat.le_refl _) (show ObjOk X.prog X.w _ _ _ (.lst ws) from ⟨hlen, out, m, w1, hm⟩)
  exact wpAny_pure ⟨_, rfl, .ref s1.heap.objs.size, _, I2, rfl, q _ ws (I1.hok.fresh (Nat.le_refl _)) w2⟩
end
end LyT
namespace LyT
open PySem PySem.Spec PyProof.Rows L2 LyS Ly
/-- each once -/
def dd {α : Type} [DecidableEq α] : List α → List α
  | [] => []
  | x :: l => if x ∈ dd l then dd l else x :: dd l
theorem mem_dd {α : Type} [DecidableEq α] {x : α} : ∀ {l : List α}, x ∈ dd l ↔ x ∈ l
  | [] => Iff.rfl
  | y :: l => by
    unfold dd
    split
    · rename_i h
      rw [mem_dd, List.mem_cons]
      refine ⟨.inr, fun z => z.elim (fun e => ?_) id⟩
      rw [e]; exact mem_dd.mp h
    · rw [List.mem_cons, List.mem_cons, mem_dd]
theorem nodup_dd {α : Type} [DecidableEq α] : ∀ (l : List α), (dd l).Nodup
  | [] => List.nodup_nil
  | y :: l => by
    unfold dd
    split
    · exact nodup_dd l
    · rename_i h
      exact List.nodup_cons.mpr ⟨h, nodup_dd l⟩
theorem dd_len {α : Type} [DecidableEq α] : ∀ (l : List α), (dd l).length ≤ l.length
  | [] => Nat.le_refl _
  | y :: l => by
    unfold dd
    have z := dd_len l
    split
    · exact Nat.le_succ_of_le z
    · exact Nat.succ_le_succ z
/-- sorted(set(xs)) -/
def sset {α : Type} [Rp α] [SorE α] [DecidableEq α] (xs : List α) : List α := srtE (dd xs)
section
variable {X : Cx} {α : Type} [Rp α] [K2 α] [SorE α] [DecidableEq α]
theorem srtE_one {l m : List α} (h : l.Perm m) : srtE l = srtE m := by
  have e : (srtE l).map SorE.key = (srtE m).map SorE.key := srt_one toLex (SrtO.srtd_map (srtE_srtd l)) (SrtO.srtd_map (srtE_srtd m)) ((((srtE_perm l).trans h).trans (srtE_perm m).symm).map SorE.key)
  have z : ∀ {a b : List α}, a.map SorE.key = b.map SorE.key → a = b := by
    intro a
    induction a with
    | nil => intro b e; cases b with
      | nil => rfl
      | cons y b => cases e
    | cons x a ih => intro b e; cases b with
      | nil => cases e
      | cons y b =>
        obtain ⟨e1, e2⟩ := List.cons.inj e
        rw [SorE.inj _ _ e1, ih e2]
  exact z e
variable {es : List En} {e : Expr} {pos p p2 pos2 : Pos}
theorem n_sset {xs : List α} (hc : X.calm = true) (hu : X.A.units + 64 < cLine) (hg : Gl X "sorted") (hm : X.mg "sorted" = none) (hg2 : Gl X "set") (hm2 : X.mg "set" = none) (ha : LR X es e xs) (few : xs.length < 300)
    (s1 : starEach [e] X.env = (false, eval e X.env) :: starEach [] X.env := by rfl) (s2 : starEach [.Call (.Name "set" p2) [e] [] pos2] X.env = (false, eval (.Call (.Name "set" p2) [e] [] pos2) X.env) :: starEach [] X.env := by rfl) :
    NJ X es (.Call (.Name "sorted" p) [.Call (.Name "set" p2) [e] [] pos2] [] pos) (sset xs) := .mk fun f σ F H S Q q =>
  peR (pe_callB (cr_sortW (α := α) hc) hg hm (by decide +kernel) (pa_cons (pe_callTy (cr_setW (α := α) hc hu) hg2 hm2 (by decide +kernel) (pa_cons peW pa_nil s1) (by decide) (by decide) s1) pa_nil s2) (by decide) (by decide) s2)
    (ha f σ F H S _ fun a vs F1 H1 t1 hp rp hz => ⟨F1, a, vs, xs, rfl, t1.e, hp, rp, few, fun b zs hb nd mem hzs few2 => by
      have t2 : St0 F1 H1 F1 (upd H1 b (SetO X.prog X.w b (mems zs))) := St0.new t1.e hb
      refine ⟨F1, b, zs, rfl, t2.e, upd_same, hzs, fun q0 ws hq pw => ?_⟩
      have pm : (zs.map (·.2)).Perm (dd xs) := (List.perm_ext_iff_of_nodup nd (nodup_dd xs)).mpr fun x => (mem x).trans mem_dd.symm
      rw [srtE_one pm] at pw
      have ln : (sset xs).length ≤ big := by
        unfold sset
        rw [(srtE_perm _).length_eq]
        exact Nat.le_trans (dd_len xs) hz
      exact q _ F1 _ [q0] ((t1.trans t2).trans (St0.new t2.e hq)) (newL t2.e hq ln pw) (by simp) fun z hz => by
        have e : z = q0 := by simpa using hz
        rw [e]; exact (t1.trans t2).back hq⟩)
end
end LyT
namespace Ly
open PySem PySem.Spec PyProof.Rows L2
/-! jobs: instances of the program's class -/
structure JobsV where
  row : List Str
  pairs : List (Str × Str)
  later : Dct Str (List Str)
instance : Inhabited JobsV := ⟨⟨[], [], ⟨[]⟩⟩⟩
abbrev CJ (K : PySem.W.Frag) : Addr := He.ga K "Jobs"
abbrev jR (v : V) : List (Str × V) := [("row", v)]
abbrev jP (v w : V) : List (Str × V) := [("row", v), ("pairs", w)]
abbrev jF (v w l : V) : List (Str × V) := [("row", v), ("pairs", w), ("later", l)]
instance clJobs : Cl JobsV where
  cell K H o x := ∃ dx v w l, o = .ins (CJ K) dx (jF v w l) ∧ Rp.rep K H v x.row ∧ Rp.rep K H w x.pairs ∧ Rp.rep K H l x.later
  mono {K H H' o x} i h := by
    obtain ⟨dx, v, w, l, e, h1, h2, h3⟩ := h
    exact ⟨dx, v, w, l, e, Rp.mono i h1, Rp.mono i h2, Rp.mono i h3⟩
/-- what the head says of the class -/
structure JCls (K : PySem.W.Frag) : Prop where
  c : Cls K (CJ K)
  row : NoAttr K (CJ K) "row"
  pairs : NoAttr K (CJ K) "pairs"
  later : NoAttr K (CJ K) "later"
section
variable {X : Cx} {es es1 es2 as : List En} {a e o : Expr} {args : List Expr} {pos apos : Pos} {x : JobsV}
theorem repJ {K : PySem.W.Frag} {F H : Hp} (sb : Sub F H) {v : V} (r : Rp.rep K F v x) : ∃ p dx u w l, v = .ref p ∧ H p = some (.ins (CJ K) dx (jF u w l)) ∧ Rp.rep K F u x.row ∧ Rp.rep K F w x.pairs ∧ Rp.rep K F l x.later := by
  obtain ⟨p, o, e, h1, dx, u, w, l, eo, r1, r2, r3⟩ := r
  subst eo
  exact ⟨p, dx, u, w, l, e, (sb _ _ h1).nd fun z => z, r1, r2, r3⟩
theorem f_jrow (c : JCls X.K) (h : FJ X es e x) (hb : attributeBase e "row" X.env (eval e X.env) = eval e X.env := by rfl) : FJ X es (.Attribute e "row" pos) x.row := .mk fun f σ F H S Q q =>
  peR (pe_fld peW hb) (h f σ F H S _ fun v F1 H1 t1 r1 => by
    obtain ⟨p, dx, u, w, l, ev, hp, r2, _⟩ := repJ t1.e r1
    exact ⟨p, _, dx, _, u, ev, hp, c.c, c.row, rfl, q _ F1 H1 t1 r2⟩)
theorem f_jlater (c : JCls X.K) (h : FJ X es e x) (hb : attributeBase e "later" X.env (eval e X.env) = eval e X.env := by rfl) : FJ X es (.Attribute e "later" pos) x.later := .mk fun f σ F H S Q q =>
  peR (pe_fld peW hb) (h f σ F H S _ fun v F1 H1 t1 r1 => by
    obtain ⟨p, dx, u, w, l, ev, hp, _, _, r2⟩ := repJ t1.e r1
    exact ⟨p, _, dx, _, l, ev, hp, c.c, c.later, rfl, q _ F1 H1 t1 r2⟩)
end
/-! an instance that is being made -/
inductive Slf where
  | s0
  | s1 (r : List Str)
  | s2 (r : List Str) (p : List (Str × Str))
  | s3 (r : List Str) (p : List (Str × Str)) (d : Dct Str (List Str))
def Slf.fr (K : PySem.W.Frag) (F : Hp) : Slf → List (Str × V) → Prop
  | .s0, fs => fs = []
  | .s1 r, fs => ∃ v, fs = jR v ∧ Rp.rep K F v r
  | .s2 r p, fs => ∃ v w, fs = jP v w ∧ Rp.rep K F v r ∧ Rp.rep K F w p
  | .s3 r p d, fs => ∃ v w l, fs = jF v w l ∧ Rp.rep K F v r ∧ Rp.rep K F w p ∧ Rp.rep K F l d
def Slf.at_ (K : PySem.W.Frag) (F H : Hp) : Slf → List (Str × V) → List Addr → Prop
  | .s0, fs, Q => fs = [] ∧ Q = []
  | .s1 r, fs, Q => ∃ v, fs = jR v ∧ Rp.rep K F v r ∧ Q = []
  | .s2 r p, fs, Q => ∃ v w, fs = jP v w ∧ Rp.rep K F v r ∧ Rp.rep K F w p ∧ Q = []
  | .s3 r p d, fs, Q => ∃ v w l, fs = jF v w (.ref l) ∧ Rp.rep K F v r ∧ Rp.rep K F w p ∧ Q = [l] ∧ Ow.own K F H (.ref l) d [l]
theorem Slf.fr_mono {K : PySem.W.Frag} {F F' : Hp} (i : Inc F F') : ∀ {x : Slf} {fs : List (Str × V)}, x.fr K F fs → x.fr K F' fs
  | .s0, _, h => h
  | .s1 r, _, ⟨v, e, h⟩ => ⟨v, e, Rp.mono i h⟩
  | .s2 r p, _, ⟨v, w, e, h1, h2⟩ => ⟨v, w, e, Rp.mono i h1, Rp.mono i h2⟩
  | .s3 r p d, _, ⟨v, w, l, e, h1, h2, h3⟩ => ⟨v, w, l, e, Rp.mono i h1, Rp.mono i h2, Rp.mono i h3⟩
theorem Slf.at_mono {K : PySem.W.Frag} {F F' H H' : Hp} (i : Inc F F') : ∀ {x : Slf} {fs : List (Str × V)} {Q : List Addr}, (∀ p ∈ Q, H' p = H p) → (∀ p ∈ Q, F' p = none) → x.at_ K F H fs Q → x.at_ K F' H' fs Q
  | .s0, _, _, _, _, h => h
  | .s1 r, _, _, _, _, ⟨v, e, h, q⟩ => ⟨v, e, Rp.mono i h, q⟩
  | .s2 r p, _, _, _, _, ⟨v, w, e, h1, h2, q⟩ => ⟨v, w, e, Rp.mono i h1, Rp.mono i h2, q⟩
  | .s3 r p d, _, _, k, n, ⟨v, w, l, e, h1, h2, q, h3⟩ => ⟨v, w, l, e, Rp.mono i h1, Rp.mono i h2, q, by
    subst q
    exact Ow.mono i k n h3⟩
theorem Slf.at_out {K : PySem.W.Frag} {F H : Hp} : ∀ {x : Slf} {fs : List (Str × V)} {Q : List Addr}, x.at_ K F H fs Q → ∀ p ∈ Q, H p ≠ none ∧ F p = none
  | .s0, _, _, ⟨_, q⟩, p, hp => by rw [q] at hp; cases hp
  | .s1 r, _, _, ⟨v, e, h, q⟩, p, hp => by rw [q] at hp; cases hp
  | .s2 r p, _, _, ⟨v, w, e, h1, h2, q⟩, _, hp => by rw [q] at hp; cases hp
  | .s3 r p d, _, _, ⟨v, w, l, e, h1, h2, q, h3⟩, _, hp => by
    rw [q] at hp
    exact Ow.out h3 _ hp
theorem Slf.at_nt {K : PySem.W.Frag} {F H : Hp} : ∀ {x : Slf} {fs : List (Str × V)} {Q : List Addr}, x.at_ K F H fs Q → ∀ p ∈ Q, ∀ ks, H p ≠ some (sk ks)
  | .s0, _, _, ⟨_, q⟩, p, hp => by rw [q] at hp; cases hp
  | .s1 r, _, _, ⟨v, e, h, q⟩, p, hp => by rw [q] at hp; cases hp
  | .s2 r p, _, _, ⟨v, w, e, h1, h2, q⟩, _, hp => by rw [q] at hp; cases hp
  | .s3 r p d, _, _, ⟨v, w, l, e, h1, h2, q, h3⟩, _, hp => by
    rw [q] at hp
    exact Ow.nt h3 _ hp
theorem Slf.at_fr {K : PySem.W.Frag} {F H : Hp} {P : List Addr} (hP : ∀ p ∈ P, F p = none) : ∀ {x : Slf} {fs : List (Str × V)} {Q : List Addr}, (∀ p ∈ Q, p ∈ P) → x.at_ K F H fs Q → x.fr K (fzP F H P) fs
  | .s0, _, _, _, ⟨e, q⟩ => e
  | .s1 r, _, _, _, ⟨v, e, h, q⟩ => ⟨v, e, Rp.mono (fzP_inc hP) h⟩
  | .s2 r p, _, _, _, ⟨v, w, e, h1, h2, q⟩ => ⟨v, w, e, Rp.mono (fzP_inc hP) h1, Rp.mono (fzP_inc hP) h2⟩
  | .s3 r p d, _, _, hQ, ⟨v, w, l, e, h1, h2, q, h3⟩ => ⟨v, w, _, e, Rp.mono (fzP_inc hP) h1, Rp.mono (fzP_inc hP) h2, by
    obtain ⟨a, o, ea, _, g1, g2, c⟩ := h3
    cases ea
    exact ⟨l, o, rfl, (fzP_in (hQ l (by rw [q]; simp))).trans g1, Cl.mono (fzP_inc hP) c⟩⟩
instance owSlf : Ow Slf where
  rp := ⟨fun K H v x => ∃ a dx fs, v = .ref a ∧ H a = some (.ins (CJ K) dx fs) ∧ x.fr K H fs, fun i h => by
    obtain ⟨a, dx, fs, e, h1, h2⟩ := h
    exact ⟨a, dx, fs, e, i _ _ h1, Slf.fr_mono i h2⟩⟩
  own K F H v x P := ∃ a dx fs Q, v = .ref a ∧ P = a :: dx :: Q ∧ H a = some (.ins (CJ K) dx fs) ∧ F a = none ∧ H dx = some (.own a) ∧ F dx = none ∧ x.at_ K F H fs Q
  mono {K F F' H H' v x P} i h hf r := by
    obtain ⟨a, dx, fs, Q, e, rfl, h1, h2, h3, h4, h5⟩ := r
    refine ⟨a, dx, fs, Q, e, rfl, (h a (by simp)).trans h1, hf a (by simp), (h dx (by simp)).trans h3, hf dx (by simp), Slf.at_mono i (fun p hp => h p (by simp [hp])) (fun p hp => hf p (by simp [hp])) h5⟩
  out {K F H v x P} r p hp := by
    obtain ⟨a, dx, fs, Q, e, rfl, h1, h2, h3, h4, h5⟩ := r
    rcases List.mem_cons.mp hp with z | hp
    · rw [z]; exact ⟨nn h1, h2⟩
    · rcases List.mem_cons.mp hp with z | hp
      · rw [z]; exact ⟨nn h3, h4⟩
      · exact Slf.at_out h5 p hp
  fzn {K F H v x P} r := by
    obtain ⟨a, dx, fs, Q, e, rfl, h1, h2, h3, h4, h5⟩ := r
    refine ⟨a, dx, fs, e, (fzP_in (by simp)).trans h1, Slf.at_fr (fun p hp => ?_) (fun p hp => by simp [hp]) h5⟩
    rcases List.mem_cons.mp hp with z | hp
    · rw [z]; exact h2
    · rcases List.mem_cons.mp hp with z | hp
      · rw [z]; exact h4
      · exact (Slf.at_out h5 p hp).2
  nt {K F H v x P} r p hp ks := by
    obtain ⟨a, dx, fs, Q, e, rfl, h1, h2, h3, h4, h5⟩ := r
    rcases List.mem_cons.mp hp with z | hp
    · rw [z, h1]; intro q; cases q
    · rcases List.mem_cons.mp hp with z | hp
      · rw [z, h3]; intro q; cases q
      · exact Slf.at_nt h5 p hp ks
section
variable {X : Cx} {es es1 es2 as : List En} {e o : Expr} {args : List Expr} {pos apos : Pos} {st : Stmt} {i : Nat} {a : Addr}
theorem slf_at {f : Fr} {σ : L2.St} {F H : Hp} {x : Slf} (S : Sw X.K f es σ F H) (hi : es[i]? = some (.at a x)) : ∃ Ps dx fs Q, EnvP X.K f es σ F H Ps ∧ sl σ i = some (.ref a) ∧ Ps i = a :: dx :: Q ∧ H a = some (.ins (CJ X.K) dx fs) ∧ F a = none ∧ H dx = some (.own a) ∧ F dx = none ∧ x.at_ X.K F H fs Q := by
  obtain ⟨Ps, q⟩ := S.env
  obtain ⟨e1, a', dx, fs, Q, e2, h⟩ := q.ok i _ hi
  cases e2
  exact ⟨Ps, dx, fs, Q, q, e1, h⟩
/-- the instance at a is written at one field -/
theorem slf_put {f : Fr} {σ : L2.St} {F H : Hp} {x y : Slf} {Ps : Nat → List Addr} {dx : Addr} {fs fs2 : List (Str × V)} {Q Q2 : List Addr} (S : Sw X.K f es σ F H) (q : EnvP X.K f es σ F H Ps) (hi : es[i]? = some (.at a x)) (e1 : sl σ i = some (.ref a)) (hP : Ps i = a :: dx :: Q) (h1 : H a = some (.ins (CJ X.K) dx fs)) (h2 : F a = none) (h3 : H dx = some (.own a)) (h4 : F dx = none)
    (hy : y.at_ X.K F (upd H a (.ins (CJ X.K) dx fs2)) fs2 Q2) (hn : (a :: dx :: Q2).Nodup) (hQ : ∀ p ∈ Q2, p ∈ Q ∨ (∀ j, j < es.length → p ∉ Ps j) ∧ f.H p = none) (ha : noAl i es) : Sw X.K f (es.set i (.at a y)) σ F (upd H a (.ins (CJ X.K) dx fs2)) := by
  have ne : dx ≠ a := fun z => by rw [z, h1] at h3; cases h3
  refine Sw.mutG S.st q hi hP (fun p hp => ?_) (fun p hp _ => ?_) (P' := a :: dx :: Q2) ⟨e1, a, dx, fs2, Q2, rfl, rfl, upd_same, h2, by rw [upd_ne ne]; exact h3, h4, hy⟩ hn (fun p hp => ?_) ha (fun _ _ _ z => by cases z) fun _ _ _ _ z => by cases z
  · by_cases z : p = a
    · rw [z, upd_same]; intro y; cases y
    · rw [upd_ne z]; exact hp
  · exact upd_ne fun z => hp (by simp [z])
  · rcases List.mem_cons.mp hp with z | hp
    · exact .inl (by simp [z])
    · rcases List.mem_cons.mp hp with z | hp
      · exact .inl (by simp [z])
      · rcases hQ p hp with z | z
        · exact .inl (by simp [z])
        · exact .inr z
theorem nd2 {a dx : Addr} (h : dx ≠ a) : ([a, dx] : List Addr).Nodup := by simp [Ne.symm h]
/-- self.row = e -/
theorem s_self1 {x : List Str} (c : JCls X.K) (hst : PS X st (sFld X.K (tVar i) (wpE X e) "row")) (h : FJ X es e x) (hi : es[i]? = some (.at a Slf.s0)) (hes : es.set i (.at a (Slf.s1 x)) = es2 := by rfl) (ha : alFree i es = true := by rfl) : E1 X es st es2 := .mk fun f σ F H D S q =>
  psR hst (h f σ F H S _ fun v F1 H1 t1 r1 => by
    have S1 := S.step t1
    obtain ⟨Ps, dx, fs, Q, p, e1, hP, h1, h2, h3, h4, h5⟩ := slf_at S1 hi
    obtain ⟨rfl, rfl⟩ := h5
    subst hes
    refine ⟨.ref a, sl_of e1, a, _, dx, _, rfl, h1, c.c, c.row, by decide, q _ F1 _ (slf_put S1 p hi e1 hP h1 h2 h3 h4 (y := .s1 x) (Q2 := []) ⟨v, rfl, r1, rfl⟩ (nd2 fun z => by rw [z, h1] at h3; cases h3) (fun p hp => by cases hp) (noAl_of ha))⟩)
/-- self.pairs = e -/
theorem s_self2 {r : List Str} {x : List (Str × Str)} (c : JCls X.K) (hst : PS X st (sFld X.K (tVar i) (wpE X e) "pairs")) (h : FJ X es e x) (hi : es[i]? = some (.at a (Slf.s1 r))) (hes : es.set i (.at a (Slf.s2 r x)) = es2 := by rfl) (ha : alFree i es = true := by rfl) : E1 X es st es2 := .mk fun f σ F H D S q =>
  psR hst (h f σ F H S _ fun v F1 H1 t1 r1 => by
    have S1 := S.step t1
    obtain ⟨Ps, dx, fs, Q, p, e1, hP, h1, h2, h3, h4, h5⟩ := slf_at S1 hi
    obtain ⟨u, rfl, hr, rfl⟩ := h5
    subst hes
    refine ⟨.ref a, sl_of e1, a, _, dx, _, rfl, h1, c.c, c.pairs, (show (1 : Nat) < 1000 by decide), q _ F1 _ (slf_put S1 p hi e1 hP h1 h2 h3 h4 (y := .s2 r x) (Q2 := []) ⟨u, v, rfl, hr, r1, rfl⟩ (nd2 fun z => by rw [z, h1] at h3; cases h3) (fun p hp => by cases hp) (noAl_of ha))⟩)
/-- self.later = {} -/
theorem s_self3 {r : List Str} {x : List (Str × Str)} {p0 : Pos} (c : JCls X.K) (hst : PS X st (sFld X.K (tVar i) (wpE X (.Dict [] [] p0)) "later")) (hi : es[i]? = some (.at a (Slf.s2 r x))) (hes : es.set i (.at a (Slf.s3 r x (Dct.mk []))) = es2 := by rfl) (ha : alFree i es = true := by rfl) : E1 X es st es2 := .mk fun f σ F H D S q =>
  psR hst ((n_dnew (κ := Str) (α := List Str)) f σ F H S _ fun v F1 H1 P t1 r1 hn hp => by
    obtain ⟨Ps, dx, fs, Q, p, e1, hP, h1, h2, h3, h4, h5⟩ := slf_at S hi
    obtain ⟨u, w, rfl, hr, hx, rfl⟩ := h5
    subst hes
    obtain ⟨l, o, rfl, rfl, g1, g2, g3⟩ := r1
    have ne : dx ≠ a := fun z => by rw [z, h1] at h3; cases h3
    have Hl : H l = none := hp l (by simp)
    have la : l ≠ a := fun z => by rw [← z, Hl] at h1; cases h1
    have ld : l ≠ dx := fun z => by rw [← z, Hl] at h3; cases h3
    have S1 := S.step t1
    have k1 := t1.inc _ _ h1
    refine ⟨.ref a, sl_of e1, a, _, dx, _, rfl, k1, c.c, c.later, (show (2 : Nat) < 1000 by decide), q _ F1 _ (slf_put S1 (p.step t1) hi e1 hP k1 (t1.nz h1 (fun _ e => by cases e) h2) (t1.inc _ _ h3) (t1.nz h3 (fun _ e => by cases e) h4) (y := .s3 r x (Dct.mk [])) (Q2 := [l]) ⟨u, w, l, rfl, Rp.mono t1.f hr, Rp.mono t1.f hx, rfl, l, o, rfl, rfl, by rw [upd_ne la]; exact g1, g2, g3⟩ ?_ (fun z hz => .inr ?_) (noAl_of ha))⟩
    · simp [Ne.symm ne, Ne.symm la, Ne.symm ld]
    · have e : z = l := by simpa using hz
      subst e
      exact ⟨fun j hj z2 => (p.out hj z z2).1 Hl, S.st.back Hl⟩)
/-- self.pairs, read -/
theorem f_selfP {r : List Str} {x : List (Str × Str)} {d : Dct Str (List Str)} (c : JCls X.K) (hv : PE X o (tVar i)) (hi : es[i]? = some (.at a (Slf.s3 r x d))) (hb : attributeBase o "pairs" X.env (eval o X.env) = eval o X.env := by rfl) : FJ X es (.Attribute o "pairs" pos) x := .mk fun f σ F H S Q q =>
  peR (pe_fld hv hb) (by
    obtain ⟨Ps, dx, fs, Q0, p, e1, hP, h1, h2, h3, h4, u, w, l, rfl, hr, hx, _⟩ := slf_at S hi
    exact ⟨_, sl_of e1, a, _, dx, _, w, rfl, h1, c.c, c.pairs, rfl, q _ F H (St0.refl S.sub) hx⟩)
/-- self.later[k] = e -/
theorem s_selfPut {r : List Str} {x : List (Str × Str)} {d : Dct Str (List Str)} {b : Expr} {k : Str} {y : List Str} (c : JCls X.K) (hu : X.A.units + 64 < cLine) (hst : PS X st (sDPut (tFld X.K (tVar i) "later") (wpE X b) (wpE X e))) (h : FJ X es e y) (hk : FJ X es b k) (hi : es[i]? = some (.at a (Slf.s3 r x d))) (hz : d.l.length < big) (hes : es.set i (.at a (Slf.s3 r x (putD d k y))) = es2 := by rfl) (ha : alFree i es = true := by rfl) : E1 X es st es2 := .mk fun f σ F H D S q =>
  psR hst (h f σ F H S _ fun v F1 H1 t1 r1 => by
    have S1 := S.step t1
    obtain ⟨_, dx1, fs1, _, _, e1, _, k1, _, _, _, u1, w1, l1, rfl, _, _, _, _⟩ := slf_at S1 hi
    refine ⟨_, sl_of e1, a, _, dx1, _, .ref l1, rfl, k1, c.c, c.later, rfl, hk f σ F1 H1 S1 _ fun vk F2 H2 t2 r2 => ?_⟩
    have S2 := S1.step t2
    have z1 := t2.inc _ _ k1
    obtain ⟨Ps, dx, fs, Q0, p, e1, hP, h1, h2, h3, h4, u, w, l, rfl, hr, hx, rfl, ow⟩ := slf_at S2 hi
    rw [h1] at z1
    obtain ⟨rfl, rfl⟩ : dx = dx1 ∧ l = l1 := by
      injection z1 with z1
      injection z1 with _ z2 z3
      injection z3 with _ z3
      injection z3 with _ z3
      injection z3 with z3 _
      injection z3 with _ z3
      injection z3 with z3
      exact ⟨z2, z3⟩
    subst hes
    obtain ⟨l', o, el, _, g1, g2, hz2, nd, ks, eo, rr⟩ := ow
    cases el
    subst eo
    have hlen : ks.length < sizeLine := by rw [pairedLen rr]; exact big_lt (Nat.le_of_lt hz)
    have e2 : vk = Sc.toV k := r2.1
    have na : a ≠ l := fun z => by rw [z, g1] at h1; cases h1
    have nx : dx ≠ l := fun z => by rw [z, g1] at h3; cases h3
    have hn := p.nd i (get_lt hi)
    rw [hP] at hn
    refine ⟨l, _, rfl, .inl ⟨ks, Ky.key k, g1, by rw [e2, Ky.kv], hlen, rfl⟩, q _ F2 _ (Sw.mutG S2.st p hi hP (fun z hz => ?_) (fun z hz _ => upd_ne fun y => hz (by rw [y]; simp)) (P' := [a, dx, l]) ⟨e1, a, dx, _, [l], rfl, rfl, (upd_ne na).trans h1, h2, (upd_ne nx).trans h3, h4, u, w, l, rfl, hr, hx, rfl, l, _, rfl, rfl, upd_same, g2, ⟨Nat.le_trans (putL_len _ _ _) hz, putL_keys nd, _, rfl, dr_put rr r2.2 (Rp.mono t2.f r1)⟩⟩ hn (fun z hz => .inl hz) (noAl_of ha) (fun _ _ _ z => by cases z) fun _ _ _ _ z => by cases z)⟩
    by_cases y : z = l
    · rw [y, upd_same]; intro y; cases y
    · rw [upd_ne y]; exact hz)
/-! made, asked -/
structure Mkr (P : Program) (w : World) (K : PySem.W.Frag) (mg : Str → Option Value) (base : Heap) (k : Nat) (ps : List Str) (sp : Sp) where
  f : Addr
  fd : FuncData
  ok : FnOk P w K mg base CX0 k f fd ps sp
  mkr : Mk K (CJ K) f
  mg : mg "Jobs" = some (.ref (CJ K))
  bd : Binds K fd ps []
structure Dm (P : Program) (w : World) (K : PySem.W.Frag) (mg : Str → Option Value) (base : Heap) (k : Nat) (m : Str) (ps : List Str) (sp : Sp) where
  f : Addr
  fd : FuncData
  ok : FnOk P w K mg base CX0 k f fd ps sp
  mt : Meth K (CJ K) m f
  bd : Binds K fd ps []
variable {k : Nat} {ps : List Str} {m : Str} {p : Pos} {e1 : Expr}
/-- Jobs(..) -/
theorem fMk {G : Slf → List En → Slf → En → Prop} {r : List Str} {x : List (Str × Str)} {d : Dct Str (List Str)} (D : Mkr X.prog X.w X.K X.mg X.base k ps (spU X.K G)) (hr : Room (k + 1) X.A) (ha : AJ X es (e :: args) as) (hG : G .s0 as (.s3 r x d) (.fz ()))
    (hg : Gl X "Jobs" := by rfl) (hdb : (("Jobs" : Str) == ("__debug__" : Str)) = false := by decide) (he : starEach (e :: args) X.env = (false, eval e X.env) :: starEach args X.env := by rfl) (hpl : (backTo pos (starEach args X.env)).any (·.1) = false := by rfl) :
    FJ X es (.Call (.Name "Jobs" p) (e :: args) [] pos) (JobsV.mk r x d) := .mk fun f σ F H S Q q =>
  peR (pe_make D.mkr D.ok hr hg D.mg D.bd .nil pass0 paW hdb he hpl) (ha f σ F H S _ fun vs F1 H1 t1 r1 => by
    intro z dx hz hx ne
    show spU X.K G (.ref z :: (vs ++ [])) _ _ E0
    rw [List.append_nil]
    have Fz := sub_none t1.e hz
    have Fx := sub_none t1.e hx
    have s1 : St0 F1 H1 F1 (upd H1 dx (.own z)) := St0.new t1.e hx
    have s2 : St0 F1 (upd H1 dx (.own z)) F1 (upd (upd H1 dx (.own z)) z (.ins (CJ X.K) dx [])) := St0.new s1.e (by rw [upd_ne (Ne.symm ne)]; exact hz)
    refine ⟨z, vs, .s0, as, .s3 r x d, _, F1, [z, dx], rfl, hG, s2.e, ⟨z, dx, [], [], rfl, rfl, upd_same, Fz, by rw [upd_ne ne, upd_same], Fx, rfl, rfl⟩, by simp [Ne.symm ne], r1, ?_⟩
    intro v F2 H2 P2 t2 o2 n2 f2 u2
    refine ⟨u2.1, ?_⟩
    have hP : ∀ y ∈ P2, H1 y = none := fun y hy => by
      rcases f2 y hy with c | c
      · have c1 : upd (upd H1 dx (.own z)) z (.ins (CJ X.K) dx []) y = none := c
        by_cases e1 : y = z
        · rw [e1]; exact hz
        · rw [upd_ne e1] at c1
          by_cases e2 : y = dx
          · rw [e2]; exact hx
          · rw [upd_ne e2] at c1; exact c1
      · have c1 : y = z ∨ y = dx := by simpa using c
        rcases c1 with c1 | c1
        · rw [c1]; exact hz
        · rw [c1]; exact hx
    have t3 : St0 F1 H1 F2 H2 := ⟨t2.f, fun y o _ ey => t2.h y o (fun c => by
        have c1 : y = z ∨ y = dx := by simpa using c
        have ey1 : H1 y = some o := ey
        rcases c1 with c1 | c1
        · rw [c1, hz] at ey1; cases ey1
        · rw [c1, hx] at ey1; cases ey1) ((s1.trans s2).inc _ _ ey), fun y ey => t2.t y ((s1.trans s2).t y ey), t2.e, fun y ey1 ey2 => t2.n y ((s1.trans s2).t y ey1) ey2, fun y ks ey => t2.k y ks ((s1.trans s2).inc _ _ ey)⟩
    have t4 : St0 F1 H1 (fzP F2 H2 P2) H2 := Stp.freeze t3 fun y hy => ⟨(Ow.out o2 y hy).2, hP y hy⟩
    have rp : Rp.rep X.K (fzP F2 H2 P2) (.ref z) (Slf.s3 r x d) := @Ow.fzn _ owSlf _ _ _ _ _ _ o2
    obtain ⟨a2, dx2, fs2, ea, ha2, u, w, l, rfl, g1, g2, g3⟩ := rp
    cases ea
    exact q _ _ _ (t1.trans t4) ⟨z, _, rfl, ha2, dx2, u, w, l, rfl, g1, g2, g3⟩)
section
variable {GP : List En → En → Prop} {jv : JobsV} {pl : Sem Bool}
/-- o.m(..) of jobs -/
theorem fM {α : Type} [Rp α] {y : α} (D : Dm X.prog X.w X.K X.mg X.base k m ps (spP X.K GP)) (c : JCls X.K) (hr : Room k X.A) (ho : FJ X es o jv) (ha : AJ X es (e :: args) as) (hG : GP (.fz jv :: as) (.fz y)) (hl : ∀ u w l, (jF u w l).lookup m = none := by intro _ _ _; rfl)
    (hst : starEach (e :: args) X.env = (false, eval e X.env) :: starEach args X.env := by rfl) (hpl : (backTo pos (starEach args X.env)).any (·.1) = false := by rfl)
    (ht : eval (.Call (.Attribute o m apos) (e :: args) [] pos) X.env = (do
      let ov ← eval o X.env
      standAt apos.atName
      let (f, first) ← holding [ov] (getMethod ov m pl)
      callWith pos f first (backTo pos (starEach (e :: args) X.env)) (backToKw pos (keywordEach [] X.env))) := by rfl) : FJ X es (.Call (.Attribute o m apos) (e :: args) [] pos) y := .mk fun f σ F H S Q q =>
  peR (pe_meth (pl := pl) peW c.c D.mt D.ok hr D.bd .nil pass0 paW hst hpl ht) (ho f σ F H S _ fun v F1 H1 t1 r1 => by
    obtain ⟨p, dx, u, w, l, ev, hp, _⟩ := repJ t1.e r1
    refine ⟨p, dx, _, ev, hp, hl u w l, ha f σ F1 H1 (S.step t1) _ fun vs F2 H2 t2 r2 => ?_⟩
    show spP X.K GP (v :: (vs ++ [])) H2 Q E0
    rw [List.append_nil]
    exact ⟨_, _, F2, hG, t2.e, .cons (Rp.mono t2.f r1) r2, fun v F3 H3 t3 r3 => q v F3 H3 ((t1.trans t2).trans t3) r3⟩)
theorem nM {α : Type} [Ow α] {y : α} (D : Dm X.prog X.w X.K X.mg X.base k m ps (spP X.K GP)) (c : JCls X.K) (hr : Room k X.A) (ho : FJ X es o jv) (ha : AJ X es (e :: args) as) (hG : GP (.fz jv :: as) (.ow y)) (hl : ∀ u w l, (jF u w l).lookup m = none := by intro _ _ _; rfl)
    (hst : starEach (e :: args) X.env = (false, eval e X.env) :: starEach args X.env := by rfl) (hpl : (backTo pos (starEach args X.env)).any (·.1) = false := by rfl)
    (ht : eval (.Call (.Attribute o m apos) (e :: args) [] pos) X.env = (do
      let ov ← eval o X.env
      standAt apos.atName
      let (f, first) ← holding [ov] (getMethod ov m pl)
      callWith pos f first (backTo pos (starEach (e :: args) X.env)) (backToKw pos (keywordEach [] X.env))) := by rfl) : NJ X es (.Call (.Attribute o m apos) (e :: args) [] pos) y := .mk fun f σ F H S Q q =>
  peR (pe_meth (pl := pl) peW c.c D.mt D.ok hr D.bd .nil pass0 paW hst hpl ht) (ho f σ F H S _ fun v F1 H1 t1 r1 => by
    obtain ⟨p, dx, u, w, l, ev, hp, _⟩ := repJ t1.e r1
    refine ⟨p, dx, _, ev, hp, hl u w l, ha f σ F1 H1 (S.step t1) _ fun vs F2 H2 t2 r2 => ?_⟩
    show spP X.K GP (v :: (vs ++ [])) H2 Q E0
    rw [List.append_nil]
    exact ⟨_, _, F2, hG, t2.e, .cons (Rp.mono t2.f r1) r2, fun v F3 H3 P t3 r3 hn hp => q v F3 H3 P ((t1.trans t2).trans t3) r3 hn fun z hz => (t1.trans t2).back (hp z hz)⟩)
theorem nM0 {α : Type} [Ow α] {y : α} (D : Dm X.prog X.w X.K X.mg X.base k m ps (spP X.K GP)) (c : JCls X.K) (hr : Room k X.A) (ho : FJ X es o jv) (hG : GP [.fz jv] (.ow y)) (hl : ∀ u w l, (jF u w l).lookup m = none := by intro _ _ _; rfl)
    (ht : eval (.Call (.Attribute o m apos) [] [] pos) X.env = (do
      let ov ← eval o X.env
      standAt apos.atName
      let (f, first) ← holding [ov] (getMethod ov m pl)
      callWith pos f first (backTo pos (starEach [] X.env)) (backToKw pos (keywordEach [] X.env))) := by rfl) : NJ X es (.Call (.Attribute o m apos) [] [] pos) y := .mk fun f σ F H S Q q =>
  peR (pe_meth0 (pl := pl) peW c.c D.mt D.ok hr D.bd .nil pass0 ht) (ho f σ F H S _ fun v F1 H1 t1 r1 => by
    obtain ⟨p, dx, u, w, l, ev, hp, _⟩ := repJ t1.e r1
    exact ⟨p, dx, _, ev, hp, hl u w l, _, _, F1, hG, t1.e, .cons r1 .nil, fun v F3 H3 P t3 r3 hn hp => q v F3 H3 P (t1.trans t3) r3 hn fun z hz => t1.back (hp z hz)⟩)
end
end
end Ly
namespace Ly
open PySem PySem.Spec PyProof.Rows L2 TL
section
variable {X : Cx} {es es1 es2 es3 : List En} {a b c e iter tg : Expr} {st : Stmt} {pos p : Pos} {α β : Type} {i : Nat}
/-- xs * n, a short list -/
def lrep (xs : List α) (n : Int) : List α := (List.replicate n.toNat xs).flatten
theorem lrep_len (xs : List α) (n : Int) : (lrep xs n).length = xs.length * n.toNat := by
  unfold lrep
  rw [List.length_flatten, List.map_replicate, List.sum_replicate_nat, Nat.mul_comm]
theorem pairedRep {γ δ : Type} {R : γ → δ → Prop} {xs : List γ} {ys : List δ} (h : Paired R xs ys) : ∀ n : Nat, Paired R (List.replicate n xs).flatten (List.replicate n ys).flatten
  | 0 => .nil
  | n + 1 => by
    rw [List.replicate_succ, List.replicate_succ, List.flatten_cons, List.flatten_cons]
    exact pairedApp h (pairedRep h n)
theorem n_lrep [Rp α] {xs : List α} {n : Int} (hn : -(2 ^ 63) ≤ n ∧ n < 2 ^ 63) (hz : xs.length * n.toNat ≤ big) (ha : LR X es a xs) (hb : RJ X es b n) : NJ X es (.BinOp a .Mult b pos) (lrep xs n) := .mk fun f σ F H S Q q =>
  peR (pe_op op_rep peW peW) (ha f σ F H S _ fun l vs F1 H1 t1 h1 r1 z1 => hb f σ F1 H1 (S.step t1) _ fun w F2 H2 t2 r2 => by
    have e2 : w = V.int n := r2.1
    subst e2
    refine ⟨l, n, vs, rfl, rfl, t2.inc _ _ h1, hn.1, hn.2, by rw [pairedLen r1]; exact big_line hz, fun p hp => q _ F2 _ [p] ((t1.trans t2).trans (St0.new t2.e hp)) (newL t2.e hp (by rw [lrep_len]; exact hz) (pairedRep (pairedM t2.f r1) _)) (by simp) fun z hz => ?_⟩
    have e : z = p := by simpa using hz
    rw [e]; exact (t1.trans t2).back hp)
/-- an item of an own list, its place by a step -/
theorem x_ixO [Rp α] [Inhabited α] {xs : List α} {n : Int} (ho : okI xs n) (hv : PE X a (tVar i)) (h0 : es[i]? = some (.ow xs)) (hb : XJ X es b n es1) (hs : PlainIx b := by exact fun _ _ => rfl) (h1 : es1[i]? = some (.ow xs) := by rfl) : XJ X es (.Subscript a b pos) (getI xs n) es1 := .mk fun f σ F H S Q q =>
  peR (pe_ix ix_list hv peW hs) (by
    obtain ⟨Ps, p⟩ := S.env
    obtain ⟨v, ev, r⟩ := p.ok i _ h0
    obtain ⟨l, vs, ev2, hl, rr, _, _⟩ := lst_of r
    subst ev2
    refine ⟨.ref l, sl_of ev, hb f σ F H S _ fun w F2 H2 S2 i2 r2 => ?_⟩
    have e2 : w = V.int n := r2.1
    subst e2
    obtain ⟨Ps2, p2⟩ := S2.env
    obtain ⟨v2, ev2, r2⟩ := p2.ok i _ h1
    obtain ⟨l2, vs2, ev3, hl2, rr2, _, _⟩ := lst_of r2
    subst ev3
    rw [ev] at ev2
    cases ev2
    obtain ⟨z, hz, rz⟩ := pairedAt rr2 (getI_ok ho)
    exact ⟨l, vs2, n, z, rfl, rfl, .inl (.inl hl2), hz, q _ F2 H2 S2 i2 rz⟩)
/-- a tuple of one type is walked -/
theorem i_tl [Rp α] {x : Tl α} (h : XJ X es iter x es1) : IJ X tg es iter x.l es1 := fun f σ F H S R q =>
  piR (pi_tup peW) (h f σ F H S _ fun v F1 H1 S1 i1 r => by
    obtain ⟨p, vs, e, hH, hF, rr⟩ := tlR S1.sub r
    refine ⟨p, e, ⟨vs, .inl (.inl hH)⟩, q _ F1 H1 S1 i1 fun i F2 H2 i2 s2 => ?_⟩
    have hH2 : H2 p = some (.tup vs) := (s2 p _ (i2 p _ hF)).nd fun z => z
    have rr2 : Paired (Rp.rep X.K F2) vs x.l := pairedM i2 rr
    refine ⟨fun ei => ⟨vs, .inl (.inl hH2), by rw [pairedLen rr2]; omega⟩, fun y hy => ?_⟩
    obtain ⟨w, hw, rw_⟩ := pairedGet rr2 hy
    refine ⟨⟨vs, w, .inl (.inl hH2), hw⟩, fun v' H' z => ?_⟩
    obtain ⟨eH, z⟩ := z
    subst eH
    have ev : vs[i]? = some v' := z vs (.inl (.inl hH2))
    rw [hw] at ev
    cases ev
    exact ⟨F2, St0.refl s2, rw_⟩)
end
end Ly
namespace Ly
open PySem PySem.Spec PyProof.Rows L2 TL
/-! a dict whose values are own objects, each -/
structure Dd (κ β : Type) where
  d : Dct κ β
inductive DdI {κ β : Type} [Sc κ] [Ky κ] [Cl β] (K : PySem.W.Frag) (F H : Hp) : List (Key × V) → List (κ × β) → List Addr → Prop where
  | nil : DdI K F H [] [] []
  | cons {k : κ} {y : β} {l : Addr} {o : HO} {ks : List (Key × V)} {xs : List (κ × β)} {ls : List Addr} : Sc.ok k → H l = some o → F l = none → Cl.cell K F o y → DdI K F H ks xs ls → DdI K F H ((Ky.key k, .ref l) :: ks) ((k, y) :: xs) (l :: ls)
section
variable {κ β : Type} [Sc κ] [Ky κ] [DecidableEq κ] [Cl β] [Clm β] {K : PySem.W.Frag} {F F' H H' : Hp}
theorem DdI.mono (i : Inc F F') : ∀ {ks : List (Key × V)} {xs : List (κ × β)} {ls : List Addr}, (∀ p ∈ ls, H' p = H p) → (∀ p ∈ ls, F' p = none) → DdI K F H ks xs ls → DdI K F' H' ks xs ls
  | _, _, _, _, _, .nil => .nil
  | _, _, _, h, hf, .cons ok h1 h2 c t => .cons ok ((h _ (by simp)).trans h1) (hf _ (by simp)) (Cl.mono i c) (t.mono i (fun p hp => h p (List.mem_cons_of_mem _ hp)) fun p hp => hf p (List.mem_cons_of_mem _ hp))
theorem DdI.out : ∀ {ks : List (Key × V)} {xs : List (κ × β)} {ls : List Addr}, DdI K F H ks xs ls → ∀ p ∈ ls, H p ≠ none ∧ F p = none
  | _, _, _, .nil, p, hp => by cases hp
  | _, _, _, .cons ok h1 h2 c t, p, hp => by
    rcases List.mem_cons.mp hp with e | hp
    · rw [e]; exact ⟨nn h1, h2⟩
    · exact t.out p hp
theorem DdI.nt : ∀ {ks : List (Key × V)} {xs : List (κ × β)} {ls : List Addr}, DdI K F H ks xs ls → ∀ p ∈ ls, ∀ kt, H p ≠ some (sk kt)
  | _, _, _, .nil, p, hp => by cases hp
  | _, _, _, .cons ok h1 h2 c t, p, hp => by
    rcases List.mem_cons.mp hp with e | hp
    · rw [e, h1]; exact fun kt z => Clm.nt (α := β) c kt (Option.some.inj z)
    · exact t.nt p hp
theorem DdI.stp {ks : List (Key × V)} {xs : List (κ × β)} {ls : List Addr} (dd : DdI K F H ks xs ls) (t : St0 F H F' H') : DdI K F' H' ks xs ls :=
  dd.mono t.f (fun z hz => by
    obtain ⟨q1, q2⟩ := dd.out z hz
    cases w : H z with
    | none => exact absurd w q1
    | some u => exact t.inc _ _ w) fun z hz => by
    cases w : H z with
    | none => exact absurd w (dd.out z hz).1
    | some u => exact t.nz w (fun kt e => dd.nt z hz kt (by rw [w, e])) (dd.out z hz).2
theorem DdI.rep {Q : List Addr} (hf : ∀ p ∈ Q, F p = none) : ∀ {ks : List (Key × V)} {xs : List (κ × β)} {ls : List Addr}, (∀ p ∈ ls, p ∈ Q) → DdI K F H ks xs ls → Paired (DR K (fzP F H Q)) ks xs
  | _, _, _, _, .nil => .nil
  | _, _, _, hQ, .cons ok h1 h2 c t => .cons ⟨rfl, ok, _, _, rfl, (fzP_in (hQ _ (by simp))).trans h1, Cl.mono (fzP_inc hf) c⟩ (t.rep hf fun p hp => hQ p (List.mem_cons_of_mem _ hp))
theorem DdI.len : ∀ {ks : List (Key × V)} {xs : List (κ × β)} {ls : List Addr}, DdI K F H ks xs ls → ks.length = xs.length
  | _, _, _, .nil => rfl
  | _, _, _, .cons _ _ _ _ t => by simp [t.len]
theorem DdI.look {k : κ} : ∀ {ks : List (Key × V)} {xs : List (κ × β)} {ls : List Addr}, DdI K F H ks xs ls → (valV ks (Ky.key k) = none ∧ look xs k = none) ∨ ∃ l o y, valV ks (Ky.key k) = some (.ref l) ∧ look xs k = some y ∧ l ∈ ls ∧ H l = some o ∧ F l = none ∧ Cl.cell K F o y
  | _, _, _, .nil => .inl ⟨rfl, rfl⟩
  | _, _, _, .cons (k := j) (y := y) (l := l) (o := o) ok h1 h2 c t => by
    rw [look_cons]
    by_cases e : j = k
    · subst e
      rw [if_pos rfl, valV_pos rfl]
      exact .inr ⟨l, o, y, rfl, rfl, by simp, h1, h2, c⟩
    · rw [if_neg e, valV_neg (show ¬ Ky.key j = Ky.key k from fun z => e (Ky.inj _ _ z))]
      rcases t.look (k := k) with z | ⟨l2, o2, y2, z1, z2, z3, z⟩
      · exact .inl z
      · exact .inr ⟨l2, o2, y2, z1, z2, List.mem_cons_of_mem _ z3, z⟩
/-- one more -/
theorem DdI.add {k : κ} {y : β} {l : Addr} {o : HO} (ok : Sc.ok k) (h1 : H l = some o) (h2 : F l = none) (c : Cl.cell K F o y) : ∀ {ks : List (Key × V)} {xs : List (κ × β)} {ls : List Addr}, DdI K F H ks xs ls → DdI K F H (ks ++ [(Ky.key k, .ref l)]) (xs ++ [(k, y)]) (ls ++ [l])
  | _, _, _, .nil => .cons ok h1 h2 c .nil
  | _, _, _, .cons ok' a b d t => .cons ok' a b d (t.add ok h1 h2 c)
/-- the one at l is changed -/
theorem DdI.upd_ {k : κ} {y : β} {l : Addr} {o : HO} (c : Cl.cell K F o y) {ks : List (Key × V)} {xs : List (κ × β)} {ls : List Addr} (dd : DdI K F H ks xs ls) : ls.Nodup → (xs.map (·.1)).Nodup → valV ks (Ky.key k) = some (.ref l) →
    DdI K F (upd H l o) ks (xs.map fun p => if p.1 = k then (p.1, y) else p) ls := by
  induction dd with
  | nil => intro _ _ h; cases h
  | @cons j y0 l0 o0 ks0 xs0 ls0 ok h1 h2 c0 t ih =>
    intro hn hk h
    rw [List.map_cons]
    have hn2 := List.nodup_cons.mp hn
    have hk2 := List.nodup_cons.mp hk
    by_cases e : j = k
    · subst e
      rw [valV_pos rfl] at h
      cases h
      rw [if_pos rfl]
      refine .cons ok upd_same h2 c ?_
      have e2 : (xs0.map fun p => if p.1 = j then (p.1, y) else p) = xs0 := by
        conv => rhs; rw [← List.map_id xs0]
        refine List.map_congr_left fun p hp => ?_
        rw [if_neg fun z => hk2.1 (by rw [← z]; exact List.mem_map.mpr ⟨p, hp, rfl⟩)]
        rfl
      rw [e2]
      exact t.mono (Inc.refl _) (fun p hp => upd_ne fun z => hn2.1 (by rw [← z]; exact hp)) fun p hp => (t.out p hp).2
    · rw [valV_neg (show ¬ Ky.key j = Ky.key k from fun z => e (Ky.inj _ _ z))] at h
      rw [if_neg e]
      have ne : l0 ≠ l := fun z => by
        rcases t.look (k := k) with ⟨q, _⟩ | ⟨l2, _, _, q, _, q2, _⟩
        · rw [q] at h; cases h
        · rw [q] at h
          cases h
          exact hn2.1 (by rw [z]; exact q2)
      exact .cons ok ((upd_ne ne).trans h1) h2 c0 (ih hn2.2 hk2.2 h)
end
instance {κ α : Type} : Inhabited (Dct κ α) := ⟨⟨[]⟩⟩
instance owDd {κ β : Type} [Sc κ] [Ky κ] [DecidableEq κ] [Cl β] [Clm β] : Ow (Dd κ β) where
  rp := ⟨fun K H v x => Rp.rep K H v x.d, fun i h => Rp.mono i h⟩
  own K F H v x P := ∃ a ks ls, v = .ref a ∧ P = a :: ls ∧ H a = some (.dK ks) ∧ F a = none ∧ x.d.l.length ≤ big ∧ (x.d.l.map (·.1)).Nodup ∧ DdI K F H ks x.d.l ls
  mono {K F F' H H' v x P} i h hf r := by
    obtain ⟨a, ks, ls, e, rfl, h1, h2, hz, nd, o⟩ := r
    exact ⟨a, ks, ls, e, rfl, (h a (by simp)).trans h1, hf a (by simp), hz, nd, o.mono i (fun p hp => h p (List.mem_cons_of_mem _ hp)) fun p hp => hf p (List.mem_cons_of_mem _ hp)⟩
  out {K F H v x P} r p hp := by
    obtain ⟨a, ks, ls, e, rfl, h1, h2, hz, nd, o⟩ := r
    rcases List.mem_cons.mp hp with h | h
    · rw [h]; exact ⟨nn h1, h2⟩
    · exact o.out p h
  fzn {K F H v x P} r := by
    obtain ⟨a, ks, ls, e, rfl, h1, h2, hz, nd, o⟩ := r
    have hf : ∀ p ∈ a :: ls, F p = none := fun p hp => by
      rcases List.mem_cons.mp hp with h | h
      · rw [h]; exact h2
      · exact (o.out p h).2
    exact ⟨a, _, e, (fzP_in (by simp)).trans h1, hz, nd, ks, rfl, o.rep hf fun p hp => List.mem_cons_of_mem _ hp⟩
  nt {K F H v x P} r p hp kt := by
    obtain ⟨a, ks, ls, e, rfl, h1, h2, hz, nd, o⟩ := r
    rcases List.mem_cons.mp hp with h | h
    · rw [h, h1]; intro q; cases q
    · exact o.nt p h kt
section
variable {X : Cx} {es es1 es2 es3 : List En} {a b c e : Expr} {st : Stmt} {pos : Pos} {κ κ2 β γ : Type} [Sc κ] [Ky κ] [DecidableEq κ] [Cl β] [Clm β] [Sc κ2] [Ky κ2] [DecidableEq κ2] [Rp γ] {i : Nat} {d : Dct κ β}
theorem dd_o (hv : PE X e (tVar i)) (h : es[i]? = some (.ow (Dd.mk d)) := by rfl) : RJ X es e d := ⟨(show @RJ X es e (Dd κ β) Ow.rp (Dd.mk d) from o_var hv h).run⟩
theorem XJ.ddf (h : @XJ X es e (Dd κ β) Ow.rp (Dd.mk d) es1) : XJ X es e d es1 := ⟨h.run⟩
/-- {} -/
theorem n_dd0 : NJ X es (.Dict [] [] pos) (Dd.mk (Dct.mk ([] : List (κ × β)))) := .mk fun f σ F H S Q q =>
  peR pe_dnewK fun p hp => q _ F _ [p] (St0.new S.sub hp) ⟨p, _, [], rfl, rfl, upd_same, sub_none S.sub hp, Nat.zero_le _, List.nodup_nil, .nil⟩ (by simp) fun z hz => by
    have e : z = p := by simpa using hz
    rw [e]; exact hp
theorem dd_at {f : Fr} {σ : L2.St} {F H : Hp} (S : Sw X.K f es σ F H) (hi : es[i]? = some (.ow (Dd.mk d))) : ∃ Ps a ks ls, EnvP X.K f es σ F H Ps ∧ sl σ i = some (.ref a) ∧ Ps i = a :: ls ∧ H a = some (.dK ks) ∧ F a = none ∧ d.l.length ≤ big ∧ (d.l.map (·.1)).Nodup ∧ DdI X.K F H ks d.l ls := by
  obtain ⟨Ps, q⟩ := S.env
  obtain ⟨v, e1, a, ks, ls, e2, h⟩ := q.ok i _ hi
  subst e2
  exact ⟨Ps, a, ks, ls, q, e1, h⟩
/-- d[k] = y, k new, y new -/
theorem s_ddnew {k : κ} {y : β} (hu : X.A.units + 64 < cLine) (hst : PS X st (sDPut (tVar i) (wpE X b) (wpE X e))) (h : NJ X es e y) (hk : FJ X es b k) (hi : es[i]? = some (.ow (Dd.mk d))) (hz : d.l.length < big) (hno : hasD d k = false) (hes : es.set i (.ow (Dd.mk (putD d k y))) = es2 := by rfl) (ha : alFree i es = true := by rfl) : E1 X es st es2 := .mk fun f σ F H D S q =>
  psR hst (h f σ F H S _ fun v F1 H1 P t1 r1 hn hp => by
    obtain ⟨Ps, a, ks, ls, p, e1, hP, g1, g2, hz1, nd, dd⟩ := dd_at S hi
    obtain ⟨l, o, rfl, rfl, o1, o2, oc⟩ := r1
    subst hes
    have Hl : H l = none := hp l (by simp)
    refine ⟨.ref a, sl_of e1, hk f σ F1 H1 (S.step t1) _ fun vk F2 H2 t2 r2 => ?_⟩
    have t := t1.trans t2
    have p2 := p.step t
    have S2 := S.step t
    have k1 := t.inc _ _ g1
    have f1 := t.nz g1 (fun _ e => by cases e) g2
    have l1 := t2.inc _ _ o1
    have lf := t2.nz o1 (Clm.nt oc) o2
    have dd2 : DdI X.K F2 H2 ks d.l ls := dd.stp t
    have nl : look d.l k = none := by
      unfold hasD at hno
      cases w : look d.l k with
      | none => rfl
      | some _ => rw [w] at hno; cases hno
    have nv : valV ks (Ky.key k) = none := by
      rcases dd.look (k := k) with ⟨w, _⟩ | ⟨_, _, _, _, w, _⟩
      · exact w
      · rw [nl] at w; cases w
    have la : l ≠ a := fun z => by rw [← z, Hl] at g1; cases g1
    have nls : l ∉ ls := fun z => (dd.out l z).1 Hl
    have hlen : ks.length < sizeLine := by rw [dd.len]; exact big_lt (Nat.le_of_lt hz)
    have ep : putK ks (Ky.key k) (.ref l) = ks ++ [(Ky.key k, .ref l)] := by
      unfold putK
      rw [valV_any, nv]; rfl
    have ed : (putD d k y).l = d.l ++ [(k, y)] := by
      unfold putD putL
      rw [nl]; rfl
    have e2 : vk = Sc.toV k := r2.1
    refine ⟨a, _, rfl, .inl ⟨ks, Ky.key k, k1, by rw [e2, Ky.kv], hlen, rfl⟩, q _ F2 _ (Sw.mutG S2.st p2 hi hP (P' := a :: (ls ++ [l])) (fun z hz => ?_) (fun z hz _ => upd_ne fun w => hz (by rw [w]; simp)) ⟨_, e1, a, _, ls ++ [l], rfl, rfl, upd_same, f1, ?_, ?_, ?_⟩ ?_ (fun z hz => ?_) (noAl_of ha) (fun _ _ _ z => ⟨_, _, _, rfl⟩) fun _ _ _ _ z => by cases z)⟩
    · by_cases w : z = a
      · rw [w, upd_same]; intro w; cases w
      · rw [upd_ne w]; exact hz
    · show (putD d k y).l.length ≤ big
      rw [ed, List.length_append]; exact hz
    · exact putL_keys nd
    · show DdI X.K F2 _ _ (putD d k y).l (ls ++ [l])
      rw [ed]
      have ha2 : ∀ z ∈ ls ++ [l], z ≠ a := fun z hz w => by
        rcases List.mem_append.mp hz with c | c
        · have hnd := p.nd i (get_lt hi)
          rw [hP] at hnd
          exact (List.nodup_cons.mp hnd).1 (by rw [← w]; exact c)
        · exact la ((List.mem_singleton.mp c).symm.trans w)
      rw [show putK ks (Ky.key k) (V.ref l) = ks ++ [(Ky.key k, V.ref l)] from ep]
      exact (dd2.add r2.2 l1 lf (Cl.mono t2.f oc)).mono (Inc.refl _) (fun z hz => upd_ne (ha2 z hz)) fun z hz => by
        rcases List.mem_append.mp hz with c | c
        · exact (dd2.out z c).2
        · rw [List.mem_singleton.mp c]; exact lf
    · have hnd := p.nd i (get_lt hi)
      rw [hP] at hnd
      have h2 := List.nodup_cons.mp hnd
      refine List.nodup_cons.mpr ⟨fun c => ?_, List.nodup_append.mpr ⟨h2.2, by simp, fun x hx y hy w => ?_⟩⟩
      · rcases List.mem_append.mp c with c | c
        · exact h2.1 c
        · exact la (List.mem_singleton.mp c).symm
      · exact nls (by rw [← List.mem_singleton.mp hy, ← w]; exact hx)
    · rcases List.mem_cons.mp hz with c | c
      · exact .inl (by simp [c])
      · rcases List.mem_append.mp c with c | c
        · exact .inl (by simp [c])
        · refine .inr ?_
          rw [List.mem_singleton.mp c]
          exact ⟨fun j hj w => (p.out hj l w).1 Hl, S.st.back Hl⟩)
/-- d[k][k2] = y -/
theorem s_ddset [Inhabited γ] {d : Dct κ (Dct κ2 γ)} {k : κ} {k2 : κ2} {y : γ} {b2 : Expr} (hu : X.A.units + 64 < cLine) (hst : PS X st (sDPut (tDGet (tVar i) (wpE X b)) (wpE X b2) (wpE X e))) (h : FJ X es e y) (hk : FJ X es b k) (hk2 : FJ X es b2 k2) (hi : es[i]? = some (.ow (Dd.mk d))) (hh : hasD d k = true) (hz : (getD d k).l.length < big)
    (hes : es.set i (.ow (Dd.mk (putD d k (putD (getD d k) k2 y)))) = es2 := by rfl) (ha : alFree i es = true := by rfl) : E1 X es st es2 := .mk fun f σ F H D S q =>
  psR hst (h f σ F H S _ fun v F1 H1 t1 r1 => by
    obtain ⟨Ps, a, ks, ls, p, e1, hP, g1, g2, hz1, nd, dd⟩ := dd_at S hi
    subst hes
    refine ⟨.ref a, sl_of e1, hk f σ F1 H1 (S.step t1) _ fun vk F2 H2 t2 r2 => ?_⟩
    have t := t1.trans t2
    obtain ⟨l, o, z, v1, v2, v3, v4, v5, v6⟩ : ∃ l o y, valV ks (Ky.key k) = some (.ref l) ∧ look d.l k = some y ∧ l ∈ ls ∧ H l = some o ∧ F l = none ∧ Cl.cell X.K F o y := by
      rcases dd.look (k := k) with ⟨_, w⟩ | w
      · unfold hasD at hh
        rw [w] at hh; cases hh
      · exact w
    have ek : vk = Sc.toV k := r2.1
    have gz : getD d k = z := by
      unfold getD
      rw [v2]; rfl
    refine ⟨a, .ref l, rfl, .inl ⟨ks, Ky.key k, .inl (t.inc _ _ g1), by rw [ek, Ky.kv], v1.symm⟩, hk2 f σ F2 H2 (S.step t) _ fun vj F3 H3 t3 r3 => ?_⟩
    have T := t.trans t3
    have p3 := p.step T
    have S3 := S.step T
    have dd3 : DdI X.K F3 H3 ks d.l ls := dd.stp T
    obtain ⟨hz2, nd2, ks2, eo, rr⟩ := Cl.mono T.f v6
    subst eo
    have ej : vj = Sc.toV k2 := r3.1
    rw [gz] at hz
    have hlen : ks2.length < sizeLine := by rw [pairedLen rr]; exact big_lt (Nat.le_of_lt hz)
    have hnd := p.nd i (get_lt hi)
    rw [hP] at hnd
    have h2 := List.nodup_cons.mp hnd
    have la : a ≠ l := fun w => h2.1 (by rw [w]; exact v3)
    refine ⟨l, _, rfl, .inl ⟨ks2, Ky.key k2, T.inc _ _ v4, by rw [ej, Ky.kv], hlen, rfl⟩, q _ F3 _ (Sw.mutG S3.st p3 hi hP (P' := a :: ls) (fun w hw => ?_) (fun w hw _ => upd_ne fun c => hw (by rw [c]; exact List.mem_cons_of_mem _ v3)) ⟨_, e1, a, ks, ls, rfl, rfl, (upd_ne la).trans (T.inc _ _ g1), T.nz g1 (fun _ e => by cases e) g2, ?_, ?_, ?_⟩ hnd (fun w hw => .inl hw) (noAl_of ha) (fun _ _ _ z => ⟨_, _, _, rfl⟩) fun _ _ _ _ z => by cases z)⟩
    · by_cases c : w = l
      · rw [c, upd_same]; intro c; cases c
      · rw [upd_ne c]; exact hw
    · show (putL d.l k _).length ≤ big
      unfold putL
      rw [v2, if_pos (show (some z).isSome = true from rfl), List.length_map]
      exact hz1
    · exact putL_keys nd
    · show DdI X.K F3 _ ks (putL d.l k (putD (getD d k) k2 y)) ls
      unfold putL
      rw [v2, if_pos (show (some z).isSome = true from rfl), gz]
      have cc : Cl.cell X.K F3 (HO.dK (putK ks2 (Ky.key k2) v)) (putD z k2 y) := ⟨Nat.le_trans (putL_len _ _ _) hz, putL_keys nd2, _, rfl, dr_put rr r3.2 (Rp.mono (t2.trans t3).f r1)⟩
      exact DdI.upd_ cc dd3 h2.2 nd v1)
end
end Ly
namespace Ly
open PySem PySem.Spec PyProof.Rows L2
/-- the j-th statement of a class -/
def clsSt (s : Stmt) (j : Nat) : Stmt := match s with
  | .ClassDef _ _ _ body _ _ _ _ _ _ _ => body.getD j (.Pass ⟨0, 0, 0, 0⟩)
  | _ => .Pass ⟨0, 0, 0, 0⟩
section
variable {P : Program} {w : World} {K : PySem.W.Frag} {mg : Str → Option Value} {base : Heap} {k : Nat} {n m : Str} {ps : List Str} {sp : Sp} {x qual : Str} {params : Arguments} {body : List Stmt} {scope : Scope} {f : Addr} {fd : FuncData}
theorem Dm.mk' (F : FunD K x qual params body scope [] [] f fd) (ok : FnOk P w K mg base CX0 k f fd ps sp) (hm : Meth K (CJ K) m f)
    (h : ∀ (dV kV doc pm : Value) (an : Option Addr) (cdv ct : Value) (us : List Value), dV = .none → us.length = ps.length → bindArgs (PySem.W.fnOf x qual params body scope dV kV doc pm an cdv ct) ⟨us, []⟩ = pure (ps.zip us)) : Nonempty (Dm P w K mg base k m ps sp) := by
  obtain ⟨oc, od, dV, kV, doc, pm, an, cdv, ct, osl, rfl, lk, hcd, hd, _⟩ := F.ex
  have ed : dV = .none := by
    rcases hd with ⟨_, e⟩ | ⟨e, _⟩
    · exact e
    · exact absurd rfl e
  exact ⟨⟨f, _, ok, hm, .all (h dV kV doc pm an cdv ct · ed)⟩⟩
theorem Mkr.mk' (F : FunD K x qual params body scope [] [] f fd) (ok : FnOk P w K mg base CX0 k f fd ps sp) (hm : Mk K (CJ K) f) (hg : mg "Jobs" = some (.ref (CJ K)))
    (h : ∀ (dV kV doc pm : Value) (an : Option Addr) (cdv ct : Value) (us : List Value), dV = .none → us.length = ps.length → bindArgs (PySem.W.fnOf x qual params body scope dV kV doc pm an cdv ct) ⟨us, []⟩ = pure (ps.zip us)) : Nonempty (Mkr P w K mg base k ps sp) := by
  obtain ⟨oc, od, dV, kV, doc, pm, an, cdv, ct, osl, rfl, lk, hcd, hd, _⟩ := F.ex
  have ed : dV = .none := by
    rcases hd with ⟨_, e⟩ | ⟨e, _⟩
    · exact e
    · exact absurd rfl e
  exact ⟨⟨f, _, ok, hm, hg, .all (h dV kV doc pm an cdv ct · ed)⟩⟩
end
end Ly
namespace Ly
open PySem PySem.Spec PyProof.Rows L2 TL
section
variable {X : Cx} {es es1 es2 es3 : List En} {a b c e elt tg iter : Expr} {st : Stmt} {rest body : List Stmt} {ifs : List Expr} {args : List Expr} {pos : Pos} {α β γ : Type} {i j : Nat} {scope : Scope}
end
end Ly
namespace Ly
open PySem PySem.Spec PyProof.Rows L2
/-- what isinstance(x, Jobs) asks -/
structure JIs (K : PySem.W.Frag) : Prop where
  ha : PySem.W.findIn K (.ref (CJ K)) "__class__" = some (some (.builtin "object.__class__"))
  hn : PySem.W.specialIn K (.builtin "object.__class__") "__get__" = some (some (.builtin "getset_descriptor.__get__"))
  htk : PySem.W.takesIn K (.builtin "object.__class__") = some true
  hm : PySem.W.mroIn K (CJ K) (.type "object") = some true
def chkJ (K : PySem.W.Frag) : Bool := decide (PySem.W.findIn K (.ref (CJ K)) "__class__" = some (some (.builtin "object.__class__"))) && (decide (PySem.W.specialIn K (.builtin "object.__class__") "__get__" = some (some (.builtin "getset_descriptor.__get__"))) &&
  (decide (PySem.W.takesIn K (.builtin "object.__class__") = some true) && decide (PySem.W.mroIn K (CJ K) (.type "object") = some true)))
/-- the hook with one question more -/
def obJ (n : Nat) (fa : List He.Fa) (fn : List He.DefD) (g : Addr → Option Obj) : Bool × He.AlD := (chkJ (He.frG g (He.asD g n)), He.obsDG n fa fn g)
def hookJ (n : Nat) (fa : List He.Fa) (fn : List He.DefD) : PySem.W.Hook where
  α := Bool × He.AlD
  obs := fun s => obJ n fa fn s.heap.get?
  val := fun _ => (true, He.valD fn)
  says := fun _ h => ∃ K : PySem.W.Frag, K.In h ∧ He.SaysD fa fn K ∧ chkJ K = true
  of := fun _ _ e => ⟨_, He.frG_in, congrArg Prod.snd e, congrArg Prod.fst e⟩
  keeps := fun _ _ _ ⟨K, hK, c⟩ k => ⟨K, PySem.W.Frag.In.keeps hK k, c⟩
section
variable {X : Cx} {es : List En} {a : Expr} {p p2 pos : Pos} {x : JobsV}
end
end Ly
namespace Ly
open PySem PySem.Spec PyProof.Rows L2
/-! xs[::-1] of a list: a new list -/
def tBackL (K : PySem.W.Frag) (te ts : TE) : TE := fun σ H Q => te σ H fun x H1 => ts σ H1 fun y H2 => y = .int (-1) ∧ ∃ a vs, x = .ref a ∧ SqL K H2 a vs ∧ ∀ p, H2 p = none → Q (.ref p) (upd H2 p (.lst vs.reverse))
section
variable {X : Cx} {es : List En} {e : Expr}
end
/-! max(xs, default=d) -/
def maxOr (d : Int) (xs : List Int) : Int := if xs = [] then d else maxI xs
section
variable {X : Cx} {es : List En} {e : Expr}
end
/-! d[k] of a dict that stands, as a thing that stands -/
section
variable {X : Cx} {es : List En} {a b : Expr} {pos : Pos} {κ α : Type} [Sc κ] [Ky κ] [DecidableEq κ] [Rp α] {d : Dct κ α} {k : κ}
end
/-! d.clear() of one's own dict -/
section
variable {X : Cx} {es es2 : List En} {i : Nat} {st : Stmt} {κ α : Type} [Sc κ] [Ky κ] [DecidableEq κ] [Rp α] {d : Dct κ α}
end
end Ly
namespace Ly
open PySem PySem.Spec PyProof.Rows L2
section
variable {X : Cx} {es es1 : List En} {a e : Expr} {pos : Pos} {α β : Type}
/-! a part of a tuple, where the tuple's own reckoning has an effect -/
end
/-! Jobs(..), an argument with an effect -/
section
variable {X : Cx} {es es1 : List En} {e : Expr} {args : List Expr} {as : List En} {pos p : Pos} {k : Nat} {ps : List Str}
end
/-- an own dict of scalars asks nothing of what stands -/
instance owsDct {κ α : Type} [Sc κ] [Ky κ] [Sc α] : OwS (Dct κ α) := ⟨fun {K F F' H v x P} hf h => by
  obtain ⟨a, o, e, eP, h1, h2, hz, nd, ks, eo, r⟩ := h
  subst eP
  exact ⟨a, o, e, rfl, h1, hf a (by simp), hz, nd, ks, eo, pairedM2 (fun a b (dr : DR K F a b) => ⟨dr.1, dr.2.1, dr.2.2⟩) r⟩⟩
end Ly
namespace Ly
open PySem PySem.Spec PyProof.Rows L2 TL LyS
/-! a list of ints, less than another one -/
def rLessL (K : PySem.W.Frag) : R2 := fun x y H Q => ∃ a b ns ms, x = .ref a ∧ y = .ref b ∧ SqL K H a (ns.map V.int) ∧ SqL K H b (ms.map V.int) ∧ Q (.bl (PySem.W.listLt ns ms)) H
section
variable {X : Cx} {es es1 : List En} {a b e : Expr} {pos : Pos} {α β : Type} {i : Nat} {st : Stmt}
/-! None, or a thing that stands at an address -/
instance (priority := 450) rpOptC {α : Type} [Cl α] : Rp (Option α) where
  rep K H v o := match o with
    | none => v = V.non
    | some x => @Rp.rep α rpCl K H v x
  mono {K H H' v o} i h := by
    cases o with
    | none => exact h
    | some x => exact @Rp.mono α rpCl _ _ _ _ _ i h
end
/-! d.update(e) -/
def updK (kvs more : List (Key × V)) : List (Key × V) := more.foldl (fun acc kv => putK acc kv.1 kv.2) kvs
def updL {κ α : Type} [DecidableEq κ] (l m : List (κ × α)) : List (κ × α) := m.foldl (fun acc p => putL acc p.1 p.2) l
def updD {κ α : Type} [DecidableEq κ] (d e : Dct κ α) : Dct κ α := ⟨updL d.l e.l⟩
def rDUpd : V → List V → Hp → VK → Prop := fun x vs H Q => ∃ (a b : Addr) (kvs more : List (Key × V)), x = .ref a ∧ vs = [.ref b] ∧ H a = some (.dK kvs) ∧ Rd H b (.dK more) ∧ a ≠ b ∧ kvs.length + more.length ≤ sizeLine ∧ Q .non (upd H a (.dK (updK kvs more)))
section
variable {X : Cx} {es es2 : List En} {e : Expr} {i : Nat} {st : Stmt} {κ α : Type} [Sc κ] [Ky κ] [DecidableEq κ] [Rp α] {d m : Dct κ α}
end
/-! sorted(d.values()) -/
section
variable {X : Cx} {α : Type} [Sc α] [ScaE α]
end
/-! list(range(a, b)) -/
section
variable {X : Cx} {es : List En} {a b : Expr} {p p2 pos pos2 : Pos} {lo hi : Int}
end
/-! dict(d), d one's own -/
section
variable {X : Cx} {es : List En} {a : Expr} {p pos : Pos} {κ α : Type} [Sc κ] [Ky κ] [DecidableEq κ] [Sc α] {d : Dct κ α}
end
end Ly
namespace Ly
open PySem PySem.Spec PyProof.Rows L2 TL
/-! an own list put behind an own list of own lists; its name stays one for it -/
section
variable {K : PySem.W.Frag} {f : Fr} {es : List En} {σ : L2.St} {F H : Hp} {i j : Nat}
/-- the slot j says nothing any more; what belonged to it belongs to none -/
theorem EnvP.drop {Ps : Nat → List Addr} (q : EnvP K f es σ F H Ps) (hj : j < es.length) (na : noAl j es) : EnvP K f (es.set j .un) σ F H (fun k => if k = j then [] else Ps k) := by
  have inn : ∀ (k : Nat) p, p ∈ (if k = j then [] else Ps k) → k ≠ j ∧ p ∈ Ps k := fun k p hp => by
    by_cases c : k = j
    · rw [if_pos c] at hp; cases hp
    · rw [if_neg c] at hp; exact ⟨c, hp⟩
  have at_ : ∀ (k : Nat), k ≠ j → (es.set j .un)[k]? = es[k]? := fun k c => List.getElem?_set_ne (Ne.symm c)
  refine ⟨by rw [List.length_set]; exact q.len, fun k e hk => ?_, fun k hk => ?_, fun k m p h1 h2 p1 p2 => ?_, fun k p h1 p1 => ?_, fun k p α r x hk p1 => ?_, fun k m α r x hk => ?_⟩
  · by_cases c : k = j
    · subst c
      rw [List.getElem?_set_self hj] at hk
      cases hk
      show (if k = k then [] else Ps k) = []
      rw [if_pos rfl]
    · rw [at_ k c] at hk
      rw [if_neg c]
      exact q.ok k e hk
  · by_cases c : k = j
    · rw [if_pos c]; exact List.nodup_nil
    · rw [if_neg c]; exact q.nd k (by rw [List.length_set] at hk; exact hk)
  · rw [List.length_set] at h1 h2
    exact q.dj k m p h1 h2 (inn k p p1).2 (inn m p p2).2
  · rw [List.length_set] at h1
    exact q.fr k p h1 (inn k p p1).2
  · obtain ⟨c, hp⟩ := inn k p p1
    rw [at_ k c] at hk
    exact q.nw k p α r x hk hp
  · by_cases c : k = j
    · subst c
      rw [List.getElem?_set_self hj] at hk
      cases hk
    · rw [at_ k c] at hk
      obtain ⟨hm, v, Q, ev, hQ, o⟩ := q.al k m α r x hk
      have cm : m ≠ j := fun z => na k α r x (z ▸ hk)
      exact ⟨by rw [List.length_set]; exact hm, v, Q, ev, fun p hp => by rw [if_neg cm]; exact hQ p hp, o⟩
end
section
variable {X : Cx} {es es2 : List En} {a b e : Expr} {pos : Pos} {α : Type} {i j : Nat} {st : Stmt}
end
/-! text += text -/
section
variable {X : Cx} {es es1 es2 : List En} {e : Expr} {i : Nat} {st : Stmt} {x y : Str}
def ipT : TIp := fun x y H Q => ∃ i j, x = .str i ∧ y = .str j ∧ i.length + j.length ≤ sizeLine ∧ Q (.str (i ++ j)) H
theorem sOk.app {x y : Str} (hx : sOk x) (hy : sOk y) (hz : x.length + y.length ≤ sbig) : sOk (x ++ y) := by
  refine ⟨by rw [str_len]; exact hz, fun c hc => ?_⟩
  have e : (x ++ y).cps.toList = x.cps.toList ++ y.cps.toList := tl_append x y
  rw [e] at hc
  rcases List.mem_append.mp hc with q | q
  · exact hx.2 c q
  · exact hy.2 c q
end
/-! xs.count(x) of texts -/
def cntS (xs : List Str) (k : Str) : Int := ((xs.filter fun y => decide (y = k)).length : Int)
def rCntS (K : PySem.W.Frag) : V → List V → Hp → VK → Prop := fun x xs H Q => ∃ (p : Addr) (ns : List Str) (k : Str), x = .ref p ∧ xs = [.str k] ∧ SqL K H p (ns.map V.str) ∧ Q (.int (cntS ns k)) H
section
variable {X : Cx} {es : List En} {a b e : Expr} {pos apos : Pos}
end
/-! enumerate(xs, start=1) -/
section
variable {M : Model} {A : Around} {E : Value → Shared → Prop} {s : Shared} {env : Env}
end
/-- the list at a as it stands at each turn, each item in a new pair, told from 1 on -/
def Itf (K : PySem.W.Frag) (a : Addr) : It :=
  ⟨fun i H => ∃ (xs : List V) (x : V), SqL K H a xs ∧ xs[i]? = some x, fun i H v H' => ∃ T x, v = .ref T ∧ H T = none ∧ H' = upd H T (.tup [.int (1 + ((i : Nat) : Int)), x]) ∧ ∀ xs, SqL K H a xs → xs[i]? = some x, fun i H => ∃ xs : List V, SqL K H a xs ∧ xs.length = i⟩
def iFrom1 (K : PySem.W.Frag) (ta : TA) : TI := fun σ H R => ta σ H fun vs H1 => ∃ a xs, vs = [.ref a] ∧ SqL K H1 a xs ∧ R (Itf K a) H1
def zipF {α : Type} (xs : List α) : List (Int × α) := xs.zipIdx.map fun p => (1 + (p.2 : Int), p.1)
end Ly
/-! list(reversed(xs)) -/
namespace LyRv
open PySem PySem.Spec PyProof.Rows RT PySem.F
section
variable {prog : Program} {w : World} {A : Around} {E : Value → Shared → Prop} {s : Shared}
end
end LyRv
namespace Ly
open PySem PySem.Spec PyProof.Rows L2 TL
def tLstRev (K : PySem.W.Frag) (te : TE) : TE := fun σ H Q => te σ H fun v H1 => ∃ (a : Addr) (xs : List V), v = .ref a ∧ SqL K H1 a xs ∧ ∀ q, H1 q = none → Q (.ref q) (upd H1 q (.lst xs.reverse))
section
variable {X : Cx} {es : List En} {e : Expr}
end
end Ly
namespace Ly
open PySem PySem.Spec PyProof.Rows L2
variable {X : Cx} {es es1 es2 : List En} {e b : Expr} {i : Nat} {α : Type}
/-- the while, its test well at each turn, too -/
def whOkT {β ρ : Type} (c : β → Bool) (t : β → Prop) (g : β → Fl β ρ) (ok : β → Prop) : Nat → β → Prop
  | 0, y => t y ∧ c y = false
  | n + 1, y => t y ∧ (c y = true → ok y ∧ ∀ z, g y = .nx z → whOkT c t g ok n z)
theorem whOkT.test {β ρ : Type} {c : β → Bool} {t : β → Prop} {g : β → Fl β ρ} {ok : β → Prop} : ∀ {n : Nat} {y : β}, whOkT c t g ok n y → t y
  | 0, _, h => h.1
  | _ + 1, _, h => h.1
section
variable {β ρ : Type} {c : Expr} {body : List Stmt} {pos : Pos}
end
/-! zip(xs, ys), walked -/
end Ly
namespace Ly
open PySem PySem.Spec PyProof.Rows L2 TL
/-! dicts whose keys are tuples of scalars -/
section
variable {κ α : Type} [Sc κ] [Ky κ]
def keyT (x : Tl κ) : List L2.Key := x.l.map Ky.key
theorem keyT_inj {x y : Tl κ} (h : keyT x = keyT y) : x = y := by
  have : ∀ {a b : List κ}, a.map Ky.key = b.map Ky.key → a = b := by
    intro a
    induction a with
    | nil => intro b h; cases b with
      | nil => rfl
      | cons _ _ => cases h
    | cons p a ih => intro b h; cases b with
      | nil => cases h
      | cons q b =>
        injection h with h1 h2
        rw [Ky.inj _ _ h1, ih h2]
  cases x; cases y
  exact congrArg Tl.mk (this h)
theorem keyT_v (x : Tl κ) : (keyT x).map kV = x.l.map Sc.toV := by
  unfold keyT
  rw [List.map_map]
  exact List.map_congr_left fun k _ => Ky.kv k
def DRT [Rp α] (K : PySem.W.Frag) (H : Hp) (p : List L2.Key × V) (q : Tl κ × α) : Prop := p.1 = keyT q.1 ∧ (∀ k ∈ q.1.l, Sc.ok k) ∧ q.1.l.length ≤ big ∧ Rp.rep K H p.2 q.2
instance clDctT [Rp α] : Cl (Dct (Tl κ) α) where
  cell K H o d := d.l.length ≤ big ∧ (d.l.map (·.1)).Nodup ∧ ∃ ks : List (List L2.Key × V), o = .dT ks ∧ Paired (DRT K H) ks d.l
  mono {K H H' o d} i h := by
    obtain ⟨h1, h2, ks, e, r⟩ := h
    exact ⟨h1, h2, ks, e, Paired.mapP r fun _ _ z => ⟨z.1, z.2.1, z.2.2.1, Rp.mono i z.2.2.2⟩⟩
instance clmDctT [Rp α] : Clm (Dct (Tl κ) α) := ⟨fun h ks e => by
  obtain ⟨_, _, kvs, e2, _⟩ := h
  rw [e2] at e; cases e⟩
end
section
variable {κ α : Type} [Sc κ] [Ky κ] [DecidableEq κ] [Rp α] {K : PySem.W.Frag} {H F : Hp}
theorem drt_look {ks : List (List L2.Key × V)} {l : List (Tl κ × α)} (r : Paired (DRT K F) ks l) (k : Tl κ) : (∃ v x, valV ks (keyT k) = some v ∧ look l k = some x ∧ Rp.rep K F v x) ∨ (valV ks (keyT k) = none ∧ look l k = none) := by
  induction r with
  | nil => exact .inr ⟨rfl, rfl⟩
  | @cons p q ps qs h t ih =>
    rw [look_cons]
    by_cases e : q.1 = k
    · rw [if_pos e, valV_pos (show p.1 = keyT k by rw [h.1, e])]
      exact .inl ⟨p.2, q.2, rfl, rfl, h.2.2.2⟩
    · rw [if_neg e, valV_neg (show ¬ p.1 = keyT k from fun z => e (keyT_inj (h.1.symm.trans z)))]
      exact ih
theorem drt_put {ks : List (List L2.Key × V)} {l : List (Tl κ × α)} (r : Paired (DRT K F) ks l) {k : Tl κ} {v : V} {x : α} (hk : ∀ c ∈ k.l, Sc.ok c) (hz : k.l.length ≤ big) (hv : Rp.rep K F v x) : Paired (DRT K F) (putK ks (keyT k) v) (putL l k x) := by
  unfold putK putL
  rw [valV_any]
  have e : (valV ks (keyT k)).isSome = (look l k).isSome := by
    rcases drt_look r k with ⟨v', x', h1, h2, _⟩ | ⟨h1, h2⟩
    · rw [h1, h2]; rfl
    · rw [h1, h2]; rfl
  rw [e]
  by_cases c : (look l k).isSome = true
  · rw [if_pos c, if_pos c]
    clear e c
    induction r with
    | nil => exact .nil
    | @cons p q ps qs h t ih =>
      rw [List.map_cons, List.map_cons]
      refine .cons ?_ ih
      by_cases e : q.1 = k
      · rw [if_pos e, if_pos (show p.1 = keyT k by rw [h.1, e])]
        exact ⟨h.1, h.2.1, h.2.2.1, hv⟩
      · rw [if_neg e, if_neg (show ¬ p.1 = keyT k from fun z => e (keyT_inj (h.1.symm.trans z)))]
        exact h
  · rw [if_neg c, if_neg c]
    exact pairedApp r (.cons ⟨rfl, hk, hz, hv⟩ .nil)
theorem repDT {d : Dct (Tl κ) α} {v : V} (sb : Sub F H) (r : Rp.rep K F v d) : ∃ a ks, v = .ref a ∧ F a = some (.dT ks) ∧ Rd H a (.dT ks) ∧ d.l.length ≤ big ∧ (d.l.map (·.1)).Nodup ∧ Paired (DRT K F) ks d.l := by
  obtain ⟨a, o, e, h1, h2, h3, ks, e2, r⟩ := r
  subst e2
  refine ⟨a, ks, e, h1, ?_, h2, h3, r⟩
  rcases sb a _ h1 with q | ⟨_, ob, q⟩
  · exact .inl q
  · exact .inr ⟨ob, q⟩
theorem scPaired {vs : List V} {l : List κ} (r : Paired (Rp.rep K F) vs l) : vs = l.map Sc.toV ∧ ∀ c ∈ l, Sc.ok c := by
  induction r with
  | nil => exact ⟨rfl, fun _ h => (by cases h)⟩
  | @cons a b as bs h t ih =>
    obtain ⟨i1, i2⟩ := ih
    have e1 : a = Sc.toV b := h.1
    refine ⟨by rw [List.map_cons, ← i1, e1], fun c hc => ?_⟩
    rcases List.mem_cons.mp hc with q | q
    · rw [q]; exact h.2
    · exact i2 c q
/-- a tuple of scalars, as a key -/
theorem repTk {x : Tl κ} {v : V} (s : Sub F H) (r : Rp.rep K F v x) : ∃ p, v = .ref p ∧ H p = some (sk (keyT x)) ∧ F p = some (sk (keyT x)) ∧ (∀ c ∈ x.l, Sc.ok c) ∧ x.l.length ≤ big := by
  obtain ⟨p, o, e, h1, z, vs, eo, r⟩ := r
  subst eo
  have e2 : vs = (keyT x).map kV ∧ ∀ c ∈ x.l, Sc.ok c := by
    rw [keyT_v]
    exact scPaired r
  obtain ⟨e2, ok⟩ := e2
  subst e2
  exact ⟨p, e, (s p _ h1).nd fun z => z, h1, ok, z⟩
/-- a tuple of scalars that stands in the heap may be taken as frozen -/
theorem St0.key (s : Sub F H) {q : Addr} {ks : List L2.Key} (h : H q = some (sk ks)) : ∃ F', St0 F H F' H ∧ F' q = some (sk ks) := by
  cases e : F q with
  | some o =>
    refine ⟨F, St0.refl s, ?_⟩
    rcases s q o e with w | ⟨_, ob, w⟩
    · rw [h] at w; rw [e]; exact w.symm
    · rw [h] at w; cases w
  | none =>
    refine ⟨fzP F H [q], ⟨fzP_inc fun p hp => by rw [List.mem_singleton.mp hp]; exact e, fun _ _ _ z => z, fun _ z => z, fun b o e2 => ?_, fun b e1 e2 => ?_, fun _ _ z => z⟩, (fzP_in (by simp)).trans h⟩
    · by_cases c : b ∈ [q]
      · rw [fzP_in c] at e2; exact .inl e2
      · rw [fzP_out c] at e2; exact s b o e2
    · by_cases c : b ∈ [q]
      · rw [List.mem_singleton.mp c]; exact .inr ⟨ks, h⟩
      · rw [fzP_out c]; exact .inl e2
theorem keyRep {q : Addr} {x : Tl κ} (h : F q = some (sk (keyT x))) (ok : ∀ c ∈ x.l, Sc.ok c) (z : x.l.length ≤ big) : Rp.rep K F (.ref q) x := by
  refine ⟨q, _, rfl, h, z, _, rfl, ?_⟩
  rw [keyT_v]
  exact mapSc x.l ok
end
section
variable {X : Cx} {es es1 es2 es3 : List En} {a b c e elt tg iter : Expr} {pos : Pos} {κ α β γ : Type} [Sc κ] [Ky κ] [DecidableEq κ] [Rp α] {i : Nat} {st : Stmt} {d : Dct (Tl κ) α} {k : Tl κ}
theorem n_dnewT : NJ X es (.Dict [] [] pos) (Dct.mk ([] : List (Tl κ × α))) := .mk fun f σ F H S Q q =>
  peR pe_dnewT fun p hp => q _ F _ [p] (St0.new S.sub hp) ⟨p, _, rfl, rfl, upd_same, sub_none S.sub hp, Nat.zero_le _, List.nodup_nil, [], rfl, .nil⟩ (by simp) fun z hz => by
    have e : z = p := by simpa using hz
    rw [e]; exact hp
theorem f_dgetT [Inhabited α] (hu : X.A.units + 64 < cLine) (hk : hasD d k = true) (ha : FJ X es a d) (hb : RJ X es b k) (hs : NoSl b := by exact fun _ _ => rfl) : FJ X es (.Subscript a b pos) (getD d k) := .mk fun f σ F H S Q q =>
  peR (pe_dget (un1 hu) peW peW hs) (ha f σ F H S _ fun v F1 H1 t1 r1 => hb f σ F1 H1 (S.step t1) _ fun w F2 H2 t2 r2 => by
    obtain ⟨p, ks, e, hF, hR, _, _, rr⟩ := repDT t2.e (Rp.mono t2.f r1)
    obtain ⟨z, e2, hz, _, _, _⟩ := repTk (ovl_sub t2.e) r2
    unfold hasD at hk
    rcases drt_look rr k with ⟨v', x', h1, h2, h3⟩ | ⟨h1, h2⟩
    · refine ⟨p, v', e, .inr ⟨ks, keyT k, z, hR, e2, hz, h1.symm⟩, q v' F2 H2 (t1.trans t2) ?_⟩
      unfold getD
      rw [h2]; exact h3
    · rw [h2] at hk; cases hk)
/-- d[k] = x -/
theorem s_dputT {e1 e2 : En} {x : α} (hu : X.A.units + 64 < cLine) (hst : PS X st (sDPut (tVar i) (wpE X b) (wpE X e))) (h : XJ X es e x es1) (hk : XJ X es1 b k es2) (hi : es2[i]? = some e1) (hl : Lent owCl d (putD d k x) e1 e2) (hz : d.l.length < big) (hes : es2.set i e2 = es3 := by rfl) (ha : alFree i es2 = true := by rfl)
    (h0 : ∃ e0 d0, es1[i]? = some e0 ∧ Lent owCl (d0 : Dct (Tl κ) α) d0 e0 e0) : E1 X es st es3 := .mk fun f σ F H D S q =>
  psR hst (h f σ F H S _ fun v F1 H1 S1 i1 r1 => by
    obtain ⟨e0, d0, he0, hl0⟩ := h0
    have ref : ∃ l, sl σ i = some (.ref l) := by
      obtain ⟨Ps, p⟩ := S1.env
      have ok := p.ok i e0 he0
      cases hl0 with
      | ow =>
        obtain ⟨w, ew, l, o, el, _⟩ := ok
        exact ⟨l, by rw [ew, el]⟩
      | «at» c => exact ⟨c, ok.1⟩
      | ad c =>
        obtain ⟨w, ew, el, _⟩ := ok
        exact ⟨c, by rw [ew, el]⟩
    obtain ⟨l0, ev0⟩ := ref
    refine ⟨.ref l0, sl_of ev0, hk f σ F1 H1 S1 _ fun w F2 H2 S2 i2 r2 => ?_⟩
    obtain ⟨l, o, ev, h1, h2, ⟨hz2, nd, ks, eo, rr⟩, go⟩ := S2.cell hi hl ha
    subst eo hes
    rw [ev0] at ev
    cases ev
    obtain ⟨z, e2, hz3, _, ok, kz⟩ := repTk S2.sub r2
    have hlen : ks.length < sizeLine := by rw [pairedLen rr]; exact big_lt (Nat.le_of_lt hz)
    refine ⟨l0, _, rfl, .inr ⟨ks, keyT k, z, h1, e2, hz3, hlen, rfl⟩, q _ F2 _ (go _ ⟨?_, putL_keys nd, _, rfl, drt_put rr ok kz (Rp.mono i2 r1)⟩)⟩
    exact Nat.le_trans (putL_len _ _ _) hz)
/-- d.get(k, x) -/
theorem r_dgetOrT [Sc β] {d : Dct (Tl κ) β} {x : β} (hu : X.A.units + 64 < cLine) (ha : RJ X es a d) (hb : RJ X es b k) (hc : RJ X es c x) (m : M2 X a "get" apos b c pos := by exact ⟨rfl, rfl, rfl, rfl⟩) : RJ X es (.Call (.Attribute a "get" apos) [b, c] [] pos) (getOr d k x) := .mk fun f σ F H S Q q =>
  peR (pe_dget2 (un1 hu) peW peW peW m) (ha f σ F H S _ fun v F1 H1 t1 r1 => by
    obtain ⟨p, ks, e, _, hR, _, _, _⟩ := repDT (ovl_sub t1.e) r1
    refine ⟨p, e, .inr ⟨ks, hR⟩, hb f σ F1 H1 (S.step t1) _ fun w F2 H2 t2 r2 => hc f σ F2 H2 ((S.step t1).step t2) _ fun u F3 H3 t3 r3 => ?_⟩
    have t23 := t2.trans t3
    obtain ⟨p2, ks2, e2, _, hR2, _, _, rr⟩ := repDT (ovl_sub t23.e) (Rp.mono (ovl_step t23) r1)
    rw [e] at e2
    cases e2
    obtain ⟨z, ez, hz3, _, ok, kz⟩ := repTk (ovl_sub t3.e) (Rp.mono (ovl_step t3) r2)
    rcases drt_look rr k with ⟨v', x', g1, g2, g3⟩ | ⟨g1, g2⟩
    · refine ⟨some v', .inr ⟨ks2, keyT k, z, hR2, ez, hz3, g1.symm⟩, q _ F3 H3 (t1.trans t23) ?_⟩
      unfold getOr; rw [g2]; exact ⟨g3.1, g3.2⟩
    · refine ⟨none, .inr ⟨ks2, keyT k, z, hR2, ez, hz3, g1.symm⟩, q _ F3 H3 (t1.trans t23) ?_⟩
      unfold getOr; rw [g2]; exact ⟨r3.1, r3.2⟩)
theorem k_keysT (h : PJ X es e d) : IK X tg es e (keysD d) := fun f σ F H S => by
  obtain ⟨v, r, go⟩ := h f σ F H S
  obtain ⟨p, ks, ev, hF, _, hz, nd, rr⟩ := repDT S.sub r
  subst ev
  refine ⟨p, _, hF, True.intro, fun f1 H1 od S1 hd R q => piR (pi_keys peW) (go f1 H1 S1 _ ⟨p, od, rfl, .inr ⟨ks, hd, q _ ⟨by unfold keysD; rw [List.length_map]; exact hz, fun j F2 H2 i2 d2 s2 => ?_⟩⟩⟩)⟩
  have hl : ks.length = d.l.length := pairedLen rr
  refine ⟨fun ej => ?_, fun x hx => ?_⟩
  · unfold keysD at ej
    rw [List.length_map, ← hl] at ej
    rw [ej]; exact walk_keysT.stops _ d2
  · obtain ⟨q', hq, ex⟩ := getM hx
    obtain ⟨pk, hpk, dr⟩ := getP rr hq
    have jl : j < ks.length := (List.getElem?_eq_some_iff.mp hpk).1
    refine ⟨walk_keysT.goes j _ jl d2, fun v H' y => ?_⟩
    obtain ⟨eH, k', v', z, e1, e2, e3⟩ := walk_keysT.yields j _ _ _ jl d2 y
    rw [hpk] at e1
    cases e1
    subst eH ex
    have e4 : k' = keyT q'.1 := dr.1
    subst e4
    obtain ⟨F3, t3, h3⟩ := St0.key s2 e3
    subst e2
    exact ⟨F3, t3, keyRep h3 dr.2.1 dr.2.2.1⟩
/-! {k: x}, k a tuple -/
def rDisp1 (p : Addr) (Q : VK) (ps : List (V × V)) (H3 : Hp) : Prop := ∃ x y, ps = [(x, y)] ∧ H3 p = some (.dT []) ∧ ∃ (b : Addr) (k : List L2.Key), x = .ref b ∧ H3 b = some (sk k) ∧ Q (.ref p) (upd H3 p (.dT [(k, y)]))
def tDisp1T (tk tv : TE) : TE := fun σ H Q => ∀ p, H p = none → tk σ (upd H p (.dT [])) fun x H1 => tv σ H1 fun y H2 => rDisp1 p Q [(x, y)] H2
theorem pe_disp1T {tk tv : TE} {k v : Expr} (hu : X.A.units + 64 < cLine) (hk : PE X k tk) (hv : PE X v tv) : PE X (.Dict [some k] [v] pos) (tDisp1T tk tv) := by
  refine ⟨fun pins s σ H Q I q => ?_⟩
  have hn := I.hok.fresh (Nat.le_refl s.heap.objs.size)
  have I1 := I.laid (a := s.heap.objs.size) (o := .dT []) (h' := s.heap.push { cls := .type "dict", data := .dict #[] }) (t' := s.toks) (fun _ _ q => Heap.get?_push_of_some _ q) (Nat.le_refl _) (dt_empty s.heap I.big)
  have hl : (pairTrees [some k] [v] X.env pos).length = 1 := pairTrees_length [some k] [v] X.env pos rfl rfl
  rw [arm_eval_Dict, zip_pairTrees [some k] [v] X.env pos rfl rfl, dictDisplay_pairs _ (fun e => by rw [e] at hl; cases hl) (by rw [hl]; decide)]
  refine wpAny_bind (wpAny_standAt (wpAny_bind ?_))
  unfold subDict
  refine wpAny_bind (wpAny_alloc ?_)
  refine wpAny_bind (wpAny_holding ?_)
  rw [if_pos (by rw [hl]; decide)]
  have q1 : tPairs [(tk, tv)] σ (upd H s.heap.objs.size (.dT [])) (rDisp1 s.heap.objs.size Q) := q _ hn
  refine wpAny_bind (thn ((pps_cons hk hv pps_nil).run pins _ σ _ _ I1 q1) fun ws s2 ⟨ps, H2, I2, rel, x, y, ep, e0, b, ks, ex, eb, q2⟩ => ?_)
  subst ep ex
  cases rel with
  | @cons _ w _ ws h t =>
  cases t
  obtain ⟨u, r⟩ := w
  obtain ⟨h1, h2⟩ := h
  cases (show u = Value.ref b from h1)
  refine wpAny_holding ?_
  rw [List.forIn_cons]
  obtain ⟨z, hd, xs, rk, dd⟩ := dt_of I2.hok e0
  cases rk
  refine wpAny_bind (wpAny_bind (wpAny_bind (wpAny_dictSet_heap (hsz := Nat.zero_le _) (by show X.A.units + 0 < cLine; omega) (key_of I2.hok eb) dd fun h' dd' hs => wpAny_pure ?_)))
  show wpAny _ _ (forIn [] PUnit.unit _) _ _ _
  rw [List.forIn_nil]
  obtain ⟨o2, es2, ep2, hq, k2, k3, k4, _, k5⟩ := dd'
  refine wpAny_pure (wpAny_pure (wpAny_pure (wpAny_pure ⟨.ref s.heap.objs.size, _, ?_, rfl, q2⟩)))
  refine d_write I2 (by rw [e0]; exact True.intro) hs ⟨o2, hq⟩ ⟨by show 1 ≤ sizeLine; decide, hd, _, ?_, o2, es2, ep2, hq, k2, k3, k4, k5⟩
  show Paired _ [(ks, y)] [(ks, b, r)]
  exact .cons ⟨rfl, (upd_ne (ne_of eb e0 (fun z => nomatch z))).trans eb, h2⟩ .nil
/-- {k: x} -/
theorem n_disp1T {e1 e2 : Expr} {k : Tl κ} {x : α} (hu : X.A.units + 64 < cLine) (hk : FJ X es e1 k) (hx : FJ X es e2 x) : NJ X es (.Dict [some e1] [e2] pos) (Dct.mk [(k, x)]) := .mk fun f σ F H S Q q =>
  peR (pe_disp1T hu peW peW) fun p hp => by
    have t0 : St0 F H F (upd H p (.dT [])) := St0.new S.sub hp
    refine hk f σ F _ (S.step t0) _ fun v F1 H1 t1 r1 => hx f σ F1 H1 ((S.step t0).step t1) _ fun w F2 H2 t2 r2 => ⟨v, w, rfl, (t1.trans t2).inc _ _ upd_same, ?_⟩
    obtain ⟨z, ez, hz3, hzF, ok, kz⟩ := repTk t2.e (Rp.mono t2.f r1)
    subst ez
    refine ⟨z, keyT k, rfl, hz3, q _ F2 _ [p] ?_ ⟨p, _, rfl, rfl, upd_same, (t1.trans t2).nz upd_same (fun _ e => by cases e) (sub_none S.sub hp), by show 1 ≤ big; decide, by simp, _, rfl, .cons ⟨rfl, ok, kz, r2⟩ .nil⟩ (by simp) fun c hc => ?_⟩
    · have t := (t0.trans t1).trans t2
      have hp2 : H2 p = some (.dT []) := (t1.trans t2).inc _ _ upd_same
      have np : F2 p = none := (t1.trans t2).nz upd_same (fun _ e => by cases e) (sub_none S.sub hp)
      refine ⟨t.f, fun a o n e => ?_, fun a n => ?_, fun a o e => ?_, fun a e1 e2 => (t.n a e1 e2).imp id fun ⟨ks, z⟩ => ⟨ks, by rw [upd_ne fun c => by rw [c, hp2] at z; cases z]; exact z⟩, fun a ks e => ?_⟩
      · have ne : a ≠ p := fun c => by
          have e3 : H a = some o := e
          rw [c, hp] at e3; cases e3
        rw [upd_ne ne]; exact t.h a o n e
      · by_cases c : a = p
        · rw [c, upd_same]; intro y; cases y
        · rw [upd_ne c]; exact t.t a n
      · have ne : a ≠ p := fun c => by rw [c, np] at e; cases e
        rcases t.e a o e with y | ⟨d, ob, y⟩
        · exact .inl (by rw [upd_ne ne]; exact y)
        · exact .inr ⟨d, ob, by rw [upd_ne ne]; exact y⟩
      · have z := t.k a ks e
        have ne : a ≠ p := fun c => by rw [c, hp2] at z; cases z
        rw [upd_ne ne]; exact z
    · rw [List.mem_singleton.mp hc]; exact hp
/-! tuple(xs), x in t -/
theorem f_tupOf {x : List β} [Rp β] {p : Pos} (hg : Gl X "tuple") (hm : X.mg "tuple" = none) (h : LR X es a x) (na : starEach [a] X.env = (false, eval a X.env) :: starEach [] X.env := by rfl) : FJ X es (.Call (.Name "tuple" p) [a] [] pos) (Tl.mk x) := .mk fun f σ F H S Q q =>
  peR (pe_tupleOf hg hm peW na) (h f σ F H S _ fun l vs F1 H1 t1 h1 r1 hz => .inl ⟨l, vs, rfl, .inl (.inl h1), fun z hz2 => by
    have t2 := newC (o := .tup vs) t1.e hz2
    exact q _ _ _ (t1.trans t2) ⟨z, _, rfl, upd_same, hz, vs, rfl, pairedM t2.f r1⟩⟩)
theorem c_inTl [Sc β] [DecidableEq β] [Fl1 β] {x : β} {t : Tl β} {f : Fr} {σ : L2.St} {F H : Hp} (S : Sw X.K f es σ F H) (ha : RJ X es a x) (hb : RJ X es b t) {Q : VK} (neg : Bool) (q : ∀ F' H', St0 F H F' H' → Q (.bl (if neg then !decide (x ∈ t.l) else decide (x ∈ t.l))) H') : wpE X a σ H fun v H1 => wpE X b σ H1 fun w H2 => rIn X.K neg v w H2 Q :=
  ha f σ F H S _ fun v F1 H1 t1 r1 => hb f σ F1 H1 (S.step t1) _ fun w F2 H2 t2 r2 => by
    have e1 : v = Sc.toV x := r1.1
    subst e1
    obtain ⟨p, vs, e, h, _, rr⟩ := tlR (ovl_sub t2.e) r2
    rw [scMap rr] at h
    refine ⟨p, _, e, .inr (.inl (.inl h)), Fl1.flat x, by simp [Fl1.flat], ?_⟩
    rw [inV_eq]
    exact q F2 H2 (t1.trans t2)
theorem r_inT [Sc β] [DecidableEq β] [Fl1 β] {x : β} {t : Tl β} (ha : RJ X es a x) (hb : RJ X es b t) (hm : behindInMarks .In b = false := by rfl) : RJ X es (.Compare a [.In] [b] pos) (decide (x ∈ t.l)) := .mk fun f σ F H S Q q =>
  peR (pe_cmpR op_in_seq peW peW hm) (c_inTl S ha hb false fun F' H' t => q _ F' H' t ⟨rfl, True.intro⟩)
theorem t_inT [Sc β] [DecidableEq β] [Fl1 β] {x : β} {t : Tl β} (ha : RJ X es a x) (hb : RJ X es b t) (hm : behindInMarks .In b = false := by rfl) : TJ X es (.Compare a [.In] [b] pos) (decide (x ∈ t.l)) := .mk fun f σ F H S Q q =>
  ptR (pt_cmpR op_in_seq peW peW hm) (c_inTl (Q := fun v H' => ∃ c, v = .bl c ∧ Q c H') S ha hb false fun F' H' t => ⟨_, rfl, q F' H' t⟩)
theorem t_ninT [Sc β] [DecidableEq β] [Fl1 β] {x : β} {t : Tl β} (ha : RJ X es a x) (hb : RJ X es b t) (hm : behindInMarks .NotIn b = false := by rfl) : TJ X es (.Compare a [.NotIn] [b] pos) (!decide (x ∈ t.l)) := .mk fun f σ F H S Q q =>
  ptR (pt_cmpR op_notIn_seq peW peW hm) (c_inTl (Q := fun v H' => ∃ c, v = .bl c ∧ Q c H') S ha hb true fun F' H' t => ⟨_, rfl, q F' H' t⟩)
end
end Ly
namespace Ly
open PySem PySem.Spec PyProof.Rows L2 TL
/-! dict(zip(xs, ys)) -/
def rDictZip (K : PySem.W.Frag) (vs : List V) (H : Hp) (Q : VK) : Prop := ∃ (a b : Addr) (ks : List L2.Key) (ys : List V), vs = [.ref a, .ref b] ∧ SqL K H a (ks.map kV) ∧ SqL K H b ys ∧ ks.length = ys.length ∧ ∀ q, H q = none → Q (.ref q) (upd H q (.dK (mergeK [] (ks.zip ys))))
section
variable {X : Cx} {es es1 es2 : List En} {a b c e : Expr} {pos : Pos} {κ α β γ : Type} [Sc κ] [Ky κ] [DecidableEq κ] [Rp α]
/-! z * n -/
end
end Ly
namespace Ly
open PySem PySem.Spec PyProof.Rows L2 TL
section
variable {X : Cx} {es es1 es2 : List En} {a b c e : Expr} {pos : Pos} {κ α β γ : Type} [Sc κ] [Ky κ] [DecidableEq κ] [Rp α]
/-! dict(zip(xs, f(..))), where the second list is told by a call with an effect -/
end
end Ly
namespace Ly
open PySem PySem.Spec PyProof.Rows L2 TL
/-! tuple(d) -/
section
variable {prog : Program} {w : World} {A : Around} {E : Value → Shared → Prop} {s : Shared} {T : String} {r d : Addr} {n : Nat} {P : Nat → Value → Prop} {OK : Heap → Prop}
theorem code_tuple_new_dict {Q₁ : Value → Shared → Prop} (K : PySem.W.KdlSrc prog w "dict" r d n P OK) (hh : A.handled = none) (hok : OK s.heap) (hn : n ≤ sizeLine)
    (h : ∀ (h' : Heap) (tk : Nat) (acc : Array Value), (∀ b o, s.heap.get? b = some o → h'.get? b = some o) → ItemsOf P acc n →
      Q₁ (.ref h'.objs.size) { s with heap := h'.push { cls := .type "tuple", data := .seq acc }, toks := tk }) :
    codeAny (model prog w) A (.call (.builtin "tuple.__new__") ⟨[.type "tuple", .ref r], []⟩) (wants Q₁ E) s := by
  refine codeAny_of_tree ?_
  show wpAny _ A.in1 (do checkBuiltinCall "tuple.__new__" ⟨[.type "tuple", .ref r], []⟩; again (.builtin "tuple.__new__" ⟨[.type "tuple", .ref r], []⟩)) _ _ s
  refine wpAny_bind (wpAny_of_eq (F.newCall_tuple_1 _) (wpAny_pure ⟨plainId_quiet F.plain_tuple_new _, codeAny_builtin F.entry_tuple_new ?_⟩))
  rw [Around.under_plainId F.plain_tuple_new _]
  have hsub := sub_tuple_self
  have hinit := init_tuple_lookup
  have hmh := madeHere_tuple
  have hTI : s.TypeIs (.ref r) "dict" := K.type s hok
  have hh1 : A.in1.handled = none := hh
  wp_walk using wpAny_typeOf hTI, PySem.W.kdu_collect (A := A.in1) K hh1 hok hn
  intro h' tk acc hk hacc
  show wpAny _ _ (Builtin.Tuple.tupleExact acc.toList.toArray >>= fun v => ret v) _ _ _
  unfold Builtin.Tuple.tupleExact
  refine wpAny_bind (wpAny_newObj_type ?_ (by show acc.toList.toArray.size ≤ sizeLine; simp only [Array.toArray_toList]; rw [hacc.1]; exact hn))
  refine wpAny_pure ?_
  have e : acc.toList.toArray = acc := by simp
  rw [e]
  exact h h' tk acc hk hacc
theorem call_tuple_dict {Q : Value → Shared → Prop} (K : PySem.W.KdlSrc prog w "dict" r d n P OK) (hh : A.handled = none) (hok : OK s.heap) (hn : n ≤ sizeLine)
    (hQ : ∀ (h' : Heap) (tk : Nat) (acc : Array Value), (∀ b o, s.heap.get? b = some o → h'.get? b = some o) → ItemsOf P acc n →
      Q (.ref h'.objs.size) { s with heap := h'.push { cls := .type "tuple", data := .seq acc }, toks := tk }) :
    wpAny (model prog w) A (call (.type "tuple") [.ref r]) Q E s := by
  refine callType_codes (Q₁ := fun obj s₁ => s₁.TypeIs obj "tuple" ∧ Q obj s₁) F.called_tuple (F.typeCall_tuple_1 _) F.entry_object_init
    (code_tuple_new_dict (A := A.in1) K hh hok hn fun h' tk acc hk hacc => ⟨⟨_, Heap.get?_push_size _ rfl, rfl⟩, hQ h' tk acc hk hacc⟩) fun obj s₁ h₁ => ?_
  exact ⟨h₁.1, F.args_object_init_2 obj _, object_init_meets F.called_tuple.init.lookup F.called_tuple.made (by decide) prog w A.in1 _ s₁ ⟨h₁.1, rfl, h₁.2⟩⟩
end
def rTupD (xs : List V) (H : Hp) (Q : VK) : Prop := ∃ p kvs, xs = [.ref p] ∧ Rd H p (.dK kvs) ∧ ∀ q, H q = none → Q (.ref q) (upd H q (.tup (kvs.map fun kv => kV kv.1)))
/-- the keys as they stand, one behind another -/
theorem keyVals {P : Program} {w : World} {kvs : List (L2.Key × V)} {vs : List (L2.Key × Value)} (rk : KV kvs vs) {acc : Array Value} (hacc : ItemsOf (fun i v => ∃ k x, vs[i]? = some (k, x) ∧ (mixKind P w).is k v = true) acc vs.length) : Vals (kvs.map fun kv => kV kv.1) acc.toList := by
  rw [show (kvs.map fun kv => kV kv.1) = (vs.map (·.1)).map kV by rw [← KV.keys rk, List.map_map]; rfl]
  refine vals_of_at (by simp [hacc.1]) fun j x u hx hu => ?_
  obtain ⟨k, y, here, same⟩ := hacc.2 j u (by simpa using hu)
  obtain rfl : kV k = x := by simpa [here] using hx
  exact keyIs_rel same
theorem call_tuple_dK {X : Cx} (hc : X.calm = true) : CallR X (.type "tuple") rTupD := by
  intro pins s σ H xs us Q I r h
  obtain ⟨p, kvs, e, hk, q⟩ := h
  subst e
  obtain ⟨u, eu, rx⟩ := vals1 r
  subst eu
  obtain rfl : u = Value.ref p := rx
  obtain ⟨z, lo, vs, rk, hd⟩ : ObjOk X.prog X.w H s.heap p (.dK kvs) := by
    rcases hk with h | ⟨o, h⟩
    · exact I.hok p _ h
    · exact (show ObjOk X.prog X.w H s.heap p (.frz o (.dK kvs)) from I.hok p _ h).2
  obtain ⟨ep, hat⟩ := hd.dictAt
  have hl := Paired.length rk
  refine call_tuple_dict (PySem.W.kdl_dict (knd := mixKind X.prog X.w) (kvs := vs) (ep := ep) lo) (I.ok.hd hc) hat (hl ▸ z) fun h' tk acc' hkeep hacc => ?_
  have I2 : Inv X pins σ H { s with heap := h', toks := tk } := I.kept hkeep
  exact ⟨.ref h'.objs.size, upd H h'.objs.size (.tup (kvs.map fun kv => kV kv.1)), I2.laid (t' := tk) (fun c o e => Heap.get?_push_of_some _ e) (Nat.le_refl _) (show ObjOk X.prog X.w _ _ _ (.tup (kvs.map fun kv => kV kv.1)) from ⟨by simpa using z, acc'.toList, keyVals rk hacc, by rw [Array.toArray_toList]; exact IsTup.new _ _⟩), rfl, q _ (I2.hok.fresh (Nat.le_refl _))⟩
section
variable {X : Cx} {es es1 es2 : List En} {a b c e : Expr} {pos : Pos} {κ α β γ : Type} [Sc κ] [Ky κ] [DecidableEq κ] [Rp α] {d : Dct κ α}
theorem keysRep {K : PySem.W.Frag} {F : Hp} : ∀ {ks : List (L2.Key × V)} {l : List (κ × α)}, Paired (DR K F) ks l → Paired (Rp.rep K F) (ks.map fun kv => kV kv.1) (l.map (·.1))
  | _, _, .nil => .nil
  | _, _, .cons h t => .cons ⟨by show kV _ = Sc.toV _; rw [h.1, Ky.kv], h.2.1⟩ (keysRep t)
theorem f_tupD {p : Pos} (hc : X.calm = true) (hg : Gl X "tuple") (hm : X.mg "tuple" = none) (ha : FJ X es a d) (s1 : starEach [a] X.env = (false, eval a X.env) :: starEach [] X.env := by rfl) : FJ X es (.Call (.Name "tuple" p) [a] [] pos) (Tl.mk (keysD d)) := .mk fun f σ F H S Q q =>
  peR (pe_callTy (call_tuple_dK hc) hg hm PyProof.Rows.boot_tuple (pa_cons peW pa_nil s1) (by decide) (by decide) s1) (ha f σ F H S _ fun v F1 H1 t1 r1 => by
    obtain ⟨p, ks, e, hF, hR, h1, h2, rr⟩ := repD t1.e r1
    refine ⟨p, ks, by rw [e], hR, fun p' hp => ?_⟩
    have t2 := newC (o := .tup (ks.map fun kv => kV kv.1)) t1.e hp
    have hl : ks.length = d.l.length := pairedLen rr
    refine q _ _ _ (t1.trans t2) ⟨p', _, rfl, upd_same, ?_, _, rfl, ?_⟩
    · show (keysD d).length ≤ big
      unfold keysD; rw [List.length_map]; exact h1
    · have e1 : Paired (Rp.rep X.K F1) (ks.map fun kv => kV kv.1) (keysD d) := keysRep rr
      exact pairedM t2.f e1)
end
/-! .items() of tuple keys -/
theorem frzT2 {X : Cx} {pins : List (Addr × Obj)} {σ : L2.St} {H : Hp} {s : Shared} {d : Addr} {o : Obj} {kvs : List (List L2.Key × V)} (I : Inv X pins σ H s) (h : H d = some (.frz o (.dT kvs))) :
    (d == sysModules) = false ∧ s.heap.get? d = some o ∧ o.ExactDict ∧ ∃ (es : Array DictEntry) (ep : Nat), o.data = .dict es ep ∧ es.size = kvs.length ∧
      ∀ (i : Nat) (k : List L2.Key) (v : V), kvs[i]? = some (k, v) → ∃ (en : DictEntry) (q : Addr), es[i]? = some en ∧ en.key = .ref q ∧ H q = some (.tup (k.map kV)) ∧ RelV v en.val := by
  obtain ⟨hd, z, hs, xs, pr, o', es, ep, ho, hx, hdt, he, _⟩ := I.hok d _ h
  rw [hd] at ho
  cases ho
  refine ⟨hs, hd, hx, es, ep, hdt, ?_, fun i k v e => ?_⟩
  · have l1 : es.size = xs.length := size_of_entries he
    have l2 : kvs.length = xs.length := Paired.length pr
    omega
  · obtain ⟨b, hb, e1, e2, e3⟩ := paired_get pr e
    have q := entry_at he i
    rw [hb] at q
    exact ⟨_, b.2.1, q, rfl, e2, e3⟩
def ItiT (d : Addr) (o : Obj) (kvs : List (List L2.Key × V)) : It :=
  ⟨fun i H => H d = some (.frz o (.dT kvs)) ∧ i < kvs.length, fun i H x H' => ∃ T k v q, kvs[i]? = some (k, v) ∧ H q = some (.tup (k.map kV)) ∧ x = .ref T ∧ H T = none ∧ H' = upd H T (.tup [.ref q, v]), fun i H => H d = some (.frz o (.dT kvs)) ∧ kvs.length ≤ i⟩
theorem turn_itemsT {P : Program} {w : World} {K : PySem.W.Frag} {d : Addr} {o : Obj} {es : Array DictEntry} {ep : Nat} {kvs : List (List L2.Key × V)} {elts : List Expr} {kk : Nat} {tpos : Pos} (it : Addr) (hod : o.data = .dict es ep) :
    Turn P w K (.Tuple elts kk tpos) (ItiT d o kvs) [it] it (fun i h => ∃ ok ov, IsItemIter h it d i kvs.length ep ok ov) where
  mem := by simp
  obj := fun i h st b hb => by
    have e : b = it := by simpa using hb
    subst e
    obtain ⟨ok, ov, e⟩ := st
    exact ⟨_, e, fun v z => nomatch z⟩
  keep := fun i h h' st k => let ⟨ok, ov, e⟩ := st; ⟨ok, ov, k it (by simp) _ e⟩
  item := by
    intro X hP hw hK hc i pins s σ H E I hf st hg
    subst hP hw hK
    obtain ⟨hd, hi⟩ := hg
    obtain ⟨hs, hgd, hx, es', ep', hdt, hsz, ent⟩ := frzT2 I hd
    obtain ⟨rfl, rfl⟩ := dict_ep hod hdt
    obtain ⟨⟨k, v⟩, hkv⟩ : ∃ p, kvs[i]? = some p := ⟨kvs[i], List.getElem?_eq_getElem hi⟩
    obtain ⟨en, q, hen, hkey, hq, ru⟩ := ent i k v hkv
    obtain ⟨ok, ov, he⟩ := st
    rw [← hsz] at he
    have hi2 : i < es'.size := by omega
    have een : es'[i] = en := by rw [Array.getElem?_eq_getElem hi2] at hen; exact Option.some.inj hen
    have hlt : it < s.heap.objs.size := Heap.lt_size he
    refine DT.nextI he ⟨o, hgd, hx, hdt⟩ hi2 fun h' ho hT hz hk => ?_
    rw [een] at ho hT
    refine ⟨_, rfl, wpAny_letOwnedTupleGo_items (s := { s with heap := h' }) ho fun h'' he' sb => ?_⟩
    have hT2 : h''.get? s.heap.objs.size = some { cls := .type "tuple", data := .seq #[en.key, en.val] } := (sb.2 _ (Nat.ne_of_gt hlt)).trans hT
    have new : ObjOk X.prog X.w (upd H s.heap.objs.size (.tup [.ref q, v])) h'' s.heap.objs.size (.tup [.ref q, v]) :=
      ⟨by show 2 ≤ sizeLine; decide, [en.key, en.val], .cons hkey (.cons ru .nil), ⟨_, hT2, rfl, _, rfl⟩⟩
    have I1 : Inv X pins σ (upd H s.heap.objs.size (.tup [.ref q, v])) { s with heap := h'' } :=
      I.turnedNew (t' := s.toks) (ch := [it]) (fun b ob hb e => (sb.2 b (by simpa using hb)).trans (hk b ob (by simpa using hb) e)) hf (Nat.le_refl _) new
    refine ⟨.ref s.heap.objs.size, _, I1, rfl, ⟨_, k, v, q, hkv, hq, rfl, I.hok.fresh (Nat.le_refl _), rfl⟩, ⟨en.key, en.val, ?_⟩, fun b hb => ?_⟩
    · rw [← hsz]; exact he'
    · have e : b = it := by simpa using hb
      rw [e, upd_ne (Nat.ne_of_lt hlt)]
      exact (hf it (by simp)).1
  done := by
    intro X hP hw hK hc i pins s σ H E I hf st hg
    subst hP hw hK
    obtain ⟨hd, hi⟩ := hg
    obtain ⟨f0, f1, f2, f3, f4, f5⟩ := hf it (by simp)
    obtain ⟨hs, hgd, hx, es', ep', hdt, hsz, ent⟩ := frzT2 I hd
    obtain ⟨rfl, rfl⟩ := dict_ep hod hdt
    obtain ⟨ok, ov, he⟩ := st
    rw [← hsz] at he
    exact PySem.wpAny_pyNext_items_end_raw (I.ok.hd hc) he ⟨o, hgd, hx, hdt⟩ (by omega) fun h' eb => ⟨rfl, I.turned (t' := s.toks) (fun b ob hb e => eb b ob hb e) f0 f1 f3 f4 f5⟩
  self := fun A i s Q E st h => let ⟨_, _, e⟩ := st; PySem.W.kcp_self e h
def iItemsT (td : TE) : TI := fun σ H R => td σ H fun x H1 => ∃ d o kvs, x = .ref d ∧ H1 d = some (.frz o (.dT kvs)) ∧ R (ItiT d o kvs) H1
theorem pi_itemsT {X : Cx} {e : Expr} {td : TE} {apos cpos : Pos} {elts : List Expr} {kk : Nat} {tpos : Pos} (he : PE X e td) (hbase : attributeBase e "items" X.env (eval e X.env) = eval e X.env := by rfl) (hline : (apos.endLine == cpos.line) = true := by rfl) :
    PI X (.Tuple elts kk tpos) (.Call (.Attribute e "items" apos) [] [] cpos) (iItemsT td) := by
  refine ⟨fun pins s σ H R I h => ?_⟩
  refine wpAny_Call_method (T := "dict") (id := "dict.items") hbase rfl hline F.plainAttrs_dict F.slot_dict_items F.type_dict_items (thn (he.run pins s σ H _ I h) fun u s1 ⟨x, H1, I1, rx, d, o, kvs, ex, hd, q⟩ => ?_)
  subst ex
  obtain rfl : u = Value.ref d := rx
  obtain ⟨hs, hgd, hx, es, ep, hdt, hsz, ent⟩ := frzT2 I1 hd
  have raw : DT.Raw s1.heap d es ep := ⟨o, hgd, hx, hdt⟩
  refine ⟨raw.typeIs, fun a ea => (by cases ea; exact ⟨o, hgd, hx.2.1⟩), ?_⟩
  have I2 : Inv X pins σ H1 { s1 with heap := s1.heap.push { cls := .type "dict_items", data := .fields #[.ref d] } } := I1.kept (t' := s1.toks) fun b ob q => Heap.get?_push_of_some _ q
  have fin : wpAny (model X.prog X.w) X.A (pyIter (.ref s1.heap.objs.size)) (PIE X pins σ (.Tuple elts kk tpos) R) X.xe { s1 with heap := s1.heap.push { cls := .type "dict_items", data := .fields #[.ref d] } } := by
    refine DT.iterI (d := d) ⟨_, Heap.get?_push_size _ rfl, rfl, rfl⟩ (raw.push _) (pi_one (tk := s1.toks) I2 _ (turn_itemsT _ hdt) ⟨.none, .none, ?_⟩ q)
    rw [← hsz]
    exact Heap.get?_push_size _ rfl
  show wpAny _ _ (callWith cpos (.builtin "dict.items") [.ref d] [] []) _ X.xe s1
  exact method_meetsIn F.slot_dict_items F.entry_dict_items rfl (PySem.evalArgs_none ⟨rfl, raw.typeIs, F.args_dict_items_1 _, _, DT.meetsItems (es := es) (ep := ep) hs, raw, fin⟩)
theorem walk_itemsT {d : Addr} {o : Obj} {kvs : List (List L2.Key × V)} : Walk (ItiT d o kvs) kvs.length (fun H => H d = some (.frz o (.dT kvs)))
    (fun i H x H' => ∃ T k v q, kvs[i]? = some (k, v) ∧ H q = some (.tup (k.map kV)) ∧ x = .ref T ∧ H T = none ∧ H' = upd H T (.tup [.ref q, v])) :=
  ⟨fun _ _ hi q => ⟨q, hi⟩, fun _ q => ⟨q, Nat.le_refl _⟩, fun _ _ _ _ _ _ y => y⟩
section
variable {X : Cx} {es es1 es2 : List En} {e : Expr} {κ α : Type} [Sc κ] [Ky κ] [DecidableEq κ] [Rp α] {d : Dct (Tl κ) α}
theorem k_itemsT {elts : List Expr} {kk : Nat} {tpos apos cpos : Pos} (h : PJ X es e d) (hbase : attributeBase e "items" X.env (eval e X.env) = eval e X.env := by rfl) (hline : (apos.endLine == cpos.line) = true := by rfl) : IK X (.Tuple elts kk tpos) es (.Call (.Attribute e "items" apos) [] [] cpos) d.l := fun f σ F H S => by
  obtain ⟨v, r, go⟩ := h f σ F H S
  obtain ⟨p, ks, ev, hF, _, hz, nd, rr⟩ := repDT S.sub r
  subst ev
  refine ⟨p, _, hF, True.intro, fun f1 H1 od S1 hd R q => piR (pi_itemsT peW hbase hline) (go f1 H1 S1 _ ⟨p, od, ks, rfl, hd, q _ ⟨hz, fun j F2 H2 i2 d2 s2 => ?_⟩⟩)⟩
  have hl : ks.length = d.l.length := pairedLen rr
  refine ⟨fun ej => ?_, fun x hx => ?_⟩
  · rw [← hl] at ej
    rw [ej]; exact walk_itemsT.stops _ d2
  · obtain ⟨pk, hpk, dr⟩ := getP rr hx
    have jl : j < ks.length := (List.getElem?_eq_some_iff.mp hpk).1
    refine ⟨walk_itemsT.goes j _ jl d2, fun v H' y => ?_⟩
    obtain ⟨T, k', v', z, e1, e2, ev, hT, eH⟩ := walk_itemsT.yields j _ _ _ jl d2 y
    rw [hpk] at e1
    cases e1
    have e4 : k' = keyT x.1 := dr.1
    subst e4 ev eH
    obtain ⟨F3, t3, h3⟩ := St0.key s2 e2
    have t := St0.new t3.e hT (o := .tup [.ref z, v'])
    have n3 : F3 T = none := sub_none t3.e hT
    have fi : Inc F3 _ := fzP_inc (F := F3) (H := upd H2 T (.tup [.ref z, v'])) (P := [T]) fun z hz => by
        have e : z = T := by simpa using hz
        rw [e]; exact n3
    refine ⟨_, (t3.trans t).freeze (P := [T]) fun z hz => ?_, T, _, rfl, (fzP_in (by simp)).trans upd_same, .ref z, v', rfl, ?_, ?_⟩
    · have e : z = T := by simpa using hz
      rw [e]; exact ⟨n3, hT⟩
    · exact Rp.mono fi (keyRep h3 dr.2.1 dr.2.2.1)
    · exact Rp.mono ((i2.trans t3.f).trans fi) dr.2.2.2
end
end Ly
namespace Ly
open PySem PySem.Spec PyProof.Rows L2 TL
section
variable {X : Cx} {es es1 es2 : List En} {tg iter : Expr} {body : List Stmt} {pos : Pos} {α β γ ρ : Type} {i : Nat}
/-- a list at a known address, walked while it stays one's own -/
theorem seqAd {K : PySem.W.Frag} {f : Fr} {σ : L2.St} {F H : Hp} [Rp α] {xs : List α} {q : Addr} (S : Sw K f es σ F H) (hi : es[i]? = some (.ow (Adr.mk q xs))) : ∃ vs, H q = some (.lst vs) ∧ Paired (Rp.rep K F) vs xs := by
  obtain ⟨Ps, p⟩ := S.env
  obtain ⟨v, _, e, o⟩ := p.ok i _ hi
  obtain ⟨q1, vs, e2, h1, r, _, _⟩ := lst_of o
  subst e
  obtain rfl : q = q1 := by injection e2
  exact ⟨vs, h1, r⟩
theorem s_forO {tst : PassesOwn (model X.prog X.w) X.A X.env X.xe} {y0 : β} [Rp α] {xs : List α} {esf : β → List En} {est : Addr → β → α → List En} {kr : ρ → Out} {g : β → α → Fl β ρ} (hc : X.calm = true) (hv : PE X iter (tVar i)) (hi : ∀ y, (esf y)[i]? = some (.ow xs)) (hal : ∀ y, noAls (esf y) = true)
    (ht : ∀ p y x, GJ X tg ((esf y).set i (.ow (Adr.mk p xs))) x (est p y x)) (hk : ∀ r, (kr r).rets = true) (hb : ∀ p y x, At g xs y0 y x → ES X (est p y x) body (flO (fun y => (esf y).set i (.ow (Adr.mk p xs))) kr (g y x)))
    (hs : ∀ x, foldedSetIterable iter X.env x = pure x := by intro _; rfl) : S1 X (esf y0) (.For tg iter body [] pos) (flN esf kr (forFl g xs y0)) := .mk fun f σ F0 H0 D S q => by
  refine psR (ps_for tst hc (pi_list hv) pgW pssW hs) ?_
  obtain ⟨p, evp, S1⟩ := S.adr (hi y0) (noAls_of (hal y0) i)
  have hil : ∀ y, i < (esf y).length := fun y => get_lt (hi y)
  have at_i : ∀ y, ((esf y).set i (.ow (Adr.mk p xs)))[i]? = some (.ow (Adr.mk p xs)) := fun y => List.getElem?_set_self (hil y)
  have na : ∀ y, noAl i ((esf y).set i (.ow (Adr.mk p xs))) := fun y l β r x hk => by
    by_cases c : l = i
    · subst c
      rw [at_i] at hk
      cases hk
    · rw [List.getElem?_set_ne (Ne.symm c)] at hk
      exact noAls_at l i β r x (hal y) hk
  have back : ∀ {y f σ' F' H'}, Sw X.K f ((esf y).set i (.ow (Adr.mk p xs))) σ' F' H' → Sw X.K f (esf y) σ' F' H' := fun {y f σ' F' H'} S' => by
    have z := S'.unadr (at_i y) (na y)
    rw [List.set_set, set_of_get (hi y)] at z
    exact z
  obtain ⟨vs0, hq0, _⟩ := seqAd S1 (at_i y0)
  refine ⟨.ref p, sl_of evp, p, rfl, ⟨vs0, .inl (.inl hq0)⟩, ?_⟩
  refine ⟨fun k m σ' H' => m = xs.length - k ∧ k ≤ xs.length ∧ ∃ y F', forFl g (xs.take k) y0 = .nx y ∧ Sw X.K f ((esf y).set i (.ow (Adr.mk p xs))) σ' F' H', ⟨xs.length, by omega, Nat.zero_le _, y0, F0, rfl, S1⟩, ?_⟩
  rintro k m σ' H' ⟨em, hil2, y, F', ey, S'⟩
  obtain ⟨vs, hsq, rr⟩ := seqAd S' (at_i y)
  have hvl : vs.length = xs.length := pairedLen rr
  by_cases hlt : k < xs.length
  · have hx : xs[k]? = some xs[k] := List.getElem?_eq_getElem hlt
    have split : xs = xs.take k ++ xs[k] :: xs.drop (k + 1) := by
      rw [List.getElem_cons_drop, List.take_append_drop]
    have tk : xs.take (k + 1) = xs.take k ++ [xs[k]] := by
      rw [List.take_add_one, hx]; rfl
    have hkv : k < vs.length := by omega
    refine .inr ⟨⟨vs, vs[k], .inl (.inl hsq), List.getElem?_eq_getElem hkv⟩, fun σ2 H2 => ∃ y2 F2, forFl g (xs.take (k + 1)) y0 = .nx y2 ∧ Sw X.K f ((esf y2).set i (.ow (Adr.mk p xs))) σ2 F2 H2, fun σ2 H2 ⟨y2, F2, e2, S2⟩ => ⟨m - 1, by omega, by omega, hlt, y2, F2, e2, S2⟩, fun v H2 yv => ?_⟩
    obtain ⟨eH, yv⟩ := yv
    subst eH
    have ev : vs[k]? = some v := yv vs (.inl (.inl hsq))
    obtain ⟨v', ev', r2⟩ := getP rr hx
    rw [ev] at ev'
    cases ev'
    refine ht p y xs[k] _ σ' F' _ v S' r2 _ fun σ3 F3 H3 S3 i3 => ?_
    refine hb p y xs[k] ⟨_, _, split, ey⟩ _ σ3 F3 H3 _ S3 ?_
    have sn := forFl_snoc g (x := xs[k]) ey
    rw [← tk] at sn
    have whole : forFl g xs y0 = forFl g (xs[k] :: xs.drop (k + 1)) y := by
      have z := forFl_append g (xs[k] :: xs.drop (k + 1)) y _ y0 ey
      rw [← split] at z
      exact z
    cases hg : g y xs[k] with
    | nx z =>
      rw [hg] at sn
      exact fun σ4 F4 H4 S4 => ⟨z, F4, sn, S4⟩
    | bk z =>
      have w2 : forFl g xs y0 = .bk z := by
        rw [whole]
        show (match g y xs[k] with | .nx w => forFl g (xs.drop (k + 1)) w | .rt r => .rt r | .bk w => .bk w) = Fl.bk z
        rw [hg]
      rw [w2] at q
      exact fun σ4 F4 H4 S4 => q σ4 F4 H4 (back S4)
    | rt r =>
      have w2 : forFl g xs y0 = .rt r := by
        rw [whole]
        show (match g y xs[k] with | .nx w => forFl g (xs.drop (k + 1)) w | .rt r => .rt r | .bk w => .bk w) = Fl.rt r
        rw [hg]
      rw [w2] at q
      have q' : OutK X.K f D (kr r) := q
      exact OutK.rets (hk r) q'
  · have ek : k = xs.length := by omega
    have ex : xs.take k = xs := List.take_of_length_le (by omega)
    rw [ex] at ey
    rw [ey] at q
    exact .inl ⟨⟨vs, .inl (.inl hsq), by omega⟩, q σ' F' H' (back S')⟩
end
end Ly
namespace Lw
open PySem PySem.Spec PyProof.Rows L2 Ly TL
def top (i : Nat) : Stmt := PySem.Challenge.pw_levelbench_k85_plans_counted.main.body.getD i (.Pass ⟨0, 0, 0, 0⟩)
abbrev FnP (K : PySem.W.Frag) (x : Str) (st : Stmt) (f : Addr) (fd : FuncData) : Prop := FunD K x x (defArgs st) (defBody st) (defScope st) [] [] f fd
abbrev FnM (K : PySem.W.Frag) (x q : Str) (st : Stmt) (f : Addr) (fd : FuncData) : Prop := FunD K x q (defArgs st) (defBody st) (defScope st) [] [] f fd
structure Bn (mg : Str → Option Value) : Prop where
  g_LETTERS : ∃ t, mg "LETTERS" = some (.str "abcdefghijklmnopqrstuvwxyz" t)
  g_MOST_JOBS_few : ∃ t, mg "MOST_JOBS_few" = some (.int 7 t)
  g_MOST_JOBS_jobs : ∃ t, mg "MOST_JOBS_jobs" = some (.int 20 t)
  g_MOST_TURNS : ∃ t, mg "MOST_TURNS" = some (.int 40 t)
  n_all : mg "all" = none
  n_bool : mg "bool" = none
  n_dict : mg "dict" = none
  n_enumerate : mg "enumerate" = none
  n_int : mg "int" = none
  n_isinstance : mg "isinstance" = none
  n_len : mg "len" = none
  n_list : mg "list" = none
  n_max : mg "max" = none
  n_min : mg "min" = none
  n_range : mg "range" = none
  n_set : mg "set" = none
  n_sorted : mg "sorted" = none
  n_str : mg "str" = none
  n_tuple : mg "tuple" = none
section

variable {P : Program} {w : World} {K : PySem.W.Frag} {mg : Str → Option Value} {base : Heap}
/-! law: cell -/
def m_cell (script : Scr) (k : Int) : Int :=
  (bif (decide (k < (script.ns.length : Int))) then (getI script.ns k) else (0 : Int))
def ok_m_cell (script : Scr) (k : Int) : Prop :=
  ((decide (k < (script.ns.length : Int))) = true → (okI script.ns k) ∧ True) ∧ True
abbrev N_m_cell : List Str := (["_law_script", "_law_k"] : List Str)
abbrev st_m_cell : Stmt := top 32
theorem sc_m_cell : FnScope N_m_cell ["_law_script", "_law_k"] (defScope st_m_cell) := ⟨rfl, rfl, rfl, by decide +kernel, rfl, by decide +kernel, by decide +kernel⟩
def G_m_cell (as : List En) (r : En) : Prop := ∃ (script : Scr) (k : Int), ok_m_cell script k ∧ as = [.fz script, .fz k] ∧ r = .fz (m_cell script k)
set_option maxRecDepth 100000 in
theorem w_m_cell (B : Bn mg) (J : JCls K) 
    {f : Addr} {fd : FuncData} (F : FnP K "_law_cell" st_m_cell f fd) : FnOk P w K mg base CX0 1 f fd ["_law_script", "_law_k"] (spP K G_m_cell) := by
  refine fn_pure F sc_m_cell (by decide) (fun as r h => by obtain ⟨script, k, hok, rfl, _⟩ := h; rfl) (fun cdv A outer s H E hr as r h => ?_)
  obtain ⟨script, k, hok, rfl, rfl⟩ := h
  refine ⟨(fun (m : Int) => Out.rt (.fz m)) (m_cell script k), rfl, ?_⟩
  show ES _ [.fz script, .fz k] _ ((fun (m : Int) => Out.rt (.fz m)) (bif (decide (k < (script.ns.length : Int))) then (getI script.ns k) else (0 : Int)))
  have hok : ((decide (k < (script.ns.length : Int))) = true → (okI script.ns k) ∧ True) ∧ True := hok
  exact es_one (s_ret (ps_ret peW) (f_ife (t_lt (r_var (pv 1)) (r_lenScr (by rfl) B.n_len (FJ.rd (f_var (pv 0))))) (fun hc => RJ.sc (r_ixScr (((hok.1) hc).1) (FJ.rd (f_var (pv 0))) (r_var (pv 1)))) (fun hc => RJ.sc (r_int))))
/-! law: purse -/
def m_purse (cell : Int) (k : Int) : Pu :=
  (pipe (((((cell % (2147483629 : Int)) * (48271 : Int)) + ((k * k) * (69623 : Int))) + (11 : Int)) % (2147483647 : Int)) fun (number : Int) =>
  (Pu.mk (if (cell - ((10 : Int) ^ (18 : Int).toNat)) > (0 : Int) then (cell - ((10 : Int) ^ (18 : Int).toNat)) else (0 : Int)) ((number * number) % (2147483629 : Int))))
def ok_m_purse (cell : Int) (k : Int) : Prop :=
  (CMul k k) ∧ (pipe (((((cell % (2147483629 : Int)) * (48271 : Int)) + ((k * k) * (69623 : Int))) + (11 : Int)) % (2147483647 : Int)) fun (number : Int) =>
  (CMul number number) ∧ True)
abbrev N_m_purse : List Str := (["_law_cell_here", "_law_k", "_law_number"] : List Str)
abbrev st_m_purse : Stmt := top 33
theorem sc_m_purse : FnScope N_m_purse ["_law_cell_here", "_law_k"] (defScope st_m_purse) := ⟨rfl, rfl, rfl, by decide +kernel, rfl, by decide +kernel, by decide +kernel⟩
def G_m_purse (as : List En) (r : En) : Prop := ∃ (cell : Int) (k : Int), ok_m_purse cell k ∧ as = [.fz cell, .fz k] ∧ r = .ow (m_purse cell k)
set_option maxRecDepth 100000 in
theorem w_m_purse (B : Bn mg) (J : JCls K) 
    {f : Addr} {fd : FuncData} (F : FnP K "_law_purse" st_m_purse f fd) : FnOk P w K mg base CX0 1 f fd ["_law_cell_here", "_law_k"] (spP K G_m_purse) := by
  refine fn_pure F sc_m_purse (by decide) (fun as r h => by obtain ⟨cell, k, hok, rfl, _⟩ := h; rfl) (fun cdv A outer s H E hr as r h => ?_)
  obtain ⟨cell, k, hok, rfl, rfl⟩ := h
  refine ⟨(fun (m : Pu) => Out.rt (.ow m)) (m_purse cell k), rfl, ?_⟩
  show ES _ [.fz cell, .fz k, .un] _ ((fun (m : Pu) => Out.rt (.ow m)) (pipe (((((cell % (2147483629 : Int)) * (48271 : Int)) + ((k * k) * (69623 : Int))) + (11 : Int)) % (2147483647 : Int)) fun (number : Int) =>
  (Pu.mk (if (cell - ((10 : Int) ^ (18 : Int).toNat)) > (0 : Int) then (cell - ((10 : Int) ^ (18 : Int).toNat)) else (0 : Int)) ((number * number) % (2147483629 : Int)))))
  have hok : (CMul k k) ∧ (pipe (((((cell % (2147483629 : Int)) * (48271 : Int)) + ((k * k) * (69623 : Int))) + (11 : Int)) % (2147483647 : Int)) fun (number : Int) =>
  (CMul number number) ∧ True) := hok
  exact es_cons (s_asg (ps_set (i := 2) sc_m_purse.nd rfl (.inl rfl) peW) (RJ.sc (r_mod (by decide) (r_add (r_add (r_mul (.inr ⟨by decide, by decide⟩) (r_mod (by decide) (r_var (pv 0)) (r_int)) (r_int)) (r_mul (.inr ⟨by decide, by decide⟩) (r_mul (hok.1) (r_var (pv 1)) (r_var (pv 1))) (r_int))) (r_int)) (r_int))))
     (es_gen (k := (fun (m : Pu) => Out.rt (.ow m))) (fun (number : Int) => [.fz cell, .fz k, .fz number]) fun number h =>
     have ok := ok_gen hok.2 h; es_one (s_retN (ps_ret peW) (n_pu (r_max2 (by rfl) (by rfl) B.n_max (r_int) (r_sub (r_var (pv 0)) (r_pow ⟨by decide, by decide, by decide⟩ (r_int) (r_int)))) (r_mod (by decide) (r_mul (ok.1) (r_var (pv 2)) (r_var (pv 2))) (r_int)))))
/-! law: take -/
def m_take (purse : Pu) (many : Int) : (Int × Pu) :=
  (bif (decide (purse.a > (0 : Int))) then (pipe (purse.a % many) fun (digit : Int) =>
  (pipe (Pu.mk (purse.a / many) purse.b) fun (purse_1 : Pu) =>
  (digit, purse_1))) else
  (pipe (Pu.mk purse.a (((purse.b * (39373 : Int)) + (7919 : Int)) % (2147483629 : Int))) fun (purse_2 : Pu) =>
  (((((purse_2.b * purse_2.b) % (2147483563 : Int)) / (11 : Int)) % many), purse_2)))
def ok_m_take (purse : Pu) (many : Int) : Prop :=
  okIf (decide (purse.a > (0 : Int))) ((0 < many) ∧ (pipe (purse.a % many) fun (digit : Int) =>
  (CDivW purse.a many) ∧ True)) ((pipe (Pu.mk purse.a (((purse.b * (39373 : Int)) + (7919 : Int)) % (2147483629 : Int))) fun (purse_2 : Pu) =>
  (CMul purse_2.b purse_2.b) ∧ (0 < many) ∧ True))
abbrev N_m_take : List Str := (["_law_purse_here", "_law_many", "_law_digit"] : List Str)
abbrev st_m_take : Stmt := top 34
theorem sc_m_take : FnScope N_m_take ["_law_purse_here", "_law_many"] (defScope st_m_take) := ⟨rfl, rfl, rfl, by decide +kernel, rfl, by decide +kernel, by decide +kernel⟩
def G_m_take (purse : Pu) (as : List En) (p2 : Pu) (r : En) : Prop := ∃ (many : Int), ok_m_take purse many ∧ as = [.fz many] ∧ r = .fz (m_take purse many).1 ∧ p2 = (m_take purse many).2
set_option maxRecDepth 100000 in
theorem w_m_take (B : Bn mg) (J : JCls K) 
    {f : Addr} {fd : FuncData} (F : FnP K "_law_take" st_m_take f fd) : FnOk P w K mg base CX0 1 f fd ["_law_purse_here", "_law_many"] (spU K G_m_take) := by
  refine fn_lent F sc_m_take (by decide) (fun _ as _ r h => by obtain ⟨many, hok, rfl, _, _⟩ := h; rfl) (fun cdv A outer s H E hr pa purse as p2 r h => ?_)
  obtain ⟨many, hok, rfl, rfl, rfl⟩ := h
  refine ⟨(fun (m : (Int × Pu)) => Out.ru pa owCl m.2 (.fz m.1)) (m_take purse many), .inl rfl, ?_⟩
  refine es_ruO (w := fun (m : Int) => En.fz m) ?_
  show ES _ [.at pa purse, .fz many, .un] _ ((ruO pa owCl (fun (m : Int) => En.fz m)) (bif (decide (purse.a > (0 : Int))) then (pipe (purse.a % many) fun (digit : Int) =>
  (pipe (Pu.mk (purse.a / many) purse.b) fun (purse_1 : Pu) =>
  (digit, purse_1))) else
  (pipe (Pu.mk purse.a (((purse.b * (39373 : Int)) + (7919 : Int)) % (2147483629 : Int))) fun (purse_2 : Pu) =>
  (((((purse_2.b * purse_2.b) % (2147483563 : Int)) / (11 : Int)) % many), purse_2))))
  have hok : okIf (decide (purse.a > (0 : Int))) ((0 < many) ∧ (pipe (purse.a % many) fun (digit : Int) =>
  (CDivW purse.a many) ∧ True)) ((pipe (Pu.mk purse.a (((purse.b * (39373 : Int)) + (7919 : Int)) % (2147483629 : Int))) fun (purse_2 : Pu) =>
  (CMul purse_2.b purse_2.b) ∧ (0 < many) ∧ True)) := hok
  exact es_ifr (k := (ruO pa owCl (fun (m : Int) => En.fz m))) (m1 := (pipe (purse.a % many) fun (digit : Int) =>
     (pipe (Pu.mk (purse.a / many) purse.b) fun (purse_1 : Pu) =>
     (digit, purse_1)))) (TJ.x (t_gt (r_pu0 ((a_var (pv 0)))) (r_int))) (by first | rfl | exact ruO_ends) (fun hb => have ok := hok.1 hb; es_cons (s_asg (ps_set (i := 2) sc_m_take.nd rfl (.inl rfl) peW) (RJ.sc (r_mod (ok.1) (r_pu0 ((a_var (pv 0)))) (r_var (pv 1)))))
     (es_gen (k := (ruO pa owCl (fun (m : Int) => En.fz m))) (fun (digit : Int) => [.at pa purse, .fz many, .fz digit]) fun digit h =>
     have ok_2 := ok_gen ok.2 h; es_cons (s_setPu0 (ps_asg peW (pg_sub (pv 0) pe_int set_list)) (RJ.xs (r_div (ok_2.1) (r_pu0 ((a_var (pv 0)))) (r_var (pv 1)))) rfl (.at _))
     (es_gen (k := (ruO pa owCl (fun (m : Int) => En.fz m))) (fun (purse_1 : Pu) => [.at pa purse_1, .fz many, .fz digit]) fun purse_1 h_1 =>
     es_ru (es_one (u_ret (i := 0) (ps_ret peW) (RJ.xs (r_var (pv 2))))))))
     (fun hb => have ok_1 := hok.2 hb; es_cons (s_setPu1 (ps_asg peW (pg_sub (pv 0) pe_int set_list)) (RJ.xs (r_mod (by decide) (r_add (r_mul (.inr ⟨by decide, by decide⟩) (r_pu1 ((a_var (pv 0)))) (r_int)) (r_int)) (r_int))) rfl (.at _))
     (es_gen (k := (ruO pa owCl (fun (m : Int) => En.fz m))) (fun (purse_2 : Pu) => [.at pa purse_2, .fz many, .un]) fun purse_2 h_2 =>
     have ok_4 := ok_gen ok_1 h_2; es_ru (es_one (u_ret (i := 0) (ps_ret peW) (RJ.xs (r_mod (ok_4.2.1) (r_div ⟨by decide, by decide +kernel⟩ (r_mod (by decide) (r_mul (ok_4.1) (r_pu1 ((a_var (pv 0)))) (r_pu1 ((a_var (pv 0))))) (r_int)) (r_int)) (r_var (pv 1))))))))
/-! law: names -/
def m_names_L2 (letters : Str) (st_1 : (Str × Pu)) (j : Int) : (Str × Pu) :=
  (pipe st_1.1 fun (word_1 : Str) => (pipe st_1.2 fun (purse_2 : Pu) => (pipe (word_1 ++ (chI letters (m_take purse_2 (26 : Int)).1)) fun (word_2 : Str) =>
  (pipe (m_take purse_2 (26 : Int)).2 fun (purse_3 : Pu) =>
  (word_2, purse_3)))))
def m_names_L1 (letters : Str) (st : (Pu × (List Str))) (k : Int) : (Pu × (List Str)) :=
  (pipe st.1 fun (purse_1 : Pu) => (pipe st.2 fun (found_1 : (List Str)) => (pipe ("" : Str) fun (word : Str) =>
  (pipe (List.foldl (m_names_L2 letters) (word, (m_take (m_take purse_1 (2 : Int)).2 (8 : Int)).2) (rangeL 0 ((1 : Int) + ((m_take purse_1 (2 : Int)).1 * (m_take (m_take purse_1 (2 : Int)).2 (8 : Int)).1)))) fun (st_1 : (Str × Pu)) =>
  (pipe st_1.1 fun (word_3 : Str) => (pipe st_1.2 fun (purse_4 : Pu) => (pipe (bif (decide (word_3 ∈ found_1)) then (pipe (getI (given (fun (letter : Str) => (!(decide (letter ∈ found_1)))) (fun (letter : Str) => letter) (signsOf letters)) (0 : Int)) fun (word_4 : Str) =>
  word_4) else word_3) fun (st_2 : Str) =>
  (pipe (found_1 ++ [st_2]) fun (found_2 : (List Str)) =>
  (purse_4, found_2)))))))))
def m_names (purse : Pu) (many : Int) : ((List Str) × Pu) :=
  (pipe ("abcdefghijklmnopqrstuvwxyz" : Str) fun (letters : Str) =>
  (pipe ([] : (List Str)) fun (found : (List Str)) =>
  (pipe (List.foldl (m_names_L1 letters) (purse, found) (rangeL 0 many)) fun (st : (Pu × (List Str))) =>
  (pipe st.1 fun (purse_5 : Pu) => (pipe st.2 fun (found_3 : (List Str)) => (found_3, purse_5))))))
def ok_m_names (purse : Pu) (many : Int) : Prop :=
  (pipe ("abcdefghijklmnopqrstuvwxyz" : Str) fun (letters : Str) =>
  (pipe ([] : (List Str)) fun (found : (List Str)) =>
  (-(2 ^ 62) ≤ many ∧ many < 2 ^ 62) ∧ (∀ (st : (Pu × (List Str))) (k : Int), AtF (m_names_L1 letters) (rangeL 0 many) (purse, found) st k → (pipe st.1 fun (purse_1 : Pu) => (pipe st.2 fun (found_1 : (List Str)) => (pipe ("" : Str) fun (word : Str) =>
  (ok_m_take purse_1 (2 : Int)) ∧ (ok_m_take (m_take purse_1 (2 : Int)).2 (8 : Int)) ∧ (CMul (m_take purse_1 (2 : Int)).1 (m_take (m_take purse_1 (2 : Int)).2 (8 : Int)).1) ∧ (-(2 ^ 62) ≤ ((1 : Int) + ((m_take purse_1 (2 : Int)).1 * (m_take (m_take purse_1 (2 : Int)).2 (8 : Int)).1)) ∧ ((1 : Int) + ((m_take purse_1 (2 : Int)).1 * (m_take (m_take purse_1 (2 : Int)).2 (8 : Int)).1)) < 2 ^ 62) ∧ (∀ (st_1 : (Str × Pu)) (j : Int), AtF (m_names_L2 letters) (rangeL 0 ((1 : Int) + ((m_take purse_1 (2 : Int)).1 * (m_take (m_take purse_1 (2 : Int)).2 (8 : Int)).1))) (word, (m_take (m_take purse_1 (2 : Int)).2 (8 : Int)).2) st_1 j → (pipe st_1.1 fun (word_1 : Str) => (pipe st_1.2 fun (purse_2 : Pu) => (ok_m_take purse_2 (26 : Int)) ∧ (okC letters (m_take purse_2 (26 : Int)).1) ∧ ((word_1 ++ (chI letters (m_take purse_2 (26 : Int)).1)).length ≤ sbig) ∧ True))) ∧
  (pipe (List.foldl (m_names_L2 letters) (word, (m_take (m_take purse_1 (2 : Int)).2 (8 : Int)).2) (rangeL 0 ((1 : Int) + ((m_take purse_1 (2 : Int)).1 * (m_take (m_take purse_1 (2 : Int)).2 (8 : Int)).1)))) fun (st_1 : (Str × Pu)) =>
  (pipe st_1.1 fun (word_3 : Str) => (pipe st_1.2 fun (purse_4 : Pu) => (okIf (decide (word_3 ∈ found_1)) ((okI (given (fun (letter : Str) => (!(decide (letter ∈ found_1)))) (fun (letter : Str) => letter) (signsOf letters)) (0 : Int)) ∧ True) (True)) ∧ (pipe (bif (decide (word_3 ∈ found_1)) then (pipe (getI (given (fun (letter : Str) => (!(decide (letter ∈ found_1)))) (fun (letter : Str) => letter) (signsOf letters)) (0 : Int)) fun (word_4 : Str) =>
  word_4) else word_3) fun (st_2 : Str) =>
  (found_1.length < big) ∧ True)))))))) ∧
  True))
abbrev N_m_names : List Str := (["_law_purse_here", "_law_many", "_law_letters", "_law_found", "_law_k", "_law_word", "_law_j", "_law_letter"] : List Str)
abbrev st_m_names : Stmt := top 35
theorem sc_m_names : FnScope N_m_names ["_law_purse_here", "_law_many"] (defScope st_m_names) := ⟨rfl, rfl, rfl, by decide +kernel, rfl, by decide +kernel, by decide +kernel⟩
def G_m_names (purse : Pu) (as : List En) (p2 : Pu) (r : En) : Prop := ∃ (many : Int), ok_m_names purse many ∧ as = [.fz many] ∧ r = .ow (m_names purse many).1 ∧ p2 = (m_names purse many).2
set_option maxRecDepth 100000 in
theorem w_m_names (B : Bn mg) (J : JCls K) (D_m_take : Df P w K mg base 1 "_law_take" ["_law_purse_here", "_law_many"] (spU K G_m_take))
    {f : Addr} {fd : FuncData} (F : FnP K "_law_names" st_m_names f fd) : FnOk P w K mg base CX0 2 f fd ["_law_purse_here", "_law_many"] (spU K G_m_names) := by
  refine fn_lent F sc_m_names (by decide) (fun _ as _ r h => by obtain ⟨many, hok, rfl, _, _⟩ := h; rfl) (fun cdv A outer s H E hr pa purse as p2 r h => ?_)
  obtain ⟨many, hok, rfl, rfl, rfl⟩ := h
  refine ⟨(fun (m : ((List Str) × Pu)) => Out.ru pa owCl m.2 (.ow m.1)) (m_names purse many), .inl rfl, ?_⟩
  refine es_ruO (w := fun (m : (List Str)) => En.ow m) ?_
  show ES _ [.at pa purse, .fz many, .un, .un, .un, .un, .un, .un] _ ((ruO pa owCl (fun (m : (List Str)) => En.ow m)) (pipe ("abcdefghijklmnopqrstuvwxyz" : Str) fun (letters : Str) =>
  (pipe ([] : (List Str)) fun (found : (List Str)) =>
  (pipe (List.foldl (m_names_L1 letters) (purse, found) (rangeL 0 many)) fun (st : (Pu × (List Str))) =>
  (pipe st.1 fun (purse_5 : Pu) => (pipe st.2 fun (found_3 : (List Str)) => (found_3, purse_5)))))))
  have hok : (pipe ("abcdefghijklmnopqrstuvwxyz" : Str) fun (letters : Str) =>
  (pipe ([] : (List Str)) fun (found : (List Str)) =>
  (-(2 ^ 62) ≤ many ∧ many < 2 ^ 62) ∧ (∀ (st : (Pu × (List Str))) (k : Int), AtF (m_names_L1 letters) (rangeL 0 many) (purse, found) st k → (pipe st.1 fun (purse_1 : Pu) => (pipe st.2 fun (found_1 : (List Str)) => (pipe ("" : Str) fun (word : Str) =>
  (ok_m_take purse_1 (2 : Int)) ∧ (ok_m_take (m_take purse_1 (2 : Int)).2 (8 : Int)) ∧ (CMul (m_take purse_1 (2 : Int)).1 (m_take (m_take purse_1 (2 : Int)).2 (8 : Int)).1) ∧ (-(2 ^ 62) ≤ ((1 : Int) + ((m_take purse_1 (2 : Int)).1 * (m_take (m_take purse_1 (2 : Int)).2 (8 : Int)).1)) ∧ ((1 : Int) + ((m_take purse_1 (2 : Int)).1 * (m_take (m_take purse_1 (2 : Int)).2 (8 : Int)).1)) < 2 ^ 62) ∧ (∀ (st_1 : (Str × Pu)) (j : Int), AtF (m_names_L2 letters) (rangeL 0 ((1 : Int) + ((m_take purse_1 (2 : Int)).1 * (m_take (m_take purse_1 (2 : Int)).2 (8 : Int)).1))) (word, (m_take (m_take purse_1 (2 : Int)).2 (8 : Int)).2) st_1 j → (pipe st_1.1 fun (word_1 : Str) => (pipe st_1.2 fun (purse_2 : Pu) => (ok_m_take purse_2 (26 : Int)) ∧ (okC letters (m_take purse_2 (26 : Int)).1) ∧ ((word_1 ++ (chI letters (m_take purse_2 (26 : Int)).1)).length ≤ sbig) ∧ True))) ∧
  (pipe (List.foldl (m_names_L2 letters) (word, (m_take (m_take purse_1 (2 : Int)).2 (8 : Int)).2) (rangeL 0 ((1 : Int) + ((m_take purse_1 (2 : Int)).1 * (m_take (m_take purse_1 (2 : Int)).2 (8 : Int)).1)))) fun (st_1 : (Str × Pu)) =>
  (pipe st_1.1 fun (word_3 : Str) => (pipe st_1.2 fun (purse_4 : Pu) => (okIf (decide (word_3 ∈ found_1)) ((okI (given (fun (letter : Str) => (!(decide (letter ∈ found_1)))) (fun (letter : Str) => letter) (signsOf letters)) (0 : Int)) ∧ True) (True)) ∧ (pipe (bif (decide (word_3 ∈ found_1)) then (pipe (getI (given (fun (letter : Str) => (!(decide (letter ∈ found_1)))) (fun (letter : Str) => letter) (signsOf letters)) (0 : Int)) fun (word_4 : Str) =>
  word_4) else word_3) fun (st_2 : Str) =>
  (found_1.length < big) ∧ True)))))))) ∧
  True)) := hok
  exact es_cons (s_asg (ps_set (i := 2) sc_m_names.nd rfl (.inl rfl) peW) (RJ.sc (r_str)))
     (es_gen (k := (ruO pa owCl (fun (m : (List Str)) => En.ow m))) (fun (letters : Str) => [.at pa purse, .fz many, .fz letters, .un, .un, .un, .un, .un]) fun letters h =>
     have ok := ok_gen hok h; es_cons (s_asgN (ps_set (i := 3) sc_m_names.nd rfl (.inr rfl) peW) (n_disp (α := Str) (la_nil)))
     (es_gen (k := (ruO pa owCl (fun (m : (List Str)) => En.ow m))) (fun (found : (List Str)) => [.at pa purse, .fz many, .fz letters, .ow found, .un, .un, .un, .un]) fun found h_1 =>
     have ok_1 := ok_gen ok h_1; es_cons (s_forF (tst := PassesOwn.never) (esf := (fun (st : (Pu × (List Str))) => [.at pa st.1, .fz many, .fz letters, .ow st.2, .un, .un, .un, .un])) (est := fun st k => [.at pa st.1, .fz many, .fz letters, .ow st.2, .fz k, .un, .un, .un]) (g := (m_names_L1 letters)) (y0 := (purse, found)) rfl (i_range1 (by rfl) B.n_range (ok_1.1) (RJ.xs (r_var (pv 1)))) (fun st k => g_name (pg_name (i := 4) sc_m_names.nd rfl (.inl rfl)) (Nat.le_of_ble_eq_true rfl))
     (fun st k hat => have ok_2 := ok_1.2.1 st k hat; es_nxO (esf := (fun (st : (Pu × (List Str))) => [.at pa st.1, .fz many, .fz letters, .ow st.2, .un, .un, .un, .un])) (es_gen (k := (nxO (fun (st : (Pu × (List Str))) => [.at pa st.1, .fz many, .fz letters, .ow st.2, .un, .un, .un, .un]))) (fun (purse_1 : Pu) => [.at pa purse_1, .fz many, .fz letters, .ow st.2, .fz k, .un, .un, .un]) fun purse_1 h_2 => have ok_3 := ok_gen ok_2 h_2; es_gen (k := (nxO (fun (st : (Pu × (List Str))) => [.at pa st.1, .fz many, .fz letters, .ow st.2, .un, .un, .un, .un]))) (fun (found_1 : (List Str)) => [.at pa purse_1, .fz many, .fz letters, .ow found_1, .fz k, .un, .un, .un]) fun found_1 h_3 => have ok_4 := ok_gen ok_3 h_3; es_cons (s_asg (ps_set (i := 5) sc_m_names.nd rfl (.inl rfl) peW) (RJ.sc (r_str)))
     (es_gen (k := (nxO (fun (st : (Pu × (List Str))) => [.at pa st.1, .fz many, .fz letters, .ow st.2, .un, .un, .un, .un]))) (fun (word : Str) => [.at pa purse_1, .fz many, .fz letters, .ow found_1, .fz k, .fz word, .un, .un]) fun word h_4 =>
     have ok_5 := ok_gen ok_4 h_4; es_cons (s_forF (tst := PassesOwn.never) (esf := (fun (st_1 : (Str × Pu)) => [.at pa st_1.2, .fz many, .fz letters, .ow found_1, .fz k, .fz st_1.1, .un, .un])) (est := fun st_1 j => [.at pa st_1.2, .fz many, .fz letters, .ow found_1, .fz k, .fz st_1.1, .fz j, .un]) (g := (m_names_L2 letters)) (y0 := (word, (m_take (m_take purse_1 (2 : Int)).2 (8 : Int)).2)) rfl (i_range1 (by rfl) B.n_range (ok_5.2.2.2.1) (x_add (RJ.xs (r_int)) (x_mul (ok_5.2.2.1) (xU D_m_take (hr.mono (by decide)) (pv 0) (xa_cons (RJ.xs (r_int)) (xa_nil)) (.at _) rfl (.at _) rfl (⟨_, (ok_5.1), rfl, rfl, rfl⟩)) (xU D_m_take (hr.mono (by decide)) (pv 0) (xa_cons (RJ.xs (r_int)) (xa_nil)) (.at _) rfl (.at _) rfl (⟨_, (ok_5.2.1), rfl, rfl, rfl⟩))))) (fun st_1 j => g_name (pg_name (i := 6) sc_m_names.nd rfl (.inl rfl)) (Nat.le_of_ble_eq_true rfl))
     (fun st_1 j hat_1 => have ok_6 := ok_5.2.2.2.2.1 st_1 j hat_1; es_nxO (esf := (fun (st_1 : (Str × Pu)) => [.at pa st_1.2, .fz many, .fz letters, .ow found_1, .fz k, .fz st_1.1, .un, .un])) (es_gen (k := (nxO (fun (st_1 : (Str × Pu)) => [.at pa st_1.2, .fz many, .fz letters, .ow found_1, .fz k, .fz st_1.1, .un, .un]))) (fun (word_1 : Str) => [.at pa st_1.2, .fz many, .fz letters, .ow found_1, .fz k, .fz word_1, .fz j, .un]) fun word_1 h_5 => have ok_7 := ok_gen ok_6 h_5; es_gen (k := (nxO (fun (st_1 : (Str × Pu)) => [.at pa st_1.2, .fz many, .fz letters, .ow found_1, .fz k, .fz st_1.1, .un, .un]))) (fun (purse_2 : Pu) => [.at pa purse_2, .fz many, .fz letters, .ow found_1, .fz k, .fz word_1, .fz j, .un]) fun purse_2 h_6 => have ok_8 := ok_gen ok_7 h_6; es_cons (s_asgX (ps_set (i := 5) sc_m_names.nd rfl (.inl rfl) peW) (x_cat (ok_8.2.2.1) (RJ.xs (r_var (pv 5))) (x_ixS (ok_8.2.1) (RJ.xs (r_var (pv 2))) (xU D_m_take (hr.mono (by decide)) (pv 0) (xa_cons (RJ.xs (r_int)) (xa_nil)) (.at _) rfl (.at _) rfl (⟨_, (ok_8.1), rfl, rfl, rfl⟩)))))
     (es_gen (k := (nxO (fun (st_1 : (Str × Pu)) => [.at pa st_1.2, .fz many, .fz letters, .ow found_1, .fz k, .fz st_1.1, .un, .un]))) (fun (word_2 : Str) => [.at pa (m_take purse_2 (26 : Int)).2, .fz many, .fz letters, .ow found_1, .fz k, .fz word_2, .fz j, .un]) fun word_2 h_7 =>
     es_gen (k := (nxO (fun (st_1 : (Str × Pu)) => [.at pa st_1.2, .fz many, .fz letters, .ow found_1, .fz k, .fz st_1.1, .un, .un]))) (fun (purse_3 : Pu) => [.at pa purse_3, .fz many, .fz letters, .ow found_1, .fz k, .fz word_2, .fz j, .un]) fun purse_3 h_8 =>
     es_nilO ⟨.inr rfl, .inr rfl, .inr rfl, .inr rfl, .inr rfl, .inr rfl, .inl rfl, .inl rfl, trivial⟩))))
     (es_gen (k := (nxO (fun (st : (Pu × (List Str))) => [.at pa st.1, .fz many, .fz letters, .ow st.2, .un, .un, .un, .un]))) (fun (st_1 : (Str × Pu)) => [.at pa st_1.2, .fz many, .fz letters, .ow found_1, .fz k, .fz st_1.1, .un, .un]) fun st_1 h_9 =>
     have ok_11 := ok_gen ok_5.2.2.2.2.2 h_9; es_gen (k := (nxO (fun (st : (Pu × (List Str))) => [.at pa st.1, .fz many, .fz letters, .ow st.2, .un, .un, .un, .un]))) (fun (word_3 : Str) => [.at pa st_1.2, .fz many, .fz letters, .ow found_1, .fz k, .fz word_3, .un, .un]) fun word_3 h_10 => have ok_12 := ok_gen ok_11 h_10; es_gen (k := (nxO (fun (st : (Pu × (List Str))) => [.at pa st.1, .fz many, .fz letters, .ow st.2, .un, .un, .un, .un]))) (fun (purse_4 : Pu) => [.at pa purse_4, .fz many, .fz letters, .ow found_1, .fz k, .fz word_3, .un, .un]) fun purse_4 h_11 => have ok_13 := ok_gen ok_12 h_11; es_cons (s_ifeO (m1 := (pipe (getI (given (fun (letter : Str) => (!(decide (letter ∈ found_1)))) (fun (letter : Str) => letter) (signsOf letters)) (0 : Int)) fun (word_4 : Str) =>
     word_4)) (m2 := word_3) (fun (st_2 : Str) => [.at pa purse_4, .fz many, .fz letters, .ow found_1, .fz k, .fz st_2, .un, .un]) (TJ.x (t_in (r_var (pv 5)) ((o_var (pv 3))))) (fun hb => have ok_14 := (ok_13.1).1 hb; es_cons (s_asg (ps_set (i := 5) sc_m_names.nd rfl (.inl rfl) peW) (f_ix (ok_14.1) (NJ.frz ((rd_lc (vs := [7]) (est := fun letter => [.at pa purse_4, .fz many, .fz letters, .ow found_1, .fz k, .fz word_3, .un, .fz letter]) (p := fun (letter : Str) => (!(decide (letter ∈ found_1)))) (g := fun (letter : Str) => letter) (h_str (r_var (pv 2))) rfl (fun _ _ _ _ _ letter => ct_name (pg_name (i := 7) sc_m_names.nd rfl (Or.inl rfl)) (by decide) (Nat.le_of_ble_eq_true rfl)) (fun _ _ _ _ _ letter hx => if_one (t_nin (r_var (pv 7)) ((o_var (pv 3))))) (fun _ _ _ _ _ letter hx hp => RJ.sc (r_var (pv 7)))).nj (pe_lcW (own := [("_law_letter", 7)]) rfl sc_m_names.nd (blkOk_by (N := N_m_names) (sc := defScope st_m_names) (by decide +kernel))))) (r_int)))
     (es_gen (k := (nxO (fun (st_2 : Str) => [.at pa purse_4, .fz many, .fz letters, .ow found_1, .fz k, .fz st_2, .un, .un]))) (fun (word_4 : Str) => [.at pa purse_4, .fz many, .fz letters, .ow found_1, .fz k, .fz word_4, .un, .un]) fun word_4 h_12 =>
     es_nilO ⟨.inr rfl, .inr rfl, .inr rfl, .inr rfl, .inr rfl, .inr rfl, .inl rfl, .inl rfl, trivial⟩)) (fun hb => es_nilO ⟨.inr rfl, .inr rfl, .inr rfl, .inr rfl, .inr rfl, .inr rfl, .inl rfl, .inl rfl, trivial⟩))
     (es_gen (k := (nxO (fun (st : (Pu × (List Str))) => [.at pa st.1, .fz many, .fz letters, .ow st.2, .un, .un, .un, .un]))) (fun (st_2 : Str) => [.at pa purse_4, .fz many, .fz letters, .ow found_1, .fz k, .fz st_2, .un, .un]) fun st_2 h_13 =>
     have ok_17 := ok_gen ok_13.2 h_13; es_cons (s_app (α := Str) (ps_expr (pe_bm PySem.F.plainAttrs_list PySem.F.slot_list_append PySem.F.type_list_append mt_append (pv 3) (pa_cons peW pa_nil))) (RJ.xs (r_var (pv 5))) ⟨_, _, rfl, .ow⟩ rfl .ow (ok_17.1))
     (es_gen (k := (nxO (fun (st : (Pu × (List Str))) => [.at pa st.1, .fz many, .fz letters, .ow st.2, .un, .un, .un, .un]))) (fun (found_2 : (List Str)) => [.at pa purse_4, .fz many, .fz letters, .ow found_2, .fz k, .fz st_2, .un, .un]) fun found_2 h_14 =>
     es_nilO ⟨.inr rfl, .inr rfl, .inr rfl, .inr rfl, .inl rfl, .inl rfl, .inl rfl, .inl rfl, trivial⟩)))))))
     (es_gen (k := (ruO pa owCl (fun (m : (List Str)) => En.ow m))) (fun (st : (Pu × (List Str))) => [.at pa st.1, .fz many, .fz letters, .ow st.2, .un, .un, .un, .un]) fun st h_15 =>
     es_gen (k := (ruO pa owCl (fun (m : (List Str)) => En.ow m))) (fun (purse_5 : Pu) => [.at pa purse_5, .fz many, .fz letters, .ow st.2, .un, .un, .un, .un]) fun purse_5 h_16 => es_gen (k := (ruO pa owCl (fun (m : (List Str)) => En.ow m))) (fun (found_3 : (List Str)) => [.at pa purse_5, .fz many, .fz letters, .ow found_3, .un, .un, .un, .un]) fun found_3 h_17 => es_ru (es_one (u_retO (i := 0) (ps_ret peW) (pv 3))))))
/-! law: pairs -/
def m_pairs_L2 (way : Int) (thin : Int) (j : Int) (st_3 : ((List (Int × Int)) × Pu)) (i : Int) : ((List (Int × Int)) × Pu) :=
  (pipe st_3.1 fun (pairs_6 : (List (Int × Int))) => (pipe st_3.2 fun (purse_6 : Pu) => (pipe ((!(decide (way = (3 : Int)))) || (decide (((i / thin) + (1 : Int)) = (j / thin)))) fun (near : Bool) =>
  (bif (near && (decide ((decide ((m_take purse_6 thin).1 = (0 : Int))) = (!(decide (way = (3 : Int))))))) then (pipe (pairs_6 ++ [(i, j)]) fun (pairs_7 : (List (Int × Int))) =>
  (pairs_7, (bif near then (m_take purse_6 thin).2 else purse_6))) else
  (pairs_6, (bif near then (m_take purse_6 thin).2 else purse_6))))))
def m_pairs_L1 (many : Int) (way : Int) (thin : Int) (st : (Pu × (List (Int × Int)))) (j : Int) : (Pu × (List (Int × Int))) :=
  (pipe st.1 fun (purse_1 : Pu) => (pipe st.2 fun (pairs_1 : (List (Int × Int))) => (pipe (0 : Int) fun (far : Int) =>
  (pipe (bif (decide (way = (1 : Int))) then (pipe (m_take purse_1 ((many - j) + (1 : Int))).1 fun (far_1 : Int) =>
  (pipe (m_take purse_1 ((many - j) + (1 : Int))).2 fun (purse_2 : Pu) =>
  (pipe (pairs_1 ++ (lrep ([((j - (1 : Int)), ((j - (1 : Int)) + far_1))] : (List (Int × Int))) (if (decide (far_1 > (0 : Int))) then (1 : Int) else 0))) fun (pairs_2 : (List (Int × Int))) =>
  (far_1, purse_2, pairs_2)))) else (far, purse_1, pairs_1)) fun (st_1 : (Int × Pu × (List (Int × Int)))) =>
  (pipe st_1.1 fun (far_2 : Int) => (pipe st_1.2.1 fun (purse_3 : Pu) => (pipe st_1.2.2 fun (pairs_3 : (List (Int × Int))) => (pipe (bif (decide (way = (2 : Int))) then (pipe (m_take purse_3 (j + (1 : Int))).1 fun (far_3 : Int) =>
  (pipe (m_take purse_3 (j + (1 : Int))).2 fun (purse_4 : Pu) =>
  (pipe (pairs_3 ++ (lrep ([((j - far_3), j)] : (List (Int × Int))) (if (decide (far_3 > (0 : Int))) then (1 : Int) else 0))) fun (pairs_4 : (List (Int × Int))) =>
  (far_3, purse_4, pairs_4)))) else (far_2, purse_3, pairs_3)) fun (st_2 : (Int × Pu × (List (Int × Int)))) =>
  (pipe st_2.1 fun (far_4 : Int) => (pipe st_2.2.1 fun (purse_5 : Pu) => (pipe st_2.2.2 fun (pairs_5 : (List (Int × Int))) => (pipe (List.foldl (m_pairs_L2 way thin j) (pairs_5, purse_5) (rangeL 0 (j * (if (!(decide (way ∈ ([(1 : Int), (2 : Int)] : (List Int))))) then (1 : Int) else 0)))) fun (st_3 : ((List (Int × Int)) × Pu)) =>
  (pipe st_3.1 fun (pairs_8 : (List (Int × Int))) => (pipe st_3.2 fun (purse_7 : Pu) => (purse_7, pairs_8)))))))))))))))
def m_pairs (purse : Pu) (many : Int) (way : Int) (thin : Int) : ((List (Int × Int)) × Pu) :=
  (pipe ([] : (List (Int × Int))) fun (pairs : (List (Int × Int))) =>
  (pipe (List.foldl (m_pairs_L1 many way thin) (purse, pairs) (rangeL (1 : Int) many)) fun (st : (Pu × (List (Int × Int)))) =>
  (pipe st.1 fun (purse_8 : Pu) => (pipe st.2 fun (pairs_9 : (List (Int × Int))) => (pairs_9, purse_8)))))
def ok_m_pairs (purse : Pu) (many : Int) (way : Int) (thin : Int) : Prop :=
  (pipe ([] : (List (Int × Int))) fun (pairs : (List (Int × Int))) =>
  (-(2 ^ 62) ≤ (1 : Int) ∧ (1 : Int) < 2 ^ 62 ∧ -(2 ^ 62) ≤ many ∧ many < 2 ^ 62) ∧ (∀ (st : (Pu × (List (Int × Int)))) (j : Int), AtF (m_pairs_L1 many way thin) (rangeL (1 : Int) many) (purse, pairs) st j → (pipe st.1 fun (purse_1 : Pu) => (pipe st.2 fun (pairs_1 : (List (Int × Int))) => (pipe (0 : Int) fun (far : Int) =>
  (okIf (decide (way = (1 : Int))) ((ok_m_take purse_1 ((many - j) + (1 : Int))) ∧ (pipe (m_take purse_1 ((many - j) + (1 : Int))).1 fun (far_1 : Int) =>
  (pipe (m_take purse_1 ((many - j) + (1 : Int))).2 fun (purse_2 : Pu) =>
  (-(2 ^ 63) ≤ (if (decide (far_1 > (0 : Int))) then (1 : Int) else 0) ∧ (if (decide (far_1 > (0 : Int))) then (1 : Int) else 0) < 2 ^ 63) ∧ (([((j - (1 : Int)), ((j - (1 : Int)) + far_1))] : (List (Int × Int))).length * ((if (decide (far_1 > (0 : Int))) then (1 : Int) else 0)).toNat ≤ big) ∧ ((pairs_1 ++ (lrep ([((j - (1 : Int)), ((j - (1 : Int)) + far_1))] : (List (Int × Int))) (if (decide (far_1 > (0 : Int))) then (1 : Int) else 0))).length ≤ big) ∧ True))) (True)) ∧ (pipe (bif (decide (way = (1 : Int))) then (pipe (m_take purse_1 ((many - j) + (1 : Int))).1 fun (far_1 : Int) =>
  (pipe (m_take purse_1 ((many - j) + (1 : Int))).2 fun (purse_2 : Pu) =>
  (pipe (pairs_1 ++ (lrep ([((j - (1 : Int)), ((j - (1 : Int)) + far_1))] : (List (Int × Int))) (if (decide (far_1 > (0 : Int))) then (1 : Int) else 0))) fun (pairs_2 : (List (Int × Int))) =>
  (far_1, purse_2, pairs_2)))) else (far, purse_1, pairs_1)) fun (st_1 : (Int × Pu × (List (Int × Int)))) =>
  (pipe st_1.1 fun (far_2 : Int) => (pipe st_1.2.1 fun (purse_3 : Pu) => (pipe st_1.2.2 fun (pairs_3 : (List (Int × Int))) => (okIf (decide (way = (2 : Int))) ((ok_m_take purse_3 (j + (1 : Int))) ∧ (pipe (m_take purse_3 (j + (1 : Int))).1 fun (far_3 : Int) =>
  (pipe (m_take purse_3 (j + (1 : Int))).2 fun (purse_4 : Pu) =>
  (-(2 ^ 63) ≤ (if (decide (far_3 > (0 : Int))) then (1 : Int) else 0) ∧ (if (decide (far_3 > (0 : Int))) then (1 : Int) else 0) < 2 ^ 63) ∧ (([((j - far_3), j)] : (List (Int × Int))).length * ((if (decide (far_3 > (0 : Int))) then (1 : Int) else 0)).toNat ≤ big) ∧ ((pairs_3 ++ (lrep ([((j - far_3), j)] : (List (Int × Int))) (if (decide (far_3 > (0 : Int))) then (1 : Int) else 0))).length ≤ big) ∧ True))) (True)) ∧ (pipe (bif (decide (way = (2 : Int))) then (pipe (m_take purse_3 (j + (1 : Int))).1 fun (far_3 : Int) =>
  (pipe (m_take purse_3 (j + (1 : Int))).2 fun (purse_4 : Pu) =>
  (pipe (pairs_3 ++ (lrep ([((j - far_3), j)] : (List (Int × Int))) (if (decide (far_3 > (0 : Int))) then (1 : Int) else 0))) fun (pairs_4 : (List (Int × Int))) =>
  (far_3, purse_4, pairs_4)))) else (far_2, purse_3, pairs_3)) fun (st_2 : (Int × Pu × (List (Int × Int)))) =>
  (pipe st_2.1 fun (far_4 : Int) => (pipe st_2.2.1 fun (purse_5 : Pu) => (pipe st_2.2.2 fun (pairs_5 : (List (Int × Int))) => (CMul j (if (!(decide (way ∈ ([(1 : Int), (2 : Int)] : (List Int))))) then (1 : Int) else 0)) ∧ (-(2 ^ 62) ≤ (j * (if (!(decide (way ∈ ([(1 : Int), (2 : Int)] : (List Int))))) then (1 : Int) else 0)) ∧ (j * (if (!(decide (way ∈ ([(1 : Int), (2 : Int)] : (List Int))))) then (1 : Int) else 0)) < 2 ^ 62) ∧ (∀ (st_3 : ((List (Int × Int)) × Pu)) (i : Int), AtF (m_pairs_L2 way thin j) (rangeL 0 (j * (if (!(decide (way ∈ ([(1 : Int), (2 : Int)] : (List Int))))) then (1 : Int) else 0))) (pairs_5, purse_5) st_3 i → (pipe st_3.1 fun (pairs_6 : (List (Int × Int))) => (pipe st_3.2 fun (purse_6 : Pu) => ((!(decide (way = (3 : Int)))) = false → (CDivW i thin) ∧ (CDivW j thin) ∧ True) ∧ (pipe ((!(decide (way = (3 : Int)))) || (decide (((i / thin) + (1 : Int)) = (j / thin)))) fun (near : Bool) =>
  (near = true → (ok_m_take purse_6 thin) ∧ True) ∧ okIf (near && (decide ((decide ((m_take purse_6 thin).1 = (0 : Int))) = (!(decide (way = (3 : Int))))))) ((pairs_6.length < big) ∧ True) (True))))) ∧
  True)))))))))))) ∧
  True)
abbrev N_m_pairs : List Str := (["_law_purse_here", "_law_many", "_law_way", "_law_thin", "_law_pairs_here", "_law_j", "_law_far", "_law_i", "_law_near"] : List Str)
abbrev st_m_pairs : Stmt := top 36
theorem sc_m_pairs : FnScope N_m_pairs ["_law_purse_here", "_law_many", "_law_way", "_law_thin"] (defScope st_m_pairs) := ⟨rfl, rfl, rfl, by decide +kernel, rfl, by decide +kernel, by decide +kernel⟩
def G_m_pairs (purse : Pu) (as : List En) (p2 : Pu) (r : En) : Prop := ∃ (many : Int) (way : Int) (thin : Int), ok_m_pairs purse many way thin ∧ as = [.fz many, .fz way, .fz thin] ∧ r = .ow (m_pairs purse many way thin).1 ∧ p2 = (m_pairs purse many way thin).2
set_option maxRecDepth 100000 in
theorem w_m_pairs (B : Bn mg) (J : JCls K) (D_m_take : Df P w K mg base 1 "_law_take" ["_law_purse_here", "_law_many"] (spU K G_m_take))
    {f : Addr} {fd : FuncData} (F : FnP K "_law_pairs" st_m_pairs f fd) : FnOk P w K mg base CX0 2 f fd ["_law_purse_here", "_law_many", "_law_way", "_law_thin"] (spU K G_m_pairs) := by
  refine fn_lent F sc_m_pairs (by decide) (fun _ as _ r h => by obtain ⟨many, way, thin, hok, rfl, _, _⟩ := h; rfl) (fun cdv A outer s H E hr pa purse as p2 r h => ?_)
  obtain ⟨many, way, thin, hok, rfl, rfl, rfl⟩ := h
  refine ⟨(fun (m : ((List (Int × Int)) × Pu)) => Out.ru pa owCl m.2 (.ow m.1)) (m_pairs purse many way thin), .inl rfl, ?_⟩
  refine es_ruO (w := fun (m : (List (Int × Int))) => En.ow m) ?_
  show ES _ [.at pa purse, .fz many, .fz way, .fz thin, .un, .un, .un, .un, .un] _ ((ruO pa owCl (fun (m : (List (Int × Int))) => En.ow m)) (pipe ([] : (List (Int × Int))) fun (pairs : (List (Int × Int))) =>
  (pipe (List.foldl (m_pairs_L1 many way thin) (purse, pairs) (rangeL (1 : Int) many)) fun (st : (Pu × (List (Int × Int)))) =>
  (pipe st.1 fun (purse_8 : Pu) => (pipe st.2 fun (pairs_9 : (List (Int × Int))) => (pairs_9, purse_8))))))
  have hok : (pipe ([] : (List (Int × Int))) fun (pairs : (List (Int × Int))) =>
  (-(2 ^ 62) ≤ (1 : Int) ∧ (1 : Int) < 2 ^ 62 ∧ -(2 ^ 62) ≤ many ∧ many < 2 ^ 62) ∧ (∀ (st : (Pu × (List (Int × Int)))) (j : Int), AtF (m_pairs_L1 many way thin) (rangeL (1 : Int) many) (purse, pairs) st j → (pipe st.1 fun (purse_1 : Pu) => (pipe st.2 fun (pairs_1 : (List (Int × Int))) => (pipe (0 : Int) fun (far : Int) =>
  (okIf (decide (way = (1 : Int))) ((ok_m_take purse_1 ((many - j) + (1 : Int))) ∧ (pipe (m_take purse_1 ((many - j) + (1 : Int))).1 fun (far_1 : Int) =>
  (pipe (m_take purse_1 ((many - j) + (1 : Int))).2 fun (purse_2 : Pu) =>
  (-(2 ^ 63) ≤ (if (decide (far_1 > (0 : Int))) then (1 : Int) else 0) ∧ (if (decide (far_1 > (0 : Int))) then (1 : Int) else 0) < 2 ^ 63) ∧ (([((j - (1 : Int)), ((j - (1 : Int)) + far_1))] : (List (Int × Int))).length * ((if (decide (far_1 > (0 : Int))) then (1 : Int) else 0)).toNat ≤ big) ∧ ((pairs_1 ++ (lrep ([((j - (1 : Int)), ((j - (1 : Int)) + far_1))] : (List (Int × Int))) (if (decide (far_1 > (0 : Int))) then (1 : Int) else 0))).length ≤ big) ∧ True))) (True)) ∧ (pipe (bif (decide (way = (1 : Int))) then (pipe (m_take purse_1 ((many - j) + (1 : Int))).1 fun (far_1 : Int) =>
  (pipe (m_take purse_1 ((many - j) + (1 : Int))).2 fun (purse_2 : Pu) =>
  (pipe (pairs_1 ++ (lrep ([((j - (1 : Int)), ((j - (1 : Int)) + far_1))] : (List (Int × Int))) (if (decide (far_1 > (0 : Int))) then (1 : Int) else 0))) fun (pairs_2 : (List (Int × Int))) =>
  (far_1, purse_2, pairs_2)))) else (far, purse_1, pairs_1)) fun (st_1 : (Int × Pu × (List (Int × Int)))) =>
  (pipe st_1.1 fun (far_2 : Int) => (pipe st_1.2.1 fun (purse_3 : Pu) => (pipe st_1.2.2 fun (pairs_3 : (List (Int × Int))) => (okIf (decide (way = (2 : Int))) ((ok_m_take purse_3 (j + (1 : Int))) ∧ (pipe (m_take purse_3 (j + (1 : Int))).1 fun (far_3 : Int) =>
  (pipe (m_take purse_3 (j + (1 : Int))).2 fun (purse_4 : Pu) =>
  (-(2 ^ 63) ≤ (if (decide (far_3 > (0 : Int))) then (1 : Int) else 0) ∧ (if (decide (far_3 > (0 : Int))) then (1 : Int) else 0) < 2 ^ 63) ∧ (([((j - far_3), j)] : (List (Int × Int))).length * ((if (decide (far_3 > (0 : Int))) then (1 : Int) else 0)).toNat ≤ big) ∧ ((pairs_3 ++ (lrep ([((j - far_3), j)] : (List (Int × Int))) (if (decide (far_3 > (0 : Int))) then (1 : Int) else 0))).length ≤ big) ∧ True))) (True)) ∧ (pipe (bif (decide (way = (2 : Int))) then (pipe (m_take purse_3 (j + (1 : Int))).1 fun (far_3 : Int) =>
  (pipe (m_take purse_3 (j + (1 : Int))).2 fun (purse_4 : Pu) =>
  (pipe (pairs_3 ++ (lrep ([((j - far_3), j)] : (List (Int × Int))) (if (decide (far_3 > (0 : Int))) then (1 : Int) else 0))) fun (pairs_4 : (List (Int × Int))) =>
  (far_3, purse_4, pairs_4)))) else (far_2, purse_3, pairs_3)) fun (st_2 : (Int × Pu × (List (Int × Int)))) =>
  (pipe st_2.1 fun (far_4 : Int) => (pipe st_2.2.1 fun (purse_5 : Pu) => (pipe st_2.2.2 fun (pairs_5 : (List (Int × Int))) => (CMul j (if (!(decide (way ∈ ([(1 : Int), (2 : Int)] : (List Int))))) then (1 : Int) else 0)) ∧ (-(2 ^ 62) ≤ (j * (if (!(decide (way ∈ ([(1 : Int), (2 : Int)] : (List Int))))) then (1 : Int) else 0)) ∧ (j * (if (!(decide (way ∈ ([(1 : Int), (2 : Int)] : (List Int))))) then (1 : Int) else 0)) < 2 ^ 62) ∧ (∀ (st_3 : ((List (Int × Int)) × Pu)) (i : Int), AtF (m_pairs_L2 way thin j) (rangeL 0 (j * (if (!(decide (way ∈ ([(1 : Int), (2 : Int)] : (List Int))))) then (1 : Int) else 0))) (pairs_5, purse_5) st_3 i → (pipe st_3.1 fun (pairs_6 : (List (Int × Int))) => (pipe st_3.2 fun (purse_6 : Pu) => ((!(decide (way = (3 : Int)))) = false → (CDivW i thin) ∧ (CDivW j thin) ∧ True) ∧ (pipe ((!(decide (way = (3 : Int)))) || (decide (((i / thin) + (1 : Int)) = (j / thin)))) fun (near : Bool) =>
  (near = true → (ok_m_take purse_6 thin) ∧ True) ∧ okIf (near && (decide ((decide ((m_take purse_6 thin).1 = (0 : Int))) = (!(decide (way = (3 : Int))))))) ((pairs_6.length < big) ∧ True) (True))))) ∧
  True)))))))))))) ∧
  True) := hok
  exact es_cons (s_asgN (ps_set (i := 4) sc_m_pairs.nd rfl (.inl rfl) peW) (n_disp (α := (Int × Int)) (la_nil)))
     (es_gen (k := (ruO pa owCl (fun (m : (List (Int × Int))) => En.ow m))) (fun (pairs : (List (Int × Int))) => [.at pa purse, .fz many, .fz way, .fz thin, .ow pairs, .un, .un, .un, .un]) fun pairs h =>
     have ok := ok_gen hok h; es_cons (s_forF (tst := PassesOwn.never) (esf := (fun (st : (Pu × (List (Int × Int)))) => [.at pa st.1, .fz many, .fz way, .fz thin, .ow st.2, .un, .un, .un, .un])) (est := fun st j => [.at pa st.1, .fz many, .fz way, .fz thin, .ow st.2, .fz j, .un, .un, .un]) (g := (m_pairs_L1 many way thin)) (y0 := (purse, pairs)) rfl (i_range2 (by rfl) B.n_range (ok.1) (RJ.xs (r_int)) (RJ.xs (r_var (pv 1)))) (fun st j => g_name (pg_name (i := 5) sc_m_pairs.nd rfl (.inl rfl)) (Nat.le_of_ble_eq_true rfl))
     (fun st j hat => have ok_1 := ok.2.1 st j hat; es_nxO (esf := (fun (st : (Pu × (List (Int × Int)))) => [.at pa st.1, .fz many, .fz way, .fz thin, .ow st.2, .un, .un, .un, .un])) (es_gen (k := (nxO (fun (st : (Pu × (List (Int × Int)))) => [.at pa st.1, .fz many, .fz way, .fz thin, .ow st.2, .un, .un, .un, .un]))) (fun (purse_1 : Pu) => [.at pa purse_1, .fz many, .fz way, .fz thin, .ow st.2, .fz j, .un, .un, .un]) fun purse_1 h_1 => have ok_2 := ok_gen ok_1 h_1; es_gen (k := (nxO (fun (st : (Pu × (List (Int × Int)))) => [.at pa st.1, .fz many, .fz way, .fz thin, .ow st.2, .un, .un, .un, .un]))) (fun (pairs_1 : (List (Int × Int))) => [.at pa purse_1, .fz many, .fz way, .fz thin, .ow pairs_1, .fz j, .un, .un, .un]) fun pairs_1 h_2 => have ok_3 := ok_gen ok_2 h_2; es_cons (s_asg (ps_set (i := 6) sc_m_pairs.nd rfl (.inl rfl) peW) (RJ.sc (r_int)))
     (es_gen (k := (nxO (fun (st : (Pu × (List (Int × Int)))) => [.at pa st.1, .fz many, .fz way, .fz thin, .ow st.2, .un, .un, .un, .un]))) (fun (far : Int) => [.at pa purse_1, .fz many, .fz way, .fz thin, .ow pairs_1, .fz j, .fz far, .un, .un]) fun far h_3 =>
     have ok_4 := ok_gen ok_3 h_3; es_cons (s_ifeO (m1 := (pipe (m_take purse_1 ((many - j) + (1 : Int))).1 fun (far_1 : Int) =>
     (pipe (m_take purse_1 ((many - j) + (1 : Int))).2 fun (purse_2 : Pu) =>
     (pipe (pairs_1 ++ (lrep ([((j - (1 : Int)), ((j - (1 : Int)) + far_1))] : (List (Int × Int))) (if (decide (far_1 > (0 : Int))) then (1 : Int) else 0))) fun (pairs_2 : (List (Int × Int))) =>
     (far_1, purse_2, pairs_2))))) (m2 := (far, purse_1, pairs_1)) (fun (st_1 : (Int × Pu × (List (Int × Int)))) => [.at pa st_1.2.1, .fz many, .fz way, .fz thin, .ow st_1.2.2, .fz j, .fz st_1.1, .un, .un]) (TJ.x (t_eq (r_var (pv 2)) (r_int))) (fun hb => have ok_5 := (ok_4.1).1 hb; es_cons (s_asgX (ps_set (i := 6) sc_m_pairs.nd rfl (.inl rfl) peW) (xU D_m_take (hr.mono (by decide)) (pv 0) (xa_cons (RJ.xs (r_add (r_sub (r_var (pv 1)) (r_var (pv 5))) (r_int))) (xa_nil)) (.at _) rfl (.at _) rfl (⟨_, (ok_5.1), rfl, rfl, rfl⟩)))
     (es_gen (k := (nxO (fun (st_1 : (Int × Pu × (List (Int × Int)))) => [.at pa st_1.2.1, .fz many, .fz way, .fz thin, .ow st_1.2.2, .fz j, .fz st_1.1, .un, .un]))) (fun (far_1 : Int) => [.at pa (m_take purse_1 ((many - j) + (1 : Int))).2, .fz many, .fz way, .fz thin, .ow pairs_1, .fz j, .fz far_1, .un, .un]) fun far_1 h_4 =>
     have ok_7 := ok_gen ok_5.2 h_4; es_gen (k := (nxO (fun (st_1 : (Int × Pu × (List (Int × Int)))) => [.at pa st_1.2.1, .fz many, .fz way, .fz thin, .ow st_1.2.2, .fz j, .fz st_1.1, .un, .un]))) (fun (purse_2 : Pu) => [.at pa purse_2, .fz many, .fz way, .fz thin, .ow pairs_1, .fz j, .fz far_1, .un, .un]) fun purse_2 h_5 =>
     have ok_8 := ok_gen ok_7 h_5; es_cons (s_ext (α := (Int × Int)) (ps_expr (pe_bm PySem.F.plainAttrs_list PySem.F.slot_list_extend PySem.F.type_list_extend mt_extend (pv 4) (pa_cons peW pa_nil))) ((n_lrep (ok_8.1) (ok_8.2.1) ((n_disp (α := (Int × Int)) (la_cons (f_tup2 (RJ.sc (r_sub (r_var (pv 5)) (r_int))) (RJ.sc (r_add (r_sub (r_var (pv 5)) (r_int)) (r_var (pv 6))))) (la_nil))).lr) (r_intB (by rfl) B.n_int (r_gt (r_var (pv 6)) (r_int)))).lr) ⟨_, _, rfl, .ow⟩ rfl .ow (ok_8.2.2.1))
     (es_gen (k := (nxO (fun (st_1 : (Int × Pu × (List (Int × Int)))) => [.at pa st_1.2.1, .fz many, .fz way, .fz thin, .ow st_1.2.2, .fz j, .fz st_1.1, .un, .un]))) (fun (pairs_2 : (List (Int × Int))) => [.at pa purse_2, .fz many, .fz way, .fz thin, .ow pairs_2, .fz j, .fz far_1, .un, .un]) fun pairs_2 h_6 =>
     es_nilO ⟨.inr rfl, .inr rfl, .inr rfl, .inr rfl, .inr rfl, .inr rfl, .inr rfl, .inl rfl, .inl rfl, trivial⟩))) (fun hb => es_nilO ⟨.inr rfl, .inr rfl, .inr rfl, .inr rfl, .inr rfl, .inr rfl, .inr rfl, .inl rfl, .inl rfl, trivial⟩))
     (es_gen (k := (nxO (fun (st : (Pu × (List (Int × Int)))) => [.at pa st.1, .fz many, .fz way, .fz thin, .ow st.2, .un, .un, .un, .un]))) (fun (st_1 : (Int × Pu × (List (Int × Int)))) => [.at pa st_1.2.1, .fz many, .fz way, .fz thin, .ow st_1.2.2, .fz j, .fz st_1.1, .un, .un]) fun st_1 h_7 =>
     have ok_10 := ok_gen ok_4.2 h_7; es_gen (k := (nxO (fun (st : (Pu × (List (Int × Int)))) => [.at pa st.1, .fz many, .fz way, .fz thin, .ow st.2, .un, .un, .un, .un]))) (fun (far_2 : Int) => [.at pa st_1.2.1, .fz many, .fz way, .fz thin, .ow st_1.2.2, .fz j, .fz far_2, .un, .un]) fun far_2 h_8 => have ok_11 := ok_gen ok_10 h_8; es_gen (k := (nxO (fun (st : (Pu × (List (Int × Int)))) => [.at pa st.1, .fz many, .fz way, .fz thin, .ow st.2, .un, .un, .un, .un]))) (fun (purse_3 : Pu) => [.at pa purse_3, .fz many, .fz way, .fz thin, .ow st_1.2.2, .fz j, .fz far_2, .un, .un]) fun purse_3 h_9 => have ok_12 := ok_gen ok_11 h_9; es_gen (k := (nxO (fun (st : (Pu × (List (Int × Int)))) => [.at pa st.1, .fz many, .fz way, .fz thin, .ow st.2, .un, .un, .un, .un]))) (fun (pairs_3 : (List (Int × Int))) => [.at pa purse_3, .fz many, .fz way, .fz thin, .ow pairs_3, .fz j, .fz far_2, .un, .un]) fun pairs_3 h_10 => have ok_13 := ok_gen ok_12 h_10; es_cons (s_ifeO (m1 := (pipe (m_take purse_3 (j + (1 : Int))).1 fun (far_3 : Int) =>
     (pipe (m_take purse_3 (j + (1 : Int))).2 fun (purse_4 : Pu) =>
     (pipe (pairs_3 ++ (lrep ([((j - far_3), j)] : (List (Int × Int))) (if (decide (far_3 > (0 : Int))) then (1 : Int) else 0))) fun (pairs_4 : (List (Int × Int))) =>
     (far_3, purse_4, pairs_4))))) (m2 := (far_2, purse_3, pairs_3)) (fun (st_2 : (Int × Pu × (List (Int × Int)))) => [.at pa st_2.2.1, .fz many, .fz way, .fz thin, .ow st_2.2.2, .fz j, .fz st_2.1, .un, .un]) (TJ.x (t_eq (r_var (pv 2)) (r_int))) (fun hb_1 => have ok_14 := (ok_13.1).1 hb_1; es_cons (s_asgX (ps_set (i := 6) sc_m_pairs.nd rfl (.inl rfl) peW) (xU D_m_take (hr.mono (by decide)) (pv 0) (xa_cons (RJ.xs (r_add (r_var (pv 5)) (r_int))) (xa_nil)) (.at _) rfl (.at _) rfl (⟨_, (ok_14.1), rfl, rfl, rfl⟩)))
     (es_gen (k := (nxO (fun (st_2 : (Int × Pu × (List (Int × Int)))) => [.at pa st_2.2.1, .fz many, .fz way, .fz thin, .ow st_2.2.2, .fz j, .fz st_2.1, .un, .un]))) (fun (far_3 : Int) => [.at pa (m_take purse_3 (j + (1 : Int))).2, .fz many, .fz way, .fz thin, .ow pairs_3, .fz j, .fz far_3, .un, .un]) fun far_3 h_11 =>
     have ok_16 := ok_gen ok_14.2 h_11; es_gen (k := (nxO (fun (st_2 : (Int × Pu × (List (Int × Int)))) => [.at pa st_2.2.1, .fz many, .fz way, .fz thin, .ow st_2.2.2, .fz j, .fz st_2.1, .un, .un]))) (fun (purse_4 : Pu) => [.at pa purse_4, .fz many, .fz way, .fz thin, .ow pairs_3, .fz j, .fz far_3, .un, .un]) fun purse_4 h_12 =>
     have ok_17 := ok_gen ok_16 h_12; es_cons (s_ext (α := (Int × Int)) (ps_expr (pe_bm PySem.F.plainAttrs_list PySem.F.slot_list_extend PySem.F.type_list_extend mt_extend (pv 4) (pa_cons peW pa_nil))) ((n_lrep (ok_17.1) (ok_17.2.1) ((n_disp (α := (Int × Int)) (la_cons (f_tup2 (RJ.sc (r_sub (r_var (pv 5)) (r_var (pv 6)))) (RJ.sc (r_var (pv 5)))) (la_nil))).lr) (r_intB (by rfl) B.n_int (r_gt (r_var (pv 6)) (r_int)))).lr) ⟨_, _, rfl, .ow⟩ rfl .ow (ok_17.2.2.1))
     (es_gen (k := (nxO (fun (st_2 : (Int × Pu × (List (Int × Int)))) => [.at pa st_2.2.1, .fz many, .fz way, .fz thin, .ow st_2.2.2, .fz j, .fz st_2.1, .un, .un]))) (fun (pairs_4 : (List (Int × Int))) => [.at pa purse_4, .fz many, .fz way, .fz thin, .ow pairs_4, .fz j, .fz far_3, .un, .un]) fun pairs_4 h_13 =>
     es_nilO ⟨.inr rfl, .inr rfl, .inr rfl, .inr rfl, .inr rfl, .inr rfl, .inr rfl, .inl rfl, .inl rfl, trivial⟩))) (fun hb_1 => es_nilO ⟨.inr rfl, .inr rfl, .inr rfl, .inr rfl, .inr rfl, .inr rfl, .inr rfl, .inl rfl, .inl rfl, trivial⟩))
     (es_gen (k := (nxO (fun (st : (Pu × (List (Int × Int)))) => [.at pa st.1, .fz many, .fz way, .fz thin, .ow st.2, .un, .un, .un, .un]))) (fun (st_2 : (Int × Pu × (List (Int × Int)))) => [.at pa st_2.2.1, .fz many, .fz way, .fz thin, .ow st_2.2.2, .fz j, .fz st_2.1, .un, .un]) fun st_2 h_14 =>
     have ok_19 := ok_gen ok_13.2 h_14; es_gen (k := (nxO (fun (st : (Pu × (List (Int × Int)))) => [.at pa st.1, .fz many, .fz way, .fz thin, .ow st.2, .un, .un, .un, .un]))) (fun (far_4 : Int) => [.at pa st_2.2.1, .fz many, .fz way, .fz thin, .ow st_2.2.2, .fz j, .fz far_4, .un, .un]) fun far_4 h_15 => have ok_20 := ok_gen ok_19 h_15; es_gen (k := (nxO (fun (st : (Pu × (List (Int × Int)))) => [.at pa st.1, .fz many, .fz way, .fz thin, .ow st.2, .un, .un, .un, .un]))) (fun (purse_5 : Pu) => [.at pa purse_5, .fz many, .fz way, .fz thin, .ow st_2.2.2, .fz j, .fz far_4, .un, .un]) fun purse_5 h_16 => have ok_21 := ok_gen ok_20 h_16; es_gen (k := (nxO (fun (st : (Pu × (List (Int × Int)))) => [.at pa st.1, .fz many, .fz way, .fz thin, .ow st.2, .un, .un, .un, .un]))) (fun (pairs_5 : (List (Int × Int))) => [.at pa purse_5, .fz many, .fz way, .fz thin, .ow pairs_5, .fz j, .fz far_4, .un, .un]) fun pairs_5 h_17 => have ok_22 := ok_gen ok_21 h_17; es_cons (s_forF (tst := PassesOwn.never) (esf := (fun (st_3 : ((List (Int × Int)) × Pu)) => [.at pa st_3.2, .fz many, .fz way, .fz thin, .ow st_3.1, .fz j, .fz far_4, .un, .un])) (est := fun st_3 i => [.at pa st_3.2, .fz many, .fz way, .fz thin, .ow st_3.1, .fz j, .fz far_4, .fz i, .un]) (g := (m_pairs_L2 way thin j)) (y0 := (pairs_5, purse_5)) rfl (i_range1 (by rfl) B.n_range (ok_22.2.1) (RJ.xs (r_mul (ok_22.1) (r_var (pv 5)) (r_intB (by rfl) B.n_int (r_nin (r_var (pv 2)) (NJ.rd (n_disp (α := Int) (la_cons (RJ.sc (r_int)) (la_cons (RJ.sc (r_int)) (la_nil)))))))))) (fun st_3 i => g_name (pg_name (i := 7) sc_m_pairs.nd rfl (.inl rfl)) (Nat.le_of_ble_eq_true rfl))
     (fun st_3 i hat_1 => have ok_23 := ok_22.2.2.1 st_3 i hat_1; es_nxO (esf := (fun (st_3 : ((List (Int × Int)) × Pu)) => [.at pa st_3.2, .fz many, .fz way, .fz thin, .ow st_3.1, .fz j, .fz far_4, .un, .un])) (es_gen (k := (nxO (fun (st_3 : ((List (Int × Int)) × Pu)) => [.at pa st_3.2, .fz many, .fz way, .fz thin, .ow st_3.1, .fz j, .fz far_4, .un, .un]))) (fun (pairs_6 : (List (Int × Int))) => [.at pa st_3.2, .fz many, .fz way, .fz thin, .ow pairs_6, .fz j, .fz far_4, .fz i, .un]) fun pairs_6 h_18 => have ok_24 := ok_gen ok_23 h_18; es_gen (k := (nxO (fun (st_3 : ((List (Int × Int)) × Pu)) => [.at pa st_3.2, .fz many, .fz way, .fz thin, .ow st_3.1, .fz j, .fz far_4, .un, .un]))) (fun (purse_6 : Pu) => [.at pa purse_6, .fz many, .fz way, .fz thin, .ow pairs_6, .fz j, .fz far_4, .fz i, .un]) fun purse_6 h_19 => have ok_25 := ok_gen ok_24 h_19; es_cons (s_asg (ps_set (i := 8) sc_m_pairs.nd rfl (.inl rfl) peW) (RJ.sc (r_or (r_ne (r_var (pv 2)) (r_int)) (fun hb_2 => r_and1 (r_eq (r_add (r_div (((ok_25.1) hb_2).1) (r_var (pv 7)) (r_var (pv 3))) (r_int)) (r_div (((ok_25.1) hb_2).2.1) (r_var (pv 5)) (r_var (pv 3))))))))
     (es_gen (k := (nxO (fun (st_3 : ((List (Int × Int)) × Pu)) => [.at pa st_3.2, .fz many, .fz way, .fz thin, .ow st_3.1, .fz j, .fz far_4, .un, .un]))) (fun (near : Bool) => [.at pa purse_6, .fz many, .fz way, .fz thin, .ow pairs_6, .fz j, .fz far_4, .fz i, .fz near]) fun near h_20 =>
     have ok_26 := ok_gen ok_25.2 h_20; es_one (s_ife (k := (nxO (fun (st_3 : ((List (Int × Int)) × Pu)) => [.at pa st_3.2, .fz many, .fz way, .fz thin, .ow st_3.1, .fz j, .fz far_4, .un, .un]))) (es1 := [.at pa (bif near then (m_take purse_6 thin).2 else purse_6), .fz many, .fz way, .fz thin, .ow pairs_6, .fz j, .fz far_4, .fz i, .fz near]) (xt_and (p1 := purse_6) (p2 := (m_take purse_6 thin).2) (fun (pu : Pu) => [.at pa pu, .fz many, .fz way, .fz thin, .ow pairs_6, .fz j, .fz far_4, .fz i, .fz near]) (TJ.x (t_val (r_var (pv 8)))) (fun hb_3 => xt_eq (x_eq (xU D_m_take (hr.mono (by decide)) (pv 0) (xa_cons (RJ.xs (r_var (pv 3))) (xa_nil)) (.at _) rfl (.at _) rfl (⟨_, (((ok_26.1) hb_3).1), rfl, rfl, rfl⟩)) (RJ.xs (r_int))) (RJ.xs (r_ne (r_var (pv 2)) (r_int))))) (fun hb_4 => have ok_27 := ok_26.2.1 hb_4; es_cons (s_app (α := (Int × Int)) (ps_expr (pe_bm PySem.F.plainAttrs_list PySem.F.slot_list_append PySem.F.type_list_append mt_append (pv 4) (pa_cons peW pa_nil))) (FJ.x (f_tup2 (RJ.sc (r_var (pv 7))) (RJ.sc (r_var (pv 5))))) ⟨_, _, rfl, .ow⟩ rfl .ow (ok_27.1))
     (es_gen (k := (nxO (fun (st_3 : ((List (Int × Int)) × Pu)) => [.at pa st_3.2, .fz many, .fz way, .fz thin, .ow st_3.1, .fz j, .fz far_4, .un, .un]))) (fun (pairs_7 : (List (Int × Int))) => [.at pa (bif near then (m_take purse_6 thin).2 else purse_6), .fz many, .fz way, .fz thin, .ow pairs_7, .fz j, .fz far_4, .fz i, .fz near]) fun pairs_7 h_21 =>
     es_nilO ⟨.inr rfl, .inr rfl, .inr rfl, .inr rfl, .inr rfl, .inr rfl, .inr rfl, .inl rfl, .inl rfl, trivial⟩))
     (fun hb_4 => es_nilO ⟨.inr rfl, .inr rfl, .inr rfl, .inr rfl, .inr rfl, .inr rfl, .inr rfl, .inl rfl, .inl rfl, trivial⟩))))))
     (es_gen (k := (nxO (fun (st : (Pu × (List (Int × Int)))) => [.at pa st.1, .fz many, .fz way, .fz thin, .ow st.2, .un, .un, .un, .un]))) (fun (st_3 : ((List (Int × Int)) × Pu)) => [.at pa st_3.2, .fz many, .fz way, .fz thin, .ow st_3.1, .fz j, .fz far_4, .un, .un]) fun st_3 h_22 =>
     es_gen (k := (nxO (fun (st : (Pu × (List (Int × Int)))) => [.at pa st.1, .fz many, .fz way, .fz thin, .ow st.2, .un, .un, .un, .un]))) (fun (pairs_8 : (List (Int × Int))) => [.at pa st_3.2, .fz many, .fz way, .fz thin, .ow pairs_8, .fz j, .fz far_4, .un, .un]) fun pairs_8 h_23 => es_gen (k := (nxO (fun (st : (Pu × (List (Int × Int)))) => [.at pa st.1, .fz many, .fz way, .fz thin, .ow st.2, .un, .un, .un, .un]))) (fun (purse_7 : Pu) => [.at pa purse_7, .fz many, .fz way, .fz thin, .ow pairs_8, .fz j, .fz far_4, .un, .un]) fun purse_7 h_24 => es_nilO ⟨.inr rfl, .inr rfl, .inr rfl, .inr rfl, .inr rfl, .inl rfl, .inl rfl, .inl rfl, .inl rfl, trivial⟩)))))))
     (es_gen (k := (ruO pa owCl (fun (m : (List (Int × Int))) => En.ow m))) (fun (st : (Pu × (List (Int × Int)))) => [.at pa st.1, .fz many, .fz way, .fz thin, .ow st.2, .un, .un, .un, .un]) fun st h_25 =>
     es_gen (k := (ruO pa owCl (fun (m : (List (Int × Int))) => En.ow m))) (fun (purse_8 : Pu) => [.at pa purse_8, .fz many, .fz way, .fz thin, .ow st.2, .un, .un, .un, .un]) fun purse_8 h_26 => es_gen (k := (ruO pa owCl (fun (m : (List (Int × Int))) => En.ow m))) (fun (pairs_9 : (List (Int × Int))) => [.at pa purse_8, .fz many, .fz way, .fz thin, .ow pairs_9, .un, .un, .un, .un]) fun pairs_9 h_27 => es_ru (es_one (u_retO (i := 0) (ps_ret peW) (pv 4)))))
/-! law: jobs -/
def m_jobs_L1 (st : ((List (Int × Int)) × Pu)) (k : Int) : ((List (Int × Int)) × Pu) :=
  (pipe st.1 fun (pairs_1 : (List (Int × Int))) => (pipe st.2 fun (purse_6 : Pu) => (pipe (insI pairs_1 (m_take purse_6 ((pairs_1.length : Int) + (1 : Int))).1 (getI pairs_1 (m_take (m_take purse_6 ((pairs_1.length : Int) + (1 : Int))).2 (pairs_1.length : Int)).1)) fun (pairs_2 : (List (Int × Int))) =>
  (pipe (m_take (m_take purse_6 ((pairs_1.length : Int) + (1 : Int))).2 (pairs_1.length : Int)).2 fun (purse_7 : Pu) =>
  (pairs_2, purse_7)))))
def m_jobs_L2 (st_1 : ((List Int) × Pu)) (k_1 : Int) : ((List Int) × Pu) :=
  (pipe st_1.1 fun (spots_1 : (List Int)) => (pipe st_1.2 fun (purse_9 : Pu) => (pipe (insI spots_1 (m_take purse_9 (k_1 + (1 : Int))).1 k_1) fun (spots_2 : (List Int)) =>
  (pipe (m_take purse_9 (k_1 + (1 : Int))).2 fun (purse_10 : Pu) =>
  (spots_2, purse_10)))))
def m_jobs (purse : Pu) (most : Int) : (((List Str) × (List (Str × Str))) × Pu) :=
  (pipe (m_take purse (most + (1 : Int))).1 fun (many : Int) =>
  (pipe (m_take purse (most + (1 : Int))).2 fun (purse_1 : Pu) =>
  (pipe (m_names purse_1 many).1 fun (names : (List Str)) =>
  (pipe (m_names purse_1 many).2 fun (purse_2 : Pu) =>
  (pipe (m_take purse_2 (6 : Int)).1 fun (way : Int) =>
  (pipe (m_take purse_2 (6 : Int)).2 fun (purse_3 : Pu) =>
  (pipe (getI ([(2 : Int), (3 : Int), (4 : Int), (6 : Int), (12 : Int)] : (List Int)) (m_take purse_3 (5 : Int)).1) fun (thin : Int) =>
  (pipe (m_take purse_3 (5 : Int)).2 fun (purse_4 : Pu) =>
  (pipe (m_pairs purse_4 many way thin).1 fun (pairs : (List (Int × Int))) =>
  (pipe (m_pairs purse_4 many way thin).2 fun (purse_5 : Pu) =>
  (pipe (List.foldl m_jobs_L1 (pairs, (m_take purse_5 (3 : Int)).2) (rangeL 0 ((if (!(decide (pairs = ([] : (List (Int × Int)))))) then (1 : Int) else 0) * (m_take purse_5 (3 : Int)).1))) fun (st : ((List (Int × Int)) × Pu)) =>
  (pipe st.1 fun (pairs_3 : (List (Int × Int))) => (pipe st.2 fun (purse_8 : Pu) => (pipe ([] : (List Int)) fun (spots : (List Int)) =>
  (pipe (List.foldl m_jobs_L2 (spots, purse_8) (rangeL 0 many)) fun (st_1 : ((List Int) × Pu)) =>
  (pipe st_1.1 fun (spots_3 : (List Int)) => (pipe st_1.2 fun (purse_11 : Pu) => ((names, (given (fun (x : (Int × Int)) => true) (fun (x : (Int × Int)) => ((getI names (getI spots_3 x.1)), (getI names (getI spots_3 x.2)))) pairs_3)), purse_11))))))))))))))))))
def ok_m_jobs (purse : Pu) (most : Int) : Prop :=
  (ok_m_take purse (most + (1 : Int))) ∧ (pipe (m_take purse (most + (1 : Int))).1 fun (many : Int) =>
  (pipe (m_take purse (most + (1 : Int))).2 fun (purse_1 : Pu) =>
  (ok_m_names purse_1 many) ∧ (pipe (m_names purse_1 many).1 fun (names : (List Str)) =>
  (pipe (m_names purse_1 many).2 fun (purse_2 : Pu) =>
  (ok_m_take purse_2 (6 : Int)) ∧ (pipe (m_take purse_2 (6 : Int)).1 fun (way : Int) =>
  (pipe (m_take purse_2 (6 : Int)).2 fun (purse_3 : Pu) =>
  (ok_m_take purse_3 (5 : Int)) ∧ (okI ([(2 : Int), (3 : Int), (4 : Int), (6 : Int), (12 : Int)] : (List Int)) (m_take purse_3 (5 : Int)).1) ∧ (pipe (getI ([(2 : Int), (3 : Int), (4 : Int), (6 : Int), (12 : Int)] : (List Int)) (m_take purse_3 (5 : Int)).1) fun (thin : Int) =>
  (pipe (m_take purse_3 (5 : Int)).2 fun (purse_4 : Pu) =>
  (ok_m_pairs purse_4 many way thin) ∧ (pipe (m_pairs purse_4 many way thin).1 fun (pairs : (List (Int × Int))) =>
  (pipe (m_pairs purse_4 many way thin).2 fun (purse_5 : Pu) =>
  (ok_m_take purse_5 (3 : Int)) ∧ (CMul (if (!(decide (pairs = ([] : (List (Int × Int)))))) then (1 : Int) else 0) (m_take purse_5 (3 : Int)).1) ∧ (-(2 ^ 62) ≤ ((if (!(decide (pairs = ([] : (List (Int × Int)))))) then (1 : Int) else 0) * (m_take purse_5 (3 : Int)).1) ∧ ((if (!(decide (pairs = ([] : (List (Int × Int)))))) then (1 : Int) else 0) * (m_take purse_5 (3 : Int)).1) < 2 ^ 62) ∧ (∀ (st : ((List (Int × Int)) × Pu)) (k : Int), AtF m_jobs_L1 (rangeL 0 ((if (!(decide (pairs = ([] : (List (Int × Int)))))) then (1 : Int) else 0) * (m_take purse_5 (3 : Int)).1)) (pairs, (m_take purse_5 (3 : Int)).2) st k → (pipe st.1 fun (pairs_1 : (List (Int × Int))) => (pipe st.2 fun (purse_6 : Pu) => (ok_m_take purse_6 ((pairs_1.length : Int) + (1 : Int))) ∧ (ok_m_take (m_take purse_6 ((pairs_1.length : Int) + (1 : Int))).2 (pairs_1.length : Int)) ∧ (okI pairs_1 (m_take (m_take purse_6 ((pairs_1.length : Int) + (1 : Int))).2 (pairs_1.length : Int)).1) ∧ (pairs_1.length < big) ∧ (0 ≤ (m_take purse_6 ((pairs_1.length : Int) + (1 : Int))).1 ∧ (m_take purse_6 ((pairs_1.length : Int) + (1 : Int))).1 < 2 ^ 63) ∧ True))) ∧
  (pipe (List.foldl m_jobs_L1 (pairs, (m_take purse_5 (3 : Int)).2) (rangeL 0 ((if (!(decide (pairs = ([] : (List (Int × Int)))))) then (1 : Int) else 0) * (m_take purse_5 (3 : Int)).1))) fun (st : ((List (Int × Int)) × Pu)) =>
  (pipe st.1 fun (pairs_3 : (List (Int × Int))) => (pipe st.2 fun (purse_8 : Pu) => (pipe ([] : (List Int)) fun (spots : (List Int)) =>
  (-(2 ^ 62) ≤ many ∧ many < 2 ^ 62) ∧ (∀ (st_1 : ((List Int) × Pu)) (k_1 : Int), AtF m_jobs_L2 (rangeL 0 many) (spots, purse_8) st_1 k_1 → (pipe st_1.1 fun (spots_1 : (List Int)) => (pipe st_1.2 fun (purse_9 : Pu) => (ok_m_take purse_9 (k_1 + (1 : Int))) ∧ (spots_1.length < big) ∧ (0 ≤ (m_take purse_9 (k_1 + (1 : Int))).1 ∧ (m_take purse_9 (k_1 + (1 : Int))).1 < 2 ^ 63) ∧ True))) ∧
  (pipe (List.foldl m_jobs_L2 (spots, purse_8) (rangeL 0 many)) fun (st_1 : ((List Int) × Pu)) =>
  (pipe st_1.1 fun (spots_3 : (List Int)) => (pipe st_1.2 fun (purse_11 : Pu) => (∀ x ∈ pairs_3, true = true → (okI spots_3 x.1) ∧ (okI names (getI spots_3 x.1)) ∧ (okI spots_3 x.2) ∧ (okI names (getI spots_3 x.2)) ∧ True) ∧ True)))))))))))))))))
abbrev N_m_jobs : List Str := (["_law_purse_here", "_law_most", "_law_many", "_law_names_here", "_law_way", "_law_thin", "_law_pairs_here", "_law_k", "_law_spots", "_law_i", "_law_j"] : List Str)
abbrev st_m_jobs : Stmt := top 37
theorem sc_m_jobs : FnScope N_m_jobs ["_law_purse_here", "_law_most"] (defScope st_m_jobs) := ⟨rfl, rfl, rfl, by decide +kernel, rfl, by decide +kernel, by decide +kernel⟩
def G_m_jobs (purse : Pu) (as : List En) (p2 : Pu) (r : En) : Prop := ∃ (most : Int), ok_m_jobs purse most ∧ as = [.fz most] ∧ r = .fz (m_jobs purse most).1 ∧ p2 = (m_jobs purse most).2
set_option maxRecDepth 100000 in
theorem w_m_jobs (B : Bn mg) (J : JCls K) (D_m_take : Df P w K mg base 1 "_law_take" ["_law_purse_here", "_law_many"] (spU K G_m_take)) (D_m_names : Df P w K mg base 2 "_law_names" ["_law_purse_here", "_law_many"] (spU K G_m_names)) (D_m_pairs : Df P w K mg base 2 "_law_pairs" ["_law_purse_here", "_law_many", "_law_way", "_law_thin"] (spU K G_m_pairs))
    {f : Addr} {fd : FuncData} (F : FnP K "_law_jobs" st_m_jobs f fd) : FnOk P w K mg base CX0 3 f fd ["_law_purse_here", "_law_most"] (spU K G_m_jobs) := by
  refine fn_lent F sc_m_jobs (by decide) (fun _ as _ r h => by obtain ⟨most, hok, rfl, _, _⟩ := h; rfl) (fun cdv A outer s H E hr pa purse as p2 r h => ?_)
  obtain ⟨most, hok, rfl, rfl, rfl⟩ := h
  refine ⟨(fun (m : (((List Str) × (List (Str × Str))) × Pu)) => Out.ru pa owCl m.2 (.fz m.1)) (m_jobs purse most), .inl rfl, ?_⟩
  refine es_ruO (w := fun (m : ((List Str) × (List (Str × Str)))) => En.fz m) ?_
  show ES _ [.at pa purse, .fz most, .un, .un, .un, .un, .un, .un, .un, .un, .un] _ ((ruO pa owCl (fun (m : ((List Str) × (List (Str × Str)))) => En.fz m)) (pipe (m_take purse (most + (1 : Int))).1 fun (many : Int) =>
  (pipe (m_take purse (most + (1 : Int))).2 fun (purse_1 : Pu) =>
  (pipe (m_names purse_1 many).1 fun (names : (List Str)) =>
  (pipe (m_names purse_1 many).2 fun (purse_2 : Pu) =>
  (pipe (m_take purse_2 (6 : Int)).1 fun (way : Int) =>
  (pipe (m_take purse_2 (6 : Int)).2 fun (purse_3 : Pu) =>
  (pipe (getI ([(2 : Int), (3 : Int), (4 : Int), (6 : Int), (12 : Int)] : (List Int)) (m_take purse_3 (5 : Int)).1) fun (thin : Int) =>
  (pipe (m_take purse_3 (5 : Int)).2 fun (purse_4 : Pu) =>
  (pipe (m_pairs purse_4 many way thin).1 fun (pairs : (List (Int × Int))) =>
  (pipe (m_pairs purse_4 many way thin).2 fun (purse_5 : Pu) =>
  (pipe (List.foldl m_jobs_L1 (pairs, (m_take purse_5 (3 : Int)).2) (rangeL 0 ((if (!(decide (pairs = ([] : (List (Int × Int)))))) then (1 : Int) else 0) * (m_take purse_5 (3 : Int)).1))) fun (st : ((List (Int × Int)) × Pu)) =>
  (pipe st.1 fun (pairs_3 : (List (Int × Int))) => (pipe st.2 fun (purse_8 : Pu) => (pipe ([] : (List Int)) fun (spots : (List Int)) =>
  (pipe (List.foldl m_jobs_L2 (spots, purse_8) (rangeL 0 many)) fun (st_1 : ((List Int) × Pu)) =>
  (pipe st_1.1 fun (spots_3 : (List Int)) => (pipe st_1.2 fun (purse_11 : Pu) => ((names, (given (fun (x : (Int × Int)) => true) (fun (x : (Int × Int)) => ((getI names (getI spots_3 x.1)), (getI names (getI spots_3 x.2)))) pairs_3)), purse_11)))))))))))))))))))
  have hok : (ok_m_take purse (most + (1 : Int))) ∧ (pipe (m_take purse (most + (1 : Int))).1 fun (many : Int) =>
  (pipe (m_take purse (most + (1 : Int))).2 fun (purse_1 : Pu) =>
  (ok_m_names purse_1 many) ∧ (pipe (m_names purse_1 many).1 fun (names : (List Str)) =>
  (pipe (m_names purse_1 many).2 fun (purse_2 : Pu) =>
  (ok_m_take purse_2 (6 : Int)) ∧ (pipe (m_take purse_2 (6 : Int)).1 fun (way : Int) =>
  (pipe (m_take purse_2 (6 : Int)).2 fun (purse_3 : Pu) =>
  (ok_m_take purse_3 (5 : Int)) ∧ (okI ([(2 : Int), (3 : Int), (4 : Int), (6 : Int), (12 : Int)] : (List Int)) (m_take purse_3 (5 : Int)).1) ∧ (pipe (getI ([(2 : Int), (3 : Int), (4 : Int), (6 : Int), (12 : Int)] : (List Int)) (m_take purse_3 (5 : Int)).1) fun (thin : Int) =>
  (pipe (m_take purse_3 (5 : Int)).2 fun (purse_4 : Pu) =>
  (ok_m_pairs purse_4 many way thin) ∧ (pipe (m_pairs purse_4 many way thin).1 fun (pairs : (List (Int × Int))) =>
  (pipe (m_pairs purse_4 many way thin).2 fun (purse_5 : Pu) =>
  (ok_m_take purse_5 (3 : Int)) ∧ (CMul (if (!(decide (pairs = ([] : (List (Int × Int)))))) then (1 : Int) else 0) (m_take purse_5 (3 : Int)).1) ∧ (-(2 ^ 62) ≤ ((if (!(decide (pairs = ([] : (List (Int × Int)))))) then (1 : Int) else 0) * (m_take purse_5 (3 : Int)).1) ∧ ((if (!(decide (pairs = ([] : (List (Int × Int)))))) then (1 : Int) else 0) * (m_take purse_5 (3 : Int)).1) < 2 ^ 62) ∧ (∀ (st : ((List (Int × Int)) × Pu)) (k : Int), AtF m_jobs_L1 (rangeL 0 ((if (!(decide (pairs = ([] : (List (Int × Int)))))) then (1 : Int) else 0) * (m_take purse_5 (3 : Int)).1)) (pairs, (m_take purse_5 (3 : Int)).2) st k → (pipe st.1 fun (pairs_1 : (List (Int × Int))) => (pipe st.2 fun (purse_6 : Pu) => (ok_m_take purse_6 ((pairs_1.length : Int) + (1 : Int))) ∧ (ok_m_take (m_take purse_6 ((pairs_1.length : Int) + (1 : Int))).2 (pairs_1.length : Int)) ∧ (okI pairs_1 (m_take (m_take purse_6 ((pairs_1.length : Int) + (1 : Int))).2 (pairs_1.length : Int)).1) ∧ (pairs_1.length < big) ∧ (0 ≤ (m_take purse_6 ((pairs_1.length : Int) + (1 : Int))).1 ∧ (m_take purse_6 ((pairs_1.length : Int) + (1 : Int))).1 < 2 ^ 63) ∧ True))) ∧
  (pipe (List.foldl m_jobs_L1 (pairs, (m_take purse_5 (3 : Int)).2) (rangeL 0 ((if (!(decide (pairs = ([] : (List (Int × Int)))))) then (1 : Int) else 0) * (m_take purse_5 (3 : Int)).1))) fun (st : ((List (Int × Int)) × Pu)) =>
  (pipe st.1 fun (pairs_3 : (List (Int × Int))) => (pipe st.2 fun (purse_8 : Pu) => (pipe ([] : (List Int)) fun (spots : (List Int)) =>
  (-(2 ^ 62) ≤ many ∧ many < 2 ^ 62) ∧ (∀ (st_1 : ((List Int) × Pu)) (k_1 : Int), AtF m_jobs_L2 (rangeL 0 many) (spots, purse_8) st_1 k_1 → (pipe st_1.1 fun (spots_1 : (List Int)) => (pipe st_1.2 fun (purse_9 : Pu) => (ok_m_take purse_9 (k_1 + (1 : Int))) ∧ (spots_1.length < big) ∧ (0 ≤ (m_take purse_9 (k_1 + (1 : Int))).1 ∧ (m_take purse_9 (k_1 + (1 : Int))).1 < 2 ^ 63) ∧ True))) ∧
  (pipe (List.foldl m_jobs_L2 (spots, purse_8) (rangeL 0 many)) fun (st_1 : ((List Int) × Pu)) =>
  (pipe st_1.1 fun (spots_3 : (List Int)) => (pipe st_1.2 fun (purse_11 : Pu) => (∀ x ∈ pairs_3, true = true → (okI spots_3 x.1) ∧ (okI names (getI spots_3 x.1)) ∧ (okI spots_3 x.2) ∧ (okI names (getI spots_3 x.2)) ∧ True) ∧ True))))))))))))))))) := hok
  exact es_cons (s_asgX (ps_set (i := 2) sc_m_jobs.nd rfl (.inl rfl) peW) (xU D_m_take (hr.mono (by decide)) (pv 0) (xa_cons (RJ.xs (r_add (r_var (pv 1)) (r_int))) (xa_nil)) (.at _) rfl (.at _) rfl (⟨_, (hok.1), rfl, rfl, rfl⟩)))
     (es_gen (k := (ruO pa owCl (fun (m : ((List Str) × (List (Str × Str)))) => En.fz m))) (fun (many : Int) => [.at pa (m_take purse (most + (1 : Int))).2, .fz most, .fz many, .un, .un, .un, .un, .un, .un, .un, .un]) fun many h =>
     have ok := ok_gen hok.2 h; es_gen (k := (ruO pa owCl (fun (m : ((List Str) × (List (Str × Str)))) => En.fz m))) (fun (purse_1 : Pu) => [.at pa purse_1, .fz most, .fz many, .un, .un, .un, .un, .un, .un, .un, .un]) fun purse_1 h_1 =>
     have ok_1 := ok_gen ok h_1; es_cons (s_asgX (ps_set (i := 3) sc_m_jobs.nd rfl (.inr rfl) peW) ((yU D_m_names (hr.mono (by decide)) (pv 0) (xa_cons (RJ.xs (r_var (pv 2))) (xa_nil)) (.at _) rfl (.at _) rfl (⟨_, (ok_1.1), rfl, rfl, rfl⟩)).frz))
     (es_gen (k := (ruO pa owCl (fun (m : ((List Str) × (List (Str × Str)))) => En.fz m))) (fun (names : (List Str)) => [.at pa (m_names purse_1 many).2, .fz most, .fz many, .fz names, .un, .un, .un, .un, .un, .un, .un]) fun names h_2 =>
     have ok_2 := ok_gen ok_1.2 h_2; es_gen (k := (ruO pa owCl (fun (m : ((List Str) × (List (Str × Str)))) => En.fz m))) (fun (purse_2 : Pu) => [.at pa purse_2, .fz most, .fz many, .fz names, .un, .un, .un, .un, .un, .un, .un]) fun purse_2 h_3 =>
     have ok_3 := ok_gen ok_2 h_3; es_cons (s_asgX (ps_set (i := 4) sc_m_jobs.nd rfl (.inl rfl) peW) (xU D_m_take (hr.mono (by decide)) (pv 0) (xa_cons (RJ.xs (r_int)) (xa_nil)) (.at _) rfl (.at _) rfl (⟨_, (ok_3.1), rfl, rfl, rfl⟩)))
     (es_gen (k := (ruO pa owCl (fun (m : ((List Str) × (List (Str × Str)))) => En.fz m))) (fun (way : Int) => [.at pa (m_take purse_2 (6 : Int)).2, .fz most, .fz many, .fz names, .fz way, .un, .un, .un, .un, .un, .un]) fun way h_4 =>
     have ok_4 := ok_gen ok_3.2 h_4; es_gen (k := (ruO pa owCl (fun (m : ((List Str) × (List (Str × Str)))) => En.fz m))) (fun (purse_3 : Pu) => [.at pa purse_3, .fz most, .fz many, .fz names, .fz way, .un, .un, .un, .un, .un, .un]) fun purse_3 h_5 =>
     have ok_5 := ok_gen ok_4 h_5; es_cons (s_asgX (ps_set (i := 5) sc_m_jobs.nd rfl (.inl rfl) peW) (x_ix (ok_5.2.1) (FJ.x (NJ.frz (n_disp (α := Int) (la_cons (RJ.sc (r_int)) (la_cons (RJ.sc (r_int)) (la_cons (RJ.sc (r_int)) (la_cons (RJ.sc (r_int)) (la_cons (RJ.sc (r_int)) (la_nil))))))))) (xU D_m_take (hr.mono (by decide)) (pv 0) (xa_cons (RJ.xs (r_int)) (xa_nil)) (.at _) rfl (.at _) rfl (⟨_, (ok_5.1), rfl, rfl, rfl⟩))))
     (es_gen (k := (ruO pa owCl (fun (m : ((List Str) × (List (Str × Str)))) => En.fz m))) (fun (thin : Int) => [.at pa (m_take purse_3 (5 : Int)).2, .fz most, .fz many, .fz names, .fz way, .fz thin, .un, .un, .un, .un, .un]) fun thin h_6 =>
     have ok_6 := ok_gen ok_5.2.2 h_6; es_gen (k := (ruO pa owCl (fun (m : ((List Str) × (List (Str × Str)))) => En.fz m))) (fun (purse_4 : Pu) => [.at pa purse_4, .fz most, .fz many, .fz names, .fz way, .fz thin, .un, .un, .un, .un, .un]) fun purse_4 h_7 =>
     have ok_7 := ok_gen ok_6 h_7; es_cons (s_asgY (ps_set (i := 6) sc_m_jobs.nd rfl (.inl rfl) peW) (yU D_m_pairs (hr.mono (by decide)) (pv 0) (xa_cons (RJ.xs (r_var (pv 2))) (xa_cons (RJ.xs (r_var (pv 4))) (xa_cons (RJ.xs (r_var (pv 5))) (xa_nil)))) (.at _) rfl (.at _) rfl (⟨_, _, _, (ok_7.1), rfl, rfl, rfl⟩)))
     (es_gen (k := (ruO pa owCl (fun (m : ((List Str) × (List (Str × Str)))) => En.fz m))) (fun (pairs : (List (Int × Int))) => [.at pa (m_pairs purse_4 many way thin).2, .fz most, .fz many, .fz names, .fz way, .fz thin, .ow pairs, .un, .un, .un, .un]) fun pairs h_8 =>
     have ok_8 := ok_gen ok_7.2 h_8; es_gen (k := (ruO pa owCl (fun (m : ((List Str) × (List (Str × Str)))) => En.fz m))) (fun (purse_5 : Pu) => [.at pa purse_5, .fz most, .fz many, .fz names, .fz way, .fz thin, .ow pairs, .un, .un, .un, .un]) fun purse_5 h_9 =>
     have ok_9 := ok_gen ok_8 h_9; es_cons (s_forF (tst := PassesOwn.never) (esf := (fun (st : ((List (Int × Int)) × Pu)) => [.at pa st.2, .fz most, .fz many, .fz names, .fz way, .fz thin, .ow st.1, .un, .un, .un, .un])) (est := fun st k => [.at pa st.2, .fz most, .fz many, .fz names, .fz way, .fz thin, .ow st.1, .fz k, .un, .un, .un]) (g := m_jobs_L1) (y0 := (pairs, (m_take purse_5 (3 : Int)).2)) rfl (i_range1 (by rfl) B.n_range (ok_9.2.2.1) (x_mul (ok_9.2.1) (RJ.xs (r_intB (by rfl) B.n_int (r_neD (by exact hr.units) ((o_var (pv 6))) (NJ.rd (n_disp (α := (Int × Int)) (la_nil)))))) (xU D_m_take (hr.mono (by decide)) (pv 0) (xa_cons (RJ.xs (r_int)) (xa_nil)) (.at _) rfl (.at _) rfl (⟨_, (ok_9.1), rfl, rfl, rfl⟩)))) (fun st k => g_name (pg_name (i := 7) sc_m_jobs.nd rfl (.inl rfl)) (Nat.le_of_ble_eq_true rfl))
     (fun st k hat => have ok_10 := ok_9.2.2.2.1 st k hat; es_nxO (esf := (fun (st : ((List (Int × Int)) × Pu)) => [.at pa st.2, .fz most, .fz many, .fz names, .fz way, .fz thin, .ow st.1, .un, .un, .un, .un])) (es_gen (k := (nxO (fun (st : ((List (Int × Int)) × Pu)) => [.at pa st.2, .fz most, .fz many, .fz names, .fz way, .fz thin, .ow st.1, .un, .un, .un, .un]))) (fun (pairs_1 : (List (Int × Int))) => [.at pa st.2, .fz most, .fz many, .fz names, .fz way, .fz thin, .ow pairs_1, .fz k, .un, .un, .un]) fun pairs_1 h_10 => have ok_11 := ok_gen ok_10 h_10; es_gen (k := (nxO (fun (st : ((List (Int × Int)) × Pu)) => [.at pa st.2, .fz most, .fz many, .fz names, .fz way, .fz thin, .ow st.1, .un, .un, .un, .un]))) (fun (purse_6 : Pu) => [.at pa purse_6, .fz most, .fz many, .fz names, .fz way, .fz thin, .ow pairs_1, .fz k, .un, .un, .un]) fun purse_6 h_11 => have ok_12 := ok_gen ok_11 h_11; es_cons (s_ins (α := (Int × Int)) (ps_expr (pe_bm PySem.F.plainAttrs_list PySem.F.slot_list_insert PySem.F.type_list_insert mt_ins (pv 6) (pa_cons peW (pa_cons peW pa_nil)))) (xU D_m_take (hr.mono (by decide)) (pv 0) (xa_cons (RJ.xs (r_add (r_len (by rfl) B.n_len ((o_var (pv 6)))) (r_int))) (xa_nil)) (.at _) rfl (.at _) rfl (⟨_, (ok_12.1), rfl, rfl, rfl⟩)) (x_ixO (ok_12.2.2.1) (pv 6) rfl (xU D_m_take (hr.mono (by decide)) (pv 0) (xa_cons (RJ.xs (r_len (by rfl) B.n_len ((o_var (pv 6))))) (xa_nil)) (.at _) rfl (.at _) rfl (⟨_, (ok_12.2.1), rfl, rfl, rfl⟩))) ⟨_, _, rfl, .ow⟩ rfl .ow (ok_12.2.2.2.1) (ok_12.2.2.2.2.1))
     (es_gen (k := (nxO (fun (st : ((List (Int × Int)) × Pu)) => [.at pa st.2, .fz most, .fz many, .fz names, .fz way, .fz thin, .ow st.1, .un, .un, .un, .un]))) (fun (pairs_2 : (List (Int × Int))) => [.at pa (m_take (m_take purse_6 ((pairs_1.length : Int) + (1 : Int))).2 (pairs_1.length : Int)).2, .fz most, .fz many, .fz names, .fz way, .fz thin, .ow pairs_2, .fz k, .un, .un, .un]) fun pairs_2 h_12 =>
     es_gen (k := (nxO (fun (st : ((List (Int × Int)) × Pu)) => [.at pa st.2, .fz most, .fz many, .fz names, .fz way, .fz thin, .ow st.1, .un, .un, .un, .un]))) (fun (purse_7 : Pu) => [.at pa purse_7, .fz most, .fz many, .fz names, .fz way, .fz thin, .ow pairs_2, .fz k, .un, .un, .un]) fun purse_7 h_13 =>
     es_nilO ⟨.inr rfl, .inr rfl, .inr rfl, .inr rfl, .inr rfl, .inr rfl, .inr rfl, .inl rfl, .inl rfl, .inl rfl, .inl rfl, trivial⟩))))
     (es_gen (k := (ruO pa owCl (fun (m : ((List Str) × (List (Str × Str)))) => En.fz m))) (fun (st : ((List (Int × Int)) × Pu)) => [.at pa st.2, .fz most, .fz many, .fz names, .fz way, .fz thin, .ow st.1, .un, .un, .un, .un]) fun st h_14 =>
     have ok_15 := ok_gen ok_9.2.2.2.2 h_14; es_gen (k := (ruO pa owCl (fun (m : ((List Str) × (List (Str × Str)))) => En.fz m))) (fun (pairs_3 : (List (Int × Int))) => [.at pa st.2, .fz most, .fz many, .fz names, .fz way, .fz thin, .ow pairs_3, .un, .un, .un, .un]) fun pairs_3 h_15 => have ok_16 := ok_gen ok_15 h_15; es_gen (k := (ruO pa owCl (fun (m : ((List Str) × (List (Str × Str)))) => En.fz m))) (fun (purse_8 : Pu) => [.at pa purse_8, .fz most, .fz many, .fz names, .fz way, .fz thin, .ow pairs_3, .un, .un, .un, .un]) fun purse_8 h_16 => have ok_17 := ok_gen ok_16 h_16; es_cons (s_asgN (ps_set (i := 8) sc_m_jobs.nd rfl (.inr rfl) peW) (n_disp (α := Int) (la_nil)))
     (es_gen (k := (ruO pa owCl (fun (m : ((List Str) × (List (Str × Str)))) => En.fz m))) (fun (spots : (List Int)) => [.at pa purse_8, .fz most, .fz many, .fz names, .fz way, .fz thin, .ow pairs_3, .un, .ow spots, .un, .un]) fun spots h_17 =>
     have ok_18 := ok_gen ok_17 h_17; es_cons (s_forF (tst := PassesOwn.never) (esf := (fun (st_1 : ((List Int) × Pu)) => [.at pa st_1.2, .fz most, .fz many, .fz names, .fz way, .fz thin, .ow pairs_3, .un, .ow st_1.1, .un, .un])) (est := fun st_1 k_1 => [.at pa st_1.2, .fz most, .fz many, .fz names, .fz way, .fz thin, .ow pairs_3, .fz k_1, .ow st_1.1, .un, .un]) (g := m_jobs_L2) (y0 := (spots, purse_8)) rfl (i_range1 (by rfl) B.n_range (ok_18.1) (RJ.xs (r_var (pv 2)))) (fun st_1 k_1 => g_name (pg_name (i := 7) sc_m_jobs.nd rfl (.inl rfl)) (Nat.le_of_ble_eq_true rfl))
     (fun st_1 k_1 hat_1 => have ok_19 := ok_18.2.1 st_1 k_1 hat_1; es_nxO (esf := (fun (st_1 : ((List Int) × Pu)) => [.at pa st_1.2, .fz most, .fz many, .fz names, .fz way, .fz thin, .ow pairs_3, .un, .ow st_1.1, .un, .un])) (es_gen (k := (nxO (fun (st_1 : ((List Int) × Pu)) => [.at pa st_1.2, .fz most, .fz many, .fz names, .fz way, .fz thin, .ow pairs_3, .un, .ow st_1.1, .un, .un]))) (fun (spots_1 : (List Int)) => [.at pa st_1.2, .fz most, .fz many, .fz names, .fz way, .fz thin, .ow pairs_3, .fz k_1, .ow spots_1, .un, .un]) fun spots_1 h_18 => have ok_20 := ok_gen ok_19 h_18; es_gen (k := (nxO (fun (st_1 : ((List Int) × Pu)) => [.at pa st_1.2, .fz most, .fz many, .fz names, .fz way, .fz thin, .ow pairs_3, .un, .ow st_1.1, .un, .un]))) (fun (purse_9 : Pu) => [.at pa purse_9, .fz most, .fz many, .fz names, .fz way, .fz thin, .ow pairs_3, .fz k_1, .ow spots_1, .un, .un]) fun purse_9 h_19 => have ok_21 := ok_gen ok_20 h_19; es_cons (s_ins (α := Int) (ps_expr (pe_bm PySem.F.plainAttrs_list PySem.F.slot_list_insert PySem.F.type_list_insert mt_ins (pv 8) (pa_cons peW (pa_cons peW pa_nil)))) (xU D_m_take (hr.mono (by decide)) (pv 0) (xa_cons (RJ.xs (r_add (r_var (pv 7)) (r_int))) (xa_nil)) (.at _) rfl (.at _) rfl (⟨_, (ok_21.1), rfl, rfl, rfl⟩)) (RJ.xs (r_var (pv 7))) ⟨_, _, rfl, .ow⟩ rfl .ow (ok_21.2.1) (ok_21.2.2.1))
     (es_gen (k := (nxO (fun (st_1 : ((List Int) × Pu)) => [.at pa st_1.2, .fz most, .fz many, .fz names, .fz way, .fz thin, .ow pairs_3, .un, .ow st_1.1, .un, .un]))) (fun (spots_2 : (List Int)) => [.at pa (m_take purse_9 (k_1 + (1 : Int))).2, .fz most, .fz many, .fz names, .fz way, .fz thin, .ow pairs_3, .fz k_1, .ow spots_2, .un, .un]) fun spots_2 h_20 =>
     es_gen (k := (nxO (fun (st_1 : ((List Int) × Pu)) => [.at pa st_1.2, .fz most, .fz many, .fz names, .fz way, .fz thin, .ow pairs_3, .un, .ow st_1.1, .un, .un]))) (fun (purse_10 : Pu) => [.at pa purse_10, .fz most, .fz many, .fz names, .fz way, .fz thin, .ow pairs_3, .fz k_1, .ow spots_2, .un, .un]) fun purse_10 h_21 =>
     es_nilO ⟨.inr rfl, .inr rfl, .inr rfl, .inr rfl, .inr rfl, .inr rfl, .inr rfl, .inl rfl, .inr rfl, .inl rfl, .inl rfl, trivial⟩))))
     (es_gen (k := (ruO pa owCl (fun (m : ((List Str) × (List (Str × Str)))) => En.fz m))) (fun (st_1 : ((List Int) × Pu)) => [.at pa st_1.2, .fz most, .fz many, .fz names, .fz way, .fz thin, .ow pairs_3, .un, .ow st_1.1, .un, .un]) fun st_1 h_22 =>
     have ok_24 := ok_gen ok_18.2.2 h_22; es_gen (k := (ruO pa owCl (fun (m : ((List Str) × (List (Str × Str)))) => En.fz m))) (fun (spots_3 : (List Int)) => [.at pa st_1.2, .fz most, .fz many, .fz names, .fz way, .fz thin, .ow pairs_3, .un, .ow spots_3, .un, .un]) fun spots_3 h_23 => have ok_25 := ok_gen ok_24 h_23; es_gen (k := (ruO pa owCl (fun (m : ((List Str) × (List (Str × Str)))) => En.fz m))) (fun (purse_11 : Pu) => [.at pa purse_11, .fz most, .fz many, .fz names, .fz way, .fz thin, .ow pairs_3, .un, .ow spots_3, .un, .un]) fun purse_11 h_24 => have ok_26 := ok_gen ok_25 h_24; es_ru (es_one (u_ret (i := 0) (ps_ret peW) (FJ.x (f_tup2 (f_var (pv 3)) (NJ.frz ((rd_lc (vs := [9, 10]) (est := fun x => [.at pa purse_11, .fz most, .fz many, .fz names, .fz way, .fz thin, .ow pairs_3, .un, .ow spots_3, .fz x.1, .fz x.2]) (p := fun (x : (Int × Int)) => true) (g := fun (x : (Int × Int)) => ((getI names (getI spots_3 x.1)), (getI names (getI spots_3 x.2)))) (h_list ((o_lr (pv 6)))) rfl (fun _ _ _ _ _ x => ct_tup2 (pg_tup rfl (pgs_cons (pg_name (i := 9) sc_m_jobs.nd rfl (Or.inl rfl)) (pgs_cons (pg_name (i := 10) sc_m_jobs.nd rfl (Or.inl rfl)) pgs_nil))) (by decide) ⟨Nat.le_of_ble_eq_true rfl, Nat.le_of_ble_eq_true rfl⟩) (fun _ _ _ _ _ x hx => if_nil) (fun _ _ _ _ _ x hx hp => f_tup2 (f_ix (((ok_26.1) x hx hp).2.1) (f_var (pv 3)) (r_ix (((ok_26.1) x hx hp).1) ((o_var (pv 8))) (r_var (pv 9)))) (f_ix (((ok_26.1) x hx hp).2.2.2.1) (f_var (pv 3)) (r_ix (((ok_26.1) x hx hp).2.2.1) ((o_var (pv 8))) (r_var (pv 10)))))).nj (pe_lcW (own := [("_law_i", 9), ("_law_j", 10)]) rfl sc_m_jobs.nd (blkOk_by (N := N_m_jobs) (sc := defScope st_m_jobs) (by decide +kernel)))))))))))))))))
/-! is_name -/
def p_is_name (thing : Str) : Bool :=
  (bif ((!true) || (!(decide ((1 : Int) ≤ (thing.length : Int)) && decide ((thing.length : Int) ≤ (8 : Int))))) then false else
  ((given (fun (sign : Str) => true) (fun (sign : Str) => (decide ((sgnOf sign) ∈ ("abcdefghijklmnopqrstuvwxyz" : Str).cps.toList))) (signsOf thing)).all id))
def ok_p_is_name (thing : Str) : Prop :=
  okIf ((!true) || (!(decide ((1 : Int) ≤ (thing.length : Int)) && decide ((thing.length : Int) ≤ (8 : Int))))) (True) ((∀ sign ∈ (signsOf thing), true = true → (sign = sgn (sgnOf sign)) ∧ True) ∧ True)
abbrev N_p_is_name : List Str := (["thing", "sign"] : List Str)
abbrev st_p_is_name : Stmt := top 24
theorem sc_p_is_name : FnScope N_p_is_name ["thing"] (defScope st_p_is_name) := ⟨rfl, rfl, rfl, by decide +kernel, rfl, by decide +kernel, by decide +kernel⟩
def G_p_is_name (as : List En) (r : En) : Prop := ∃ (thing : Str), ok_p_is_name thing ∧ as = [.fz thing] ∧ r = .fz (p_is_name thing)
set_option maxRecDepth 100000 in
theorem w_p_is_name (B : Bn mg) (J : JCls K) 
    {f : Addr} {fd : FuncData} (F : FnP K "is_name" st_p_is_name f fd) : FnOk P w K mg base CX0 1 f fd ["thing"] (spP K G_p_is_name) := by
  refine fn_pure F sc_p_is_name (by decide) (fun as r h => by obtain ⟨thing, hok, rfl, _⟩ := h; rfl) (fun cdv A outer s H E hr as r h => ?_)
  obtain ⟨thing, hok, rfl, rfl⟩ := h
  refine ⟨(fun (m : Bool) => Out.rt (.fz m)) (p_is_name thing), rfl, ?_⟩
  show ES _ [.fz thing, .un] _ ((fun (m : Bool) => Out.rt (.fz m)) (bif ((!true) || (!(decide ((1 : Int) ≤ (thing.length : Int)) && decide ((thing.length : Int) ≤ (8 : Int))))) then false else
  ((given (fun (sign : Str) => true) (fun (sign : Str) => (decide ((sgnOf sign) ∈ ("abcdefghijklmnopqrstuvwxyz" : Str).cps.toList))) (signsOf thing)).all id)))
  have hok : okIf ((!true) || (!(decide ((1 : Int) ≤ (thing.length : Int)) && decide ((thing.length : Int) ≤ (8 : Int))))) (True) ((∀ sign ∈ (signsOf thing), true = true → (sign = sgn (sgnOf sign)) ∧ True) ∧ True) := hok
  exact es_ifr (k := (fun (m : Bool) => Out.rt (.fz m))) (m1 := false) (TJ.x (w_t (w_or (t_not (t_val (r_isiStr (by rfl) B.n_isinstance (by rfl) B.n_str (r_var (pv 0))))) (fun hb => w_or1 (t_not (t_ltle (r_int) (r_lenS (by rfl) B.n_len (r_var (pv 0))) (r_int))))))) (by first | rfl | exact ruO_ends) (fun hb_1 => es_one (s_ret (ps_ret peW) (RJ.sc (r_bl))))
     (fun hb_1 => have ok_1 := hok.2 hb_1; es_one (s_ret (ps_ret peW) (RJ.sc (r_all (by rfl) (by rfl) B.n_all (((rd_lc (vs := [1]) (est := fun sign => [.fz thing, .fz sign]) (p := fun (sign : Str) => true) (g := fun (sign : Str) => (decide ((sgnOf sign) ∈ ("abcdefghijklmnopqrstuvwxyz" : Str).cps.toList))) (h_str (r_var (pv 0))) rfl (fun _ _ _ _ _ sign => ct_name (pg_name (i := 1) sc_p_is_name.nd rfl (Or.inl rfl)) (by decide) (Nat.le_of_ble_eq_true rfl)) (fun _ _ _ _ _ sign hx => if_nil) (fun _ _ _ _ _ sign hx hp => RJ.sc (r_sign (isSgn (((ok_1.1) sign hx hp).1) (r_var (pv 1))) (r_gstr B.g_LETTERS)))).nj (pe_lcW (own := [("sign", 1)]) rfl sc_p_is_name.nd (blkOk_by (N := N_p_is_name) (sc := defScope st_p_is_name) (by decide +kernel)))).lr)))))
/-! want_names -/
def p_want_names_L1 (st : Unit) (thing : Str) : Unit :=
  ()
def p_want_names_L2 (st_1 : Unit) (x : (Int × Str)) : Unit :=
  (pipe x.1 fun (k : Int) =>
  (pipe x.2 fun (name : Str) =>
  ()))
def p_want_names (row : (List Str)) : Unit :=
  (pipe (List.foldl p_want_names_L1 () row) fun (st : Unit) =>
  (pipe (List.foldl p_want_names_L2 () (zipN row)) fun (st_1 : Unit) =>
  ()))
def ok_p_want_names (row : (List Str)) : Prop :=
  ((decide ((row.length : Int) > (20 : Int))) = false) ∧ (∀ (st : Unit) (thing : Str), AtF p_want_names_L1 row () st thing → (ok_p_is_name thing) ∧ ((!(p_is_name thing)) = false) ∧ True) ∧
  (pipe (List.foldl p_want_names_L1 () row) fun (st : Unit) =>
  (∀ (st_1 : Unit) (x : (Int × Str)), AtF p_want_names_L2 (zipN row) () st_1 x → (pipe x.1 fun (k : Int) =>
  (pipe x.2 fun (name : Str) =>
  ((decide (name ∈ (cutX row none (some k)))) = false) ∧ True))) ∧
  True)
abbrev N_p_want_names : List Str := (["row", "thing", "k", "name"] : List Str)
abbrev st_p_want_names : Stmt := top 25
theorem sc_p_want_names : FnScope N_p_want_names ["row"] (defScope st_p_want_names) := ⟨rfl, rfl, rfl, by decide +kernel, rfl, by decide +kernel, by decide +kernel⟩
def G_p_want_names (as : List En) (r : En) : Prop := ∃ (row : (List Str)), ok_p_want_names row ∧ as = [.fz row] ∧ r = .fz (p_want_names row)
set_option maxRecDepth 100000 in
theorem w_p_want_names (B : Bn mg) (J : JCls K) (D_p_is_name : Df P w K mg base 1 "is_name" ["thing"] (spP K G_p_is_name))
    {f : Addr} {fd : FuncData} (F : FnP K "want_names" st_p_want_names f fd) : FnOk P w K mg base CX0 2 f fd ["row"] (spP K G_p_want_names) := by
  refine fn_pure F sc_p_want_names (by decide) (fun as r h => by obtain ⟨row, hok, rfl, _⟩ := h; rfl) (fun cdv A outer s H E hr as r h => ?_)
  obtain ⟨row, hok, rfl, rfl⟩ := h
  refine ⟨(fun (_ : Unit) => Out.en) (p_want_names row), rfl, ?_⟩
  show ES _ [.fz row, .un, .un, .un] _ ((fun (_ : Unit) => Out.en) (pipe (List.foldl p_want_names_L1 () row) fun (st : Unit) =>
  (pipe (List.foldl p_want_names_L2 () (zipN row)) fun (st_1 : Unit) =>
  ())))
  have hok : ((decide ((row.length : Int) > (20 : Int))) = false) ∧ (∀ (st : Unit) (thing : Str), AtF p_want_names_L1 row () st thing → (ok_p_is_name thing) ∧ ((!(p_is_name thing)) = false) ∧ True) ∧
  (pipe (List.foldl p_want_names_L1 () row) fun (st : Unit) =>
  (∀ (st_1 : Unit) (x : (Int × Str)), AtF p_want_names_L2 (zipN row) () st_1 x → (pipe x.1 fun (k : Int) =>
  (pipe x.2 fun (name : Str) =>
  ((decide (name ∈ (cutX row none (some k)))) = false) ∧ True))) ∧
  True) := hok
  exact es_ifx (hok.1) (TJ.x (t_gt (r_len (by rfl) B.n_len (FJ.rd (f_var (pv 0)))) (r_gint B.g_MOST_JOBS_jobs)))
     (es_cons (s_forF (tst := PassesOwn.never) (esf := (fun (st : Unit) => [.fz row, .un, .un, .un])) (est := fun st thing => [.fz row, .fz thing, .un, .un]) (g := p_want_names_L1) (y0 := ()) rfl (i_list (FJ.x (f_var (pv 0)))) (fun st thing => g_name (pg_name (i := 1) sc_p_want_names.nd rfl (.inl rfl)) (Nat.le_of_ble_eq_true rfl))
     (fun st thing hat => have ok := hok.2.1 st thing hat; es_nxO (m := ()) (esf := (fun (st : Unit) => [.fz row, .un, .un, .un])) (es_ifx (ok.2.1) (TJ.x (t_not (t_val (FJ.rd (fD D_p_is_name (hr.mono (by decide)) (a_cons (RJ.sc (r_var (pv 1))) (a_nil)) (⟨_, (ok.1), rfl, rfl⟩))))))
     (es_nilO ⟨.inr rfl, .inl rfl, .inl rfl, .inl rfl, trivial⟩))))
     (es_gen (k := (fun (_ : Unit) => Out.en)) (m := fun (st : Unit) => (pipe (List.foldl p_want_names_L2 () (zipN row)) fun (st_1 : Unit) =>
     ())) (x := (List.foldl p_want_names_L1 () row)) (fun (st : Unit) => [.fz row, .un, .un, .un]) fun st h =>
     have ok_1 := ok_gen hok.2.2 h; es_cons (s_forF (tst := PassesOwn.never) (esf := (fun (st_1 : Unit) => [.fz row, .un, .un, .un])) (est := fun st_1 x => [.fz row, .un, .fz x.1, .fz x.2]) (g := p_want_names_L2) (y0 := ()) rfl (i_enum (by rfl) B.n_enumerate (FJ.x (f_var (pv 0)))) (fun st_1 x => g_tup2 (pg_tup rfl (pgs_cons (pg_name (i := 2) sc_p_want_names.nd rfl (.inl rfl)) (pgs_cons (pg_name (i := 3) sc_p_want_names.nd rfl (.inl rfl)) pgs_nil))) ⟨Nat.le_of_ble_eq_true rfl, Nat.le_of_ble_eq_true rfl⟩)
     (fun st_1 x hat_1 => have ok_2 := ok_1.1 st_1 x hat_1; es_nxO (m := ()) (esf := (fun (st_1 : Unit) => [.fz row, .un, .un, .un])) (es_gen (k := (nxO (fun (st_1 : Unit) => [.fz row, .un, .un, .un]))) (m := fun (k : Int) => (pipe x.2 fun (name : Str) =>
     ())) (x := x.1) (fun (k : Int) => [.fz row, .un, .fz k, .fz x.2]) fun k h_1 =>
     have ok_3 := ok_gen ok_2 h_1; es_gen (k := (nxO (fun (st_1 : Unit) => [.fz row, .un, .un, .un]))) (m := fun (name : Str) => ()) (x := x.2) (fun (name : Str) => [.fz row, .un, .fz k, .fz name]) fun name h_2 =>
     have ok_4 := ok_gen ok_3 h_2; es_ifx (ok_4.1) (TJ.x (t_in (r_var (pv 3)) (NJ.rd (n_slice ((f_var (pv 0)).lr) .no (.some (r_var (pv 2)))))))
     (es_nilO ⟨.inr rfl, .inl rfl, .inl rfl, .inl rfl, trivial⟩))))
     (es_gen (k := (fun (_ : Unit) => Out.en)) (m := fun (st_1 : Unit) => ()) (x := (List.foldl p_want_names_L2 () (zipN row))) (fun (st_1 : Unit) => [.fz row, .un, .un, .un]) fun st_1 h_3 =>
     es_end)))
/-! want_orders -/
def p_want_orders_L2 (st_1 : Unit) (part : Str) : Unit :=
  ()
def p_want_orders_L1 (st : Unit) (x : (Str × Str)) : Unit :=
  (pipe x.1 fun (one : Str) =>
  (pipe x.2 fun (other : Str) =>
  (pipe (List.foldl p_want_orders_L2 () (Tl.mk [one, other]).l) fun (st_1 : Unit) =>
  ())))
def p_want_orders (row : (List Str)) (pairs : (List (Str × Str))) : Unit :=
  (pipe (List.foldl p_want_orders_L1 () pairs) fun (st : Unit) =>
  ())
def ok_p_want_orders (row : (List Str)) (pairs : (List (Str × Str))) : Prop :=
  (∀ (st : Unit) (x : (Str × Str)), AtF p_want_orders_L1 pairs () st x → (pipe x.1 fun (one : Str) =>
  (pipe x.2 fun (other : Str) =>
  (∀ (st_1 : Unit) (part : Str), AtF p_want_orders_L2 (Tl.mk [one, other]).l () st_1 part → (((!true) || (!(decide (part ∈ row)))) = false) ∧ True) ∧
  True))) ∧
  True
abbrev N_p_want_orders : List Str := (["row", "pairs", "one", "other", "part"] : List Str)
abbrev st_p_want_orders : Stmt := top 26
theorem sc_p_want_orders : FnScope N_p_want_orders ["row", "pairs"] (defScope st_p_want_orders) := ⟨rfl, rfl, rfl, by decide +kernel, rfl, by decide +kernel, by decide +kernel⟩
def G_p_want_orders (as : List En) (r : En) : Prop := ∃ (row : (List Str)) (pairs : (List (Str × Str))), ok_p_want_orders row pairs ∧ as = [.fz row, .fz pairs] ∧ r = .fz (p_want_orders row pairs)
set_option maxRecDepth 100000 in
theorem w_p_want_orders (B : Bn mg) (J : JCls K) 
    {f : Addr} {fd : FuncData} (F : FnP K "want_orders" st_p_want_orders f fd) : FnOk P w K mg base CX0 1 f fd ["row", "pairs"] (spP K G_p_want_orders) := by
  refine fn_pure F sc_p_want_orders (by decide) (fun as r h => by obtain ⟨row, pairs, hok, rfl, _⟩ := h; rfl) (fun cdv A outer s H E hr as r h => ?_)
  obtain ⟨row, pairs, hok, rfl, rfl⟩ := h
  refine ⟨(fun (_ : Unit) => Out.en) (p_want_orders row pairs), rfl, ?_⟩
  show ES _ [.fz row, .fz pairs, .un, .un, .un] _ ((fun (_ : Unit) => Out.en) (pipe (List.foldl p_want_orders_L1 () pairs) fun (st : Unit) =>
  ()))
  have hok : (∀ (st : Unit) (x : (Str × Str)), AtF p_want_orders_L1 pairs () st x → (pipe x.1 fun (one : Str) =>
  (pipe x.2 fun (other : Str) =>
  (∀ (st_1 : Unit) (part : Str), AtF p_want_orders_L2 (Tl.mk [one, other]).l () st_1 part → (((!true) || (!(decide (part ∈ row)))) = false) ∧ True) ∧
  True))) ∧
  True := hok
  exact es_cons (s_forF (tst := PassesOwn.never) (esf := (fun (st : Unit) => [.fz row, .fz pairs, .un, .un, .un])) (est := fun st x => [.fz row, .fz pairs, .fz x.1, .fz x.2, .un]) (g := p_want_orders_L1) (y0 := ()) rfl (i_list (FJ.x (f_var (pv 1)))) (fun st x => g_tup2 (pg_tup rfl (pgs_cons (pg_name (i := 2) sc_p_want_orders.nd rfl (.inl rfl)) (pgs_cons (pg_name (i := 3) sc_p_want_orders.nd rfl (.inl rfl)) pgs_nil))) ⟨Nat.le_of_ble_eq_true rfl, Nat.le_of_ble_eq_true rfl⟩)
     (fun st x hat => have ok := hok.1 st x hat; es_nxO (m := ()) (esf := (fun (st : Unit) => [.fz row, .fz pairs, .un, .un, .un])) (es_gen (k := (nxO (fun (st : Unit) => [.fz row, .fz pairs, .un, .un, .un]))) (m := fun (one : Str) => (pipe x.2 fun (other : Str) =>
     (pipe (List.foldl p_want_orders_L2 () (Tl.mk [one, other]).l) fun (st_1 : Unit) =>
     ()))) (x := x.1) (fun (one : Str) => [.fz row, .fz pairs, .fz one, .fz x.2, .un]) fun one h =>
     have ok_1 := ok_gen ok h; es_gen (k := (nxO (fun (st : Unit) => [.fz row, .fz pairs, .un, .un, .un]))) (m := fun (other : Str) => (pipe (List.foldl p_want_orders_L2 () (Tl.mk [one, other]).l) fun (st_1 : Unit) =>
     ())) (x := x.2) (fun (other : Str) => [.fz row, .fz pairs, .fz one, .fz other, .un]) fun other h_1 =>
     have ok_2 := ok_gen ok_1 h_1; es_cons (s_forF (tst := PassesOwn.never) (esf := (fun (st_1 : Unit) => [.fz row, .fz pairs, .fz one, .fz other, .un])) (est := fun st_1 part => [.fz row, .fz pairs, .fz one, .fz other, .fz part]) (g := p_want_orders_L2) (y0 := ()) rfl (i_tl (FJ.x (f_tl2 (RJ.sc (r_var (pv 2))) (RJ.sc (r_var (pv 3)))))) (fun st_1 part => g_name (pg_name (i := 4) sc_p_want_orders.nd rfl (.inl rfl)) (Nat.le_of_ble_eq_true rfl))
     (fun st_1 part hat_1 => have ok_3 := ok_2.1 st_1 part hat_1; es_nxO (m := ()) (esf := (fun (st_1 : Unit) => [.fz row, .fz pairs, .fz one, .fz other, .un])) (es_ifx (ok_3.1) (TJ.x (w_t (w_or (t_not (t_val (r_isiStr (by rfl) B.n_isinstance (by rfl) B.n_str (r_var (pv 4))))) (fun hb => w_or1 (t_nin (r_var (pv 4)) (FJ.rd (f_var (pv 0))))))))
     (es_nilO ⟨.inr rfl, .inr rfl, .inr rfl, .inr rfl, .inl rfl, trivial⟩))))
     (es_gen (k := (nxO (fun (st : Unit) => [.fz row, .fz pairs, .un, .un, .un]))) (m := fun (st_1 : Unit) => ()) (x := (List.foldl p_want_orders_L2 () (Tl.mk [one, other]).l)) (fun (st_1 : Unit) => [.fz row, .fz pairs, .fz one, .fz other, .un]) fun st_1 h_2 =>
     es_nilO ⟨.inr rfl, .inr rfl, .inl rfl, .inl rfl, .inl rfl, trivial⟩))))
     (es_gen (k := (fun (_ : Unit) => Out.en)) (m := fun (st : Unit) => ()) (x := (List.foldl p_want_orders_L1 () pairs)) (fun (st : Unit) => [.fz row, .fz pairs, .un, .un, .un]) fun st h_3 =>
     es_end)
/-! straight_from -/
def p_straight_from_L1 (name : Str) (left : (List Str)) (st : Unit) (x : (Str × Str)) : (Fl Unit (Option Str)) :=
  (pipe x.1 fun (one : Str) =>
  (pipe x.2 fun (other : Str) =>
  (bif ((decide (one = name)) && (decide (other ∈ left))) then (Fl.rt (some other)) else
  (Fl.nx ()))))
def p_straight_from (name : Str) (pairs : (List (Str × Str))) (left : (List Str)) : (Option Str) :=
  (Fl.elim (forFl (p_straight_from_L1 name left) pairs ()) (fun (st : Unit) =>
  (none : (Option Str))) (fun r => r))
abbrev N_p_straight_from : List Str := (["name", "pairs", "left", "one", "other"] : List Str)
abbrev st_p_straight_from : Stmt := top 27
theorem sc_p_straight_from : FnScope N_p_straight_from ["name", "pairs", "left"] (defScope st_p_straight_from) := ⟨rfl, rfl, rfl, by decide +kernel, rfl, by decide +kernel, by decide +kernel⟩
def G_p_straight_from (as : List En) (r : En) : Prop := ∃ (name : Str) (pairs : (List (Str × Str))) (left : (List Str)), as = [.fz name, .fz pairs, .fz left] ∧ r = .fz (p_straight_from name pairs left)
set_option maxRecDepth 100000 in
theorem w_p_straight_from (B : Bn mg) (J : JCls K) 
    {f : Addr} {fd : FuncData} (F : FnP K "straight_from" st_p_straight_from f fd) : FnOk P w K mg base CX0 1 f fd ["name", "pairs", "left"] (spP K G_p_straight_from) := by
  refine fn_pure F sc_p_straight_from (by decide) (fun as r h => by obtain ⟨name, pairs, left, rfl, _⟩ := h; rfl) (fun cdv A outer s H E hr as r h => ?_)
  obtain ⟨name, pairs, left, rfl, rfl⟩ := h
  refine ⟨(fun (m : (Option Str)) => Out.rt (.fz m)) (p_straight_from name pairs left), rfl, ?_⟩
  show ES _ [.fz name, .fz pairs, .fz left, .un, .un] _ ((fun (m : (Option Str)) => Out.rt (.fz m)) (Fl.elim (forFl (p_straight_from_L1 name left) pairs ()) (fun (st : Unit) =>
  (none : (Option Str))) (fun r => r)))
  exact es_seq (k := (fun (m : (Option Str)) => Out.rt (.fz m))) (esf := (fun (st : Unit) => [.fz name, .fz pairs, .fz left, .un, .un])) (kr := fun r => (fun (m : (Option Str)) => Out.rt (.fz m)) r) (rr := fun r => r) (s_for (tst := PassesOwn.never) (esf := (fun (st : Unit) => [.fz name, .fz pairs, .fz left, .un, .un])) (est := fun st x => [.fz name, .fz pairs, .fz left, .fz x.1, .fz x.2]) (g := (p_straight_from_L1 name left)) (y0 := ()) (kr := fun r => (fun (m : (Option Str)) => Out.rt (.fz m)) r) rfl (i_list (FJ.x (f_var (pv 1)))) (fun st x => g_tup2 (pg_tup rfl (pgs_cons (pg_name (i := 3) sc_p_straight_from.nd rfl (.inl rfl)) (pgs_cons (pg_name (i := 4) sc_p_straight_from.nd rfl (.inl rfl)) pgs_nil))) ⟨Nat.le_of_ble_eq_true rfl, Nat.le_of_ble_eq_true rfl⟩) (fun _ => by first | rfl | exact ruO_rets)
     (fun st x hat => es_gen (k := (flO (fun (st : Unit) => [.fz name, .fz pairs, .fz left, .un, .un]) (fun r => (fun (m : (Option Str)) => Out.rt (.fz m)) r))) (fun (one : Str) => [.fz name, .fz pairs, .fz left, .fz one, .fz x.2]) fun one h =>
     es_gen (k := (flO (fun (st : Unit) => [.fz name, .fz pairs, .fz left, .un, .un]) (fun r => (fun (m : (Option Str)) => Out.rt (.fz m)) r))) (fun (other : Str) => [.fz name, .fz pairs, .fz left, .fz one, .fz other]) fun other h_1 =>
     es_ifr (k := (flO (fun (st : Unit) => [.fz name, .fz pairs, .fz left, .un, .un]) (fun r => (fun (m : (Option Str)) => Out.rt (.fz m)) r))) (m1 := (Fl.rt (some other))) (TJ.x (w_t (w_and (t_eq (r_var (pv 3)) (r_var (pv 0))) (fun hb => w_and1 (t_in (r_var (pv 4)) (FJ.rd (f_var (pv 2)))))))) (by first | rfl | exact ruO_ends) (fun hb_1 => es_one (s_ret (ps_ret peW) (RJ.sc (r_some (r_var (pv 4))))))
     (fun hb_1 => (by exact es_nil ⟨.inr rfl, .inr rfl, .inr rfl, .inl rfl, .inl rfl, trivial⟩)))) (fun _ => by first | rfl | exact ruO_rets) (fun _ => by first | rfl | exact ruO_rets) (fun st h_2 =>
     es_one (s_ret (ps_ret peW) (RJ.sc (r_none))))
/-! ring_in -/
def p_ring_in_L1 (pairs : (List (Str × Str))) (st : ((List Str) × Bool)) : (Fl ((List Str) × Bool) (Option Str)) :=
  (pipe st.1 fun (left_1 : (List Str)) => (pipe st.2 fun (done_1 : Bool) => (pipe (given (fun (name : Str) => (!(p_straight_from name pairs left_1).isSome)) (fun (name : Str) => name) left_1) fun (ends : (List Str)) =>
  (pipe (given (fun (name_1 : Str) => (!(decide (name_1 ∈ ends)))) (fun (name_1 : Str) => name_1) left_1) fun (left_2 : (List Str)) =>
  (pipe (!(decide (ends = ([] : (List Str))))) fun (done_2 : Bool) =>
  (Fl.nx (left_2, done_2)))))))
def p_ring_in (row : (List Str)) (pairs : (List (Str × Str))) : (Option Str) :=
  (pipe row fun (left : (List Str)) =>
  (pipe true fun (done : Bool) =>
  (Fl.elim (whFl (fun (st : ((List Str) × Bool)) => st.2) (p_ring_in_L1 pairs) 1000000 (left, done)) (fun (st : ((List Str) × Bool)) =>
  (pipe st.1 fun (left_3 : (List Str)) => (pipe st.2 fun (done_3 : Bool) => (bif (decide (left_3 = ([] : (List Str)))) then (none : (Option Str)) else default)))) (fun r => r))))
def ok_p_ring_in (row : (List Str)) (pairs : (List (Str × Str))) : Prop :=
  (pipe row fun (left : (List Str)) =>
  (pipe true fun (done : Bool) =>
  (whOk (fun (st : ((List Str) × Bool)) => st.2) (p_ring_in_L1 pairs) (fun (st : ((List Str) × Bool)) => True) 1000000 (left, done)) ∧
  (∀ (st : ((List Str) × Bool)), ((whFl (fun (st : ((List Str) × Bool)) => st.2) (p_ring_in_L1 pairs) 1000000 (left, done)) = .nx st ∨ (whFl (fun (st : ((List Str) × Bool)) => st.2) (p_ring_in_L1 pairs) 1000000 (left, done)) = .bk st) →
  (pipe st.1 fun (left_3 : (List Str)) => (pipe st.2 fun (done_3 : Bool) => ((decide (left_3 = ([] : (List Str)))) = true) ∧ True)))))
abbrev N_p_ring_in : List Str := (["row", "pairs", "left", "done", "ends", "walk", "onward", "name"] : List Str)
abbrev st_p_ring_in : Stmt := top 28
theorem sc_p_ring_in : FnScope N_p_ring_in ["row", "pairs"] (defScope st_p_ring_in) := ⟨rfl, rfl, rfl, by decide +kernel, rfl, by decide +kernel, by decide +kernel⟩
def G_p_ring_in (as : List En) (r : En) : Prop := ∃ (row : (List Str)) (pairs : (List (Str × Str))), ok_p_ring_in row pairs ∧ as = [.fz row, .fz pairs] ∧ r = .fz (p_ring_in row pairs)
set_option maxRecDepth 100000 in
theorem w_p_ring_in (B : Bn mg) (J : JCls K) (D_p_straight_from : Df P w K mg base 1 "straight_from" ["name", "pairs", "left"] (spP K G_p_straight_from))
    {f : Addr} {fd : FuncData} (F : FnP K "ring_in" st_p_ring_in f fd) : FnOk P w K mg base CX0 2 f fd ["row", "pairs"] (spP K G_p_ring_in) := by
  refine fn_pure F sc_p_ring_in (by decide) (fun as r h => by obtain ⟨row, pairs, hok, rfl, _⟩ := h; rfl) (fun cdv A outer s H E hr as r h => ?_)
  obtain ⟨row, pairs, hok, rfl, rfl⟩ := h
  refine ⟨(fun (m : (Option Str)) => Out.rt (.fz m)) (p_ring_in row pairs), rfl, ?_⟩
  show ES _ [.fz row, .fz pairs, .un, .un, .un, .un, .un, .un] _ ((fun (m : (Option Str)) => Out.rt (.fz m)) (pipe row fun (left : (List Str)) =>
  (pipe true fun (done : Bool) =>
  (Fl.elim (whFl (fun (st : ((List Str) × Bool)) => st.2) (p_ring_in_L1 pairs) 1000000 (left, done)) (fun (st : ((List Str) × Bool)) =>
  (pipe st.1 fun (left_3 : (List Str)) => (pipe st.2 fun (done_3 : Bool) => (bif (decide (left_3 = ([] : (List Str)))) then (none : (Option Str)) else default)))) (fun r => r)))))
  have hok : (pipe row fun (left : (List Str)) =>
  (pipe true fun (done : Bool) =>
  (whOk (fun (st : ((List Str) × Bool)) => st.2) (p_ring_in_L1 pairs) (fun (st : ((List Str) × Bool)) => True) 1000000 (left, done)) ∧
  (∀ (st : ((List Str) × Bool)), ((whFl (fun (st : ((List Str) × Bool)) => st.2) (p_ring_in_L1 pairs) 1000000 (left, done)) = .nx st ∨ (whFl (fun (st : ((List Str) × Bool)) => st.2) (p_ring_in_L1 pairs) 1000000 (left, done)) = .bk st) →
  (pipe st.1 fun (left_3 : (List Str)) => (pipe st.2 fun (done_3 : Bool) => ((decide (left_3 = ([] : (List Str)))) = true) ∧ True))))) := hok
  exact es_cons (s_asg (ps_set (i := 2) sc_p_ring_in.nd rfl (.inr rfl) peW) (NJ.frz (n_listof (by rfl) B.n_list ((f_var (pv 0)).lr))))
     (es_gen (k := (fun (m : (Option Str)) => Out.rt (.fz m))) (fun (left : (List Str)) => [.fz row, .fz pairs, .fz left, .un, .un, .un, .un, .un]) fun left h =>
     have ok := ok_gen hok h; es_cons (s_asg (ps_set (i := 3) sc_p_ring_in.nd rfl (.inl rfl) peW) (RJ.sc (r_bl)))
     (es_gen (k := (fun (m : (Option Str)) => Out.rt (.fz m))) (fun (done : Bool) => [.fz row, .fz pairs, .fz left, .fz done, .un, .un, .un, .un]) fun done h_1 =>
     have ok_1 := ok_gen ok h_1; es_seq (k := (fun (m : (Option Str)) => Out.rt (.fz m))) (esf := (fun (st : ((List Str) × Bool)) => [.fz row, .fz pairs, .fz st.1, .fz st.2, .un, .un, .un, .un])) (kr := fun r => (fun (m : (Option Str)) => Out.rt (.fz m)) r) (rr := fun r => r) (s_while (tst := PassesOwn.never) (esf := (fun (st : ((List Str) × Bool)) => [.fz row, .fz pairs, .fz st.1, .fz st.2, .un, .un, .un, .un])) (cf := (fun (st : ((List Str) × Bool)) => st.2)) (g := (p_ring_in_L1 pairs)) (y0 := (left, done)) (kr := fun r => (fun (m : (Option Str)) => Out.rt (.fz m)) r) 1000000 ok_1.1 rfl (fun _ => by first | rfl | exact ruO_rets) (fun st => t_val (r_var (pv 3))) (fun st ok_2 hc =>
     es_gen (k := (flO (fun (st : ((List Str) × Bool)) => [.fz row, .fz pairs, .fz st.1, .fz st.2, .un, .un, .un, .un]) (fun r => (fun (m : (Option Str)) => Out.rt (.fz m)) r))) (fun (left_1 : (List Str)) => [.fz row, .fz pairs, .fz left_1, .fz st.2, .un, .un, .un, .un]) fun left_1 h_2 => es_gen (k := (flO (fun (st : ((List Str) × Bool)) => [.fz row, .fz pairs, .fz st.1, .fz st.2, .un, .un, .un, .un]) (fun r => (fun (m : (Option Str)) => Out.rt (.fz m)) r))) (fun (done_1 : Bool) => [.fz row, .fz pairs, .fz left_1, .fz done_1, .un, .un, .un, .un]) fun done_1 h_3 => es_cons (s_asg (ps_set (i := 4) sc_p_ring_in.nd rfl (.inr rfl) peW) (NJ.frz ((rd_lc (vs := [7]) (est := fun name => [.fz row, .fz pairs, .fz left_1, .fz done_1, .un, .un, .un, .fz name]) (p := fun (name : Str) => (!(p_straight_from name pairs left_1).isSome)) (g := fun (name : Str) => name) (h_list ((f_var (pv 2)).lr)) rfl (fun _ _ _ _ _ name => ct_name (pg_name (i := 7) sc_p_ring_in.nd rfl (Or.inl rfl)) (by decide) (Nat.le_of_ble_eq_true rfl)) (fun _ _ _ _ _ name hx => if_one (t_isNone (FJ.rd (fD D_p_straight_from (hr.mono (by decide)) (a_cons (RJ.sc (r_var (pv 7))) (a_cons (f_var (pv 1)) (a_cons (f_var (pv 2)) (a_nil)))) (⟨_, _, _, rfl, rfl⟩))))) (fun _ _ _ _ _ name hx hp => RJ.sc (r_var (pv 7)))).nj (pe_lcW (own := [("name", 7)]) rfl sc_p_ring_in.nd (blkOk_by (N := N_p_ring_in) (sc := defScope st_p_ring_in) (by decide +kernel))))))
     (es_gen (k := (flO (fun (st : ((List Str) × Bool)) => [.fz row, .fz pairs, .fz st.1, .fz st.2, .un, .un, .un, .un]) (fun r => (fun (m : (Option Str)) => Out.rt (.fz m)) r))) (fun (ends : (List Str)) => [.fz row, .fz pairs, .fz left_1, .fz done_1, .fz ends, .un, .un, .un]) fun ends h_4 =>
     es_cons (s_asg (ps_set (i := 2) sc_p_ring_in.nd rfl (.inr rfl) peW) (NJ.frz ((rd_lc (vs := [7]) (est := fun name_1 => [.fz row, .fz pairs, .fz left_1, .fz done_1, .fz ends, .un, .un, .fz name_1]) (p := fun (name_1 : Str) => (!(decide (name_1 ∈ ends)))) (g := fun (name_1 : Str) => name_1) (h_list ((f_var (pv 2)).lr)) rfl (fun _ _ _ _ _ name_1 => ct_name (pg_name (i := 7) sc_p_ring_in.nd rfl (Or.inl rfl)) (by decide) (Nat.le_of_ble_eq_true rfl)) (fun _ _ _ _ _ name_1 hx_1 => if_one (t_nin (r_var (pv 7)) (FJ.rd (f_var (pv 4))))) (fun _ _ _ _ _ name_1 hx_1 hp_1 => RJ.sc (r_var (pv 7)))).nj (pe_lcW (own := [("name", 7)]) rfl sc_p_ring_in.nd (blkOk_by (N := N_p_ring_in) (sc := defScope st_p_ring_in) (by decide +kernel))))))
     (es_gen (k := (flO (fun (st : ((List Str) × Bool)) => [.fz row, .fz pairs, .fz st.1, .fz st.2, .un, .un, .un, .un]) (fun r => (fun (m : (Option Str)) => Out.rt (.fz m)) r))) (fun (left_2 : (List Str)) => [.fz row, .fz pairs, .fz left_2, .fz done_1, .fz ends, .un, .un, .un]) fun left_2 h_5 =>
     es_cons (s_asg (ps_set (i := 3) sc_p_ring_in.nd rfl (.inl rfl) peW) (RJ.sc (r_neD (by exact hr.units) (FJ.rd (f_var (pv 4))) (NJ.rd (n_disp (α := Str) (la_nil))))))
     (es_gen (k := (flO (fun (st : ((List Str) × Bool)) => [.fz row, .fz pairs, .fz st.1, .fz st.2, .un, .un, .un, .un]) (fun r => (fun (m : (Option Str)) => Out.rt (.fz m)) r))) (fun (done_2 : Bool) => [.fz row, .fz pairs, .fz left_2, .fz done_2, .fz ends, .un, .un, .un]) fun done_2 h_6 =>
     (by exact es_nil ⟨.inr rfl, .inr rfl, .inr rfl, .inr rfl, .inl rfl, .inl rfl, .inl rfl, .inl rfl, trivial⟩)))))) (fun _ => by first | rfl | exact ruO_rets) (fun _ => by first | rfl | exact ruO_rets) (fun st h_7 =>
     have ok_8 := ok_1.2 st h_7; es_gen (k := (fun (m : (Option Str)) => Out.rt (.fz m))) (fun (left_3 : (List Str)) => [.fz row, .fz pairs, .fz left_3, .fz st.2, .un, .un, .un, .un]) fun left_3 h_8 => have ok_9 := ok_gen ok_8 h_8; es_gen (k := (fun (m : (Option Str)) => Out.rt (.fz m))) (fun (done_3 : Bool) => [.fz row, .fz pairs, .fz left_3, .fz done_3, .un, .un, .un, .un]) fun done_3 h_9 => have ok_10 := ok_gen ok_9 h_9; es_ifr (k := (fun (m : (Option Str)) => Out.rt (.fz m))) (m1 := (none : (Option Str))) (TJ.x (t_eqD (by exact hr.units) (FJ.rd (f_var (pv 2))) (NJ.rd (n_disp (α := Str) (la_nil))))) (by first | rfl | exact ruO_ends) (fun hb => es_one (s_ret (ps_ret peW) (RJ.sc (r_none))))
     (fun hb => Bool.noConfusion ((ok_10.1).symm.trans hb)))))
/-! reached_from -/
def p_reached_from_L2 (here : Str) (st_1 : ((List Str) × (List Str))) (x : (Str × Str)) : ((List Str) × (List Str)) :=
  (pipe st_1.1 fun (found_2 : (List Str)) => (pipe st_1.2 fun (waiting_2 : (List Str)) => (pipe x.1 fun (one : Str) =>
  (pipe x.2 fun (other : Str) =>
  (bif ((decide (one = here)) && (!(decide (other ∈ found_2)))) then (pipe (found_2 ++ [other]) fun (found_3 : (List Str)) =>
  (pipe (waiting_2 ++ [other]) fun (waiting_3 : (List Str)) =>
  (found_3, waiting_3))) else
  (found_2, waiting_2))))))
def p_reached_from_L1 (pairs : (List (Str × Str))) (st : ((List Str) × (List Str))) : (Fl ((List Str) × (List Str)) (List Str)) :=
  (pipe st.1 fun (waiting_1 : (List Str)) => (pipe st.2 fun (found_1 : (List Str)) => (pipe (waiting_1.getLastD default) fun (here : Str) =>
  (pipe (List.foldl (p_reached_from_L2 here) (found_1, waiting_1.dropLast) pairs) fun (st_1 : ((List Str) × (List Str))) =>
  (pipe st_1.1 fun (found_4 : (List Str)) => (pipe st_1.2 fun (waiting_4 : (List Str)) => (Fl.nx (waiting_4, found_4))))))))
def p_reached_from (name : Str) (row : (List Str)) (pairs : (List (Str × Str))) : (List Str) :=
  (pipe ([] : (List Str)) fun (found : (List Str)) =>
  (pipe ([name] : (List Str)) fun (waiting : (List Str)) =>
  (Fl.elim (whFl (fun (st : ((List Str) × (List Str))) => (!(decide (st.1 = ([] : (List Str)))))) (p_reached_from_L1 pairs) 1000000 (waiting, found)) (fun (st : ((List Str) × (List Str))) =>
  (pipe st.1 fun (waiting_5 : (List Str)) => (pipe st.2 fun (found_5 : (List Str)) => (given (fun (other_1 : Str) => (decide (other_1 ∈ found_5))) (fun (other_1 : Str) => other_1) row)))) (fun r => r))))
def ok_p_reached_from (name : Str) (row : (List Str)) (pairs : (List (Str × Str))) : Prop :=
  (pipe ([] : (List Str)) fun (found : (List Str)) =>
  (pipe ([name] : (List Str)) fun (waiting : (List Str)) =>
  (whOk (fun (st : ((List Str) × (List Str))) => (!(decide (st.1 = ([] : (List Str)))))) (p_reached_from_L1 pairs) (fun (st : ((List Str) × (List Str))) => (pipe st.1 fun (waiting_1 : (List Str)) => (pipe st.2 fun (found_1 : (List Str)) => (0 < waiting_1.length) ∧ (pipe (waiting_1.getLastD default) fun (here : Str) =>
  (∀ (st_1 : ((List Str) × (List Str))) (x : (Str × Str)), AtF (p_reached_from_L2 here) pairs (found_1, waiting_1.dropLast) st_1 x → (pipe st_1.1 fun (found_2 : (List Str)) => (pipe st_1.2 fun (waiting_2 : (List Str)) => (pipe x.1 fun (one : Str) =>
  (pipe x.2 fun (other : Str) =>
  okIf ((decide (one = here)) && (!(decide (other ∈ found_2)))) ((found_2.length < big) ∧ (pipe (found_2 ++ [other]) fun (found_3 : (List Str)) =>
  (waiting_2.length < big) ∧ True)) (True)))))) ∧
  True)))) 1000000 (waiting, found)) ∧
  True))
abbrev N_p_reached_from : List Str := (["name", "row", "pairs", "found", "waiting", "here", "one", "other"] : List Str)
abbrev st_p_reached_from : Stmt := top 29
theorem sc_p_reached_from : FnScope N_p_reached_from ["name", "row", "pairs"] (defScope st_p_reached_from) := ⟨rfl, rfl, rfl, by decide +kernel, rfl, by decide +kernel, by decide +kernel⟩
def G_p_reached_from (as : List En) (r : En) : Prop := ∃ (name : Str) (row : (List Str)) (pairs : (List (Str × Str))), ok_p_reached_from name row pairs ∧ as = [.fz name, .fz row, .fz pairs] ∧ r = .ow (p_reached_from name row pairs)
set_option maxRecDepth 100000 in
theorem w_p_reached_from (B : Bn mg) (J : JCls K) 
    {f : Addr} {fd : FuncData} (F : FnP K "reached_from" st_p_reached_from f fd) : FnOk P w K mg base CX0 1 f fd ["name", "row", "pairs"] (spP K G_p_reached_from) := by
  refine fn_pure F sc_p_reached_from (by decide) (fun as r h => by obtain ⟨name, row, pairs, hok, rfl, _⟩ := h; rfl) (fun cdv A outer s H E hr as r h => ?_)
  obtain ⟨name, row, pairs, hok, rfl, rfl⟩ := h
  refine ⟨(fun (m : (List Str)) => Out.rt (.ow m)) (p_reached_from name row pairs), rfl, ?_⟩
  show ES _ [.fz name, .fz row, .fz pairs, .un, .un, .un, .un, .un] _ ((fun (m : (List Str)) => Out.rt (.ow m)) (pipe ([] : (List Str)) fun (found : (List Str)) =>
  (pipe ([name] : (List Str)) fun (waiting : (List Str)) =>
  (Fl.elim (whFl (fun (st : ((List Str) × (List Str))) => (!(decide (st.1 = ([] : (List Str)))))) (p_reached_from_L1 pairs) 1000000 (waiting, found)) (fun (st : ((List Str) × (List Str))) =>
  (pipe st.1 fun (waiting_5 : (List Str)) => (pipe st.2 fun (found_5 : (List Str)) => (given (fun (other_1 : Str) => (decide (other_1 ∈ found_5))) (fun (other_1 : Str) => other_1) row)))) (fun r => r)))))
  have hok : (pipe ([] : (List Str)) fun (found : (List Str)) =>
  (pipe ([name] : (List Str)) fun (waiting : (List Str)) =>
  (whOk (fun (st : ((List Str) × (List Str))) => (!(decide (st.1 = ([] : (List Str)))))) (p_reached_from_L1 pairs) (fun (st : ((List Str) × (List Str))) => (pipe st.1 fun (waiting_1 : (List Str)) => (pipe st.2 fun (found_1 : (List Str)) => (0 < waiting_1.length) ∧ (pipe (waiting_1.getLastD default) fun (here : Str) =>
  (∀ (st_1 : ((List Str) × (List Str))) (x : (Str × Str)), AtF (p_reached_from_L2 here) pairs (found_1, waiting_1.dropLast) st_1 x → (pipe st_1.1 fun (found_2 : (List Str)) => (pipe st_1.2 fun (waiting_2 : (List Str)) => (pipe x.1 fun (one : Str) =>
  (pipe x.2 fun (other : Str) =>
  okIf ((decide (one = here)) && (!(decide (other ∈ found_2)))) ((found_2.length < big) ∧ (pipe (found_2 ++ [other]) fun (found_3 : (List Str)) =>
  (waiting_2.length < big) ∧ True)) (True)))))) ∧
  True)))) 1000000 (waiting, found)) ∧
  True)) := hok
  exact es_cons (s_asgN (ps_set (i := 3) sc_p_reached_from.nd rfl (.inr rfl) peW) (n_disp (α := Str) (la_nil)))
     (es_gen (k := (fun (m : (List Str)) => Out.rt (.ow m))) (fun (found : (List Str)) => [.fz name, .fz row, .fz pairs, .ow found, .un, .un, .un, .un]) fun found h =>
     have ok := ok_gen hok h; es_cons (s_asgN (ps_set (i := 4) sc_p_reached_from.nd rfl (.inl rfl) peW) (n_disp (α := Str) (la_cons (RJ.sc (r_var (pv 0))) (la_nil))))
     (es_gen (k := (fun (m : (List Str)) => Out.rt (.ow m))) (fun (waiting : (List Str)) => [.fz name, .fz row, .fz pairs, .ow found, .ow waiting, .un, .un, .un]) fun waiting h_1 =>
     have ok_1 := ok_gen ok h_1; es_seq (k := (fun (m : (List Str)) => Out.rt (.ow m))) (esf := (fun (st : ((List Str) × (List Str))) => [.fz name, .fz row, .fz pairs, .ow st.2, .ow st.1, .un, .un, .un])) (kr := fun r => (fun (m : (List Str)) => Out.rt (.ow m)) r) (rr := fun r => r) (s_while (tst := PassesOwn.never) (esf := (fun (st : ((List Str) × (List Str))) => [.fz name, .fz row, .fz pairs, .ow st.2, .ow st.1, .un, .un, .un])) (cf := (fun (st : ((List Str) × (List Str))) => (!(decide (st.1 = ([] : (List Str))))))) (g := (p_reached_from_L1 pairs)) (y0 := (waiting, found)) (kr := fun r => (fun (m : (List Str)) => Out.rt (.ow m)) r) 1000000 ok_1.1 rfl (fun _ => by first | rfl | exact ruO_rets) (fun st => t_neD (by exact hr.units) ((o_var (pv 4))) (NJ.rd (n_disp (α := Str) (la_nil)))) (fun st ok_2 hc =>
     es_gen (k := (flO (fun (st : ((List Str) × (List Str))) => [.fz name, .fz row, .fz pairs, .ow st.2, .ow st.1, .un, .un, .un]) (fun r => (fun (m : (List Str)) => Out.rt (.ow m)) r))) (fun (waiting_1 : (List Str)) => [.fz name, .fz row, .fz pairs, .ow st.2, .ow waiting_1, .un, .un, .un]) fun waiting_1 h_2 => have ok_3 := ok_gen ok_2 h_2; es_gen (k := (flO (fun (st : ((List Str) × (List Str))) => [.fz name, .fz row, .fz pairs, .ow st.2, .ow st.1, .un, .un, .un]) (fun r => (fun (m : (List Str)) => Out.rt (.ow m)) r))) (fun (found_1 : (List Str)) => [.fz name, .fz row, .fz pairs, .ow found_1, .ow waiting_1, .un, .un, .un]) fun found_1 h_3 => have ok_4 := ok_gen ok_3 h_3; es_cons (s_asgX (ps_set (i := 5) sc_p_reached_from.nd rfl (.inl rfl) peW) (x_pop (pe_bm0 PySem.F.plainAttrs_list PySem.F.slot_list_pop PySem.F.type_list_pop mt_pop (pv 4)) rfl .ow (ok_4.1)))
     (es_gen (k := (flO (fun (st : ((List Str) × (List Str))) => [.fz name, .fz row, .fz pairs, .ow st.2, .ow st.1, .un, .un, .un]) (fun r => (fun (m : (List Str)) => Out.rt (.ow m)) r))) (fun (here : Str) => [.fz name, .fz row, .fz pairs, .ow found_1, .ow waiting_1.dropLast, .fz here, .un, .un]) fun here h_4 =>
     have ok_5 := ok_gen ok_4.2 h_4; es_cons (s_forF (tst := PassesOwn.never) (esf := (fun (st_1 : ((List Str) × (List Str))) => [.fz name, .fz row, .fz pairs, .ow st_1.1, .ow st_1.2, .fz here, .un, .un])) (est := fun st_1 x => [.fz name, .fz row, .fz pairs, .ow st_1.1, .ow st_1.2, .fz here, .fz x.1, .fz x.2]) (g := (p_reached_from_L2 here)) (y0 := (found_1, waiting_1.dropLast)) rfl (i_list (FJ.x (f_var (pv 2)))) (fun st_1 x => g_tup2 (pg_tup rfl (pgs_cons (pg_name (i := 6) sc_p_reached_from.nd rfl (.inl rfl)) (pgs_cons (pg_name (i := 7) sc_p_reached_from.nd rfl (.inl rfl)) pgs_nil))) ⟨Nat.le_of_ble_eq_true rfl, Nat.le_of_ble_eq_true rfl⟩)
     (fun st_1 x hat => have ok_6 := ok_5.1 st_1 x hat; es_nxO (esf := (fun (st_1 : ((List Str) × (List Str))) => [.fz name, .fz row, .fz pairs, .ow st_1.1, .ow st_1.2, .fz here, .un, .un])) (es_gen (k := (nxO (fun (st_1 : ((List Str) × (List Str))) => [.fz name, .fz row, .fz pairs, .ow st_1.1, .ow st_1.2, .fz here, .un, .un]))) (fun (found_2 : (List Str)) => [.fz name, .fz row, .fz pairs, .ow found_2, .ow st_1.2, .fz here, .fz x.1, .fz x.2]) fun found_2 h_5 => have ok_7 := ok_gen ok_6 h_5; es_gen (k := (nxO (fun (st_1 : ((List Str) × (List Str))) => [.fz name, .fz row, .fz pairs, .ow st_1.1, .ow st_1.2, .fz here, .un, .un]))) (fun (waiting_2 : (List Str)) => [.fz name, .fz row, .fz pairs, .ow found_2, .ow waiting_2, .fz here, .fz x.1, .fz x.2]) fun waiting_2 h_6 => have ok_8 := ok_gen ok_7 h_6; es_gen (k := (nxO (fun (st_1 : ((List Str) × (List Str))) => [.fz name, .fz row, .fz pairs, .ow st_1.1, .ow st_1.2, .fz here, .un, .un]))) (fun (one : Str) => [.fz name, .fz row, .fz pairs, .ow found_2, .ow waiting_2, .fz here, .fz one, .fz x.2]) fun one h_7 =>
     have ok_9 := ok_gen ok_8 h_7; es_gen (k := (nxO (fun (st_1 : ((List Str) × (List Str))) => [.fz name, .fz row, .fz pairs, .ow st_1.1, .ow st_1.2, .fz here, .un, .un]))) (fun (other : Str) => [.fz name, .fz row, .fz pairs, .ow found_2, .ow waiting_2, .fz here, .fz one, .fz other]) fun other h_8 =>
     have ok_10 := ok_gen ok_9 h_8; es_one (s_ife (k := (nxO (fun (st_1 : ((List Str) × (List Str))) => [.fz name, .fz row, .fz pairs, .ow st_1.1, .ow st_1.2, .fz here, .un, .un]))) (TJ.x (w_t (w_and (t_eq (r_var (pv 6)) (r_var (pv 5))) (fun hb => w_and1 (t_nin (r_var (pv 7)) ((o_var (pv 3)))))))) (fun hb_1 => have ok_11 := ok_10.1 hb_1; es_cons (s_app (α := Str) (ps_expr (pe_bm PySem.F.plainAttrs_list PySem.F.slot_list_append PySem.F.type_list_append mt_append (pv 3) (pa_cons peW pa_nil))) (RJ.xs (r_var (pv 7))) ⟨_, _, rfl, .ow⟩ rfl .ow (ok_11.1))
     (es_gen (k := (nxO (fun (st_1 : ((List Str) × (List Str))) => [.fz name, .fz row, .fz pairs, .ow st_1.1, .ow st_1.2, .fz here, .un, .un]))) (fun (found_3 : (List Str)) => [.fz name, .fz row, .fz pairs, .ow found_3, .ow waiting_2, .fz here, .fz one, .fz other]) fun found_3 h_9 =>
     have ok_13 := ok_gen ok_11.2 h_9; es_cons (s_app (α := Str) (ps_expr (pe_bm PySem.F.plainAttrs_list PySem.F.slot_list_append PySem.F.type_list_append mt_append (pv 4) (pa_cons peW pa_nil))) (RJ.xs (r_var (pv 7))) ⟨_, _, rfl, .ow⟩ rfl .ow (ok_13.1))
     (es_gen (k := (nxO (fun (st_1 : ((List Str) × (List Str))) => [.fz name, .fz row, .fz pairs, .ow st_1.1, .ow st_1.2, .fz here, .un, .un]))) (fun (waiting_3 : (List Str)) => [.fz name, .fz row, .fz pairs, .ow found_3, .ow waiting_3, .fz here, .fz one, .fz other]) fun waiting_3 h_10 =>
     es_nilO ⟨.inr rfl, .inr rfl, .inr rfl, .inr rfl, .inr rfl, .inr rfl, .inl rfl, .inl rfl, trivial⟩)))
     (fun hb_1 => es_nilO ⟨.inr rfl, .inr rfl, .inr rfl, .inr rfl, .inr rfl, .inr rfl, .inl rfl, .inl rfl, trivial⟩)))))
     (es_gen (k := (flO (fun (st : ((List Str) × (List Str))) => [.fz name, .fz row, .fz pairs, .ow st.2, .ow st.1, .un, .un, .un]) (fun r => (fun (m : (List Str)) => Out.rt (.ow m)) r))) (fun (st_1 : ((List Str) × (List Str))) => [.fz name, .fz row, .fz pairs, .ow st_1.1, .ow st_1.2, .fz here, .un, .un]) fun st_1 h_11 =>
     es_gen (k := (flO (fun (st : ((List Str) × (List Str))) => [.fz name, .fz row, .fz pairs, .ow st.2, .ow st.1, .un, .un, .un]) (fun r => (fun (m : (List Str)) => Out.rt (.ow m)) r))) (fun (found_4 : (List Str)) => [.fz name, .fz row, .fz pairs, .ow found_4, .ow st_1.2, .fz here, .un, .un]) fun found_4 h_12 => es_gen (k := (flO (fun (st : ((List Str) × (List Str))) => [.fz name, .fz row, .fz pairs, .ow st.2, .ow st.1, .un, .un, .un]) (fun r => (fun (m : (List Str)) => Out.rt (.ow m)) r))) (fun (waiting_4 : (List Str)) => [.fz name, .fz row, .fz pairs, .ow found_4, .ow waiting_4, .fz here, .un, .un]) fun waiting_4 h_13 => (by exact es_nil ⟨.inr rfl, .inr rfl, .inr rfl, .inr rfl, .inr rfl, .inl rfl, .inl rfl, .inl rfl, trivial⟩))))) (fun _ => by first | rfl | exact ruO_rets) (fun _ => by first | rfl | exact ruO_rets) (fun st h_14 =>
     es_gen (k := (fun (m : (List Str)) => Out.rt (.ow m))) (fun (waiting_5 : (List Str)) => [.fz name, .fz row, .fz pairs, .ow st.2, .ow waiting_5, .un, .un, .un]) fun waiting_5 h_15 => es_gen (k := (fun (m : (List Str)) => Out.rt (.ow m))) (fun (found_5 : (List Str)) => [.fz name, .fz row, .fz pairs, .ow found_5, .ow waiting_5, .un, .un, .un]) fun found_5 h_16 => es_one (s_retN (ps_ret peW) ((rd_lc (vs := [7]) (est := fun other_1 => [.fz name, .fz row, .fz pairs, .ow found_5, .ow waiting_5, .un, .un, .fz other_1]) (p := fun (other_1 : Str) => (decide (other_1 ∈ found_5))) (g := fun (other_1 : Str) => other_1) (h_list ((f_var (pv 1)).lr)) rfl (fun _ _ _ _ _ other_1 => ct_name (pg_name (i := 7) sc_p_reached_from.nd rfl (Or.inl rfl)) (by decide) (Nat.le_of_ble_eq_true rfl)) (fun _ _ _ _ _ other_1 hx => if_one (t_in (r_var (pv 7)) ((o_var (pv 3))))) (fun _ _ _ _ _ other_1 hx hp => RJ.sc (r_var (pv 7)))).nj (pe_lcW (own := [("other", 7)]) rfl sc_p_reached_from.nd (blkOk_by (N := N_p_reached_from) (sc := defScope st_p_reached_from) (by decide +kernel))))))))
/-! Jobs -/
def p_Jobs_L (row : List Str) (pairs : List (Str × Str)) (d : Dct Str (List Str)) (name : Str) : Dct Str (List Str) := putD d name (p_reached_from name row pairs)
def p_Jobs (names : List Str) (orders : List (Str × Str)) : JobsV :=
  (pipe names fun (row : (List Str)) =>
  (pipe orders fun (pairs : (List (Str × Str))) =>
  (pipe (p_ring_in row pairs) fun (ring : (Option Str)) =>
  (JobsV.mk row (LyT.sset pairs) (List.foldl (p_Jobs_L row (LyT.sset pairs)) (Dct.mk []) row)))))
def ok_p_Jobs (names : List Str) (orders : List (Str × Str)) : Prop :=
  (pipe names fun (row : (List Str)) =>
  (pipe orders fun (pairs : (List (Str × Str))) =>
  (ok_p_want_names row) ∧ (ok_p_want_orders row pairs) ∧ (ok_p_ring_in row pairs) ∧ (pipe (p_ring_in row pairs) fun (ring : (Option Str)) =>
  (ring.isSome = false) ∧ (pairs.length < 300) ∧ (∀ (d : Dct Str (List Str)) (name : Str), AtF (p_Jobs_L row (LyT.sset pairs)) row (Dct.mk []) d name → d.l.length < big ∧ ok_p_reached_from name row (LyT.sset pairs)) ∧ True)))
abbrev N_p_Jobs : List Str := (["self", "names", "orders", "row", "pairs", "ring", "name"] : List Str)
abbrev st_p_Jobs : Stmt := clsSt (top 30) 0
theorem sc_p_Jobs : FnScope N_p_Jobs ["self", "names", "orders"] (defScope st_p_Jobs) := ⟨rfl, rfl, rfl, by decide +kernel, rfl, by decide +kernel, by decide +kernel⟩
def G_p_Jobs (sf : Slf) (as : List En) (p2 : Slf) (r : En) : Prop := ∃ (names : List Str) (orders : List (Str × Str)), ok_p_Jobs names orders ∧ sf = .s0 ∧ as = [.fz names, .fz orders] ∧ r = .fz () ∧ p2 = .s3 (p_Jobs names orders).row (p_Jobs names orders).pairs (p_Jobs names orders).later
set_option maxRecDepth 100000 in
theorem w_p_Jobs (B : Bn mg) (J : JCls K) (D_p_want_names : Df P w K mg base 2 "want_names" ["row"] (spP K G_p_want_names)) (D_p_want_orders : Df P w K mg base 1 "want_orders" ["row", "pairs"] (spP K G_p_want_orders)) (D_p_ring_in : Df P w K mg base 2 "ring_in" ["row", "pairs"] (spP K G_p_ring_in)) (D_p_reached_from : Df P w K mg base 1 "reached_from" ["name", "row", "pairs"] (spP K G_p_reached_from))
    {f : Addr} {fd : FuncData} (F : FnM K "__init__" "Jobs.__init__" st_p_Jobs f fd) : FnOk P w K mg base CX0 3 f fd ["self", "names", "orders"] (spU K G_p_Jobs) := by
  refine fn_lent F sc_p_Jobs (by decide) (fun _ as _ r h => by obtain ⟨names, orders, _, _, rfl, _, _⟩ := h; rfl) (fun cdv A outer s H E hr pa sf as p2 r h => ?_)
  obtain ⟨names, orders, hok, rfl, rfl, rfl, rfl⟩ := h
  refine ⟨(fun (m : JobsV) => Out.eu pa owSlf (Slf.s3 m.row m.pairs m.later)) (p_Jobs names orders), .inr ⟨rfl, rfl⟩, ?_⟩
  show ES _ [.at pa (Slf.s0), .fz names, .fz orders, .un, .un, .un, .un] _ ((fun (m : JobsV) => Out.eu pa owSlf (Slf.s3 m.row m.pairs m.later)) (pipe names fun (row : (List Str)) =>
  (pipe orders fun (pairs : (List (Str × Str))) =>
  (pipe (p_ring_in row pairs) fun (ring : (Option Str)) =>
  (JobsV.mk row (LyT.sset pairs) (List.foldl (p_Jobs_L row (LyT.sset pairs)) (Dct.mk []) row))))))
  have hok : (pipe names fun (row : (List Str)) =>
  (pipe orders fun (pairs : (List (Str × Str))) =>
  (ok_p_want_names row) ∧ (ok_p_want_orders row pairs) ∧ (ok_p_ring_in row pairs) ∧ (pipe (p_ring_in row pairs) fun (ring : (Option Str)) =>
  (ring.isSome = false) ∧ (pairs.length < 300) ∧ (∀ (d : Dct Str (List Str)) (name : Str), AtF (p_Jobs_L row (LyT.sset pairs)) row (Dct.mk []) d name → d.l.length < big ∧ ok_p_reached_from name row (LyT.sset pairs)) ∧ True))) := hok
  exact es_cons (s_asg (ps_set (i := 3) sc_p_Jobs.nd rfl (.inl rfl) peW) (NJ.frz (n_listof (by rfl) B.n_list ((f_var (pv 1)).lr))))
     (es_gen (k := (fun (m : JobsV) => Out.eu pa owSlf (Slf.s3 m.row m.pairs m.later))) (fun (row : (List Str)) => [.at pa (Slf.s0), .fz names, .fz orders, .fz row, .un, .un, .un]) fun row h =>
     have ok := ok_gen hok h; es_cons (s_asg (ps_set (i := 4) sc_p_Jobs.nd rfl (.inl rfl) peW) (NJ.frz (n_listof (by rfl) B.n_list ((f_var (pv 2)).lr))))
     (es_gen (k := (fun (m : JobsV) => Out.eu pa owSlf (Slf.s3 m.row m.pairs m.later))) (fun (pairs : (List (Str × Str))) => [.at pa (Slf.s0), .fz names, .fz orders, .fz row, .fz pairs, .un, .un]) fun pairs h_1 =>
     have ok_1 := ok_gen ok h_1; es_cons (s_drop (ps_expr peW) (FJ.x (fD D_p_want_names (hr.mono (by decide)) (a_cons (f_var (pv 3)) (a_nil)) (⟨_, (ok_1.1), rfl, rfl⟩))))
     (es_cons (s_drop (ps_expr peW) (FJ.x (fD D_p_want_orders (hr.mono (by decide)) (a_cons (f_var (pv 3)) (a_cons (f_var (pv 4)) (a_nil))) (⟨_, _, (ok_1.2.1), rfl, rfl⟩))))
     (es_cons (s_asg (ps_set (i := 5) sc_p_Jobs.nd rfl (.inl rfl) peW) (fD D_p_ring_in (hr.mono (by decide)) (a_cons (f_var (pv 3)) (a_cons (f_var (pv 4)) (a_nil))) (⟨_, _, (ok_1.2.2.1), rfl, rfl⟩)))
     (es_gen (k := (fun (m : JobsV) => Out.eu pa owSlf (Slf.s3 m.row m.pairs m.later))) (fun (ring : (Option Str)) => [.at pa (Slf.s0), .fz names, .fz orders, .fz row, .fz pairs, .fz ring, .un]) fun ring h_2 =>
     have ok_2 := ok_gen ok_1.2.2.2 h_2; es_ifx (ok_2.1) (TJ.x (t_isntNone (r_var (pv 5))))
     (es_cons (s_self1 J (ps_fld (pv 0) peW rfl) (f_var (pv 3)) rfl (es2 := [.at pa (Slf.s1 row), .fz names, .fz orders, .fz row, .fz pairs, .fz ring, .un]))
     (es_cons (s_self2 J (ps_fld (pv 0) peW rfl) (LyT.n_sset (by rfl) (by exact hr.units) (by rfl) B.n_sorted (by rfl) B.n_set ((f_var (pv 4)).lr) (ok_2.2.1)).frz rfl (es2 := [.at pa (Slf.s2 row (LyT.sset pairs)), .fz names, .fz orders, .fz row, .fz pairs, .fz ring, .un]))
     (es_cons (s_self3 J (ps_fld (pv 0) peW rfl) rfl (es2 := [.at pa (Slf.s3 row (LyT.sset pairs) (Dct.mk [])), .fz names, .fz orders, .fz row, .fz pairs, .fz ring, .un]))
     (es_cons (s_forF (tst := PassesOwn.never) (esf := fun (d : Dct Str (List Str)) => [.at pa (Slf.s3 row (LyT.sset pairs) d), .fz names, .fz orders, .fz row, .fz pairs, .fz ring, .un]) (est := fun (d : Dct Str (List Str)) (name : Str) => [.at pa (Slf.s3 row (LyT.sset pairs) d), .fz names, .fz orders, .fz row, .fz pairs, .fz ring, .fz name]) (g := (p_Jobs_L row (LyT.sset pairs))) (y0 := Dct.mk []) rfl (i_list ((f_var (pv 3)).x)) (fun d name => g_name (pg_name (i := 6) sc_p_Jobs.nd rfl (.inl rfl)) (Nat.le_of_ble_eq_true rfl)) (fun d name hat => es_nxO (esf := fun (d : Dct Str (List Str)) => [.at pa (Slf.s3 row (LyT.sset pairs) d), .fz names, .fz orders, .fz row, .fz pairs, .fz ring, .un]) (es_cons (s_selfPut J (by exact hr.units) (ps_dput (un1 (by exact hr.units)) (pe_fld (pv 0) rfl) peW peW (by rfl)) (NJ.frz (nD D_p_reached_from (hr.mono (by decide)) (a_cons (RJ.sc (r_var (pv 6))) (a_cons (f_var (pv 3)) (a_cons (f_selfP J (pv 0) rfl) (a_nil)))) (⟨_, _, _, ((ok_2.2.2.1) d name hat).2, rfl, rfl⟩))) (RJ.sc (r_var (pv 6))) rfl ((ok_2.2.2.1) d name hat).1 (es2 := [.at pa (Slf.s3 row (LyT.sset pairs) (putD d name (p_reached_from name row (LyT.sset pairs)))), .fz names, .fz orders, .fz row, .fz pairs, .fz ring, .fz name])) (es_nilO ⟨.inr rfl, .inr rfl, .inr rfl, .inr rfl, .inr rfl, .inr rfl, .inl rfl, trivial⟩))))
     (u_end (i := 0)))))))))))
/-! law: behind -/
def m_behind_L1 (orders : (List (Str × Str))) (st : (Dct Str (List Str))) (name : Str) : (Dct Str (List Str)) :=
  (pipe (putD st name (given (fun (x : (Str × Str)) => (decide (x.1 = name))) (fun (x : (Str × Str)) => x.2) orders)) fun (near_1 : (Dct Str (List Str))) =>
  near_1)
def m_behind_L4 (st : (Dct Str (List Str))) (name_2 : Str) (st_3 : ((List Str) × (Dct Str (Dct Str Bool)))) : (Fl ((List Str) × (Dct Str (Dct Str Bool))) Empty) :=
  (pipe st_3.1 fun (waiting_1 : (List Str)) => (pipe st_3.2 fun (found_3 : (Dct Str (Dct Str Bool))) => (pipe (waiting_1.getLastD default) fun (here : Str) =>
  (bif (!(hasD (getD found_3 name_2) here)) then (pipe (putD found_3 name_2 (putD (getD found_3 name_2) here true)) fun (found_4 : (Dct Str (Dct Str Bool))) =>
  (pipe (waiting_1.dropLast ++ (getD st here)) fun (waiting_2 : (List Str)) =>
  (Fl.nx (waiting_2, found_4)))) else
  (Fl.nx (waiting_1.dropLast, found_3))))))
def m_behind_L3 (st : (Dct Str (List Str))) (st_2 : (Dct Str (Dct Str Bool))) (name_2 : Str) : (Dct Str (Dct Str Bool)) :=
  (pipe (putD st_2 name_2 (Dct.mk [])) fun (found_2 : (Dct Str (Dct Str Bool))) =>
  (pipe (getD st name_2) fun (waiting : (List Str)) =>
  (Fl.elim (whFl (fun (st_3 : ((List Str) × (Dct Str (Dct Str Bool)))) => (!(decide (st_3.1 = ([] : (List Str)))))) (m_behind_L4 st name_2) 1000000 (waiting, found_2)) (fun (st_3 : ((List Str) × (Dct Str (Dct Str Bool)))) =>
  (pipe st_3.1 fun (waiting_3 : (List Str)) => (pipe st_3.2 fun (found_5 : (Dct Str (Dct Str Bool))) => found_5))) (fun r => (Empty.elim r)))))
def m_behind (names : (List Str)) (orders : (List (Str × Str))) : (Dct Str (Dct Str Bool)) :=
  (pipe (Dct.mk [] : (Dct Str (List Str))) fun (near : (Dct Str (List Str))) =>
  (pipe (List.foldl (m_behind_L1 orders) near names) fun (st : (Dct Str (List Str))) =>
  (pipe (Dct.mk [] : (Dct Str (Dct Str Bool))) fun (found : (Dct Str (Dct Str Bool))) =>
  (pipe (List.foldl (m_behind_L3 st) found names) fun (st_2 : (Dct Str (Dct Str Bool))) =>
  st_2))))
def ok_m_behind (names : (List Str)) (orders : (List (Str × Str))) : Prop :=
  (pipe (Dct.mk [] : (Dct Str (List Str))) fun (near : (Dct Str (List Str))) =>
  (∀ (st : (Dct Str (List Str))) (name : Str), AtF (m_behind_L1 orders) names near st name → (st.l.length < big) ∧ True) ∧
  (pipe (List.foldl (m_behind_L1 orders) near names) fun (st : (Dct Str (List Str))) =>
  (pipe (Dct.mk [] : (Dct Str (Dct Str Bool))) fun (found : (Dct Str (Dct Str Bool))) =>
  (∀ (st_2 : (Dct Str (Dct Str Bool))) (name_2 : Str), AtF (m_behind_L3 st) names found st_2 name_2 → (st_2.l.length < big) ∧ (hasD st_2 name_2 = false) ∧ (pipe (putD st_2 name_2 (Dct.mk [])) fun (found_2 : (Dct Str (Dct Str Bool))) =>
  (hasD st name_2 = true) ∧ (pipe (getD st name_2) fun (waiting : (List Str)) =>
  (whOk (fun (st_3 : ((List Str) × (Dct Str (Dct Str Bool)))) => (!(decide (st_3.1 = ([] : (List Str)))))) (m_behind_L4 st name_2) (fun (st_3 : ((List Str) × (Dct Str (Dct Str Bool)))) => (pipe st_3.1 fun (waiting_1 : (List Str)) => (pipe st_3.2 fun (found_3 : (Dct Str (Dct Str Bool))) => (0 < waiting_1.length) ∧ (pipe (waiting_1.getLastD default) fun (here : Str) =>
  (hasD found_3 name_2 = true) ∧ okIf (!(hasD (getD found_3 name_2) here)) ((hasD found_3 name_2 = true) ∧ ((getD found_3 name_2).l.length < big) ∧ (pipe (putD found_3 name_2 (putD (getD found_3 name_2) here true)) fun (found_4 : (Dct Str (Dct Str Bool))) =>
  (hasD st here = true) ∧ ((waiting_1.dropLast ++ (getD st here)).length ≤ big) ∧ True)) (True))))) 1000000 (waiting, found_2)) ∧
  True))) ∧
  True)))
abbrev N_m_behind : List Str := (["_law_names_here", "_law_orders", "_law_near", "_law_name", "_law_found", "_law_waiting", "_law_here", "_law_one", "_law_other"] : List Str)
abbrev st_m_behind : Stmt := top 38
theorem sc_m_behind : FnScope N_m_behind ["_law_names_here", "_law_orders"] (defScope st_m_behind) := ⟨rfl, rfl, rfl, by decide +kernel, rfl, by decide +kernel, by decide +kernel⟩
def G_m_behind (as : List En) (r : En) : Prop := ∃ (names : (List Str)) (orders : (List (Str × Str))), ok_m_behind names orders ∧ as = [.fz names, .fz orders] ∧ r = .fz (m_behind names orders)
set_option maxRecDepth 100000 in
theorem w_m_behind (B : Bn mg) (J : JCls K) 
    {f : Addr} {fd : FuncData} (F : FnP K "_law_behind" st_m_behind f fd) : FnOk P w K mg base CX0 1 f fd ["_law_names_here", "_law_orders"] (spP K G_m_behind) := by
  refine fn_pure F sc_m_behind (by decide) (fun as r h => by obtain ⟨names, orders, hok, rfl, _⟩ := h; rfl) (fun cdv A outer s H E hr as r h => ?_)
  obtain ⟨names, orders, hok, rfl, rfl⟩ := h
  refine ⟨(fun (m : (Dct Str (Dct Str Bool))) => Out.rt (.fz m)) (m_behind names orders), rfl, ?_⟩
  show ES _ [.fz names, .fz orders, .un, .un, .un, .un, .un, .un, .un] _ ((fun (m : (Dct Str (Dct Str Bool))) => Out.rt (.fz m)) (pipe (Dct.mk [] : (Dct Str (List Str))) fun (near : (Dct Str (List Str))) =>
  (pipe (List.foldl (m_behind_L1 orders) near names) fun (st : (Dct Str (List Str))) =>
  (pipe (Dct.mk [] : (Dct Str (Dct Str Bool))) fun (found : (Dct Str (Dct Str Bool))) =>
  (pipe (List.foldl (m_behind_L3 st) found names) fun (st_2 : (Dct Str (Dct Str Bool))) =>
  st_2)))))
  have hok : (pipe (Dct.mk [] : (Dct Str (List Str))) fun (near : (Dct Str (List Str))) =>
  (∀ (st : (Dct Str (List Str))) (name : Str), AtF (m_behind_L1 orders) names near st name → (st.l.length < big) ∧ True) ∧
  (pipe (List.foldl (m_behind_L1 orders) near names) fun (st : (Dct Str (List Str))) =>
  (pipe (Dct.mk [] : (Dct Str (Dct Str Bool))) fun (found : (Dct Str (Dct Str Bool))) =>
  (∀ (st_2 : (Dct Str (Dct Str Bool))) (name_2 : Str), AtF (m_behind_L3 st) names found st_2 name_2 → (st_2.l.length < big) ∧ (hasD st_2 name_2 = false) ∧ (pipe (putD st_2 name_2 (Dct.mk [])) fun (found_2 : (Dct Str (Dct Str Bool))) =>
  (hasD st name_2 = true) ∧ (pipe (getD st name_2) fun (waiting : (List Str)) =>
  (whOk (fun (st_3 : ((List Str) × (Dct Str (Dct Str Bool)))) => (!(decide (st_3.1 = ([] : (List Str)))))) (m_behind_L4 st name_2) (fun (st_3 : ((List Str) × (Dct Str (Dct Str Bool)))) => (pipe st_3.1 fun (waiting_1 : (List Str)) => (pipe st_3.2 fun (found_3 : (Dct Str (Dct Str Bool))) => (0 < waiting_1.length) ∧ (pipe (waiting_1.getLastD default) fun (here : Str) =>
  (hasD found_3 name_2 = true) ∧ okIf (!(hasD (getD found_3 name_2) here)) ((hasD found_3 name_2 = true) ∧ ((getD found_3 name_2).l.length < big) ∧ (pipe (putD found_3 name_2 (putD (getD found_3 name_2) here true)) fun (found_4 : (Dct Str (Dct Str Bool))) =>
  (hasD st here = true) ∧ ((waiting_1.dropLast ++ (getD st here)).length ≤ big) ∧ True)) (True))))) 1000000 (waiting, found_2)) ∧
  True))) ∧
  True))) := hok
  exact es_cons (s_asgN (ps_set (i := 2) sc_m_behind.nd rfl (.inl rfl) peW) (n_dnew (κ := Str) (α := (List Str))))
     (es_gen (k := (fun (m : (Dct Str (Dct Str Bool))) => Out.rt (.fz m))) (fun (near : (Dct Str (List Str))) => [.fz names, .fz orders, .ow near, .un, .un, .un, .un, .un, .un]) fun near h =>
     have ok := ok_gen hok h; es_cons (s_forF (tst := PassesOwn.never) (esf := (fun (st : (Dct Str (List Str))) => [.fz names, .fz orders, .ow st, .un, .un, .un, .un, .un, .un])) (est := fun st name => [.fz names, .fz orders, .ow st, .fz name, .un, .un, .un, .un, .un]) (g := (m_behind_L1 orders)) (y0 := near) rfl (i_list (FJ.x (f_var (pv 0)))) (fun st name => g_name (pg_name (i := 3) sc_m_behind.nd rfl (.inr rfl)) (Nat.le_of_ble_eq_true rfl))
     (fun st name hat => have ok_1 := ok.1 st name hat; es_nxO (esf := (fun (st : (Dct Str (List Str))) => [.fz names, .fz orders, .ow st, .un, .un, .un, .un, .un, .un])) (es_cons (s_dput (by exact hr.units) (ps_dput (un1 (by exact hr.units)) (pv 2) peW peW (by rfl)) (FJ.x (NJ.frz ((rd_lc (vs := [7, 8]) (est := fun x => [.fz names, .fz orders, .ow st, .fz name, .un, .un, .un, .fz x.1, .fz x.2]) (p := fun (x : (Str × Str)) => (decide (x.1 = name))) (g := fun (x : (Str × Str)) => x.2) (h_list ((f_var (pv 1)).lr)) rfl (fun _ _ _ _ _ x => ct_tup2 (pg_tup rfl (pgs_cons (pg_name (i := 7) sc_m_behind.nd rfl (Or.inl rfl)) (pgs_cons (pg_name (i := 8) sc_m_behind.nd rfl (Or.inl rfl)) pgs_nil))) (by decide) ⟨Nat.le_of_ble_eq_true rfl, Nat.le_of_ble_eq_true rfl⟩) (fun _ _ _ _ _ x hx => if_one (t_eq (r_var (pv 7)) (r_var (pv 3)))) (fun _ _ _ _ _ x hx hp => RJ.sc (r_var (pv 8)))).nj (pe_lcW (own := [("_law_one", 7), ("_law_other", 8)]) rfl sc_m_behind.nd (blkOk_by (N := N_m_behind) (sc := defScope st_m_behind) (by decide +kernel)))))) (RJ.xs (r_var (pv 3))) rfl .ow (ok_1.1) (h0 := ⟨_, _, rfl, .ow⟩))
     (es_gen (k := (nxO (fun (st : (Dct Str (List Str))) => [.fz names, .fz orders, .ow st, .un, .un, .un, .un, .un, .un]))) (fun (near_1 : (Dct Str (List Str))) => [.fz names, .fz orders, .ow near_1, .fz name, .un, .un, .un, .un, .un]) fun near_1 h_1 =>
     es_nilO ⟨.inr rfl, .inr rfl, .inr rfl, .inl rfl, .inl rfl, .inl rfl, .inl rfl, .inl rfl, .inl rfl, trivial⟩))))
     (es_gen (k := (fun (m : (Dct Str (Dct Str Bool))) => Out.rt (.fz m))) (fun (st : (Dct Str (List Str))) => [.fz names, .fz orders, .ow st, .un, .un, .un, .un, .un, .un]) fun st h_2 =>
     have ok_3 := ok_gen ok.2 h_2; es_cons (s_asgN (ps_set (i := 4) sc_m_behind.nd rfl (.inl rfl) peW) (n_dd0 (κ := Str) (β := (Dct Str Bool))))
     (es_gen (k := (fun (m : (Dct Str (Dct Str Bool))) => Out.rt (.fz m))) (fun (found : (Dct Str (Dct Str Bool))) => [.fz names, .fz orders, .ow st, .un, .ow (Dd.mk found), .un, .un, .un, .un]) fun found h_3 =>
     have ok_4 := ok_gen ok_3 h_3; es_frz (i := 2) (es1 := [.fz names, .fz orders, .fz st, .un, .ow (Dd.mk found), .un, .un, .un, .un]) rfl (es_cons (s_forF (tst := PassesOwn.never) (esf := (fun (st_2 : (Dct Str (Dct Str Bool))) => [.fz names, .fz orders, .fz st, .un, .ow (Dd.mk st_2), .un, .un, .un, .un])) (est := fun st_2 name_2 => [.fz names, .fz orders, .fz st, .fz name_2, .ow (Dd.mk st_2), .un, .un, .un, .un]) (g := (m_behind_L3 st)) (y0 := found) rfl (i_list (FJ.x (f_var (pv 0)))) (fun st_2 name_2 => g_name (pg_name (i := 3) sc_m_behind.nd rfl (.inr rfl)) (Nat.le_of_ble_eq_true rfl))
     (fun st_2 name_2 hat_2 => have ok_7 := ok_4.1 st_2 name_2 hat_2; es_nxO (esf := (fun (st_2 : (Dct Str (Dct Str Bool))) => [.fz names, .fz orders, .fz st, .un, .ow (Dd.mk st_2), .un, .un, .un, .un])) (es_cons (s_ddnew (by exact hr.units) (ps_dput (un1 (by exact hr.units)) (pv 4) peW peW (by rfl)) (n_dnew (κ := Str) (α := Bool)) (RJ.sc (r_var (pv 3))) rfl (ok_7.1) (ok_7.2.1))
     (es_gen (k := (nxO (fun (st_2 : (Dct Str (Dct Str Bool))) => [.fz names, .fz orders, .fz st, .un, .ow (Dd.mk st_2), .un, .un, .un, .un]))) (fun (found_2 : (Dct Str (Dct Str Bool))) => [.fz names, .fz orders, .fz st, .fz name_2, .ow (Dd.mk found_2), .un, .un, .un, .un]) fun found_2 h_5 =>
     have ok_8 := ok_gen ok_7.2.2 h_5; es_cons (s_asgN (ps_set (i := 5) sc_m_behind.nd rfl (.inl rfl) peW) (n_listof (by rfl) B.n_list ((f_dget (by exact hr.units) (ok_8.1) (f_var (pv 2)) (r_var (pv 3))).lr)))
     (es_gen (k := (nxO (fun (st_2 : (Dct Str (Dct Str Bool))) => [.fz names, .fz orders, .fz st, .un, .ow (Dd.mk st_2), .un, .un, .un, .un]))) (fun (waiting : (List Str)) => [.fz names, .fz orders, .fz st, .fz name_2, .ow (Dd.mk found_2), .ow waiting, .un, .un, .un]) fun waiting h_6 =>
     have ok_9 := ok_gen ok_8.2 h_6; es_seq (k := (nxO (fun (st_2 : (Dct Str (Dct Str Bool))) => [.fz names, .fz orders, .fz st, .un, .ow (Dd.mk st_2), .un, .un, .un, .un]))) (esf := (fun (st_3 : ((List Str) × (Dct Str (Dct Str Bool)))) => [.fz names, .fz orders, .fz st, .fz name_2, .ow (Dd.mk st_3.2), .ow st_3.1, .un, .un, .un])) (kr := fun r => (fun (r : Empty) => (Empty.elim r : Out)) r) (rr := fun r => (Empty.elim r)) (s_while (tst := PassesOwn.never) (esf := (fun (st_3 : ((List Str) × (Dct Str (Dct Str Bool)))) => [.fz names, .fz orders, .fz st, .fz name_2, .ow (Dd.mk st_3.2), .ow st_3.1, .un, .un, .un])) (cf := (fun (st_3 : ((List Str) × (Dct Str (Dct Str Bool)))) => (!(decide (st_3.1 = ([] : (List Str))))))) (g := (m_behind_L4 st name_2)) (y0 := (waiting, found_2)) (kr := fun r => (fun (r : Empty) => (Empty.elim r : Out)) r) 1000000 ok_9.1 rfl (fun r => r.elim) (fun st_3 => t_neD (by exact hr.units) ((o_var (pv 5))) (NJ.rd (n_disp (α := Str) (la_nil)))) (fun st_3 ok_10 hc =>
     es_gen (k := (flO (fun (st_3 : ((List Str) × (Dct Str (Dct Str Bool)))) => [.fz names, .fz orders, .fz st, .fz name_2, .ow (Dd.mk st_3.2), .ow st_3.1, .un, .un, .un]) (fun r => (fun (r : Empty) => (Empty.elim r : Out)) r))) (fun (waiting_1 : (List Str)) => [.fz names, .fz orders, .fz st, .fz name_2, .ow (Dd.mk st_3.2), .ow waiting_1, .un, .un, .un]) fun waiting_1 h_7 => have ok_11 := ok_gen ok_10 h_7; es_gen (k := (flO (fun (st_3 : ((List Str) × (Dct Str (Dct Str Bool)))) => [.fz names, .fz orders, .fz st, .fz name_2, .ow (Dd.mk st_3.2), .ow st_3.1, .un, .un, .un]) (fun r => (fun (r : Empty) => (Empty.elim r : Out)) r))) (fun (found_3 : (Dct Str (Dct Str Bool))) => [.fz names, .fz orders, .fz st, .fz name_2, .ow (Dd.mk found_3), .ow waiting_1, .un, .un, .un]) fun found_3 h_8 => have ok_12 := ok_gen ok_11 h_8; es_cons (s_asgX (ps_set (i := 6) sc_m_behind.nd rfl (.inl rfl) peW) (x_pop (pe_bm0 PySem.F.plainAttrs_list PySem.F.slot_list_pop PySem.F.type_list_pop mt_pop (pv 5)) rfl .ow (ok_12.1)))
     (es_gen (k := (flO (fun (st_3 : ((List Str) × (Dct Str (Dct Str Bool)))) => [.fz names, .fz orders, .fz st, .fz name_2, .ow (Dd.mk st_3.2), .ow st_3.1, .un, .un, .un]) (fun r => (fun (r : Empty) => (Empty.elim r : Out)) r))) (fun (here : Str) => [.fz names, .fz orders, .fz st, .fz name_2, .ow (Dd.mk found_3), .ow waiting_1.dropLast, .fz here, .un, .un]) fun here h_9 =>
     have ok_13 := ok_gen ok_12.2 h_9; es_one (s_ife (k := (flO (fun (st_3 : ((List Str) × (Dct Str (Dct Str Bool)))) => [.fz names, .fz orders, .fz st, .fz name_2, .ow (Dd.mk st_3.2), .ow st_3.1, .un, .un, .un]) (fun r => (fun (r : Empty) => (Empty.elim r : Out)) r))) (TJ.x (t_dnin (by exact hr.units) (r_var (pv 6)) (r_dget (by exact hr.units) (ok_13.1) ((dd_o (pv 4))) (r_var (pv 3))))) (fun hb => have ok_14 := ok_13.2.1 hb; es_cons (s_ddset (by exact hr.units) (ps_dput (un1 (by exact hr.units)) (pe_dget (un1 (by exact hr.units)) (pv 4) peW (by exact fun _ _ => rfl)) peW peW (by rfl)) (RJ.sc (r_bl)) (RJ.sc (r_var (pv 3))) (RJ.sc (r_var (pv 6))) rfl (ok_14.1) (ok_14.2.1))
     (es_gen (k := (flO (fun (st_3 : ((List Str) × (Dct Str (Dct Str Bool)))) => [.fz names, .fz orders, .fz st, .fz name_2, .ow (Dd.mk st_3.2), .ow st_3.1, .un, .un, .un]) (fun r => (fun (r : Empty) => (Empty.elim r : Out)) r))) (fun (found_4 : (Dct Str (Dct Str Bool))) => [.fz names, .fz orders, .fz st, .fz name_2, .ow (Dd.mk found_4), .ow waiting_1.dropLast, .fz here, .un, .un]) fun found_4 h_10 =>
     have ok_16 := ok_gen ok_14.2.2 h_10; es_cons (s_ext (α := Str) (ps_expr (pe_bm PySem.F.plainAttrs_list PySem.F.slot_list_extend PySem.F.type_list_extend mt_extend (pv 5) (pa_cons peW pa_nil))) ((f_dget (by exact hr.units) (ok_16.1) (f_var (pv 2)) (r_var (pv 6))).lr) ⟨_, _, rfl, .ow⟩ rfl .ow (ok_16.2.1))
     (es_gen (k := (flO (fun (st_3 : ((List Str) × (Dct Str (Dct Str Bool)))) => [.fz names, .fz orders, .fz st, .fz name_2, .ow (Dd.mk st_3.2), .ow st_3.1, .un, .un, .un]) (fun r => (fun (r : Empty) => (Empty.elim r : Out)) r))) (fun (waiting_2 : (List Str)) => [.fz names, .fz orders, .fz st, .fz name_2, .ow (Dd.mk found_4), .ow waiting_2, .fz here, .un, .un]) fun waiting_2 h_11 =>
     (by exact es_nil ⟨.inr rfl, .inr rfl, .inr rfl, .inr rfl, .inr rfl, .inr rfl, .inl rfl, .inl rfl, .inl rfl, trivial⟩))))
     (fun hb => (by exact es_nil ⟨.inr rfl, .inr rfl, .inr rfl, .inr rfl, .inr rfl, .inr rfl, .inl rfl, .inl rfl, .inl rfl, trivial⟩)))))) (fun r => r.elim) (fun r => r.elim) (fun st_3 h_12 =>
     es_gen (k := (nxO (fun (st_2 : (Dct Str (Dct Str Bool))) => [.fz names, .fz orders, .fz st, .un, .ow (Dd.mk st_2), .un, .un, .un, .un]))) (fun (waiting_3 : (List Str)) => [.fz names, .fz orders, .fz st, .fz name_2, .ow (Dd.mk st_3.2), .ow waiting_3, .un, .un, .un]) fun waiting_3 h_13 => es_gen (k := (nxO (fun (st_2 : (Dct Str (Dct Str Bool))) => [.fz names, .fz orders, .fz st, .un, .ow (Dd.mk st_2), .un, .un, .un, .un]))) (fun (found_5 : (Dct Str (Dct Str Bool))) => [.fz names, .fz orders, .fz st, .fz name_2, .ow (Dd.mk found_5), .ow waiting_3, .un, .un, .un]) fun found_5 h_14 => es_nilO ⟨.inr rfl, .inr rfl, .inr rfl, .inl rfl, .inr rfl, .inl rfl, .inl rfl, .inl rfl, .inl rfl, trivial⟩))))))
     (es_gen (k := (fun (m : (Dct Str (Dct Str Bool))) => Out.rt (.fz m))) (fun (st_2 : (Dct Str (Dct Str Bool))) => [.fz names, .fz orders, .fz st, .un, .ow (Dd.mk st_2), .un, .un, .un, .un]) fun st_2 h_15 =>
     es_one (s_retX (ps_ret peW) (XJ.ddf (x_frz (pv 4)))))))))
/-! law: benches -/
def m_benches (purse : Pu) : (Int × Pu) :=
  (pipe (m_take purse (8 : Int)).1 fun (way : Int) =>
  (pipe (m_take purse (8 : Int)).2 fun (purse_1 : Pu) =>
  (bif (decide (way = (0 : Int))) then (((1 : Int) + (m_take purse_1 ((10 : Int) ^ (58 : Int).toNat)).1), (m_take purse_1 ((10 : Int) ^ (58 : Int).toNat)).2) else
  ((getI ([(1 : Int), (2 : Int), (3 : Int), (4 : Int), (2 : Int), (3 : Int), (7 : Int)] : (List Int)) (way - (1 : Int))), purse_1))))
def ok_m_benches (purse : Pu) : Prop :=
  (ok_m_take purse (8 : Int)) ∧ (pipe (m_take purse (8 : Int)).1 fun (way : Int) =>
  (pipe (m_take purse (8 : Int)).2 fun (purse_1 : Pu) =>
  okIf (decide (way = (0 : Int))) ((ok_m_take purse_1 ((10 : Int) ^ (58 : Int).toNat)) ∧ True) ((okI ([(1 : Int), (2 : Int), (3 : Int), (4 : Int), (2 : Int), (3 : Int), (7 : Int)] : (List Int)) (way - (1 : Int))) ∧ True)))
abbrev N_m_benches : List Str := (["_law_purse_here", "_law_way"] : List Str)
abbrev st_m_benches : Stmt := top 42
theorem sc_m_benches : FnScope N_m_benches ["_law_purse_here"] (defScope st_m_benches) := ⟨rfl, rfl, rfl, by decide +kernel, rfl, by decide +kernel, by decide +kernel⟩
def G_m_benches (purse : Pu) (as : List En) (p2 : Pu) (r : En) : Prop := ∃ (_u : Unit), ok_m_benches purse ∧ as = [] ∧ r = .fz (m_benches purse).1 ∧ p2 = (m_benches purse).2
set_option maxRecDepth 100000 in
theorem w_m_benches (B : Bn mg) (J : JCls K) (D_m_take : Df P w K mg base 1 "_law_take" ["_law_purse_here", "_law_many"] (spU K G_m_take))
    {f : Addr} {fd : FuncData} (F : FnP K "_law_benches" st_m_benches f fd) : FnOk P w K mg base CX0 2 f fd ["_law_purse_here"] (spU K G_m_benches) := by
  refine fn_lent F sc_m_benches (by decide) (fun _ as _ r h => by obtain ⟨_u, hok, rfl, _, _⟩ := h; rfl) (fun cdv A outer s H E hr pa purse as p2 r h => ?_)
  obtain ⟨_u, hok, rfl, rfl, rfl⟩ := h
  refine ⟨(fun (m : (Int × Pu)) => Out.ru pa owCl m.2 (.fz m.1)) (m_benches purse), .inl rfl, ?_⟩
  refine es_ruO (w := fun (m : Int) => En.fz m) ?_
  show ES _ [.at pa purse, .un] _ ((ruO pa owCl (fun (m : Int) => En.fz m)) (pipe (m_take purse (8 : Int)).1 fun (way : Int) =>
  (pipe (m_take purse (8 : Int)).2 fun (purse_1 : Pu) =>
  (bif (decide (way = (0 : Int))) then (((1 : Int) + (m_take purse_1 ((10 : Int) ^ (58 : Int).toNat)).1), (m_take purse_1 ((10 : Int) ^ (58 : Int).toNat)).2) else
  ((getI ([(1 : Int), (2 : Int), (3 : Int), (4 : Int), (2 : Int), (3 : Int), (7 : Int)] : (List Int)) (way - (1 : Int))), purse_1)))))
  have hok : (ok_m_take purse (8 : Int)) ∧ (pipe (m_take purse (8 : Int)).1 fun (way : Int) =>
  (pipe (m_take purse (8 : Int)).2 fun (purse_1 : Pu) =>
  okIf (decide (way = (0 : Int))) ((ok_m_take purse_1 ((10 : Int) ^ (58 : Int).toNat)) ∧ True) ((okI ([(1 : Int), (2 : Int), (3 : Int), (4 : Int), (2 : Int), (3 : Int), (7 : Int)] : (List Int)) (way - (1 : Int))) ∧ True))) := hok
  exact es_cons (s_asgX (ps_set (i := 1) sc_m_benches.nd rfl (.inl rfl) peW) (xU D_m_take (hr.mono (by decide)) (pv 0) (xa_cons (RJ.xs (r_int)) (xa_nil)) (.at _) rfl (.at _) rfl (⟨_, (hok.1), rfl, rfl, rfl⟩)))
     (es_gen (k := (ruO pa owCl (fun (m : Int) => En.fz m))) (fun (way : Int) => [.at pa (m_take purse (8 : Int)).2, .fz way]) fun way h =>
     have ok := ok_gen hok.2 h; es_gen (k := (ruO pa owCl (fun (m : Int) => En.fz m))) (fun (purse_1 : Pu) => [.at pa purse_1, .fz way]) fun purse_1 h_1 =>
     have ok_1 := ok_gen ok h_1; es_ifr (k := (ruO pa owCl (fun (m : Int) => En.fz m))) (m1 := (((1 : Int) + (m_take purse_1 ((10 : Int) ^ (58 : Int).toNat)).1), (m_take purse_1 ((10 : Int) ^ (58 : Int).toNat)).2)) (TJ.x (t_eq (r_var (pv 1)) (r_int))) (by first | rfl | exact ruO_ends) (fun hb => have ok_2 := ok_1.1 hb; es_ru (es_one (u_ret (i := 0) (ps_ret peW) (x_add (RJ.xs (r_int)) (xU D_m_take (hr.mono (by decide)) (pv 0) (xa_cons (RJ.xs (r_pow ⟨by decide, by decide, by decide⟩ (r_int) (r_int))) (xa_nil)) (.at _) rfl (.at _) rfl (⟨_, (ok_2.1), rfl, rfl, rfl⟩))))))
     (fun hb => have ok_3 := ok_1.2 hb; es_ru (es_one (u_ret (i := 0) (ps_ret peW) (FJ.x (f_ix (ok_3.1) (NJ.frz (n_disp (α := Int) (la_cons (RJ.sc (r_int)) (la_cons (RJ.sc (r_int)) (la_cons (RJ.sc (r_int)) (la_cons (RJ.sc (r_int)) (la_cons (RJ.sc (r_int)) (la_cons (RJ.sc (r_int)) (la_cons (RJ.sc (r_int)) (la_nil)))))))))) (r_sub (r_var (pv 1)) (r_int))))))))
/-! law: before -/
def m_before_L1 (names : (List Str)) (behind : (Dct Str (Dct Str Bool))) (st : (Dct Str (List Str))) (name : Str) : (Dct Str (List Str)) :=
  (pipe (putD st name (given (fun (other : Str) => (hasD (getD behind other) name)) (fun (other : Str) => other) names)) fun (found_1 : (Dct Str (List Str))) =>
  found_1)
def m_before (names : (List Str)) (behind : (Dct Str (Dct Str Bool))) : (Dct Str (List Str)) :=
  (pipe (Dct.mk [] : (Dct Str (List Str))) fun (found : (Dct Str (List Str))) =>
  (pipe (List.foldl (m_before_L1 names behind) found names) fun (st : (Dct Str (List Str))) =>
  st))
def ok_m_before (names : (List Str)) (behind : (Dct Str (Dct Str Bool))) : Prop :=
  (pipe (Dct.mk [] : (Dct Str (List Str))) fun (found : (Dct Str (List Str))) =>
  (∀ (st : (Dct Str (List Str))) (name : Str), AtF (m_before_L1 names behind) names found st name → (∀ other ∈ names, (hasD behind other = true) ∧ True) ∧ (st.l.length < big) ∧ True) ∧
  True)
abbrev N_m_before : List Str := (["_law_names_here", "_law_behind_here", "_law_found", "_law_name", "_law_other"] : List Str)
abbrev st_m_before : Stmt := top 40
theorem sc_m_before : FnScope N_m_before ["_law_names_here", "_law_behind_here"] (defScope st_m_before) := ⟨rfl, rfl, rfl, by decide +kernel, rfl, by decide +kernel, by decide +kernel⟩
def G_m_before (as : List En) (r : En) : Prop := ∃ (names : (List Str)) (behind : (Dct Str (Dct Str Bool))), ok_m_before names behind ∧ as = [.fz names, .fz behind] ∧ r = .ow (m_before names behind)
set_option maxRecDepth 100000 in
theorem w_m_before (B : Bn mg) (J : JCls K) 
    {f : Addr} {fd : FuncData} (F : FnP K "_law_before" st_m_before f fd) : FnOk P w K mg base CX0 1 f fd ["_law_names_here", "_law_behind_here"] (spP K G_m_before) := by
  refine fn_pure F sc_m_before (by decide) (fun as r h => by obtain ⟨names, behind, hok, rfl, _⟩ := h; rfl) (fun cdv A outer s H E hr as r h => ?_)
  obtain ⟨names, behind, hok, rfl, rfl⟩ := h
  refine ⟨(fun (m : (Dct Str (List Str))) => Out.rt (.ow m)) (m_before names behind), rfl, ?_⟩
  show ES _ [.fz names, .fz behind, .un, .un, .un] _ ((fun (m : (Dct Str (List Str))) => Out.rt (.ow m)) (pipe (Dct.mk [] : (Dct Str (List Str))) fun (found : (Dct Str (List Str))) =>
  (pipe (List.foldl (m_before_L1 names behind) found names) fun (st : (Dct Str (List Str))) =>
  st)))
  have hok : (pipe (Dct.mk [] : (Dct Str (List Str))) fun (found : (Dct Str (List Str))) =>
  (∀ (st : (Dct Str (List Str))) (name : Str), AtF (m_before_L1 names behind) names found st name → (∀ other ∈ names, (hasD behind other = true) ∧ True) ∧ (st.l.length < big) ∧ True) ∧
  True) := hok
  exact es_cons (s_asgN (ps_set (i := 2) sc_m_before.nd rfl (.inl rfl) peW) (n_dnew (κ := Str) (α := (List Str))))
     (es_gen (k := (fun (m : (Dct Str (List Str))) => Out.rt (.ow m))) (fun (found : (Dct Str (List Str))) => [.fz names, .fz behind, .ow found, .un, .un]) fun found h =>
     have ok := ok_gen hok h; es_cons (s_forF (tst := PassesOwn.never) (esf := (fun (st : (Dct Str (List Str))) => [.fz names, .fz behind, .ow st, .un, .un])) (est := fun st name => [.fz names, .fz behind, .ow st, .fz name, .un]) (g := (m_before_L1 names behind)) (y0 := found) rfl (i_list (FJ.x (f_var (pv 0)))) (fun st name => g_name (pg_name (i := 3) sc_m_before.nd rfl (.inr rfl)) (Nat.le_of_ble_eq_true rfl))
     (fun st name hat => have ok_1 := ok.1 st name hat; es_nxO (esf := (fun (st : (Dct Str (List Str))) => [.fz names, .fz behind, .ow st, .un, .un])) (es_cons (s_dput (by exact hr.units) (ps_dput (un1 (by exact hr.units)) (pv 2) peW peW (by rfl)) (FJ.x (NJ.frz ((rd_lc (vs := [4]) (est := fun other => [.fz names, .fz behind, .ow st, .fz name, .fz other]) (p := fun (other : Str) => (hasD (getD behind other) name)) (g := fun (other : Str) => other) (h_list ((f_var (pv 0)).lr)) rfl (fun _ _ _ _ _ other => ct_name (pg_name (i := 4) sc_m_before.nd rfl (Or.inl rfl)) (by decide) (Nat.le_of_ble_eq_true rfl)) (fun _ _ _ _ _ other hx => if_one (t_din (by exact hr.units) (r_var (pv 3)) (FJ.rd (f_dget (by exact hr.units) (((ok_1.1) other hx).1) (f_var (pv 1)) (r_var (pv 4)))))) (fun _ _ _ _ _ other hx hp => RJ.sc (r_var (pv 4)))).nj (pe_lcW (own := [("_law_other", 4)]) rfl sc_m_before.nd (blkOk_by (N := N_m_before) (sc := defScope st_m_before) (by decide +kernel)))))) (RJ.xs (r_var (pv 3))) rfl .ow (ok_1.2.1) (h0 := ⟨_, _, rfl, .ow⟩))
     (es_gen (k := (nxO (fun (st : (Dct Str (List Str))) => [.fz names, .fz behind, .ow st, .un, .un]))) (fun (found_1 : (Dct Str (List Str))) => [.fz names, .fz behind, .ow found_1, .fz name, .un]) fun found_1 h_1 =>
     es_nilO ⟨.inr rfl, .inr rfl, .inr rfl, .inl rfl, .inl rfl, trivial⟩))))
     (es_gen (k := (fun (m : (Dct Str (List Str))) => Out.rt (.ow m))) (fun (st : (Dct Str (List Str))) => [.fz names, .fz behind, .ow st, .un, .un]) fun st h_2 =>
     es_one (s_retO (ps_ret peW) (pv 2))))
/-! law: free -/
def m_free_L1 (before : (Dct Str (List Str))) (done : (Tl Str)) (st : (List Str)) (name : Str) : (List Str) :=
  (bif ((!(decide (name ∈ done.l))) && (decide ((given (fun (other : Str) => (!(decide (other ∈ done.l)))) (fun (other : Str) => other) (getD before name)) = ([] : (List Str))))) then (pipe (st ++ [name]) fun (free_1 : (List Str)) =>
  free_1) else
  st)
def m_free (before : (Dct Str (List Str))) (done : (Tl Str)) : (List Str) :=
  (pipe ([] : (List Str)) fun (free : (List Str)) =>
  (pipe (List.foldl (m_free_L1 before done) free (keysD before)) fun (st : (List Str)) =>
  st))
def ok_m_free (before : (Dct Str (List Str))) (done : (Tl Str)) : Prop :=
  (pipe ([] : (List Str)) fun (free : (List Str)) =>
  (∀ (st : (List Str)) (name : Str), AtF (m_free_L1 before done) (keysD before) free st name → ((!(decide (name ∈ done.l))) = true → (hasD before name = true) ∧ True) ∧ okIf ((!(decide (name ∈ done.l))) && (decide ((given (fun (other : Str) => (!(decide (other ∈ done.l)))) (fun (other : Str) => other) (getD before name)) = ([] : (List Str))))) ((st.length < big) ∧ True) (True)) ∧
  True)
abbrev N_m_free : List Str := (["_law_before_here", "_law_done", "_law_free_here", "_law_name", "_law_other"] : List Str)
abbrev st_m_free : Stmt := top 41
theorem sc_m_free : FnScope N_m_free ["_law_before_here", "_law_done"] (defScope st_m_free) := ⟨rfl, rfl, rfl, by decide +kernel, rfl, by decide +kernel, by decide +kernel⟩
def G_m_free (as : List En) (r : En) : Prop := ∃ (before : (Dct Str (List Str))) (done : (Tl Str)), ok_m_free before done ∧ as = [.fz before, .fz done] ∧ r = .ow (m_free before done)
set_option maxRecDepth 100000 in
theorem w_m_free (B : Bn mg) (J : JCls K) 
    {f : Addr} {fd : FuncData} (F : FnP K "_law_free" st_m_free f fd) : FnOk P w K mg base CX0 1 f fd ["_law_before_here", "_law_done"] (spP K G_m_free) := by
  refine fn_pure F sc_m_free (by decide) (fun as r h => by obtain ⟨before, done, hok, rfl, _⟩ := h; rfl) (fun cdv A outer s H E hr as r h => ?_)
  obtain ⟨before, done, hok, rfl, rfl⟩ := h
  refine ⟨(fun (m : (List Str)) => Out.rt (.ow m)) (m_free before done), rfl, ?_⟩
  show ES _ [.fz before, .fz done, .un, .un, .un] _ ((fun (m : (List Str)) => Out.rt (.ow m)) (pipe ([] : (List Str)) fun (free : (List Str)) =>
  (pipe (List.foldl (m_free_L1 before done) free (keysD before)) fun (st : (List Str)) =>
  st)))
  have hok : (pipe ([] : (List Str)) fun (free : (List Str)) =>
  (∀ (st : (List Str)) (name : Str), AtF (m_free_L1 before done) (keysD before) free st name → ((!(decide (name ∈ done.l))) = true → (hasD before name = true) ∧ True) ∧ okIf ((!(decide (name ∈ done.l))) && (decide ((given (fun (other : Str) => (!(decide (other ∈ done.l)))) (fun (other : Str) => other) (getD before name)) = ([] : (List Str))))) ((st.length < big) ∧ True) (True)) ∧
  True) := hok
  exact es_cons (s_asgN (ps_set (i := 2) sc_m_free.nd rfl (.inl rfl) peW) (n_disp (α := Str) (la_nil)))
     (es_gen (k := (fun (m : (List Str)) => Out.rt (.ow m))) (fun (free : (List Str)) => [.fz before, .fz done, .ow free, .un, .un]) fun free h =>
     have ok := ok_gen hok h; es_cons (s_forKF (tst := PassesOwn.never) (esf := (fun (st : (List Str)) => [.fz before, .fz done, .ow st, .un, .un])) (est := fun st name => [.fz before, .fz done, .ow st, .fz name, .un]) (g := (m_free_L1 before done)) (y0 := free) rfl (k_keys (p_var (pv 0))) (fun st name => g_name (pg_name (i := 3) sc_m_free.nd rfl (.inl rfl)) (Nat.le_of_ble_eq_true rfl))
     (fun st name hat => have ok_1 := ok.1 st name hat; es_nxO (esf := (fun (st : (List Str)) => [.fz before, .fz done, .ow st, .un, .un])) (es_one (s_ife (k := (nxO (fun (st : (List Str)) => [.fz before, .fz done, .ow st, .un, .un]))) (TJ.x (w_t (w_and (t_ninT (r_var (pv 3)) (FJ.rd (f_var (pv 1)))) (fun hb => w_and1 (t_eqD (by exact hr.units) (NJ.rd ((rd_lc (vs := [4]) (est := fun other => [.fz before, .fz done, .ow st, .fz name, .fz other]) (p := fun (other : Str) => (!(decide (other ∈ done.l)))) (g := fun (other : Str) => other) (h_list ((f_dget (by exact hr.units) (((ok_1.1) hb).1) (f_var (pv 0)) (r_var (pv 3))).lr)) rfl (fun _ _ _ _ _ other => ct_name (pg_name (i := 4) sc_m_free.nd rfl (Or.inl rfl)) (by decide) (Nat.le_of_ble_eq_true rfl)) (fun _ _ _ _ _ other hx => if_one (t_ninT (r_var (pv 4)) (FJ.rd (f_var (pv 1))))) (fun _ _ _ _ _ other hx hp => RJ.sc (r_var (pv 4)))).nj (pe_lcW (own := [("_law_other", 4)]) rfl sc_m_free.nd (blkOk_by (N := N_m_free) (sc := defScope st_m_free) (by decide +kernel))))) (NJ.rd (n_disp (α := Str) (la_nil)))))))) (fun hb_1 => have ok_2 := ok_1.2.1 hb_1; es_cons (s_app (α := Str) (ps_expr (pe_bm PySem.F.plainAttrs_list PySem.F.slot_list_append PySem.F.type_list_append mt_append (pv 2) (pa_cons peW pa_nil))) (RJ.xs (r_var (pv 3))) ⟨_, _, rfl, .ow⟩ rfl .ow (ok_2.1))
     (es_gen (k := (nxO (fun (st : (List Str)) => [.fz before, .fz done, .ow st, .un, .un]))) (fun (free_1 : (List Str)) => [.fz before, .fz done, .ow free_1, .fz name, .un]) fun free_1 h_1 =>
     es_nilO ⟨.inr rfl, .inr rfl, .inr rfl, .inl rfl, .inl rfl, trivial⟩))
     (fun hb_1 => es_nilO ⟨.inr rfl, .inr rfl, .inr rfl, .inl rfl, .inl rfl, trivial⟩)))))
     (es_gen (k := (fun (m : (List Str)) => Out.rt (.ow m))) (fun (st : (List Str)) => [.fz before, .fz done, .ow st, .un, .un]) fun st h_2 =>
     es_one (s_retO (ps_ret peW) (pv 2))))
/-! law: rows -/
def m_rows_L1 (benches : Int) (st : (List (List Str))) (name : Str) : (List (List Str)) :=
  (pipe (st ++ (given (fun (row : (List Str)) => (decide ((row.length : Int) < benches))) (fun (row : (List Str)) => (row ++ ([name] : (List Str)))) st)) fun (rows_1 : (List (List Str))) =>
  rows_1)
def m_rows (free : (List Str)) (benches : Int) : (List (List Str)) :=
  (pipe ([([] : (List Str))] : (List (List Str))) fun (rows : (List (List Str))) =>
  (pipe (List.foldl (m_rows_L1 benches) rows free) fun (st : (List (List Str))) =>
  st))
def ok_m_rows (free : (List Str)) (benches : Int) : Prop :=
  (pipe ([([] : (List Str))] : (List (List Str))) fun (rows : (List (List Str))) =>
  (∀ (st : (List (List Str))) (name : Str), AtF (m_rows_L1 benches) free rows st name → (∀ row ∈ st, (decide ((row.length : Int) < benches)) = true → ((row ++ ([name] : (List Str))).length ≤ big) ∧ True) ∧ ((st ++ (given (fun (row : (List Str)) => (decide ((row.length : Int) < benches))) (fun (row : (List Str)) => (row ++ ([name] : (List Str)))) st)).length ≤ big) ∧ True) ∧
  True)
abbrev N_m_rows : List Str := (["_law_free_here", "_law_benches_here", "_law_rows_here", "_law_name", "_law_row"] : List Str)
abbrev st_m_rows : Stmt := top 39
theorem sc_m_rows : FnScope N_m_rows ["_law_free_here", "_law_benches_here"] (defScope st_m_rows) := ⟨rfl, rfl, rfl, by decide +kernel, rfl, by decide +kernel, by decide +kernel⟩
def G_m_rows (as : List En) (r : En) : Prop := ∃ (free : (List Str)) (benches : Int), ok_m_rows free benches ∧ as = [.fz free, .fz benches] ∧ r = .ow (m_rows free benches)
set_option maxRecDepth 100000 in
theorem w_m_rows (B : Bn mg) (J : JCls K) 
    {f : Addr} {fd : FuncData} (F : FnP K "_law_rows" st_m_rows f fd) : FnOk P w K mg base CX0 1 f fd ["_law_free_here", "_law_benches_here"] (spP K G_m_rows) := by
  refine fn_pure F sc_m_rows (by decide) (fun as r h => by obtain ⟨free, benches, hok, rfl, _⟩ := h; rfl) (fun cdv A outer s H E hr as r h => ?_)
  obtain ⟨free, benches, hok, rfl, rfl⟩ := h
  refine ⟨(fun (m : (List (List Str))) => Out.rt (.ow m)) (m_rows free benches), rfl, ?_⟩
  show ES _ [.fz free, .fz benches, .un, .un, .un] _ ((fun (m : (List (List Str))) => Out.rt (.ow m)) (pipe ([([] : (List Str))] : (List (List Str))) fun (rows : (List (List Str))) =>
  (pipe (List.foldl (m_rows_L1 benches) rows free) fun (st : (List (List Str))) =>
  st)))
  have hok : (pipe ([([] : (List Str))] : (List (List Str))) fun (rows : (List (List Str))) =>
  (∀ (st : (List (List Str))) (name : Str), AtF (m_rows_L1 benches) free rows st name → (∀ row ∈ st, (decide ((row.length : Int) < benches)) = true → ((row ++ ([name] : (List Str))).length ≤ big) ∧ True) ∧ ((st ++ (given (fun (row : (List Str)) => (decide ((row.length : Int) < benches))) (fun (row : (List Str)) => (row ++ ([name] : (List Str)))) st)).length ≤ big) ∧ True) ∧
  True) := hok
  exact es_cons (s_asgN (ps_set (i := 2) sc_m_rows.nd rfl (.inl rfl) peW) (n_disp (α := (List Str)) (la_cons (NJ.frz (n_disp (α := Str) (la_nil))) (la_nil))))
     (es_gen (k := (fun (m : (List (List Str))) => Out.rt (.ow m))) (fun (rows : (List (List Str))) => [.fz free, .fz benches, .ow rows, .un, .un]) fun rows h =>
     have ok := ok_gen hok h; es_cons (s_forF (tst := PassesOwn.never) (esf := (fun (st : (List (List Str))) => [.fz free, .fz benches, .ow st, .un, .un])) (est := fun st name => [.fz free, .fz benches, .ow st, .fz name, .un]) (g := (m_rows_L1 benches)) (y0 := rows) rfl (i_list (FJ.x (f_var (pv 0)))) (fun st name => g_name (pg_name (i := 3) sc_m_rows.nd rfl (.inr rfl)) (Nat.le_of_ble_eq_true rfl))
     (fun st name hat => have ok_1 := ok.1 st name hat; es_nxO (esf := (fun (st : (List (List Str))) => [.fz free, .fz benches, .ow st, .un, .un])) (es_cons (s_asgN (ps_set (i := 2) sc_m_rows.nd rfl (.inl rfl) peW) (n_plus (ok_1.2.1) ((o_lr (pv 2))) (((rd_lc (vs := [4]) (est := fun row => [.fz free, .fz benches, .ow st, .fz name, .fz row]) (p := fun (row : (List Str)) => (decide ((row.length : Int) < benches))) (g := fun (row : (List Str)) => (row ++ ([name] : (List Str)))) (h_list ((o_lr (pv 2)))) rfl (fun _ _ _ _ _ row => ct_name (pg_name (i := 4) sc_m_rows.nd rfl (Or.inl rfl)) (by decide) (Nat.le_of_ble_eq_true rfl)) (fun _ _ _ _ _ row hx => if_one (t_lt (r_len (by rfl) B.n_len (FJ.rd (f_var (pv 4)))) (r_var (pv 1)))) (fun _ _ _ _ _ row hx hp => NJ.frz (n_plus (((ok_1.1) row hx hp).1) ((f_var (pv 4)).lr) ((n_disp (α := Str) (la_cons (RJ.sc (r_var (pv 3))) (la_nil))).lr)))).nj (pe_lcW (own := [("_law_row", 4)]) rfl sc_m_rows.nd (blkOk_by (N := N_m_rows) (sc := defScope st_m_rows) (by decide +kernel)))).lr)))
     (es_gen (k := (nxO (fun (st : (List (List Str))) => [.fz free, .fz benches, .ow st, .un, .un]))) (fun (rows_1 : (List (List Str))) => [.fz free, .fz benches, .ow rows_1, .fz name, .un]) fun rows_1 h_1 =>
     es_nilO ⟨.inr rfl, .inr rfl, .inr rfl, .inl rfl, .inl rfl, trivial⟩))))
     (es_gen (k := (fun (m : (List (List Str))) => Out.rt (.ow m))) (fun (st : (List (List Str))) => [.fz free, .fz benches, .ow st, .un, .un]) fun st h_2 =>
     es_one (s_retO (ps_ret peW) (pv 2))))
/-! law: by_sets -/
def m_by_sets_L3 (names : (List Str)) (ways_1 : (Dct (Tl Str) Int)) (done : (Tl Str)) (st_2 : (Dct (Tl Str) Int)) (row : (List Str)) : (Dct (Tl Str) Int) :=
  (pipe (Tl.mk (given (fun (name : Str) => ((decide (name ∈ done.l)) || (decide (name ∈ row)))) (fun (name : Str) => name) names)) fun (then_ : (Tl Str)) =>
  (pipe (putD st_2 then_ ((getOr st_2 then_ (0 : Int)) + (getD ways_1 done))) fun (more_1 : (Dct (Tl Str) Int)) =>
  more_1))
def m_by_sets_L2 (names : (List Str)) (benches : Int) (before : (Dct Str (List Str))) (ways_1 : (Dct (Tl Str) Int)) (st_1 : (Dct (Tl Str) Int)) (done : (Tl Str)) : (Dct (Tl Str) Int) :=
  (pipe (List.foldl (m_by_sets_L3 names ways_1 done) st_1 (m_rows (m_free before done) benches)) fun (st_2 : (Dct (Tl Str) Int)) =>
  st_2)
def m_by_sets_L1 (names : (List Str)) (benches : Int) (before : (Dct Str (List Str))) (st : ((Dct (Tl Str) Int) × (List Int))) (turn : Int) : ((Dct (Tl Str) Int) × (List Int)) :=
  (pipe st.1 fun (ways_1 : (Dct (Tl Str) Int)) => (pipe st.2 fun (dues_1 : (List Int)) => (pipe (Dct.mk [] : (Dct (Tl Str) Int)) fun (more : (Dct (Tl Str) Int)) =>
  (pipe (List.foldl (m_by_sets_L2 names benches before ways_1) more (keysD ways_1)) fun (st_1 : (Dct (Tl Str) Int)) =>
  (pipe st_1 fun (ways_2 : (Dct (Tl Str) Int)) =>
  (pipe (dues_1 ++ [(getOr ways_2 (Tl.mk names) (0 : Int))]) fun (dues_2 : (List Int)) =>
  (ways_2, dues_2)))))))
def m_by_sets (names : (List Str)) (behind : (Dct Str (Dct Str Bool))) (benches : Int) (turns : Int) : (List Int) :=
  (pipe (m_before names behind) fun (before : (Dct Str (List Str))) =>
  (pipe (Dct.mk [((Tl.mk [] : (Tl Str)), (1 : Int))] : (Dct (Tl Str) Int)) fun (ways : (Dct (Tl Str) Int)) =>
  (pipe ([(getOr ways (Tl.mk names) (0 : Int))] : (List Int)) fun (dues : (List Int)) =>
  (pipe (List.foldl (m_by_sets_L1 names benches before) (ways, dues) (rangeL 0 turns)) fun (st : ((Dct (Tl Str) Int) × (List Int))) =>
  (pipe st.1 fun (ways_3 : (Dct (Tl Str) Int)) => (pipe st.2 fun (dues_3 : (List Int)) => dues_3))))))
def ok_m_by_sets (names : (List Str)) (behind : (Dct Str (Dct Str Bool))) (benches : Int) (turns : Int) : Prop :=
  (ok_m_before names behind) ∧ (pipe (m_before names behind) fun (before : (Dct Str (List Str))) =>
  (pipe (Dct.mk [((Tl.mk [] : (Tl Str)), (1 : Int))] : (Dct (Tl Str) Int)) fun (ways : (Dct (Tl Str) Int)) =>
  (pipe ([(getOr ways (Tl.mk names) (0 : Int))] : (List Int)) fun (dues : (List Int)) =>
  (-(2 ^ 62) ≤ turns ∧ turns < 2 ^ 62) ∧ (∀ (st : ((Dct (Tl Str) Int) × (List Int))) (turn : Int), AtF (m_by_sets_L1 names benches before) (rangeL 0 turns) (ways, dues) st turn → (pipe st.1 fun (ways_1 : (Dct (Tl Str) Int)) => (pipe st.2 fun (dues_1 : (List Int)) => (pipe (Dct.mk [] : (Dct (Tl Str) Int)) fun (more : (Dct (Tl Str) Int)) =>
  (∀ (st_1 : (Dct (Tl Str) Int)) (done : (Tl Str)), AtF (m_by_sets_L2 names benches before ways_1) (keysD ways_1) more st_1 done → (ok_m_free before done) ∧ (ok_m_rows (m_free before done) benches) ∧ (∀ (st_2 : (Dct (Tl Str) Int)) (row : (List Str)), AtF (m_by_sets_L3 names ways_1 done) (m_rows (m_free before done) benches) st_1 st_2 row → (pipe (Tl.mk (given (fun (name : Str) => ((decide (name ∈ done.l)) || (decide (name ∈ row)))) (fun (name : Str) => name) names)) fun (then_ : (Tl Str)) =>
  (hasD ways_1 done = true) ∧ (st_2.l.length < big) ∧ True)) ∧
  True) ∧
  (pipe (List.foldl (m_by_sets_L2 names benches before ways_1) more (keysD ways_1)) fun (st_1 : (Dct (Tl Str) Int)) =>
  (pipe st_1 fun (ways_2 : (Dct (Tl Str) Int)) =>
  (dues_1.length < big) ∧ True)))))) ∧
  True)))
abbrev N_m_by_sets : List Str := (["_law_names_here", "_law_behind_here", "_law_benches_here", "_law_turns", "_law_before_here", "_law_ways", "_law_dues", "_law_turn", "_law_more", "_law_done", "_law_row", "_law_then", "_law_name"] : List Str)
abbrev st_m_by_sets : Stmt := top 45
theorem sc_m_by_sets : FnScope N_m_by_sets ["_law_names_here", "_law_behind_here", "_law_benches_here", "_law_turns"] (defScope st_m_by_sets) := ⟨rfl, rfl, rfl, by decide +kernel, rfl, by decide +kernel, by decide +kernel⟩
def G_m_by_sets (as : List En) (r : En) : Prop := ∃ (names : (List Str)) (behind : (Dct Str (Dct Str Bool))) (benches : Int) (turns : Int), ok_m_by_sets names behind benches turns ∧ as = [.fz names, .fz behind, .fz benches, .fz turns] ∧ r = .ow (m_by_sets names behind benches turns)
set_option maxRecDepth 100000 in
theorem w_m_by_sets (B : Bn mg) (J : JCls K) (D_m_before : Df P w K mg base 1 "_law_before" ["_law_names_here", "_law_behind_here"] (spP K G_m_before)) (D_m_free : Df P w K mg base 1 "_law_free" ["_law_before_here", "_law_done"] (spP K G_m_free)) (D_m_rows : Df P w K mg base 1 "_law_rows" ["_law_free_here", "_law_benches_here"] (spP K G_m_rows))
    {f : Addr} {fd : FuncData} (F : FnP K "_law_by_sets" st_m_by_sets f fd) : FnOk P w K mg base CX0 2 f fd ["_law_names_here", "_law_behind_here", "_law_benches_here", "_law_turns"] (spP K G_m_by_sets) := by
  refine fn_pure F sc_m_by_sets (by decide) (fun as r h => by obtain ⟨names, behind, benches, turns, hok, rfl, _⟩ := h; rfl) (fun cdv A outer s H E hr as r h => ?_)
  obtain ⟨names, behind, benches, turns, hok, rfl, rfl⟩ := h
  refine ⟨(fun (m : (List Int)) => Out.rt (.ow m)) (m_by_sets names behind benches turns), rfl, ?_⟩
  show ES _ [.fz names, .fz behind, .fz benches, .fz turns, .un, .un, .un, .un, .un, .un, .un, .un, .un] _ ((fun (m : (List Int)) => Out.rt (.ow m)) (pipe (m_before names behind) fun (before : (Dct Str (List Str))) =>
  (pipe (Dct.mk [((Tl.mk [] : (Tl Str)), (1 : Int))] : (Dct (Tl Str) Int)) fun (ways : (Dct (Tl Str) Int)) =>
  (pipe ([(getOr ways (Tl.mk names) (0 : Int))] : (List Int)) fun (dues : (List Int)) =>
  (pipe (List.foldl (m_by_sets_L1 names benches before) (ways, dues) (rangeL 0 turns)) fun (st : ((Dct (Tl Str) Int) × (List Int))) =>
  (pipe st.1 fun (ways_3 : (Dct (Tl Str) Int)) => (pipe st.2 fun (dues_3 : (List Int)) => dues_3)))))))
  have hok : (ok_m_before names behind) ∧ (pipe (m_before names behind) fun (before : (Dct Str (List Str))) =>
  (pipe (Dct.mk [((Tl.mk [] : (Tl Str)), (1 : Int))] : (Dct (Tl Str) Int)) fun (ways : (Dct (Tl Str) Int)) =>
  (pipe ([(getOr ways (Tl.mk names) (0 : Int))] : (List Int)) fun (dues : (List Int)) =>
  (-(2 ^ 62) ≤ turns ∧ turns < 2 ^ 62) ∧ (∀ (st : ((Dct (Tl Str) Int) × (List Int))) (turn : Int), AtF (m_by_sets_L1 names benches before) (rangeL 0 turns) (ways, dues) st turn → (pipe st.1 fun (ways_1 : (Dct (Tl Str) Int)) => (pipe st.2 fun (dues_1 : (List Int)) => (pipe (Dct.mk [] : (Dct (Tl Str) Int)) fun (more : (Dct (Tl Str) Int)) =>
  (∀ (st_1 : (Dct (Tl Str) Int)) (done : (Tl Str)), AtF (m_by_sets_L2 names benches before ways_1) (keysD ways_1) more st_1 done → (ok_m_free before done) ∧ (ok_m_rows (m_free before done) benches) ∧ (∀ (st_2 : (Dct (Tl Str) Int)) (row : (List Str)), AtF (m_by_sets_L3 names ways_1 done) (m_rows (m_free before done) benches) st_1 st_2 row → (pipe (Tl.mk (given (fun (name : Str) => ((decide (name ∈ done.l)) || (decide (name ∈ row)))) (fun (name : Str) => name) names)) fun (then_ : (Tl Str)) =>
  (hasD ways_1 done = true) ∧ (st_2.l.length < big) ∧ True)) ∧
  True) ∧
  (pipe (List.foldl (m_by_sets_L2 names benches before ways_1) more (keysD ways_1)) fun (st_1 : (Dct (Tl Str) Int)) =>
  (pipe st_1 fun (ways_2 : (Dct (Tl Str) Int)) =>
  (dues_1.length < big) ∧ True)))))) ∧
  True))) := hok
  exact es_cons (s_asg (ps_set (i := 4) sc_m_by_sets.nd rfl (.inl rfl) peW) (NJ.frz (nD D_m_before (hr.mono (by decide)) (a_cons (f_var (pv 0)) (a_cons (f_var (pv 1)) (a_nil))) (⟨_, _, (hok.1), rfl, rfl⟩))))
     (es_gen (k := (fun (m : (List Int)) => Out.rt (.ow m))) (fun (before : (Dct Str (List Str))) => [.fz names, .fz behind, .fz benches, .fz turns, .fz before, .un, .un, .un, .un, .un, .un, .un, .un]) fun before h =>
     have ok := ok_gen hok.2 h; es_cons (s_asg (ps_set (i := 5) sc_m_by_sets.nd rfl (.inl rfl) peW) (NJ.frz (n_disp1T (by exact hr.units) (f_tl0 (α := Str) ) (RJ.sc (r_int)))))
     (es_gen (k := (fun (m : (List Int)) => Out.rt (.ow m))) (fun (ways : (Dct (Tl Str) Int)) => [.fz names, .fz behind, .fz benches, .fz turns, .fz before, .fz ways, .un, .un, .un, .un, .un, .un, .un]) fun ways h_1 =>
     have ok_1 := ok_gen ok h_1; es_cons (s_asgN (ps_set (i := 6) sc_m_by_sets.nd rfl (.inl rfl) peW) (n_disp (α := Int) (la_cons (RJ.sc (r_dgetOrT (κ := Str) (β := Int) (by exact hr.units) (FJ.rd (f_var (pv 5))) (FJ.rd (f_tupOf (by rfl) B.n_tuple ((f_var (pv 0)).lr))) (r_int))) (la_nil))))
     (es_gen (k := (fun (m : (List Int)) => Out.rt (.ow m))) (fun (dues : (List Int)) => [.fz names, .fz behind, .fz benches, .fz turns, .fz before, .fz ways, .ow dues, .un, .un, .un, .un, .un, .un]) fun dues h_2 =>
     have ok_2 := ok_gen ok_1 h_2; es_cons (s_forF (tst := PassesOwn.never) (esf := (fun (st : ((Dct (Tl Str) Int) × (List Int))) => [.fz names, .fz behind, .fz benches, .fz turns, .fz before, .fz st.1, .ow st.2, .un, .un, .un, .un, .un, .un])) (est := fun st turn => [.fz names, .fz behind, .fz benches, .fz turns, .fz before, .fz st.1, .ow st.2, .fz turn, .un, .un, .un, .un, .un]) (g := (m_by_sets_L1 names benches before)) (y0 := (ways, dues)) rfl (i_range1 (by rfl) B.n_range (ok_2.1) (RJ.xs (r_var (pv 3)))) (fun st turn => g_name (pg_name (i := 7) sc_m_by_sets.nd rfl (.inl rfl)) (Nat.le_of_ble_eq_true rfl))
     (fun st turn hat => have ok_3 := ok_2.2.1 st turn hat; es_nxO (esf := (fun (st : ((Dct (Tl Str) Int) × (List Int))) => [.fz names, .fz behind, .fz benches, .fz turns, .fz before, .fz st.1, .ow st.2, .un, .un, .un, .un, .un, .un])) (es_gen (k := (nxO (fun (st : ((Dct (Tl Str) Int) × (List Int))) => [.fz names, .fz behind, .fz benches, .fz turns, .fz before, .fz st.1, .ow st.2, .un, .un, .un, .un, .un, .un]))) (fun (ways_1 : (Dct (Tl Str) Int)) => [.fz names, .fz behind, .fz benches, .fz turns, .fz before, .fz ways_1, .ow st.2, .fz turn, .un, .un, .un, .un, .un]) fun ways_1 h_3 => have ok_4 := ok_gen ok_3 h_3; es_gen (k := (nxO (fun (st : ((Dct (Tl Str) Int) × (List Int))) => [.fz names, .fz behind, .fz benches, .fz turns, .fz before, .fz st.1, .ow st.2, .un, .un, .un, .un, .un, .un]))) (fun (dues_1 : (List Int)) => [.fz names, .fz behind, .fz benches, .fz turns, .fz before, .fz ways_1, .ow dues_1, .fz turn, .un, .un, .un, .un, .un]) fun dues_1 h_4 => have ok_5 := ok_gen ok_4 h_4; es_cons (s_asgN (ps_set (i := 8) sc_m_by_sets.nd rfl (.inl rfl) peW) (n_dnewT (κ := Str) (α := Int)))
     (es_gen (k := (nxO (fun (st : ((Dct (Tl Str) Int) × (List Int))) => [.fz names, .fz behind, .fz benches, .fz turns, .fz before, .fz st.1, .ow st.2, .un, .un, .un, .un, .un, .un]))) (fun (more : (Dct (Tl Str) Int)) => [.fz names, .fz behind, .fz benches, .fz turns, .fz before, .fz ways_1, .ow dues_1, .fz turn, .ow more, .un, .un, .un, .un]) fun more h_5 =>
     have ok_6 := ok_gen ok_5 h_5; es_cons (s_forKF (tst := PassesOwn.never) (esf := (fun (st_1 : (Dct (Tl Str) Int)) => [.fz names, .fz behind, .fz benches, .fz turns, .fz before, .fz ways_1, .ow dues_1, .fz turn, .ow st_1, .un, .un, .un, .un])) (est := fun st_1 done => [.fz names, .fz behind, .fz benches, .fz turns, .fz before, .fz ways_1, .ow dues_1, .fz turn, .ow st_1, .fz done, .un, .un, .un]) (g := (m_by_sets_L2 names benches before ways_1)) (y0 := more) rfl (k_keysT (p_var (pv 5))) (fun st_1 done => g_name (pg_name (i := 9) sc_m_by_sets.nd rfl (.inr rfl)) (Nat.le_of_ble_eq_true rfl))
     (fun st_1 done hat_1 => have ok_7 := ok_6.1 st_1 done hat_1; es_nxO (esf := (fun (st_1 : (Dct (Tl Str) Int)) => [.fz names, .fz behind, .fz benches, .fz turns, .fz before, .fz ways_1, .ow dues_1, .fz turn, .ow st_1, .un, .un, .un, .un])) (es_cons (s_forF (tst := PassesOwn.never) (esf := (fun (st_2 : (Dct (Tl Str) Int)) => [.fz names, .fz behind, .fz benches, .fz turns, .fz before, .fz ways_1, .ow dues_1, .fz turn, .ow st_2, .fz done, .un, .un, .un])) (est := fun st_2 row => [.fz names, .fz behind, .fz benches, .fz turns, .fz before, .fz ways_1, .ow dues_1, .fz turn, .ow st_2, .fz done, .fz row, .un, .un]) (g := (m_by_sets_L3 names ways_1 done)) (y0 := st_1) rfl (i_list (FJ.x (NJ.frz (nD D_m_rows (hr.mono (by decide)) (a_cons (NJ.frz (nD D_m_free (hr.mono (by decide)) (a_cons (f_var (pv 4)) (a_cons (f_var (pv 9)) (a_nil))) (⟨_, _, (ok_7.1), rfl, rfl⟩))) (a_cons (RJ.sc (r_var (pv 2))) (a_nil))) (⟨_, _, (ok_7.2.1), rfl, rfl⟩))))) (fun st_2 row => g_name (pg_name (i := 10) sc_m_by_sets.nd rfl (.inr rfl)) (Nat.le_of_ble_eq_true rfl))
     (fun st_2 row hat_2 => have ok_8 := ok_7.2.2.1 st_2 row hat_2; es_nxO (esf := (fun (st_2 : (Dct (Tl Str) Int)) => [.fz names, .fz behind, .fz benches, .fz turns, .fz before, .fz ways_1, .ow dues_1, .fz turn, .ow st_2, .fz done, .un, .un, .un])) (es_cons (s_asg (ps_set (i := 11) sc_m_by_sets.nd rfl (.inl rfl) peW) (f_tupOf (by rfl) B.n_tuple (((rd_lc (vs := [12]) (est := fun name => [.fz names, .fz behind, .fz benches, .fz turns, .fz before, .fz ways_1, .ow dues_1, .fz turn, .ow st_2, .fz done, .fz row, .un, .fz name]) (p := fun (name : Str) => ((decide (name ∈ done.l)) || (decide (name ∈ row)))) (g := fun (name : Str) => name) (h_list ((f_var (pv 0)).lr)) rfl (fun _ _ _ _ _ name => ct_name (pg_name (i := 12) sc_m_by_sets.nd rfl (Or.inl rfl)) (by decide) (Nat.le_of_ble_eq_true rfl)) (fun _ _ _ _ _ name hx => if_one (w_t (w_or (t_inT (r_var (pv 12)) (FJ.rd (f_var (pv 9)))) (fun hb => w_or1 (t_in (r_var (pv 12)) (FJ.rd (f_var (pv 10)))))))) (fun _ _ _ _ _ name hx hp => RJ.sc (r_var (pv 12)))).nj (pe_lcW (own := [("_law_name", 12)]) rfl sc_m_by_sets.nd (blkOk_by (N := N_m_by_sets) (sc := defScope st_m_by_sets) (by decide +kernel)))).lr)))
     (es_gen (k := (nxO (fun (st_2 : (Dct (Tl Str) Int)) => [.fz names, .fz behind, .fz benches, .fz turns, .fz before, .fz ways_1, .ow dues_1, .fz turn, .ow st_2, .fz done, .un, .un, .un]))) (fun (then_ : (Tl Str)) => [.fz names, .fz behind, .fz benches, .fz turns, .fz before, .fz ways_1, .ow dues_1, .fz turn, .ow st_2, .fz done, .fz row, .fz then_, .un]) fun then_ h_6 =>
     have ok_9 := ok_gen ok_8 h_6; es_cons (s_dputT (by exact hr.units) (ps_dput (un1 (by exact hr.units)) (pv 8) peW peW (by rfl)) (RJ.xs (r_add (r_dgetOrT (κ := Str) (β := Int) (by exact hr.units) ((o_var (pv 8))) (FJ.rd (f_var (pv 11))) (r_int)) (FJ.rd (f_dgetT (by exact hr.units) (ok_9.1) (f_var (pv 5)) (FJ.rd (f_var (pv 9))))))) (FJ.x (f_var (pv 11))) rfl .ow (ok_9.2.1) (h0 := ⟨_, _, rfl, .ow⟩))
     (es_gen (k := (nxO (fun (st_2 : (Dct (Tl Str) Int)) => [.fz names, .fz behind, .fz benches, .fz turns, .fz before, .fz ways_1, .ow dues_1, .fz turn, .ow st_2, .fz done, .un, .un, .un]))) (fun (more_1 : (Dct (Tl Str) Int)) => [.fz names, .fz behind, .fz benches, .fz turns, .fz before, .fz ways_1, .ow dues_1, .fz turn, .ow more_1, .fz done, .fz row, .fz then_, .un]) fun more_1 h_7 =>
     es_nilO ⟨.inr rfl, .inr rfl, .inr rfl, .inr rfl, .inr rfl, .inr rfl, .inr rfl, .inr rfl, .inr rfl, .inr rfl, .inl rfl, .inl rfl, .inl rfl, trivial⟩)))))
     (es_gen (k := (nxO (fun (st_1 : (Dct (Tl Str) Int)) => [.fz names, .fz behind, .fz benches, .fz turns, .fz before, .fz ways_1, .ow dues_1, .fz turn, .ow st_1, .un, .un, .un, .un]))) (fun (st_2 : (Dct (Tl Str) Int)) => [.fz names, .fz behind, .fz benches, .fz turns, .fz before, .fz ways_1, .ow dues_1, .fz turn, .ow st_2, .fz done, .un, .un, .un]) fun st_2 h_8 =>
     es_nilO ⟨.inr rfl, .inr rfl, .inr rfl, .inr rfl, .inr rfl, .inr rfl, .inr rfl, .inr rfl, .inr rfl, .inl rfl, .inl rfl, .inl rfl, .inl rfl, trivial⟩))))
     (es_gen (k := (nxO (fun (st : ((Dct (Tl Str) Int) × (List Int))) => [.fz names, .fz behind, .fz benches, .fz turns, .fz before, .fz st.1, .ow st.2, .un, .un, .un, .un, .un, .un]))) (fun (st_1 : (Dct (Tl Str) Int)) => [.fz names, .fz behind, .fz benches, .fz turns, .fz before, .fz ways_1, .ow dues_1, .fz turn, .ow st_1, .un, .un, .un, .un]) fun st_1 h_9 =>
     have ok_12 := ok_gen ok_6.2 h_9; es_cons (s_asgX (ps_set (i := 5) sc_m_by_sets.nd rfl (.inl rfl) peW) ((x_frz (pv 8))))
     (es_gen (k := (nxO (fun (st : ((Dct (Tl Str) Int) × (List Int))) => [.fz names, .fz behind, .fz benches, .fz turns, .fz before, .fz st.1, .ow st.2, .un, .un, .un, .un, .un, .un]))) (fun (ways_2 : (Dct (Tl Str) Int)) => [.fz names, .fz behind, .fz benches, .fz turns, .fz before, .fz ways_2, .ow dues_1, .fz turn, .fz st_1, .un, .un, .un, .un]) fun ways_2 h_10 =>
     have ok_13 := ok_gen ok_12 h_10; es_cons (s_app (α := Int) (ps_expr (pe_bm PySem.F.plainAttrs_list PySem.F.slot_list_append PySem.F.type_list_append mt_append (pv 6) (pa_cons peW pa_nil))) (RJ.xs (r_dgetOrT (κ := Str) (β := Int) (by exact hr.units) (FJ.rd (f_var (pv 5))) (FJ.rd (f_tupOf (by rfl) B.n_tuple ((f_var (pv 0)).lr))) (r_int))) ⟨_, _, rfl, .ow⟩ rfl .ow (ok_13.1))
     (es_gen (k := (nxO (fun (st : ((Dct (Tl Str) Int) × (List Int))) => [.fz names, .fz behind, .fz benches, .fz turns, .fz before, .fz st.1, .ow st.2, .un, .un, .un, .un, .un, .un]))) (fun (dues_2 : (List Int)) => [.fz names, .fz behind, .fz benches, .fz turns, .fz before, .fz ways_2, .ow dues_2, .fz turn, .fz st_1, .un, .un, .un, .un]) fun dues_2 h_11 =>
     es_nilO ⟨.inr rfl, .inr rfl, .inr rfl, .inr rfl, .inr rfl, .inr rfl, .inr rfl, .inl rfl, .inl rfl, .inl rfl, .inl rfl, .inl rfl, .inl rfl, trivial⟩)))))))
     (es_gen (k := (fun (m : (List Int)) => Out.rt (.ow m))) (fun (st : ((Dct (Tl Str) Int) × (List Int))) => [.fz names, .fz behind, .fz benches, .fz turns, .fz before, .fz st.1, .ow st.2, .un, .un, .un, .un, .un, .un]) fun st h_12 =>
     es_gen (k := (fun (m : (List Int)) => Out.rt (.ow m))) (fun (ways_3 : (Dct (Tl Str) Int)) => [.fz names, .fz behind, .fz benches, .fz turns, .fz before, .fz ways_3, .ow st.2, .un, .un, .un, .un, .un, .un]) fun ways_3 h_13 => es_gen (k := (fun (m : (List Int)) => Out.rt (.ow m))) (fun (dues_3 : (List Int)) => [.fz names, .fz behind, .fz benches, .fz turns, .fz before, .fz ways_3, .ow dues_3, .un, .un, .un, .un, .un, .un]) fun dues_3 h_14 => es_one (s_retO (ps_ret peW) (pv 6))))))
/-! law: by_jobs -/
def m_by_jobs_L3 (behind : (Dct Str (Dct Str Bool))) (benches : Int) (name : Str) (one : (Dct Str Int)) (st_2 : (List (Dct Str Int))) (turn : Int) : (List (Dct Str Int)) :=
  (pipe ((given (fun (other : Str) => (decide ((getD one other) = turn))) (fun (other : Str) => other) (keysD one)).length : Int) fun (wide : Int) =>
  (pipe (given (fun (other_1 : Str) => ((hasD (getD behind other_1) name) && (decide ((getD one other_1) ≥ turn)))) (fun (other_1 : Str) => other_1) (keysD one)) fun (late : (List Str)) =>
  (pipe (given (fun (other_2 : Str) => ((hasD (getD behind name) other_2) && (decide ((getD one other_2) ≤ turn)))) (fun (other_2 : Str) => other_2) (keysD one)) fun (soon : (List Str)) =>
  (bif ((decide (wide < benches)) && ((decide (late = ([] : (List Str)))) && (decide (soon = ([] : (List Str)))))) then (pipe one fun (more : (Dct Str Int)) =>
  (pipe (putD more name turn) fun (more_1 : (Dct Str Int)) =>
  (pipe (st_2 ++ [more_1]) fun (longer_1 : (List (Dct Str Int))) =>
  longer_1))) else
  st_2))))
def m_by_jobs_L2 (behind : (Dct Str (Dct Str Bool))) (benches : Int) (turns : Int) (name : Str) (st_1 : (List (Dct Str Int))) (one : (Dct Str Int)) : (List (Dct Str Int)) :=
  (pipe (List.foldl (m_by_jobs_L3 behind benches name one) st_1 (rangeL 0 turns)) fun (st_2 : (List (Dct Str Int))) =>
  st_2)
def m_by_jobs_L1 (behind : (Dct Str (Dct Str Bool))) (benches : Int) (turns : Int) (st : (List (Dct Str Int))) (name : Str) : (List (Dct Str Int)) :=
  (pipe ([] : (List (Dct Str Int))) fun (longer : (List (Dct Str Int))) =>
  (pipe (List.foldl (m_by_jobs_L2 behind benches turns name) longer st) fun (st_1 : (List (Dct Str Int))) =>
  (pipe st_1 fun (found_1 : (List (Dct Str Int))) =>
  found_1)))
def m_by_jobs (names : (List Str)) (behind : (Dct Str (Dct Str Bool))) (benches : Int) (turns : Int) : Int :=
  (pipe ([(Dct.mk [] : (Dct Str Int))] : (List (Dct Str Int))) fun (found : (List (Dct Str Int))) =>
  (pipe (List.foldl (m_by_jobs_L1 behind benches turns) found names) fun (st : (List (Dct Str Int))) =>
  (st.length : Int)))
def ok_m_by_jobs (names : (List Str)) (behind : (Dct Str (Dct Str Bool))) (benches : Int) (turns : Int) : Prop :=
  (pipe ([(Dct.mk [] : (Dct Str Int))] : (List (Dct Str Int))) fun (found : (List (Dct Str Int))) =>
  (∀ (st : (List (Dct Str Int))) (name : Str), AtF (m_by_jobs_L1 behind benches turns) names found st name → (pipe ([] : (List (Dct Str Int))) fun (longer : (List (Dct Str Int))) =>
  (∀ (st_1 : (List (Dct Str Int))) (one : (Dct Str Int)), AtF (m_by_jobs_L2 behind benches turns name) st longer st_1 one → (-(2 ^ 62) ≤ turns ∧ turns < 2 ^ 62) ∧ (∀ (st_2 : (List (Dct Str Int))) (turn : Int), AtF (m_by_jobs_L3 behind benches name one) (rangeL 0 turns) st_1 st_2 turn → (∀ other ∈ (keysD one), (hasD one other = true) ∧ True) ∧ (pipe ((given (fun (other : Str) => (decide ((getD one other) = turn))) (fun (other : Str) => other) (keysD one)).length : Int) fun (wide : Int) =>
  (∀ other_1 ∈ (keysD one), (hasD behind other_1 = true) ∧ ((hasD (getD behind other_1) name) = true → (hasD one other_1 = true) ∧ True) ∧ True) ∧ (pipe (given (fun (other_1 : Str) => ((hasD (getD behind other_1) name) && (decide ((getD one other_1) ≥ turn)))) (fun (other_1 : Str) => other_1) (keysD one)) fun (late : (List Str)) =>
  (∀ other_2 ∈ (keysD one), (hasD behind name = true) ∧ ((hasD (getD behind name) other_2) = true → (hasD one other_2 = true) ∧ True) ∧ True) ∧ (pipe (given (fun (other_2 : Str) => ((hasD (getD behind name) other_2) && (decide ((getD one other_2) ≤ turn)))) (fun (other_2 : Str) => other_2) (keysD one)) fun (soon : (List Str)) =>
  okIf ((decide (wide < benches)) && ((decide (late = ([] : (List Str)))) && (decide (soon = ([] : (List Str)))))) ((pipe one fun (more : (Dct Str Int)) =>
  (more.l.length < big) ∧ (pipe (putD more name turn) fun (more_1 : (Dct Str Int)) =>
  (st_2.length < big) ∧ True))) (True))))) ∧
  True) ∧
  True)) ∧
  True)
abbrev N_m_by_jobs : List Str := (["_law_names_here", "_law_behind_here", "_law_benches_here", "_law_turns", "_law_found", "_law_name", "_law_longer", "_law_one", "_law_turn", "_law_wide", "_law_late", "_law_soon", "_law_more", "_law_other"] : List Str)
abbrev st_m_by_jobs : Stmt := top 44
theorem sc_m_by_jobs : FnScope N_m_by_jobs ["_law_names_here", "_law_behind_here", "_law_benches_here", "_law_turns"] (defScope st_m_by_jobs) := ⟨rfl, rfl, rfl, by decide +kernel, rfl, by decide +kernel, by decide +kernel⟩
def G_m_by_jobs (as : List En) (r : En) : Prop := ∃ (names : (List Str)) (behind : (Dct Str (Dct Str Bool))) (benches : Int) (turns : Int), ok_m_by_jobs names behind benches turns ∧ as = [.fz names, .fz behind, .fz benches, .fz turns] ∧ r = .fz (m_by_jobs names behind benches turns)
set_option maxRecDepth 100000 in
theorem w_m_by_jobs (B : Bn mg) (J : JCls K) 
    {f : Addr} {fd : FuncData} (F : FnP K "_law_by_jobs" st_m_by_jobs f fd) : FnOk P w K mg base CX0 1 f fd ["_law_names_here", "_law_behind_here", "_law_benches_here", "_law_turns"] (spP K G_m_by_jobs) := by
  refine fn_pure F sc_m_by_jobs (by decide) (fun as r h => by obtain ⟨names, behind, benches, turns, hok, rfl, _⟩ := h; rfl) (fun cdv A outer s H E hr as r h => ?_)
  obtain ⟨names, behind, benches, turns, hok, rfl, rfl⟩ := h
  refine ⟨(fun (m : Int) => Out.rt (.fz m)) (m_by_jobs names behind benches turns), rfl, ?_⟩
  show ES _ [.fz names, .fz behind, .fz benches, .fz turns, .un, .un, .un, .un, .un, .un, .un, .un, .un, .un] _ ((fun (m : Int) => Out.rt (.fz m)) (pipe ([(Dct.mk [] : (Dct Str Int))] : (List (Dct Str Int))) fun (found : (List (Dct Str Int))) =>
  (pipe (List.foldl (m_by_jobs_L1 behind benches turns) found names) fun (st : (List (Dct Str Int))) =>
  (st.length : Int))))
  have hok : (pipe ([(Dct.mk [] : (Dct Str Int))] : (List (Dct Str Int))) fun (found : (List (Dct Str Int))) =>
  (∀ (st : (List (Dct Str Int))) (name : Str), AtF (m_by_jobs_L1 behind benches turns) names found st name → (pipe ([] : (List (Dct Str Int))) fun (longer : (List (Dct Str Int))) =>
  (∀ (st_1 : (List (Dct Str Int))) (one : (Dct Str Int)), AtF (m_by_jobs_L2 behind benches turns name) st longer st_1 one → (-(2 ^ 62) ≤ turns ∧ turns < 2 ^ 62) ∧ (∀ (st_2 : (List (Dct Str Int))) (turn : Int), AtF (m_by_jobs_L3 behind benches name one) (rangeL 0 turns) st_1 st_2 turn → (∀ other ∈ (keysD one), (hasD one other = true) ∧ True) ∧ (pipe ((given (fun (other : Str) => (decide ((getD one other) = turn))) (fun (other : Str) => other) (keysD one)).length : Int) fun (wide : Int) =>
  (∀ other_1 ∈ (keysD one), (hasD behind other_1 = true) ∧ ((hasD (getD behind other_1) name) = true → (hasD one other_1 = true) ∧ True) ∧ True) ∧ (pipe (given (fun (other_1 : Str) => ((hasD (getD behind other_1) name) && (decide ((getD one other_1) ≥ turn)))) (fun (other_1 : Str) => other_1) (keysD one)) fun (late : (List Str)) =>
  (∀ other_2 ∈ (keysD one), (hasD behind name = true) ∧ ((hasD (getD behind name) other_2) = true → (hasD one other_2 = true) ∧ True) ∧ True) ∧ (pipe (given (fun (other_2 : Str) => ((hasD (getD behind name) other_2) && (decide ((getD one other_2) ≤ turn)))) (fun (other_2 : Str) => other_2) (keysD one)) fun (soon : (List Str)) =>
  okIf ((decide (wide < benches)) && ((decide (late = ([] : (List Str)))) && (decide (soon = ([] : (List Str)))))) ((pipe one fun (more : (Dct Str Int)) =>
  (more.l.length < big) ∧ (pipe (putD more name turn) fun (more_1 : (Dct Str Int)) =>
  (st_2.length < big) ∧ True))) (True))))) ∧
  True) ∧
  True)) ∧
  True) := hok
  exact es_cons (s_asg (ps_set (i := 4) sc_m_by_jobs.nd rfl (.inl rfl) peW) (NJ.frz (n_disp (α := (Dct Str Int)) (la_cons (NJ.frz (n_dnew (κ := Str) (α := Int))) (la_nil)))))
     (es_gen (k := (fun (m : Int) => Out.rt (.fz m))) (fun (found : (List (Dct Str Int))) => [.fz names, .fz behind, .fz benches, .fz turns, .fz found, .un, .un, .un, .un, .un, .un, .un, .un, .un]) fun found h =>
     have ok := ok_gen hok h; es_cons (s_forF (tst := PassesOwn.never) (esf := (fun (st : (List (Dct Str Int))) => [.fz names, .fz behind, .fz benches, .fz turns, .fz st, .un, .un, .un, .un, .un, .un, .un, .un, .un])) (est := fun st name => [.fz names, .fz behind, .fz benches, .fz turns, .fz st, .fz name, .un, .un, .un, .un, .un, .un, .un, .un]) (g := (m_by_jobs_L1 behind benches turns)) (y0 := found) rfl (i_list (FJ.x (f_var (pv 0)))) (fun st name => g_name (pg_name (i := 5) sc_m_by_jobs.nd rfl (.inr rfl)) (Nat.le_of_ble_eq_true rfl))
     (fun st name hat => have ok_1 := ok.1 st name hat; es_nxO (esf := (fun (st : (List (Dct Str Int))) => [.fz names, .fz behind, .fz benches, .fz turns, .fz st, .un, .un, .un, .un, .un, .un, .un, .un, .un])) (es_cons (s_asgN (ps_set (i := 6) sc_m_by_jobs.nd rfl (.inl rfl) peW) (n_disp (α := (Dct Str Int)) (la_nil)))
     (es_gen (k := (nxO (fun (st : (List (Dct Str Int))) => [.fz names, .fz behind, .fz benches, .fz turns, .fz st, .un, .un, .un, .un, .un, .un, .un, .un, .un]))) (fun (longer : (List (Dct Str Int))) => [.fz names, .fz behind, .fz benches, .fz turns, .fz st, .fz name, .ow longer, .un, .un, .un, .un, .un, .un, .un]) fun longer h_1 =>
     have ok_2 := ok_gen ok_1 h_1; es_cons (s_forF (tst := PassesOwn.never) (esf := (fun (st_1 : (List (Dct Str Int))) => [.fz names, .fz behind, .fz benches, .fz turns, .fz st, .fz name, .ow st_1, .un, .un, .un, .un, .un, .un, .un])) (est := fun st_1 one => [.fz names, .fz behind, .fz benches, .fz turns, .fz st, .fz name, .ow st_1, .fz one, .un, .un, .un, .un, .un, .un]) (g := (m_by_jobs_L2 behind benches turns name)) (y0 := longer) rfl (i_list (FJ.x (f_var (pv 4)))) (fun st_1 one => g_name (pg_name (i := 7) sc_m_by_jobs.nd rfl (.inr rfl)) (Nat.le_of_ble_eq_true rfl))
     (fun st_1 one hat_1 => have ok_3 := ok_2.1 st_1 one hat_1; es_nxO (esf := (fun (st_1 : (List (Dct Str Int))) => [.fz names, .fz behind, .fz benches, .fz turns, .fz st, .fz name, .ow st_1, .un, .un, .un, .un, .un, .un, .un])) (es_cons (s_forF (tst := PassesOwn.never) (esf := (fun (st_2 : (List (Dct Str Int))) => [.fz names, .fz behind, .fz benches, .fz turns, .fz st, .fz name, .ow st_2, .fz one, .un, .un, .un, .un, .un, .un])) (est := fun st_2 turn => [.fz names, .fz behind, .fz benches, .fz turns, .fz st, .fz name, .ow st_2, .fz one, .fz turn, .un, .un, .un, .un, .un]) (g := (m_by_jobs_L3 behind benches name one)) (y0 := st_1) rfl (i_range1 (by rfl) B.n_range (ok_3.1) (RJ.xs (r_var (pv 3)))) (fun st_2 turn => g_name (pg_name (i := 8) sc_m_by_jobs.nd rfl (.inr rfl)) (Nat.le_of_ble_eq_true rfl))
     (fun st_2 turn hat_2 => have ok_4 := ok_3.2.1 st_2 turn hat_2; es_nxO (esf := (fun (st_2 : (List (Dct Str Int))) => [.fz names, .fz behind, .fz benches, .fz turns, .fz st, .fz name, .ow st_2, .fz one, .un, .un, .un, .un, .un, .un])) (es_cons (s_asg (ps_set (i := 9) sc_m_by_jobs.nd rfl (.inl rfl) peW) (RJ.sc (r_len (by rfl) B.n_len (NJ.rd ((rd_lcK (vs := [13]) (est := fun other => [.fz names, .fz behind, .fz benches, .fz turns, .fz st, .fz name, .ow st_2, .fz one, .fz turn, .un, .un, .un, .un, .fz other]) (p := fun (other : Str) => (decide ((getD one other) = turn))) (g := fun (other : Str) => other) (k_keys (p_var (pv 7))) rfl (fun _ _ _ _ _ other => ct_name (pg_name (i := 13) sc_m_by_jobs.nd rfl (Or.inl rfl)) (by decide) (Nat.le_of_ble_eq_true rfl)) (fun _ _ _ _ _ other hx => if_one (t_eq (FJ.rd (f_dget (by exact hr.units) (((ok_4.1) other hx).1) (f_var (pv 7)) (r_var (pv 13)))) (r_var (pv 8)))) (fun _ _ _ _ _ other hx hp => RJ.sc (r_var (pv 13)))).nj (pe_or (pe_lcW (own := [("_law_other", 13)]) rfl sc_m_by_jobs.nd (blkOk_by (N := N_m_by_jobs) (sc := defScope st_m_by_jobs) (by decide +kernel)))))))))
     (es_gen (k := (nxO (fun (st_2 : (List (Dct Str Int))) => [.fz names, .fz behind, .fz benches, .fz turns, .fz st, .fz name, .ow st_2, .fz one, .un, .un, .un, .un, .un, .un]))) (fun (wide : Int) => [.fz names, .fz behind, .fz benches, .fz turns, .fz st, .fz name, .ow st_2, .fz one, .fz turn, .fz wide, .un, .un, .un, .un]) fun wide h_2 =>
     have ok_5 := ok_gen ok_4.2 h_2; es_cons (s_asgLcKF (vs := [13]) (est := fun other_1 => [.fz names, .fz behind, .fz benches, .fz turns, .fz st, .fz name, .ow st_2, .fz one, .fz turn, .fz wide, .un, .un, .un, .fz other_1]) (p := fun (other_1 : Str) => ((hasD (getD behind other_1) name) && (decide ((getD one other_1) ≥ turn)))) (g := fun (other_1 : Str) => other_1) (ps_lcW (i := 10) (own := [("_law_other", 13)]) rfl sc_m_by_jobs.nd rfl rfl (sw_true rfl rfl rfl (by decide +kernel)) (blkOk_by (N := N_m_by_jobs) (sc := defScope st_m_by_jobs) (by decide +kernel))) (k_keys (p_var (pv 7))) (fun _ _ _ _ _ other_1 => ct_name (pg_name (i := 13) sc_m_by_jobs.nd rfl (Or.inl rfl)) (by decide) (Nat.le_of_ble_eq_true rfl)) (fun _ _ _ _ _ other_1 hx_1 => if_one (w_t (w_and (t_din (by exact hr.units) (r_var (pv 5)) (FJ.rd (f_dget (by exact hr.units) (((ok_5.1) other_1 hx_1).1) (f_var (pv 1)) (r_var (pv 13))))) (fun hb => w_and1 (t_ge (FJ.rd (f_dget (by exact hr.units) (((((ok_5.1) other_1 hx_1).2.1) hb).1) (f_var (pv 7)) (r_var (pv 13)))) (r_var (pv 8))))))) (fun _ _ _ _ _ other_1 hx_1 hp_1 => RJ.sc (r_var (pv 13))))
     (es_gen (k := (nxO (fun (st_2 : (List (Dct Str Int))) => [.fz names, .fz behind, .fz benches, .fz turns, .fz st, .fz name, .ow st_2, .fz one, .un, .un, .un, .un, .un, .un]))) (fun (late : (List Str)) => [.fz names, .fz behind, .fz benches, .fz turns, .fz st, .fz name, .ow st_2, .fz one, .fz turn, .fz wide, .fz late, .un, .un, .un]) fun late h_3 =>
     have ok_6 := ok_gen ok_5.2 h_3; es_cons (s_asgLcKF (vs := [13]) (est := fun other_2 => [.fz names, .fz behind, .fz benches, .fz turns, .fz st, .fz name, .ow st_2, .fz one, .fz turn, .fz wide, .fz late, .un, .un, .fz other_2]) (p := fun (other_2 : Str) => ((hasD (getD behind name) other_2) && (decide ((getD one other_2) ≤ turn)))) (g := fun (other_2 : Str) => other_2) (ps_lcW (i := 11) (own := [("_law_other", 13)]) rfl sc_m_by_jobs.nd rfl rfl (sw_true rfl rfl rfl (by decide +kernel)) (blkOk_by (N := N_m_by_jobs) (sc := defScope st_m_by_jobs) (by decide +kernel))) (k_keys (p_var (pv 7))) (fun _ _ _ _ _ other_2 => ct_name (pg_name (i := 13) sc_m_by_jobs.nd rfl (Or.inl rfl)) (by decide) (Nat.le_of_ble_eq_true rfl)) (fun _ _ _ _ _ other_2 hx_2 => if_one (w_t (w_and (t_din (by exact hr.units) (r_var (pv 13)) (FJ.rd (f_dget (by exact hr.units) (((ok_6.1) other_2 hx_2).1) (f_var (pv 1)) (r_var (pv 5))))) (fun hb_1 => w_and1 (t_le (FJ.rd (f_dget (by exact hr.units) (((((ok_6.1) other_2 hx_2).2.1) hb_1).1) (f_var (pv 7)) (r_var (pv 13)))) (r_var (pv 8))))))) (fun _ _ _ _ _ other_2 hx_2 hp_2 => RJ.sc (r_var (pv 13))))
     (es_gen (k := (nxO (fun (st_2 : (List (Dct Str Int))) => [.fz names, .fz behind, .fz benches, .fz turns, .fz st, .fz name, .ow st_2, .fz one, .un, .un, .un, .un, .un, .un]))) (fun (soon : (List Str)) => [.fz names, .fz behind, .fz benches, .fz turns, .fz st, .fz name, .ow st_2, .fz one, .fz turn, .fz wide, .fz late, .fz soon, .un, .un]) fun soon h_4 =>
     have ok_7 := ok_gen ok_6.2 h_4; es_one (s_ife (k := (nxO (fun (st_2 : (List (Dct Str Int))) => [.fz names, .fz behind, .fz benches, .fz turns, .fz st, .fz name, .ow st_2, .fz one, .un, .un, .un, .un, .un, .un]))) (TJ.x (w_t (w_and (t_lt (r_var (pv 9)) (r_var (pv 2))) (fun hb_2 => w_and (t_eqD (by exact hr.units) (FJ.rd (f_var (pv 10))) (NJ.rd (n_disp (α := Str) (la_nil)))) (fun hb_3 => w_and1 (t_eqD (by exact hr.units) (FJ.rd (f_var (pv 11))) (NJ.rd (n_disp (α := Str) (la_nil))))))))) (fun hb_4 => have ok_8 := ok_7.1 hb_4; es_cons (s_asgN (ps_set (i := 12) sc_m_by_jobs.nd rfl (.inl rfl) peW) (n_dictof (by rfl) B.n_dict (f_var (pv 7))))
     (es_gen (k := (nxO (fun (st_2 : (List (Dct Str Int))) => [.fz names, .fz behind, .fz benches, .fz turns, .fz st, .fz name, .ow st_2, .fz one, .un, .un, .un, .un, .un, .un]))) (fun (more : (Dct Str Int)) => [.fz names, .fz behind, .fz benches, .fz turns, .fz st, .fz name, .ow st_2, .fz one, .fz turn, .fz wide, .fz late, .fz soon, .ow more, .un]) fun more h_5 =>
     have ok_10 := ok_gen ok_8 h_5; es_cons (s_dput (by exact hr.units) (ps_dput (un1 (by exact hr.units)) (pv 12) peW peW (by rfl)) (RJ.xs (r_var (pv 8))) (RJ.xs (r_var (pv 5))) rfl .ow (ok_10.1) (h0 := ⟨_, _, rfl, .ow⟩))
     (es_gen (k := (nxO (fun (st_2 : (List (Dct Str Int))) => [.fz names, .fz behind, .fz benches, .fz turns, .fz st, .fz name, .ow st_2, .fz one, .un, .un, .un, .un, .un, .un]))) (fun (more_1 : (Dct Str Int)) => [.fz names, .fz behind, .fz benches, .fz turns, .fz st, .fz name, .ow st_2, .fz one, .fz turn, .fz wide, .fz late, .fz soon, .ow more_1, .un]) fun more_1 h_6 =>
     have ok_11 := ok_gen ok_10.2 h_6; es_cons (s_app (α := (Dct Str Int)) (ps_expr (pe_bm PySem.F.plainAttrs_list PySem.F.slot_list_append PySem.F.type_list_append mt_append (pv 6) (pa_cons peW pa_nil))) ((x_frz (pv 12))) ⟨_, _, rfl, .ow⟩ rfl .ow (ok_11.1))
     (es_gen (k := (nxO (fun (st_2 : (List (Dct Str Int))) => [.fz names, .fz behind, .fz benches, .fz turns, .fz st, .fz name, .ow st_2, .fz one, .un, .un, .un, .un, .un, .un]))) (fun (longer_1 : (List (Dct Str Int))) => [.fz names, .fz behind, .fz benches, .fz turns, .fz st, .fz name, .ow longer_1, .fz one, .fz turn, .fz wide, .fz late, .fz soon, .fz more_1, .un]) fun longer_1 h_7 =>
     es_nilO ⟨.inr rfl, .inr rfl, .inr rfl, .inr rfl, .inr rfl, .inr rfl, .inr rfl, .inr rfl, .inl rfl, .inl rfl, .inl rfl, .inl rfl, .inl rfl, .inl rfl, trivial⟩))))
     (fun hb_4 => es_nilO ⟨.inr rfl, .inr rfl, .inr rfl, .inr rfl, .inr rfl, .inr rfl, .inr rfl, .inr rfl, .inl rfl, .inl rfl, .inl rfl, .inl rfl, .inl rfl, .inl rfl, trivial⟩))))))))
     (es_gen (k := (nxO (fun (st_1 : (List (Dct Str Int))) => [.fz names, .fz behind, .fz benches, .fz turns, .fz st, .fz name, .ow st_1, .un, .un, .un, .un, .un, .un, .un]))) (fun (st_2 : (List (Dct Str Int))) => [.fz names, .fz behind, .fz benches, .fz turns, .fz st, .fz name, .ow st_2, .fz one, .un, .un, .un, .un, .un, .un]) fun st_2 h_8 =>
     es_nilO ⟨.inr rfl, .inr rfl, .inr rfl, .inr rfl, .inr rfl, .inr rfl, .inr rfl, .inl rfl, .inl rfl, .inl rfl, .inl rfl, .inl rfl, .inl rfl, .inl rfl, trivial⟩))))
     (es_gen (k := (nxO (fun (st : (List (Dct Str Int))) => [.fz names, .fz behind, .fz benches, .fz turns, .fz st, .un, .un, .un, .un, .un, .un, .un, .un, .un]))) (fun (st_1 : (List (Dct Str Int))) => [.fz names, .fz behind, .fz benches, .fz turns, .fz st, .fz name, .ow st_1, .un, .un, .un, .un, .un, .un, .un]) fun st_1 h_9 =>
     es_cons (s_asgX (ps_set (i := 4) sc_m_by_jobs.nd rfl (.inl rfl) peW) ((x_frz (pv 6))))
     (es_gen (k := (nxO (fun (st : (List (Dct Str Int))) => [.fz names, .fz behind, .fz benches, .fz turns, .fz st, .un, .un, .un, .un, .un, .un, .un, .un, .un]))) (fun (found_1 : (List (Dct Str Int))) => [.fz names, .fz behind, .fz benches, .fz turns, .fz found_1, .fz name, .fz st_1, .un, .un, .un, .un, .un, .un, .un]) fun found_1 h_10 =>
     es_nilO ⟨.inr rfl, .inr rfl, .inr rfl, .inr rfl, .inr rfl, .inl rfl, .inl rfl, .inl rfl, .inl rfl, .inl rfl, .inl rfl, .inl rfl, .inl rfl, .inl rfl, trivial⟩))))))
     (es_gen (k := (fun (m : Int) => Out.rt (.fz m))) (fun (st : (List (Dct Str Int))) => [.fz names, .fz behind, .fz benches, .fz turns, .fz st, .un, .un, .un, .un, .un, .un, .un, .un, .un]) fun st h_11 =>
     es_one (s_ret (ps_ret peW) (RJ.sc (r_len (by rfl) B.n_len (FJ.rd (f_var (pv 4))))))))
/-! is_whole -/
def p_is_whole (thing : Int) : Bool :=
  (true && (!false))
abbrev N_p_is_whole : List Str := (["thing"] : List Str)
abbrev st_p_is_whole : Stmt := top 11
theorem sc_p_is_whole : FnScope N_p_is_whole ["thing"] (defScope st_p_is_whole) := ⟨rfl, rfl, rfl, by decide +kernel, rfl, by decide +kernel, by decide +kernel⟩
def G_p_is_whole (as : List En) (r : En) : Prop := ∃ (thing : Int), as = [.fz thing] ∧ r = .fz (p_is_whole thing)
set_option maxRecDepth 100000 in
theorem w_p_is_whole (B : Bn mg) (J : JCls K) 
    {f : Addr} {fd : FuncData} (F : FnP K "is_whole" st_p_is_whole f fd) : FnOk P w K mg base CX0 1 f fd ["thing"] (spP K G_p_is_whole) := by
  refine fn_pure F sc_p_is_whole (by decide) (fun as r h => by obtain ⟨thing, rfl, _⟩ := h; rfl) (fun cdv A outer s H E hr as r h => ?_)
  obtain ⟨thing, rfl, rfl⟩ := h
  refine ⟨(fun (m : Bool) => Out.rt (.fz m)) (p_is_whole thing), rfl, ?_⟩
  show ES _ [.fz thing] _ ((fun (m : Bool) => Out.rt (.fz m)) (true && (!false)))
  exact es_one (s_ret (ps_ret peW) (RJ.sc (r_and (r_isiInt (by rfl) B.n_isinstance (by rfl) B.n_int (r_var (pv 0))) (fun hb => r_and1 (r_not (r_isiBoolI (by rfl) B.n_isinstance (by rfl) B.n_bool (r_var (pv 0))))))))
/-! want_benches -/
def p_want_benches (benches : Int) : Unit :=
  ()
def ok_p_want_benches (benches : Int) : Prop :=
  (((!(p_is_whole benches)) || (decide (benches < (1 : Int)))) = false) ∧ True
abbrev N_p_want_benches : List Str := (["benches"] : List Str)
abbrev st_p_want_benches : Stmt := top 12
theorem sc_p_want_benches : FnScope N_p_want_benches ["benches"] (defScope st_p_want_benches) := ⟨rfl, rfl, rfl, by decide +kernel, rfl, by decide +kernel, by decide +kernel⟩
def G_p_want_benches (as : List En) (r : En) : Prop := ∃ (benches : Int), ok_p_want_benches benches ∧ as = [.fz benches] ∧ r = .fz (p_want_benches benches)
set_option maxRecDepth 100000 in
theorem w_p_want_benches (B : Bn mg) (J : JCls K) (D_p_is_whole : Df P w K mg base 1 "is_whole" ["thing"] (spP K G_p_is_whole))
    {f : Addr} {fd : FuncData} (F : FnP K "want_benches" st_p_want_benches f fd) : FnOk P w K mg base CX0 2 f fd ["benches"] (spP K G_p_want_benches) := by
  refine fn_pure F sc_p_want_benches (by decide) (fun as r h => by obtain ⟨benches, hok, rfl, _⟩ := h; rfl) (fun cdv A outer s H E hr as r h => ?_)
  obtain ⟨benches, hok, rfl, rfl⟩ := h
  refine ⟨(fun (_ : Unit) => Out.en) (p_want_benches benches), rfl, ?_⟩
  show ES _ [.fz benches] _ ((fun (_ : Unit) => Out.en) ())
  have hok : (((!(p_is_whole benches)) || (decide (benches < (1 : Int)))) = false) ∧ True := hok
  exact es_ifx (hok.1) (TJ.x (w_t (w_or (t_not (t_val (FJ.rd (fD D_p_is_whole (hr.mono (by decide)) (a_cons (RJ.sc (r_var (pv 0))) (a_nil)) (⟨_, rfl, rfl⟩))))) (fun hb => w_or1 (t_lt (r_var (pv 0)) (r_int))))))
     (es_end)
/-! want_turns -/
def p_want_turns (turns : Int) : Unit :=
  ()
def ok_p_want_turns (turns : Int) : Prop :=
  (((!true) || (false || ((decide (turns < (0 : Int))) || (decide (turns > (40 : Int)))))) = false) ∧ True
abbrev N_p_want_turns : List Str := (["turns"] : List Str)
abbrev st_p_want_turns : Stmt := top 17
theorem sc_p_want_turns : FnScope N_p_want_turns ["turns"] (defScope st_p_want_turns) := ⟨rfl, rfl, rfl, by decide +kernel, rfl, by decide +kernel, by decide +kernel⟩
def G_p_want_turns (as : List En) (r : En) : Prop := ∃ (turns : Int), ok_p_want_turns turns ∧ as = [.fz turns] ∧ r = .fz (p_want_turns turns)
set_option maxRecDepth 100000 in
theorem w_p_want_turns (B : Bn mg) (J : JCls K) 
    {f : Addr} {fd : FuncData} (F : FnP K "want_turns" st_p_want_turns f fd) : FnOk P w K mg base CX0 1 f fd ["turns"] (spP K G_p_want_turns) := by
  refine fn_pure F sc_p_want_turns (by decide) (fun as r h => by obtain ⟨turns, hok, rfl, _⟩ := h; rfl) (fun cdv A outer s H E hr as r h => ?_)
  obtain ⟨turns, hok, rfl, rfl⟩ := h
  refine ⟨(fun (_ : Unit) => Out.en) (p_want_turns turns), rfl, ?_⟩
  show ES _ [.fz turns] _ ((fun (_ : Unit) => Out.en) ())
  have hok : (((!true) || (false || ((decide (turns < (0 : Int))) || (decide (turns > (40 : Int)))))) = false) ∧ True := hok
  exact es_ifx (hok.1) (TJ.x (w_t (w_or (t_not (t_val (r_isiInt (by rfl) B.n_isinstance (by rfl) B.n_int (r_var (pv 0))))) (fun hb => w_or (t_val (r_isiBoolI (by rfl) B.n_isinstance (by rfl) B.n_bool (r_var (pv 0)))) (fun hb_1 => w_or (t_lt (r_var (pv 0)) (r_int)) (fun hb_2 => w_or1 (t_gt (r_var (pv 0)) (r_gint B.g_MOST_TURNS))))))))
     (es_end)
/-! Jobs.names -/
def p_Jobs_names (self : JobsV) : (List Str) :=
  self.row
abbrev N_p_Jobs_names : List Str := (["self"] : List Str)
abbrev st_p_Jobs_names : Stmt := clsSt (top 30) 2
theorem sc_p_Jobs_names : FnScope N_p_Jobs_names ["self"] (defScope st_p_Jobs_names) := ⟨rfl, rfl, rfl, by decide +kernel, rfl, by decide +kernel, by decide +kernel⟩
def G_p_Jobs_names (as : List En) (r : En) : Prop := ∃ (self : JobsV), as = [.fz self] ∧ r = .ow (p_Jobs_names self)
set_option maxRecDepth 100000 in
theorem w_p_Jobs_names (B : Bn mg) (J : JCls K) 
    {f : Addr} {fd : FuncData} (F : FnM K "names" "Jobs.names" st_p_Jobs_names f fd) : FnOk P w K mg base CX0 1 f fd ["self"] (spP K G_p_Jobs_names) := by
  refine fn_pure F sc_p_Jobs_names (by decide) (fun as r h => by obtain ⟨self, rfl, _⟩ := h; rfl) (fun cdv A outer s H E hr as r h => ?_)
  obtain ⟨self, rfl, rfl⟩ := h
  refine ⟨(fun (m : (List Str)) => Out.rt (.ow m)) (p_Jobs_names self), rfl, ?_⟩
  show ES _ [.fz self] _ ((fun (m : (List Str)) => Out.rt (.ow m)) self.row)
  exact es_one (s_retN (ps_ret peW) (n_listof (by rfl) B.n_list ((f_jrow J (f_var (pv 0))).lr)))
/-! want_few -/
def p_want_few (jobs : JobsV) : Unit :=
  ()
def ok_p_want_few (jobs : JobsV) : Prop :=
  ((decide (((p_Jobs_names jobs).length : Int) > (7 : Int))) = false) ∧ True
abbrev N_p_want_few : List Str := (["jobs"] : List Str)
abbrev st_p_want_few : Stmt := top 16
theorem sc_p_want_few : FnScope N_p_want_few ["jobs"] (defScope st_p_want_few) := ⟨rfl, rfl, rfl, by decide +kernel, rfl, by decide +kernel, by decide +kernel⟩
def G_p_want_few (as : List En) (r : En) : Prop := ∃ (jobs : JobsV), ok_p_want_few jobs ∧ as = [.fz jobs] ∧ r = .fz (p_want_few jobs)
set_option maxRecDepth 100000 in
theorem w_p_want_few (B : Bn mg) (J : JCls K) (D_p_Jobs_names : Dm P w K mg base 1 "names" ["self"] (spP K G_p_Jobs_names))
    {f : Addr} {fd : FuncData} (F : FnP K "want_few" st_p_want_few f fd) : FnOk P w K mg base CX0 2 f fd ["jobs"] (spP K G_p_want_few) := by
  refine fn_pure F sc_p_want_few (by decide) (fun as r h => by obtain ⟨jobs, hok, rfl, _⟩ := h; rfl) (fun cdv A outer s H E hr as r h => ?_)
  obtain ⟨jobs, hok, rfl, rfl⟩ := h
  refine ⟨(fun (_ : Unit) => Out.en) (p_want_few jobs), rfl, ?_⟩
  show ES _ [.fz jobs] _ ((fun (_ : Unit) => Out.en) ())
  have hok : ((decide (((p_Jobs_names jobs).length : Int) > (7 : Int))) = false) ∧ True := hok
  exact es_ifx (hok.1) (TJ.x (t_gt (r_len (by rfl) B.n_len (NJ.rd (nM0 D_p_Jobs_names J (hr.mono (by decide)) (f_var (pv 0)) (⟨_, rfl, rfl⟩)))) (r_gint B.g_MOST_JOBS_few)))
     (es_end)
/-! Jobs.want -/
def p_Jobs_want (self : JobsV) (name : Str) : Unit :=
  ()
def ok_p_Jobs_want (self : JobsV) (name : Str) : Prop :=
  (((!true) || (!(decide (name ∈ self.row)))) = false) ∧ True
abbrev N_p_Jobs_want : List Str := (["self", "name"] : List Str)
abbrev st_p_Jobs_want : Stmt := clsSt (top 30) 1
theorem sc_p_Jobs_want : FnScope N_p_Jobs_want ["self", "name"] (defScope st_p_Jobs_want) := ⟨rfl, rfl, rfl, by decide +kernel, rfl, by decide +kernel, by decide +kernel⟩
def G_p_Jobs_want (as : List En) (r : En) : Prop := ∃ (self : JobsV) (name : Str), ok_p_Jobs_want self name ∧ as = [.fz self, .fz name] ∧ r = .fz (p_Jobs_want self name)
set_option maxRecDepth 100000 in
theorem w_p_Jobs_want (B : Bn mg) (J : JCls K) 
    {f : Addr} {fd : FuncData} (F : FnM K "want" "Jobs.want" st_p_Jobs_want f fd) : FnOk P w K mg base CX0 1 f fd ["self", "name"] (spP K G_p_Jobs_want) := by
  refine fn_pure F sc_p_Jobs_want (by decide) (fun as r h => by obtain ⟨self, name, hok, rfl, _⟩ := h; rfl) (fun cdv A outer s H E hr as r h => ?_)
  obtain ⟨self, name, hok, rfl, rfl⟩ := h
  refine ⟨(fun (_ : Unit) => Out.en) (p_Jobs_want self name), rfl, ?_⟩
  show ES _ [.fz self, .fz name] _ ((fun (_ : Unit) => Out.en) ())
  have hok : (((!true) || (!(decide (name ∈ self.row)))) = false) ∧ True := hok
  exact es_ifx (hok.1) (TJ.x (w_t (w_or (t_not (t_val (r_isiStr (by rfl) B.n_isinstance (by rfl) B.n_str (r_var (pv 1))))) (fun hb => w_or1 (t_nin (r_var (pv 1)) (FJ.rd (f_jrow J (f_var (pv 0)))))))))
     (es_end)
/-! Jobs.ahead -/
def p_Jobs_ahead (self : JobsV) (name : Str) : (List Str) :=
  (given (fun (other : Str) => (decide (name ∈ (getD self.later other)))) (fun (other : Str) => other) self.row)
def ok_p_Jobs_ahead (self : JobsV) (name : Str) : Prop :=
  (ok_p_Jobs_want self name) ∧ (∀ other ∈ self.row, (hasD self.later other = true) ∧ True) ∧ True
abbrev N_p_Jobs_ahead : List Str := (["self", "name", "other"] : List Str)
abbrev st_p_Jobs_ahead : Stmt := clsSt (top 30) 6
theorem sc_p_Jobs_ahead : FnScope N_p_Jobs_ahead ["self", "name"] (defScope st_p_Jobs_ahead) := ⟨rfl, rfl, rfl, by decide +kernel, rfl, by decide +kernel, by decide +kernel⟩
def G_p_Jobs_ahead (as : List En) (r : En) : Prop := ∃ (self : JobsV) (name : Str), ok_p_Jobs_ahead self name ∧ as = [.fz self, .fz name] ∧ r = .ow (p_Jobs_ahead self name)
set_option maxRecDepth 100000 in
theorem w_p_Jobs_ahead (B : Bn mg) (J : JCls K) (D_p_Jobs_want : Dm P w K mg base 1 "want" ["self", "name"] (spP K G_p_Jobs_want))
    {f : Addr} {fd : FuncData} (F : FnM K "ahead" "Jobs.ahead" st_p_Jobs_ahead f fd) : FnOk P w K mg base CX0 2 f fd ["self", "name"] (spP K G_p_Jobs_ahead) := by
  refine fn_pure F sc_p_Jobs_ahead (by decide) (fun as r h => by obtain ⟨self, name, hok, rfl, _⟩ := h; rfl) (fun cdv A outer s H E hr as r h => ?_)
  obtain ⟨self, name, hok, rfl, rfl⟩ := h
  refine ⟨(fun (m : (List Str)) => Out.rt (.ow m)) (p_Jobs_ahead self name), rfl, ?_⟩
  show ES _ [.fz self, .fz name, .un] _ ((fun (m : (List Str)) => Out.rt (.ow m)) (given (fun (other : Str) => (decide (name ∈ (getD self.later other)))) (fun (other : Str) => other) self.row))
  have hok : (ok_p_Jobs_want self name) ∧ (∀ other ∈ self.row, (hasD self.later other = true) ∧ True) ∧ True := hok
  exact es_cons (s_drop (ps_expr peW) (FJ.x (fM D_p_Jobs_want J (hr.mono (by decide)) (f_var (pv 0)) (a_cons (RJ.sc (r_var (pv 1))) (a_nil)) (⟨_, _, (hok.1), rfl, rfl⟩))))
     (es_one (s_retN (ps_ret peW) ((rd_lc (vs := [2]) (est := fun other => [.fz self, .fz name, .fz other]) (p := fun (other : Str) => (decide (name ∈ (getD self.later other)))) (g := fun (other : Str) => other) (h_list ((f_jrow J (f_var (pv 0))).lr)) rfl (fun _ _ _ _ _ other => ct_name (pg_name (i := 2) sc_p_Jobs_ahead.nd rfl (Or.inl rfl)) (by decide) (Nat.le_of_ble_eq_true rfl)) (fun _ _ _ _ _ other hx => if_one (t_in (r_var (pv 1)) (FJ.rd (f_dget (by exact hr.units) (((hok.2.1) other hx).1) (f_jlater J (f_var (pv 0))) (r_var (pv 2)))))) (fun _ _ _ _ _ other hx hp => RJ.sc (r_var (pv 2)))).nj (pe_lcW (own := [("other", 2)]) rfl sc_p_Jobs_ahead.nd (blkOk_by (N := N_p_Jobs_ahead) (sc := defScope st_p_Jobs_ahead) (by decide +kernel))))))
/-! rows_ahead -/
def p_rows_ahead_L1 (jobs : JobsV) (st : (Dct Str (List Str))) (name : Str) : (Dct Str (List Str)) :=
  (pipe (putD st name (p_Jobs_ahead jobs name)) fun (found_1 : (Dct Str (List Str))) =>
  found_1)
def p_rows_ahead (jobs : JobsV) : (Dct Str (List Str)) :=
  (pipe (Dct.mk [] : (Dct Str (List Str))) fun (found : (Dct Str (List Str))) =>
  (pipe (List.foldl (p_rows_ahead_L1 jobs) found (p_Jobs_names jobs)) fun (st : (Dct Str (List Str))) =>
  st))
def ok_p_rows_ahead (jobs : JobsV) : Prop :=
  (pipe (Dct.mk [] : (Dct Str (List Str))) fun (found : (Dct Str (List Str))) =>
  (∀ (st : (Dct Str (List Str))) (name : Str), AtF (p_rows_ahead_L1 jobs) (p_Jobs_names jobs) found st name → (ok_p_Jobs_ahead jobs name) ∧ (st.l.length < big) ∧ True) ∧
  True)
abbrev N_p_rows_ahead : List Str := (["jobs", "found", "name"] : List Str)
abbrev st_p_rows_ahead : Stmt := top 18
theorem sc_p_rows_ahead : FnScope N_p_rows_ahead ["jobs"] (defScope st_p_rows_ahead) := ⟨rfl, rfl, rfl, by decide +kernel, rfl, by decide +kernel, by decide +kernel⟩
def G_p_rows_ahead (as : List En) (r : En) : Prop := ∃ (jobs : JobsV), ok_p_rows_ahead jobs ∧ as = [.fz jobs] ∧ r = .ow (p_rows_ahead jobs)
set_option maxRecDepth 100000 in
theorem w_p_rows_ahead (B : Bn mg) (J : JCls K) (D_p_Jobs_names : Dm P w K mg base 1 "names" ["self"] (spP K G_p_Jobs_names)) (D_p_Jobs_ahead : Dm P w K mg base 2 "ahead" ["self", "name"] (spP K G_p_Jobs_ahead))
    {f : Addr} {fd : FuncData} (F : FnP K "rows_ahead" st_p_rows_ahead f fd) : FnOk P w K mg base CX0 3 f fd ["jobs"] (spP K G_p_rows_ahead) := by
  refine fn_pure F sc_p_rows_ahead (by decide) (fun as r h => by obtain ⟨jobs, hok, rfl, _⟩ := h; rfl) (fun cdv A outer s H E hr as r h => ?_)
  obtain ⟨jobs, hok, rfl, rfl⟩ := h
  refine ⟨(fun (m : (Dct Str (List Str))) => Out.rt (.ow m)) (p_rows_ahead jobs), rfl, ?_⟩
  show ES _ [.fz jobs, .un, .un] _ ((fun (m : (Dct Str (List Str))) => Out.rt (.ow m)) (pipe (Dct.mk [] : (Dct Str (List Str))) fun (found : (Dct Str (List Str))) =>
  (pipe (List.foldl (p_rows_ahead_L1 jobs) found (p_Jobs_names jobs)) fun (st : (Dct Str (List Str))) =>
  st)))
  have hok : (pipe (Dct.mk [] : (Dct Str (List Str))) fun (found : (Dct Str (List Str))) =>
  (∀ (st : (Dct Str (List Str))) (name : Str), AtF (p_rows_ahead_L1 jobs) (p_Jobs_names jobs) found st name → (ok_p_Jobs_ahead jobs name) ∧ (st.l.length < big) ∧ True) ∧
  True) := hok
  exact es_cons (s_asgN (ps_set (i := 1) sc_p_rows_ahead.nd rfl (.inl rfl) peW) (n_dnew (κ := Str) (α := (List Str))))
     (es_gen (k := (fun (m : (Dct Str (List Str))) => Out.rt (.ow m))) (fun (found : (Dct Str (List Str))) => [.fz jobs, .ow found, .un]) fun found h =>
     have ok := ok_gen hok h; es_cons (s_forF (tst := PassesOwn.never) (esf := (fun (st : (Dct Str (List Str))) => [.fz jobs, .ow st, .un])) (est := fun st name => [.fz jobs, .ow st, .fz name]) (g := (p_rows_ahead_L1 jobs)) (y0 := found) rfl (i_list (FJ.x (NJ.frz (nM0 D_p_Jobs_names J (hr.mono (by decide)) (f_var (pv 0)) (⟨_, rfl, rfl⟩))))) (fun st name => g_name (pg_name (i := 2) sc_p_rows_ahead.nd rfl (.inl rfl)) (Nat.le_of_ble_eq_true rfl))
     (fun st name hat => have ok_1 := ok.1 st name hat; es_nxO (esf := (fun (st : (Dct Str (List Str))) => [.fz jobs, .ow st, .un])) (es_cons (s_dput (by exact hr.units) (ps_dput (un1 (by exact hr.units)) (pv 1) peW peW (by rfl)) (FJ.x (NJ.frz (nM D_p_Jobs_ahead J (hr.mono (by decide)) (f_var (pv 0)) (a_cons (RJ.sc (r_var (pv 2))) (a_nil)) (⟨_, _, (ok_1.1), rfl, rfl⟩)))) (RJ.xs (r_var (pv 2))) rfl .ow (ok_1.2.1) (h0 := ⟨_, _, rfl, .ow⟩))
     (es_gen (k := (nxO (fun (st : (Dct Str (List Str))) => [.fz jobs, .ow st, .un]))) (fun (found_1 : (Dct Str (List Str))) => [.fz jobs, .ow found_1, .fz name]) fun found_1 h_1 =>
     es_nilO ⟨.inr rfl, .inr rfl, .inl rfl, trivial⟩))))
     (es_gen (k := (fun (m : (Dct Str (List Str))) => Out.rt (.ow m))) (fun (st : (Dct Str (List Str))) => [.fz jobs, .ow st, .un]) fun st h_2 =>
     es_one (s_retO (ps_ret peW) (pv 1))))
/-! turns_behind -/
def p_turns_behind_L1 (done : (Tl Str)) (benches : Int) (st : (List (List Str))) (x : (Str × (List Str))) : (List (List Str)) :=
  (pipe x.1 fun (name : Str) =>
  (pipe x.2 fun (others : (List Str)) =>
  (bif ((!(decide (name ∈ done.l))) && ((given (fun (other : Str) => true) (fun (other : Str) => (decide (other ∈ done.l))) others).all id)) then (pipe (st ++ (given (fun (row : (List Str)) => (decide ((row.length : Int) < benches))) (fun (row : (List Str)) => (row ++ ([name] : (List Str)))) st)) fun (rows_1 : (List (List Str))) =>
  rows_1) else
  st)))
def p_turns_behind (before : (Dct Str (List Str))) (done : (Tl Str)) (benches : Int) : (List ((List Str) × (Tl Str))) :=
  (pipe ([([] : (List Str))] : (List (List Str))) fun (rows : (List (List Str))) =>
  (pipe (List.foldl (p_turns_behind_L1 done benches) rows before.l) fun (st : (List (List Str))) =>
  (given (fun (row_1 : (List Str)) => true) (fun (row_1 : (List Str)) => (row_1, (Tl.mk (given (fun (name_1 : Str) => ((decide (name_1 ∈ done.l)) || (decide (name_1 ∈ row_1)))) (fun (name_1 : Str) => name_1) (keysD before))))) st)))
def ok_p_turns_behind (before : (Dct Str (List Str))) (done : (Tl Str)) (benches : Int) : Prop :=
  (pipe ([([] : (List Str))] : (List (List Str))) fun (rows : (List (List Str))) =>
  (∀ (st : (List (List Str))) (x : (Str × (List Str))), AtF (p_turns_behind_L1 done benches) before.l rows st x → (pipe x.1 fun (name : Str) =>
  (pipe x.2 fun (others : (List Str)) =>
  okIf ((!(decide (name ∈ done.l))) && ((given (fun (other : Str) => true) (fun (other : Str) => (decide (other ∈ done.l))) others).all id)) ((∀ row ∈ st, (decide ((row.length : Int) < benches)) = true → ((row ++ ([name] : (List Str))).length ≤ big) ∧ True) ∧ ((st ++ (given (fun (row : (List Str)) => (decide ((row.length : Int) < benches))) (fun (row : (List Str)) => (row ++ ([name] : (List Str)))) st)).length ≤ big) ∧ True) (True)))) ∧
  True)
abbrev N_p_turns_behind : List Str := (["before", "done", "benches", "rows", "name", "others", "row", "other"] : List Str)
abbrev st_p_turns_behind : Stmt := top 19
theorem sc_p_turns_behind : FnScope N_p_turns_behind ["before", "done", "benches"] (defScope st_p_turns_behind) := ⟨rfl, rfl, rfl, by decide +kernel, rfl, by decide +kernel, by decide +kernel⟩
def G_p_turns_behind (as : List En) (r : En) : Prop := ∃ (before : (Dct Str (List Str))) (done : (Tl Str)) (benches : Int), ok_p_turns_behind before done benches ∧ as = [.fz before, .fz done, .fz benches] ∧ r = .ow (p_turns_behind before done benches)
set_option maxRecDepth 100000 in
theorem w_p_turns_behind (B : Bn mg) (J : JCls K) 
    {f : Addr} {fd : FuncData} (F : FnP K "turns_behind" st_p_turns_behind f fd) : FnOk P w K mg base CX0 1 f fd ["before", "done", "benches"] (spP K G_p_turns_behind) := by
  refine fn_pure F sc_p_turns_behind (by decide) (fun as r h => by obtain ⟨before, done, benches, hok, rfl, _⟩ := h; rfl) (fun cdv A outer s H E hr as r h => ?_)
  obtain ⟨before, done, benches, hok, rfl, rfl⟩ := h
  refine ⟨(fun (m : (List ((List Str) × (Tl Str)))) => Out.rt (.ow m)) (p_turns_behind before done benches), rfl, ?_⟩
  show ES _ [.fz before, .fz done, .fz benches, .un, .un, .un, .un, .un] _ ((fun (m : (List ((List Str) × (Tl Str)))) => Out.rt (.ow m)) (pipe ([([] : (List Str))] : (List (List Str))) fun (rows : (List (List Str))) =>
  (pipe (List.foldl (p_turns_behind_L1 done benches) rows before.l) fun (st : (List (List Str))) =>
  (given (fun (row_1 : (List Str)) => true) (fun (row_1 : (List Str)) => (row_1, (Tl.mk (given (fun (name_1 : Str) => ((decide (name_1 ∈ done.l)) || (decide (name_1 ∈ row_1)))) (fun (name_1 : Str) => name_1) (keysD before))))) st))))
  have hok : (pipe ([([] : (List Str))] : (List (List Str))) fun (rows : (List (List Str))) =>
  (∀ (st : (List (List Str))) (x : (Str × (List Str))), AtF (p_turns_behind_L1 done benches) before.l rows st x → (pipe x.1 fun (name : Str) =>
  (pipe x.2 fun (others : (List Str)) =>
  okIf ((!(decide (name ∈ done.l))) && ((given (fun (other : Str) => true) (fun (other : Str) => (decide (other ∈ done.l))) others).all id)) ((∀ row ∈ st, (decide ((row.length : Int) < benches)) = true → ((row ++ ([name] : (List Str))).length ≤ big) ∧ True) ∧ ((st ++ (given (fun (row : (List Str)) => (decide ((row.length : Int) < benches))) (fun (row : (List Str)) => (row ++ ([name] : (List Str)))) st)).length ≤ big) ∧ True) (True)))) ∧
  True) := hok
  exact es_cons (s_asgN (ps_set (i := 3) sc_p_turns_behind.nd rfl (.inl rfl) peW) (n_disp (α := (List Str)) (la_cons (NJ.frz (n_disp (α := Str) (la_nil))) (la_nil))))
     (es_gen (k := (fun (m : (List ((List Str) × (Tl Str)))) => Out.rt (.ow m))) (fun (rows : (List (List Str))) => [.fz before, .fz done, .fz benches, .ow rows, .un, .un, .un, .un]) fun rows h =>
     have ok := ok_gen hok h; es_cons (s_forKF (tst := PassesOwn.never) (esf := (fun (st : (List (List Str))) => [.fz before, .fz done, .fz benches, .ow st, .un, .un, .un, .un])) (est := fun st x => [.fz before, .fz done, .fz benches, .ow st, .fz x.1, .fz x.2, .un, .un]) (g := (p_turns_behind_L1 done benches)) (y0 := rows) rfl (k_items (p_var (pv 0))) (fun st x => g_tup2 (pg_tup rfl (pgs_cons (pg_name (i := 4) sc_p_turns_behind.nd rfl (.inr rfl)) (pgs_cons (pg_name (i := 5) sc_p_turns_behind.nd rfl (.inl rfl)) pgs_nil))) ⟨Nat.le_of_ble_eq_true rfl, Nat.le_of_ble_eq_true rfl⟩)
     (fun st x hat => have ok_1 := ok.1 st x hat; es_nxO (esf := (fun (st : (List (List Str))) => [.fz before, .fz done, .fz benches, .ow st, .un, .un, .un, .un])) (es_gen (k := (nxO (fun (st : (List (List Str))) => [.fz before, .fz done, .fz benches, .ow st, .un, .un, .un, .un]))) (fun (name : Str) => [.fz before, .fz done, .fz benches, .ow st, .fz name, .fz x.2, .un, .un]) fun name h_1 =>
     have ok_2 := ok_gen ok_1 h_1; es_gen (k := (nxO (fun (st : (List (List Str))) => [.fz before, .fz done, .fz benches, .ow st, .un, .un, .un, .un]))) (fun (others : (List Str)) => [.fz before, .fz done, .fz benches, .ow st, .fz name, .fz others, .un, .un]) fun others h_2 =>
     have ok_3 := ok_gen ok_2 h_2; es_one (s_ife (k := (nxO (fun (st : (List (List Str))) => [.fz before, .fz done, .fz benches, .ow st, .un, .un, .un, .un]))) (TJ.x (w_t (w_and (t_ninT (r_var (pv 4)) (FJ.rd (f_var (pv 1)))) (fun hb => w_and1 (t_val (r_all (by rfl) (by rfl) B.n_all (((rd_lc (vs := [7]) (est := fun other => [.fz before, .fz done, .fz benches, .ow st, .fz name, .fz others, .un, .fz other]) (p := fun (other : Str) => true) (g := fun (other : Str) => (decide (other ∈ done.l))) (h_list ((f_var (pv 5)).lr)) rfl (fun _ _ _ _ _ other => ct_name (pg_name (i := 7) sc_p_turns_behind.nd rfl (Or.inl rfl)) (by decide) (Nat.le_of_ble_eq_true rfl)) (fun _ _ _ _ _ other hx => if_nil) (fun _ _ _ _ _ other hx hp => RJ.sc (r_inT (r_var (pv 7)) (FJ.rd (f_var (pv 1)))))).nj (pe_lcW (own := [("other", 7)]) rfl sc_p_turns_behind.nd (blkOk_by (N := N_p_turns_behind) (sc := defScope st_p_turns_behind) (by decide +kernel)))).lr))))))) (fun hb_1 => have ok_4 := ok_3.1 hb_1; es_cons (s_ext (α := (List Str)) (ps_expr (pe_bm PySem.F.plainAttrs_list PySem.F.slot_list_extend PySem.F.type_list_extend mt_extend (pv 3) (pa_cons peW pa_nil))) (((rd_lc (vs := [6]) (est := fun row => [.fz before, .fz done, .fz benches, .ow st, .fz name, .fz others, .fz row, .un]) (p := fun (row : (List Str)) => (decide ((row.length : Int) < benches))) (g := fun (row : (List Str)) => (row ++ ([name] : (List Str)))) (h_list ((o_lr (pv 3)))) rfl (fun _ _ _ _ _ row => ct_name (pg_name (i := 6) sc_p_turns_behind.nd rfl (Or.inl rfl)) (by decide) (Nat.le_of_ble_eq_true rfl)) (fun _ _ _ _ _ row hx_1 => if_one (t_lt (r_len (by rfl) B.n_len (FJ.rd (f_var (pv 6)))) (r_var (pv 2)))) (fun _ _ _ _ _ row hx_1 hp_1 => NJ.frz (n_plus (((ok_4.1) row hx_1 hp_1).1) ((f_var (pv 6)).lr) ((n_disp (α := Str) (la_cons (RJ.sc (r_var (pv 4))) (la_nil))).lr)))).nj (pe_lcW (own := [("row", 6)]) rfl sc_p_turns_behind.nd (blkOk_by (N := N_p_turns_behind) (sc := defScope st_p_turns_behind) (by decide +kernel)))).lr) ⟨_, _, rfl, .ow⟩ rfl .ow (ok_4.2.1))
     (es_gen (k := (nxO (fun (st : (List (List Str))) => [.fz before, .fz done, .fz benches, .ow st, .un, .un, .un, .un]))) (fun (rows_1 : (List (List Str))) => [.fz before, .fz done, .fz benches, .ow rows_1, .fz name, .fz others, .un, .un]) fun rows_1 h_3 =>
     es_nilO ⟨.inr rfl, .inr rfl, .inr rfl, .inr rfl, .inl rfl, .inl rfl, .inl rfl, .inl rfl, trivial⟩))
     (fun hb_1 => es_nilO ⟨.inr rfl, .inr rfl, .inr rfl, .inr rfl, .inl rfl, .inl rfl, .inl rfl, .inl rfl, trivial⟩)))))
     (es_gen (k := (fun (m : (List ((List Str) × (Tl Str)))) => Out.rt (.ow m))) (fun (st : (List (List Str))) => [.fz before, .fz done, .fz benches, .ow st, .un, .un, .un, .un]) fun st h_4 =>
     es_one (s_retN (ps_ret peW) ((rd_lc (vs := [6]) (est := fun row_1 => [.fz before, .fz done, .fz benches, .ow st, .un, .un, .fz row_1, .un]) (p := fun (row_1 : (List Str)) => true) (g := fun (row_1 : (List Str)) => (row_1, (Tl.mk (given (fun (name_1 : Str) => ((decide (name_1 ∈ done.l)) || (decide (name_1 ∈ row_1)))) (fun (name_1 : Str) => name_1) (keysD before))))) (h_list ((o_lr (pv 3)))) rfl (fun _ _ _ _ _ row_1 => ct_name (pg_name (i := 6) sc_p_turns_behind.nd rfl (by first | exact Or.inl rfl | exact Or.inr rfl)) (by decide) (Nat.le_of_ble_eq_true rfl)) (fun _ _ _ _ _ row_1 hx_2 => if_nil) (fun _ _ _ _ _ row_1 hx_2 hp_2 => f_tup2 (f_var (pv 6)) (f_tupOf (by rfl) B.n_tuple (((rd_lcK (vs := [4]) (est := fun name_1 => [.fz before, .fz done, .fz benches, .ow st, .fz name_1, .un, .fz row_1, .un]) (p := fun (name_1 : Str) => ((decide (name_1 ∈ done.l)) || (decide (name_1 ∈ row_1)))) (g := fun (name_1 : Str) => name_1) (k_keys (p_var (pv 0))) rfl (fun _ _ _ _ _ name_1 => ct_name (pg_name (i := 4) sc_p_turns_behind.nd rfl (Or.inl rfl)) (by decide) (Nat.le_of_ble_eq_true rfl)) (fun _ _ _ _ _ name_1 hx_3 => if_one (w_t (w_or (t_inT (r_var (pv 4)) (FJ.rd (f_var (pv 1)))) (fun hb_2 => w_or1 (t_in (r_var (pv 4)) (FJ.rd (f_var (pv 6)))))))) (fun _ _ _ _ _ name_1 hx_3 hp_3 => RJ.sc (r_var (pv 4)))).nj (pe_or (pe_lcW (own := [("name", 4)]) rfl sc_p_turns_behind.nd (blkOk_by (by first | rfl | kernel_rfl))))).lr)))).nj (pe_lcW (own := [("row", 6)]) rfl sc_p_turns_behind.nd (blkOk_by (N := N_p_turns_behind) (sc := defScope st_p_turns_behind) (by decide +kernel)))))))
/-! counted -/
def p_counted_L3 (ways : Int) (st_2 : (Dct (Tl Str) Int)) (x_1 : ((List Str) × (Tl Str))) : (Dct (Tl Str) Int) :=
  (pipe x_1.1 fun (row : (List Str)) =>
  (pipe x_1.2 fun (then_ : (Tl Str)) =>
  (pipe (putD st_2 then_ ((getOr st_2 then_ (0 : Int)) + ways)) fun (more_1 : (Dct (Tl Str) Int)) =>
  more_1)))
def p_counted_L2 (benches : Int) (before : (Dct Str (List Str))) (st_1 : (Dct (Tl Str) Int)) (x : ((Tl Str) × Int)) : (Dct (Tl Str) Int) :=
  (pipe x.1 fun (done : (Tl Str)) =>
  (pipe x.2 fun (ways : Int) =>
  (pipe (List.foldl (p_counted_L3 ways) st_1 (p_turns_behind before done benches)) fun (st_2 : (Dct (Tl Str) Int)) =>
  st_2)))
def p_counted_L1 (benches : Int) (before : (Dct Str (List Str))) (st : (Dct (Tl Str) Int)) (turn : Int) : (Dct (Tl Str) Int) :=
  (pipe (Dct.mk [] : (Dct (Tl Str) Int)) fun (more : (Dct (Tl Str) Int)) =>
  (pipe (List.foldl (p_counted_L2 benches before) more st.l) fun (st_1 : (Dct (Tl Str) Int)) =>
  (pipe st_1 fun (many_1 : (Dct (Tl Str) Int)) =>
  many_1)))
def p_counted (jobs : JobsV) (benches : Int) (turns : Int) : Int :=
  (pipe (p_rows_ahead jobs) fun (before : (Dct Str (List Str))) =>
  (pipe (Dct.mk [((Tl.mk [] : (Tl Str)), (1 : Int))] : (Dct (Tl Str) Int)) fun (many : (Dct (Tl Str) Int)) =>
  (pipe (List.foldl (p_counted_L1 benches before) many (rangeL 0 turns)) fun (st : (Dct (Tl Str) Int)) =>
  (getOr st (Tl.mk (keysD before)) (0 : Int)))))
def ok_p_counted (jobs : JobsV) (benches : Int) (turns : Int) : Prop :=
  (ok_p_want_benches benches) ∧ (ok_p_want_turns turns) ∧ (ok_p_want_few jobs) ∧ (ok_p_rows_ahead jobs) ∧ (pipe (p_rows_ahead jobs) fun (before : (Dct Str (List Str))) =>
  (pipe (Dct.mk [((Tl.mk [] : (Tl Str)), (1 : Int))] : (Dct (Tl Str) Int)) fun (many : (Dct (Tl Str) Int)) =>
  (-(2 ^ 62) ≤ turns ∧ turns < 2 ^ 62) ∧ (∀ (st : (Dct (Tl Str) Int)) (turn : Int), AtF (p_counted_L1 benches before) (rangeL 0 turns) many st turn → (pipe (Dct.mk [] : (Dct (Tl Str) Int)) fun (more : (Dct (Tl Str) Int)) =>
  (∀ (st_1 : (Dct (Tl Str) Int)) (x : ((Tl Str) × Int)), AtF (p_counted_L2 benches before) st.l more st_1 x → (pipe x.1 fun (done : (Tl Str)) =>
  (pipe x.2 fun (ways : Int) =>
  (ok_p_turns_behind before done benches) ∧ (∀ (st_2 : (Dct (Tl Str) Int)) (x_1 : ((List Str) × (Tl Str))), AtF (p_counted_L3 ways) (p_turns_behind before done benches) st_1 st_2 x_1 → (pipe x_1.1 fun (row : (List Str)) =>
  (pipe x_1.2 fun (then_ : (Tl Str)) =>
  (st_2.l.length < big) ∧ True))) ∧
  True))) ∧
  True)) ∧
  True))
abbrev N_p_counted : List Str := (["jobs", "benches", "turns", "before", "many", "turn", "more", "done", "ways", "row", "then"] : List Str)
abbrev st_p_counted : Stmt := top 20
theorem sc_p_counted : FnScope N_p_counted ["jobs", "benches", "turns"] (defScope st_p_counted) := ⟨rfl, rfl, rfl, by decide +kernel, rfl, by decide +kernel, by decide +kernel⟩
def G_p_counted (as : List En) (r : En) : Prop := ∃ (jobs : JobsV) (benches : Int) (turns : Int), ok_p_counted jobs benches turns ∧ as = [.fz jobs, .fz benches, .fz turns] ∧ r = .fz (p_counted jobs benches turns)
set_option maxRecDepth 100000 in
theorem w_p_counted (B : Bn mg) (J : JCls K) (D_p_want_benches : Df P w K mg base 2 "want_benches" ["benches"] (spP K G_p_want_benches)) (D_p_want_turns : Df P w K mg base 1 "want_turns" ["turns"] (spP K G_p_want_turns)) (D_p_want_few : Df P w K mg base 2 "want_few" ["jobs"] (spP K G_p_want_few)) (D_p_rows_ahead : Df P w K mg base 3 "rows_ahead" ["jobs"] (spP K G_p_rows_ahead)) (D_p_turns_behind : Df P w K mg base 1 "turns_behind" ["before", "done", "benches"] (spP K G_p_turns_behind))
    {f : Addr} {fd : FuncData} (F : FnP K "counted" st_p_counted f fd) : FnOk P w K mg base CX0 4 f fd ["jobs", "benches", "turns"] (spP K G_p_counted) := by
  refine fn_pure F sc_p_counted (by decide) (fun as r h => by obtain ⟨jobs, benches, turns, hok, rfl, _⟩ := h; rfl) (fun cdv A outer s H E hr as r h => ?_)
  obtain ⟨jobs, benches, turns, hok, rfl, rfl⟩ := h
  refine ⟨(fun (m : Int) => Out.rt (.fz m)) (p_counted jobs benches turns), rfl, ?_⟩
  show ES _ [.fz jobs, .fz benches, .fz turns, .un, .un, .un, .un, .un, .un, .un, .un] _ ((fun (m : Int) => Out.rt (.fz m)) (pipe (p_rows_ahead jobs) fun (before : (Dct Str (List Str))) =>
  (pipe (Dct.mk [((Tl.mk [] : (Tl Str)), (1 : Int))] : (Dct (Tl Str) Int)) fun (many : (Dct (Tl Str) Int)) =>
  (pipe (List.foldl (p_counted_L1 benches before) many (rangeL 0 turns)) fun (st : (Dct (Tl Str) Int)) =>
  (getOr st (Tl.mk (keysD before)) (0 : Int))))))
  have hok : (ok_p_want_benches benches) ∧ (ok_p_want_turns turns) ∧ (ok_p_want_few jobs) ∧ (ok_p_rows_ahead jobs) ∧ (pipe (p_rows_ahead jobs) fun (before : (Dct Str (List Str))) =>
  (pipe (Dct.mk [((Tl.mk [] : (Tl Str)), (1 : Int))] : (Dct (Tl Str) Int)) fun (many : (Dct (Tl Str) Int)) =>
  (-(2 ^ 62) ≤ turns ∧ turns < 2 ^ 62) ∧ (∀ (st : (Dct (Tl Str) Int)) (turn : Int), AtF (p_counted_L1 benches before) (rangeL 0 turns) many st turn → (pipe (Dct.mk [] : (Dct (Tl Str) Int)) fun (more : (Dct (Tl Str) Int)) =>
  (∀ (st_1 : (Dct (Tl Str) Int)) (x : ((Tl Str) × Int)), AtF (p_counted_L2 benches before) st.l more st_1 x → (pipe x.1 fun (done : (Tl Str)) =>
  (pipe x.2 fun (ways : Int) =>
  (ok_p_turns_behind before done benches) ∧ (∀ (st_2 : (Dct (Tl Str) Int)) (x_1 : ((List Str) × (Tl Str))), AtF (p_counted_L3 ways) (p_turns_behind before done benches) st_1 st_2 x_1 → (pipe x_1.1 fun (row : (List Str)) =>
  (pipe x_1.2 fun (then_ : (Tl Str)) =>
  (st_2.l.length < big) ∧ True))) ∧
  True))) ∧
  True)) ∧
  True)) := hok
  exact es_cons (s_drop (ps_expr peW) (FJ.x (fD D_p_want_benches (hr.mono (by decide)) (a_cons (RJ.sc (r_var (pv 1))) (a_nil)) (⟨_, (hok.1), rfl, rfl⟩))))
     (es_cons (s_drop (ps_expr peW) (FJ.x (fD D_p_want_turns (hr.mono (by decide)) (a_cons (RJ.sc (r_var (pv 2))) (a_nil)) (⟨_, (hok.2.1), rfl, rfl⟩))))
     (es_cons (s_drop (ps_expr peW) (FJ.x (fD D_p_want_few (hr.mono (by decide)) (a_cons (f_var (pv 0)) (a_nil)) (⟨_, (hok.2.2.1), rfl, rfl⟩))))
     (es_cons (s_asg (ps_set (i := 3) sc_p_counted.nd rfl (.inl rfl) peW) (NJ.frz (nD D_p_rows_ahead (hr.mono (by decide)) (a_cons (f_var (pv 0)) (a_nil)) (⟨_, (hok.2.2.2.1), rfl, rfl⟩))))
     (es_gen (k := (fun (m : Int) => Out.rt (.fz m))) (fun (before : (Dct Str (List Str))) => [.fz jobs, .fz benches, .fz turns, .fz before, .un, .un, .un, .un, .un, .un, .un]) fun before h =>
     have ok := ok_gen hok.2.2.2.2 h; es_cons (s_asg (ps_set (i := 4) sc_p_counted.nd rfl (.inl rfl) peW) (NJ.frz (n_disp1T (by exact hr.units) (f_tl0 (α := Str) ) (RJ.sc (r_int)))))
     (es_gen (k := (fun (m : Int) => Out.rt (.fz m))) (fun (many : (Dct (Tl Str) Int)) => [.fz jobs, .fz benches, .fz turns, .fz before, .fz many, .un, .un, .un, .un, .un, .un]) fun many h_1 =>
     have ok_1 := ok_gen ok h_1; es_cons (s_forF (tst := PassesOwn.never) (esf := (fun (st : (Dct (Tl Str) Int)) => [.fz jobs, .fz benches, .fz turns, .fz before, .fz st, .un, .un, .un, .un, .un, .un])) (est := fun st turn => [.fz jobs, .fz benches, .fz turns, .fz before, .fz st, .fz turn, .un, .un, .un, .un, .un]) (g := (p_counted_L1 benches before)) (y0 := many) rfl (i_range1 (by rfl) B.n_range (ok_1.1) (RJ.xs (r_var (pv 2)))) (fun st turn => g_name (pg_name (i := 5) sc_p_counted.nd rfl (.inl rfl)) (Nat.le_of_ble_eq_true rfl))
     (fun st turn hat => have ok_2 := ok_1.2.1 st turn hat; es_nxO (esf := (fun (st : (Dct (Tl Str) Int)) => [.fz jobs, .fz benches, .fz turns, .fz before, .fz st, .un, .un, .un, .un, .un, .un])) (es_cons (s_asgN (ps_set (i := 6) sc_p_counted.nd rfl (.inl rfl) peW) (n_dnewT (κ := Str) (α := Int)))
     (es_gen (k := (nxO (fun (st : (Dct (Tl Str) Int)) => [.fz jobs, .fz benches, .fz turns, .fz before, .fz st, .un, .un, .un, .un, .un, .un]))) (fun (more : (Dct (Tl Str) Int)) => [.fz jobs, .fz benches, .fz turns, .fz before, .fz st, .fz turn, .ow more, .un, .un, .un, .un]) fun more h_2 =>
     have ok_3 := ok_gen ok_2 h_2; es_cons (s_forKF (tst := PassesOwn.never) (esf := (fun (st_1 : (Dct (Tl Str) Int)) => [.fz jobs, .fz benches, .fz turns, .fz before, .fz st, .fz turn, .ow st_1, .un, .un, .un, .un])) (est := fun st_1 x => [.fz jobs, .fz benches, .fz turns, .fz before, .fz st, .fz turn, .ow st_1, .fz x.1, .fz x.2, .un, .un]) (g := (p_counted_L2 benches before)) (y0 := more) rfl (k_itemsT (p_var (pv 4))) (fun st_1 x => g_tup2 (pg_tup rfl (pgs_cons (pg_name (i := 7) sc_p_counted.nd rfl (.inl rfl)) (pgs_cons (pg_name (i := 8) sc_p_counted.nd rfl (.inl rfl)) pgs_nil))) ⟨Nat.le_of_ble_eq_true rfl, Nat.le_of_ble_eq_true rfl⟩)
     (fun st_1 x hat_1 => have ok_4 := ok_3.1 st_1 x hat_1; es_nxO (esf := (fun (st_1 : (Dct (Tl Str) Int)) => [.fz jobs, .fz benches, .fz turns, .fz before, .fz st, .fz turn, .ow st_1, .un, .un, .un, .un])) (es_gen (k := (nxO (fun (st_1 : (Dct (Tl Str) Int)) => [.fz jobs, .fz benches, .fz turns, .fz before, .fz st, .fz turn, .ow st_1, .un, .un, .un, .un]))) (fun (done : (Tl Str)) => [.fz jobs, .fz benches, .fz turns, .fz before, .fz st, .fz turn, .ow st_1, .fz done, .fz x.2, .un, .un]) fun done h_3 =>
     have ok_5 := ok_gen ok_4 h_3; es_gen (k := (nxO (fun (st_1 : (Dct (Tl Str) Int)) => [.fz jobs, .fz benches, .fz turns, .fz before, .fz st, .fz turn, .ow st_1, .un, .un, .un, .un]))) (fun (ways : Int) => [.fz jobs, .fz benches, .fz turns, .fz before, .fz st, .fz turn, .ow st_1, .fz done, .fz ways, .un, .un]) fun ways h_4 =>
     have ok_6 := ok_gen ok_5 h_4; es_cons (s_forF (tst := PassesOwn.never) (esf := (fun (st_2 : (Dct (Tl Str) Int)) => [.fz jobs, .fz benches, .fz turns, .fz before, .fz st, .fz turn, .ow st_2, .fz done, .fz ways, .un, .un])) (est := fun st_2 x_1 => [.fz jobs, .fz benches, .fz turns, .fz before, .fz st, .fz turn, .ow st_2, .fz done, .fz ways, .fz x_1.1, .fz x_1.2]) (g := (p_counted_L3 ways)) (y0 := st_1) rfl (i_list (FJ.x (NJ.frz (nD D_p_turns_behind (hr.mono (by decide)) (a_cons (f_var (pv 3)) (a_cons (f_var (pv 7)) (a_cons (RJ.sc (r_var (pv 1))) (a_nil)))) (⟨_, _, _, (ok_6.1), rfl, rfl⟩))))) (fun st_2 x_1 => g_tup2 (pg_tup rfl (pgs_cons (pg_name (i := 9) sc_p_counted.nd rfl (.inl rfl)) (pgs_cons (pg_name (i := 10) sc_p_counted.nd rfl (.inl rfl)) pgs_nil))) ⟨Nat.le_of_ble_eq_true rfl, Nat.le_of_ble_eq_true rfl⟩)
     (fun st_2 x_1 hat_2 => have ok_7 := ok_6.2.1 st_2 x_1 hat_2; es_nxO (esf := (fun (st_2 : (Dct (Tl Str) Int)) => [.fz jobs, .fz benches, .fz turns, .fz before, .fz st, .fz turn, .ow st_2, .fz done, .fz ways, .un, .un])) (es_gen (k := (nxO (fun (st_2 : (Dct (Tl Str) Int)) => [.fz jobs, .fz benches, .fz turns, .fz before, .fz st, .fz turn, .ow st_2, .fz done, .fz ways, .un, .un]))) (fun (row : (List Str)) => [.fz jobs, .fz benches, .fz turns, .fz before, .fz st, .fz turn, .ow st_2, .fz done, .fz ways, .fz row, .fz x_1.2]) fun row h_5 =>
     have ok_8 := ok_gen ok_7 h_5; es_gen (k := (nxO (fun (st_2 : (Dct (Tl Str) Int)) => [.fz jobs, .fz benches, .fz turns, .fz before, .fz st, .fz turn, .ow st_2, .fz done, .fz ways, .un, .un]))) (fun (then_ : (Tl Str)) => [.fz jobs, .fz benches, .fz turns, .fz before, .fz st, .fz turn, .ow st_2, .fz done, .fz ways, .fz row, .fz then_]) fun then_ h_6 =>
     have ok_9 := ok_gen ok_8 h_6; es_cons (s_dputT (by exact hr.units) (ps_dput (un1 (by exact hr.units)) (pv 6) peW peW (by rfl)) (RJ.xs (r_add (r_dgetOrT (κ := Str) (β := Int) (by exact hr.units) ((o_var (pv 6))) (FJ.rd (f_var (pv 10))) (r_int)) (r_var (pv 8)))) (FJ.x (f_var (pv 10))) rfl .ow (ok_9.1) (h0 := ⟨_, _, rfl, .ow⟩))
     (es_gen (k := (nxO (fun (st_2 : (Dct (Tl Str) Int)) => [.fz jobs, .fz benches, .fz turns, .fz before, .fz st, .fz turn, .ow st_2, .fz done, .fz ways, .un, .un]))) (fun (more_1 : (Dct (Tl Str) Int)) => [.fz jobs, .fz benches, .fz turns, .fz before, .fz st, .fz turn, .ow more_1, .fz done, .fz ways, .fz row, .fz then_]) fun more_1 h_7 =>
     es_nilO ⟨.inr rfl, .inr rfl, .inr rfl, .inr rfl, .inr rfl, .inr rfl, .inr rfl, .inr rfl, .inr rfl, .inl rfl, .inl rfl, trivial⟩))))
     (es_gen (k := (nxO (fun (st_1 : (Dct (Tl Str) Int)) => [.fz jobs, .fz benches, .fz turns, .fz before, .fz st, .fz turn, .ow st_1, .un, .un, .un, .un]))) (fun (st_2 : (Dct (Tl Str) Int)) => [.fz jobs, .fz benches, .fz turns, .fz before, .fz st, .fz turn, .ow st_2, .fz done, .fz ways, .un, .un]) fun st_2 h_8 =>
     es_nilO ⟨.inr rfl, .inr rfl, .inr rfl, .inr rfl, .inr rfl, .inr rfl, .inr rfl, .inl rfl, .inl rfl, .inl rfl, .inl rfl, trivial⟩))))
     (es_gen (k := (nxO (fun (st : (Dct (Tl Str) Int)) => [.fz jobs, .fz benches, .fz turns, .fz before, .fz st, .un, .un, .un, .un, .un, .un]))) (fun (st_1 : (Dct (Tl Str) Int)) => [.fz jobs, .fz benches, .fz turns, .fz before, .fz st, .fz turn, .ow st_1, .un, .un, .un, .un]) fun st_1 h_9 =>
     es_cons (s_asgX (ps_set (i := 4) sc_p_counted.nd rfl (.inl rfl) peW) ((x_frz (pv 6))))
     (es_gen (k := (nxO (fun (st : (Dct (Tl Str) Int)) => [.fz jobs, .fz benches, .fz turns, .fz before, .fz st, .un, .un, .un, .un, .un, .un]))) (fun (many_1 : (Dct (Tl Str) Int)) => [.fz jobs, .fz benches, .fz turns, .fz before, .fz many_1, .fz turn, .fz st_1, .un, .un, .un, .un]) fun many_1 h_10 =>
     es_nilO ⟨.inr rfl, .inr rfl, .inr rfl, .inr rfl, .inr rfl, .inl rfl, .inl rfl, .inl rfl, .inl rfl, .inl rfl, .inl rfl, trivial⟩))))))
     (es_gen (k := (fun (m : Int) => Out.rt (.fz m))) (fun (st : (Dct (Tl Str) Int)) => [.fz jobs, .fz benches, .fz turns, .fz before, .fz st, .un, .un, .un, .un, .un, .un]) fun st h_11 =>
     es_one (s_ret (ps_ret peW) (RJ.sc (r_dgetOrT (κ := Str) (β := Int) (by exact hr.units) (FJ.rd (f_var (pv 4))) (FJ.rd (f_tupD (by rfl) (by rfl) B.n_tuple (f_var (pv 3)))) (r_int))))))))))
/-! law: whole -/
def m_whole (found : Int) : Bool :=
  (true && (!false))
abbrev N_m_whole : List Str := (["_law_found"] : List Str)
abbrev st_m_whole : Stmt := top 43
theorem sc_m_whole : FnScope N_m_whole ["_law_found"] (defScope st_m_whole) := ⟨rfl, rfl, rfl, by decide +kernel, rfl, by decide +kernel, by decide +kernel⟩
def G_m_whole (as : List En) (r : En) : Prop := ∃ (found : Int), as = [.fz found] ∧ r = .fz (m_whole found)
set_option maxRecDepth 100000 in
theorem w_m_whole (B : Bn mg) (J : JCls K) 
    {f : Addr} {fd : FuncData} (F : FnP K "_law_whole" st_m_whole f fd) : FnOk P w K mg base CX0 1 f fd ["_law_found"] (spP K G_m_whole) := by
  refine fn_pure F sc_m_whole (by decide) (fun as r h => by obtain ⟨found, rfl, _⟩ := h; rfl) (fun cdv A outer s H E hr as r h => ?_)
  obtain ⟨found, rfl, rfl⟩ := h
  refine ⟨(fun (m : Bool) => Out.rt (.fz m)) (m_whole found), rfl, ?_⟩
  show ES _ [.fz found] _ ((fun (m : Bool) => Out.rt (.fz m)) (true && (!false)))
  exact es_one (s_ret (ps_ret peW) (RJ.sc (r_and (r_isiInt (by rfl) B.n_isinstance (by rfl) B.n_int (r_var (pv 0))) (fun hb => r_and1 (r_not (r_isiBoolI (by rfl) B.n_isinstance (by rfl) B.n_bool (r_var (pv 0))))))))
/-! law: fits -/
def m_fits_L1 (jobs : JobsV) (benches : Int) (dues : (List Int)) (st : Unit) (many : Int) : (Fl Unit Bool) :=
  (pipe (p_counted jobs benches many) fun (found : Int) =>
  (bif ((!(m_whole found)) || (!(decide (found = (getI dues many))))) then (Fl.rt false) else
  (Fl.nx ())))
def m_fits (jobs : JobsV) (benches : Int) (turns : Int) (dues : (List Int)) : Bool :=
  (Fl.elim (forFl (m_fits_L1 jobs benches dues) ([turns, (if (turns + (1 : Int)) < (40 : Int) then (turns + (1 : Int)) else (40 : Int)), (if (turns - (1 : Int)) > (0 : Int) then (turns - (1 : Int)) else (0 : Int))] : (List Int)) ()) (fun (st : Unit) =>
  true) (fun r => r))
def ok_m_fits (jobs : JobsV) (benches : Int) (turns : Int) (dues : (List Int)) : Prop :=
  (∀ (st : Unit) (many : Int), At (m_fits_L1 jobs benches dues) ([turns, (if (turns + (1 : Int)) < (40 : Int) then (turns + (1 : Int)) else (40 : Int)), (if (turns - (1 : Int)) > (0 : Int) then (turns - (1 : Int)) else (0 : Int))] : (List Int)) () st many → (ok_p_counted jobs benches many) ∧ (pipe (p_counted jobs benches many) fun (found : Int) =>
  ((!(m_whole found)) = false → (okI dues many) ∧ True) ∧ True)) ∧
  True
abbrev N_m_fits : List Str := (["_law_jobs_here", "_law_benches_here", "_law_turns", "_law_dues", "_law_many", "_law_found"] : List Str)
abbrev st_m_fits : Stmt := top 46
theorem sc_m_fits : FnScope N_m_fits ["_law_jobs_here", "_law_benches_here", "_law_turns", "_law_dues"] (defScope st_m_fits) := ⟨rfl, rfl, rfl, by decide +kernel, rfl, by decide +kernel, by decide +kernel⟩
def G_m_fits (as : List En) (r : En) : Prop := ∃ (jobs : JobsV) (benches : Int) (turns : Int) (dues : (List Int)), ok_m_fits jobs benches turns dues ∧ as = [.fz jobs, .fz benches, .fz turns, .fz dues] ∧ r = .fz (m_fits jobs benches turns dues)
set_option maxRecDepth 100000 in
theorem w_m_fits (B : Bn mg) (J : JCls K) (D_p_counted : Df P w K mg base 4 "counted" ["jobs", "benches", "turns"] (spP K G_p_counted)) (D_m_whole : Df P w K mg base 1 "_law_whole" ["_law_found"] (spP K G_m_whole))
    {f : Addr} {fd : FuncData} (F : FnP K "_law_fits" st_m_fits f fd) : FnOk P w K mg base CX0 5 f fd ["_law_jobs_here", "_law_benches_here", "_law_turns", "_law_dues"] (spP K G_m_fits) := by
  refine fn_pure F sc_m_fits (by decide) (fun as r h => by obtain ⟨jobs, benches, turns, dues, hok, rfl, _⟩ := h; rfl) (fun cdv A outer s H E hr as r h => ?_)
  obtain ⟨jobs, benches, turns, dues, hok, rfl, rfl⟩ := h
  refine ⟨(fun (m : Bool) => Out.rt (.fz m)) (m_fits jobs benches turns dues), rfl, ?_⟩
  show ES _ [.fz jobs, .fz benches, .fz turns, .fz dues, .un, .un] _ ((fun (m : Bool) => Out.rt (.fz m)) (Fl.elim (forFl (m_fits_L1 jobs benches dues) ([turns, (if (turns + (1 : Int)) < (40 : Int) then (turns + (1 : Int)) else (40 : Int)), (if (turns - (1 : Int)) > (0 : Int) then (turns - (1 : Int)) else (0 : Int))] : (List Int)) ()) (fun (st : Unit) =>
  true) (fun r => r)))
  have hok : (∀ (st : Unit) (many : Int), At (m_fits_L1 jobs benches dues) ([turns, (if (turns + (1 : Int)) < (40 : Int) then (turns + (1 : Int)) else (40 : Int)), (if (turns - (1 : Int)) > (0 : Int) then (turns - (1 : Int)) else (0 : Int))] : (List Int)) () st many → (ok_p_counted jobs benches many) ∧ (pipe (p_counted jobs benches many) fun (found : Int) =>
  ((!(m_whole found)) = false → (okI dues many) ∧ True) ∧ True)) ∧
  True := hok
  exact es_seq (k := (fun (m : Bool) => Out.rt (.fz m))) (esf := (fun (st : Unit) => [.fz jobs, .fz benches, .fz turns, .fz dues, .un, .un])) (kr := fun r => (fun (m : Bool) => Out.rt (.fz m)) r) (rr := fun r => r) (s_for (tst := PassesOwn.never) (esf := (fun (st : Unit) => [.fz jobs, .fz benches, .fz turns, .fz dues, .un, .un])) (est := fun st many => [.fz jobs, .fz benches, .fz turns, .fz dues, .fz many, .un]) (g := (m_fits_L1 jobs benches dues)) (y0 := ()) (kr := fun r => (fun (m : Bool) => Out.rt (.fz m)) r) rfl (i_list (FJ.x (NJ.frz (n_disp (α := Int) (la_cons (RJ.sc (r_var (pv 2))) (la_cons (RJ.sc (r_min2 (by rfl) (by rfl) B.n_min (r_int) (r_add (r_var (pv 2)) (r_int)))) (la_cons (RJ.sc (r_max2 (by rfl) (by rfl) B.n_max (r_int) (r_sub (r_var (pv 2)) (r_int)))) (la_nil)))))))) (fun st many => g_name (pg_name (i := 4) sc_m_fits.nd rfl (.inl rfl)) (Nat.le_of_ble_eq_true rfl)) (fun _ => by first | rfl | exact ruO_rets)
     (fun st many hat => have ok := hok.1 st many hat; es_cons (s_asg (ps_set (i := 5) sc_m_fits.nd rfl (.inl rfl) peW) (fD D_p_counted (hr.mono (by decide)) (a_cons (f_var (pv 0)) (a_cons (RJ.sc (r_var (pv 1))) (a_cons (RJ.sc (r_var (pv 4))) (a_nil)))) (⟨_, _, _, (ok.1), rfl, rfl⟩)))
     (es_gen (k := (flO (fun (st : Unit) => [.fz jobs, .fz benches, .fz turns, .fz dues, .un, .un]) (fun r => (fun (m : Bool) => Out.rt (.fz m)) r))) (fun (found : Int) => [.fz jobs, .fz benches, .fz turns, .fz dues, .fz many, .fz found]) fun found h =>
     have ok_1 := ok_gen ok.2 h; es_ifr (k := (flO (fun (st : Unit) => [.fz jobs, .fz benches, .fz turns, .fz dues, .un, .un]) (fun r => (fun (m : Bool) => Out.rt (.fz m)) r))) (m1 := (Fl.rt false)) (TJ.x (w_t (w_or (t_not (t_val (FJ.rd (fD D_m_whole (hr.mono (by decide)) (a_cons (RJ.sc (r_var (pv 5))) (a_nil)) (⟨_, rfl, rfl⟩))))) (fun hb => w_or1 (t_ne (r_var (pv 5)) (FJ.rd (f_ix (((ok_1.1) hb).1) (f_var (pv 3)) (r_var (pv 4))))))))) (by first | rfl | exact ruO_ends) (fun hb_1 => es_one (s_ret (ps_ret peW) (RJ.sc (r_bl))))
     (fun hb_1 => (by exact es_nil ⟨.inr rfl, .inr rfl, .inr rfl, .inr rfl, .inl rfl, .inl rfl, trivial⟩))))) (fun _ => by first | rfl | exact ruO_rets) (fun _ => by first | rfl | exact ruO_rets) (fun st h_1 =>
     es_one (s_ret (ps_ret peW) (RJ.sc (r_bl))))
/-! law -/
def m_law_L2 (st_2 : Unit) (x : (Tp4 JobsV Int Int (List Int))) : (Fl Unit Bool) :=
  (pipe x.a fun (jobs : JobsV) =>
  (pipe x.b fun (wide : Int) =>
  (pipe x.c fun (many : Int) =>
  (pipe x.d fun (due : (List Int)) =>
  (bif (!(decide ((p_counted jobs wide many) = (getI due many)))) then (Fl.rt false) else
  (Fl.nx ()))))))
def m_law_L1 (script : Scr) (names : (List Str)) (drawn : (List (List (Str × Str)))) (made : (List JobsV)) (st : (List (Tp4 JobsV Int Int (List Int)))) (k : Int) : (Fl (List (Tp4 JobsV Int Int (List Int))) Bool) :=
  (pipe (m_behind names (getI drawn (k % (2 : Int)))) fun (behind : (Dct Str (Dct Str Bool))) =>
  (pipe (m_purse (m_cell script k) k) fun (purse : Pu) =>
  (pipe purse fun (purse_1 : Pu) =>
  (pipe (m_benches purse_1).1 fun (benches : Int) =>
  (pipe (m_benches purse_1).2 fun (purse_2 : Pu) =>
  (pipe (m_take purse_2 (getI ([(41 : Int), (7 : Int)] : (List Int)) (if (decide ((names.length : Int) > (5 : Int))) then (1 : Int) else 0))).1 fun (turns : Int) =>
  (pipe (m_take purse_2 (getI ([(41 : Int), (7 : Int)] : (List Int)) (if (decide ((names.length : Int) > (5 : Int))) then (1 : Int) else 0))).2 fun (purse_3 : Pu) =>
  (pipe (m_by_sets names behind benches (if (turns + (1 : Int)) < (40 : Int) then (turns + (1 : Int)) else (40 : Int))) fun (dues : (List Int)) =>
  (pipe (getI dues turns) fun (plain : Int) =>
  (pipe (bif ((decide ((names.length : Int) < (5 : Int))) && (decide (turns < (6 : Int)))) then (pipe (m_by_jobs names behind benches turns) fun (plain_1 : Int) =>
  plain_1) else plain) fun (st_1 : Int) =>
  (bif (!(decide (st_1 = (getI dues turns)))) then (Fl.rt false) else
  (pipe (st ++ [(Tp4.mk (getI made (k % (2 : Int))) benches turns dues)]) fun (told_1 : (List (Tp4 JobsV Int Int (List Int)))) =>
  (bif (!(m_fits (getI made (k % (2 : Int))) benches turns dues)) then (Fl.rt false) else
  (Fl.elim (forFl m_law_L2 told_1 ()) (fun (st_2 : Unit) =>
  (Fl.nx told_1)) (fun r => (Fl.rt r))))))))))))))))
def m_law (script : Scr) : Bool :=
  (pipe (m_jobs (m_purse (m_cell script (0 : Int)) (0 : Int)) (7 : Int)).1.1 fun (names : (List Str)) =>
  (pipe (m_jobs (m_purse (m_cell script (0 : Int)) (0 : Int)) (7 : Int)).1.2 fun (orders : (List (Str × Str))) =>
  (pipe ([orders, (cutX orders none (some ((orders.length : Int) / (2 : Int))))] : (List (List (Str × Str)))) fun (drawn : (List (List (Str × Str)))) =>
  (pipe (given (fun (some : (List (Str × Str))) => true) (fun (some : (List (Str × Str))) => (p_Jobs names some)) drawn) fun (made : (List JobsV)) =>
  (pipe ([] : (List (Tp4 JobsV Int Int (List Int)))) fun (told : (List (Tp4 JobsV Int Int (List Int)))) =>
  (Fl.elim (forFl (m_law_L1 script names drawn made) (rangeL (1 : Int) (if (if (script.ns.length : Int) < (4 : Int) then (script.ns.length : Int) else (4 : Int)) > (3 : Int) then (if (script.ns.length : Int) < (4 : Int) then (script.ns.length : Int) else (4 : Int)) else (3 : Int))) told) (fun (st : (List (Tp4 JobsV Int Int (List Int)))) =>
  true) (fun r => r)))))))
def ok_m_law (script : Scr) : Prop :=
  (ok_m_cell script (0 : Int)) ∧ (ok_m_purse (m_cell script (0 : Int)) (0 : Int)) ∧ (ok_m_jobs (m_purse (m_cell script (0 : Int)) (0 : Int)) (7 : Int)) ∧ (pipe (m_jobs (m_purse (m_cell script (0 : Int)) (0 : Int)) (7 : Int)).1.1 fun (names : (List Str)) =>
  (pipe (m_jobs (m_purse (m_cell script (0 : Int)) (0 : Int)) (7 : Int)).1.2 fun (orders : (List (Str × Str))) =>
  (pipe ([orders, (cutX orders none (some ((orders.length : Int) / (2 : Int))))] : (List (List (Str × Str)))) fun (drawn : (List (List (Str × Str)))) =>
  (∀ some ∈ drawn, true = true → (ok_p_Jobs names some) ∧ True) ∧ (pipe (given (fun (some : (List (Str × Str))) => true) (fun (some : (List (Str × Str))) => (p_Jobs names some)) drawn) fun (made : (List JobsV)) =>
  (pipe ([] : (List (Tp4 JobsV Int Int (List Int)))) fun (told : (List (Tp4 JobsV Int Int (List Int)))) =>
  (-(2 ^ 62) ≤ (1 : Int) ∧ (1 : Int) < 2 ^ 62 ∧ -(2 ^ 62) ≤ (if (if (script.ns.length : Int) < (4 : Int) then (script.ns.length : Int) else (4 : Int)) > (3 : Int) then (if (script.ns.length : Int) < (4 : Int) then (script.ns.length : Int) else (4 : Int)) else (3 : Int)) ∧ (if (if (script.ns.length : Int) < (4 : Int) then (script.ns.length : Int) else (4 : Int)) > (3 : Int) then (if (script.ns.length : Int) < (4 : Int) then (script.ns.length : Int) else (4 : Int)) else (3 : Int)) < 2 ^ 62) ∧ (∀ (st : (List (Tp4 JobsV Int Int (List Int)))) (k : Int), At (m_law_L1 script names drawn made) (rangeL (1 : Int) (if (if (script.ns.length : Int) < (4 : Int) then (script.ns.length : Int) else (4 : Int)) > (3 : Int) then (if (script.ns.length : Int) < (4 : Int) then (script.ns.length : Int) else (4 : Int)) else (3 : Int))) told st k → (okI drawn (k % (2 : Int))) ∧ (ok_m_behind names (getI drawn (k % (2 : Int)))) ∧ (pipe (m_behind names (getI drawn (k % (2 : Int)))) fun (behind : (Dct Str (Dct Str Bool))) =>
  (ok_m_cell script k) ∧ (ok_m_purse (m_cell script k) k) ∧ (pipe (m_purse (m_cell script k) k) fun (purse : Pu) =>
  (pipe purse fun (purse_1 : Pu) =>
  (ok_m_benches purse_1) ∧ (pipe (m_benches purse_1).1 fun (benches : Int) =>
  (pipe (m_benches purse_1).2 fun (purse_2 : Pu) =>
  (okI ([(41 : Int), (7 : Int)] : (List Int)) (if (decide ((names.length : Int) > (5 : Int))) then (1 : Int) else 0)) ∧ (ok_m_take purse_2 (getI ([(41 : Int), (7 : Int)] : (List Int)) (if (decide ((names.length : Int) > (5 : Int))) then (1 : Int) else 0))) ∧ (pipe (m_take purse_2 (getI ([(41 : Int), (7 : Int)] : (List Int)) (if (decide ((names.length : Int) > (5 : Int))) then (1 : Int) else 0))).1 fun (turns : Int) =>
  (pipe (m_take purse_2 (getI ([(41 : Int), (7 : Int)] : (List Int)) (if (decide ((names.length : Int) > (5 : Int))) then (1 : Int) else 0))).2 fun (purse_3 : Pu) =>
  (ok_m_by_sets names behind benches (if (turns + (1 : Int)) < (40 : Int) then (turns + (1 : Int)) else (40 : Int))) ∧ (pipe (m_by_sets names behind benches (if (turns + (1 : Int)) < (40 : Int) then (turns + (1 : Int)) else (40 : Int))) fun (dues : (List Int)) =>
  (okI dues turns) ∧ (pipe (getI dues turns) fun (plain : Int) =>
  (okIf ((decide ((names.length : Int) < (5 : Int))) && (decide (turns < (6 : Int)))) ((ok_m_by_jobs names behind benches turns) ∧ True) (True)) ∧ (pipe (bif ((decide ((names.length : Int) < (5 : Int))) && (decide (turns < (6 : Int)))) then (pipe (m_by_jobs names behind benches turns) fun (plain_1 : Int) =>
  plain_1) else plain) fun (st_1 : Int) =>
  (okI dues turns) ∧ okIf (!(decide (st_1 = (getI dues turns)))) (True) ((okI made (k % (2 : Int))) ∧ (st.length < big) ∧ (pipe (st ++ [(Tp4.mk (getI made (k % (2 : Int))) benches turns dues)]) fun (told_1 : (List (Tp4 JobsV Int Int (List Int)))) =>
  (okI made (k % (2 : Int))) ∧ (ok_m_fits (getI made (k % (2 : Int))) benches turns dues) ∧ okIf (!(m_fits (getI made (k % (2 : Int))) benches turns dues)) (True) ((∀ (st_2 : Unit) (x : (Tp4 JobsV Int Int (List Int))), At m_law_L2 told_1 () st_2 x → (pipe x.a fun (jobs : JobsV) =>
  (pipe x.b fun (wide : Int) =>
  (pipe x.c fun (many : Int) =>
  (pipe x.d fun (due : (List Int)) =>
  (ok_p_counted jobs wide many) ∧ (okI due many) ∧ True))))) ∧
  True)))))))))))))) ∧
  True)))))
abbrev N_m_law : List Str := (["_law_script", "_law_names_here", "_law_orders", "_law_drawn", "_law_made", "_law_told", "_law_k", "_law_behind_here", "_law_purse_here", "_law_benches_here", "_law_turns", "_law_dues", "_law_plain", "_law_jobs_here", "_law_wide", "_law_many", "_law_due", "_law_some"] : List Str)
abbrev st_m_law : Stmt := top 47
theorem sc_m_law : FnScope N_m_law ["_law_script"] (defScope st_m_law) := ⟨rfl, rfl, rfl, by decide +kernel, rfl, by decide +kernel, by decide +kernel⟩
def G_m_law (as : List En) (r : En) : Prop := ∃ (script : Scr), ok_m_law script ∧ as = [.fz script] ∧ r = .fz (m_law script)
set_option maxRecDepth 100000 in
theorem w_m_law (B : Bn mg) (J : JCls K) (D_m_cell : Df P w K mg base 1 "_law_cell" ["_law_script", "_law_k"] (spP K G_m_cell)) (D_m_purse : Df P w K mg base 1 "_law_purse" ["_law_cell_here", "_law_k"] (spP K G_m_purse)) (D_m_take : Df P w K mg base 1 "_law_take" ["_law_purse_here", "_law_many"] (spU K G_m_take)) (D_m_jobs : Df P w K mg base 3 "_law_jobs" ["_law_purse_here", "_law_most"] (spU K G_m_jobs)) (D_p_Jobs : Mkr P w K mg base 3 ["self", "names", "orders"] (spU K G_p_Jobs)) (D_m_behind : Df P w K mg base 1 "_law_behind" ["_law_names_here", "_law_orders"] (spP K G_m_behind)) (D_m_benches : Df P w K mg base 2 "_law_benches" ["_law_purse_here"] (spU K G_m_benches)) (D_m_by_sets : Df P w K mg base 2 "_law_by_sets" ["_law_names_here", "_law_behind_here", "_law_benches_here", "_law_turns"] (spP K G_m_by_sets)) (D_m_by_jobs : Df P w K mg base 1 "_law_by_jobs" ["_law_names_here", "_law_behind_here", "_law_benches_here", "_law_turns"] (spP K G_m_by_jobs)) (D_p_counted : Df P w K mg base 4 "counted" ["jobs", "benches", "turns"] (spP K G_p_counted)) (D_m_fits : Df P w K mg base 5 "_law_fits" ["_law_jobs_here", "_law_benches_here", "_law_turns", "_law_dues"] (spP K G_m_fits))
    {f : Addr} {fd : FuncData} (F : FnP K "law" st_m_law f fd) : FnOk P w K mg base CX0 6 f fd ["_law_script"] (spP K G_m_law) := by
  refine fn_pure F sc_m_law (by decide) (fun as r h => by obtain ⟨script, hok, rfl, _⟩ := h; rfl) (fun cdv A outer s H E hr as r h => ?_)
  obtain ⟨script, hok, rfl, rfl⟩ := h
  refine ⟨(fun (m : Bool) => Out.rt (.fz m)) (m_law script), rfl, ?_⟩
  show ES _ [.fz script, .un, .un, .un, .un, .un, .un, .un, .un, .un, .un, .un, .un, .un, .un, .un, .un, .un] _ ((fun (m : Bool) => Out.rt (.fz m)) (pipe (m_jobs (m_purse (m_cell script (0 : Int)) (0 : Int)) (7 : Int)).1.1 fun (names : (List Str)) =>
  (pipe (m_jobs (m_purse (m_cell script (0 : Int)) (0 : Int)) (7 : Int)).1.2 fun (orders : (List (Str × Str))) =>
  (pipe ([orders, (cutX orders none (some ((orders.length : Int) / (2 : Int))))] : (List (List (Str × Str)))) fun (drawn : (List (List (Str × Str)))) =>
  (pipe (given (fun (some : (List (Str × Str))) => true) (fun (some : (List (Str × Str))) => (p_Jobs names some)) drawn) fun (made : (List JobsV)) =>
  (pipe ([] : (List (Tp4 JobsV Int Int (List Int)))) fun (told : (List (Tp4 JobsV Int Int (List Int)))) =>
  (Fl.elim (forFl (m_law_L1 script names drawn made) (rangeL (1 : Int) (if (if (script.ns.length : Int) < (4 : Int) then (script.ns.length : Int) else (4 : Int)) > (3 : Int) then (if (script.ns.length : Int) < (4 : Int) then (script.ns.length : Int) else (4 : Int)) else (3 : Int))) told) (fun (st : (List (Tp4 JobsV Int Int (List Int)))) =>
  true) (fun r => r))))))))
  have hok : (ok_m_cell script (0 : Int)) ∧ (ok_m_purse (m_cell script (0 : Int)) (0 : Int)) ∧ (ok_m_jobs (m_purse (m_cell script (0 : Int)) (0 : Int)) (7 : Int)) ∧ (pipe (m_jobs (m_purse (m_cell script (0 : Int)) (0 : Int)) (7 : Int)).1.1 fun (names : (List Str)) =>
  (pipe (m_jobs (m_purse (m_cell script (0 : Int)) (0 : Int)) (7 : Int)).1.2 fun (orders : (List (Str × Str))) =>
  (pipe ([orders, (cutX orders none (some ((orders.length : Int) / (2 : Int))))] : (List (List (Str × Str)))) fun (drawn : (List (List (Str × Str)))) =>
  (∀ some ∈ drawn, true = true → (ok_p_Jobs names some) ∧ True) ∧ (pipe (given (fun (some : (List (Str × Str))) => true) (fun (some : (List (Str × Str))) => (p_Jobs names some)) drawn) fun (made : (List JobsV)) =>
  (pipe ([] : (List (Tp4 JobsV Int Int (List Int)))) fun (told : (List (Tp4 JobsV Int Int (List Int)))) =>
  (-(2 ^ 62) ≤ (1 : Int) ∧ (1 : Int) < 2 ^ 62 ∧ -(2 ^ 62) ≤ (if (if (script.ns.length : Int) < (4 : Int) then (script.ns.length : Int) else (4 : Int)) > (3 : Int) then (if (script.ns.length : Int) < (4 : Int) then (script.ns.length : Int) else (4 : Int)) else (3 : Int)) ∧ (if (if (script.ns.length : Int) < (4 : Int) then (script.ns.length : Int) else (4 : Int)) > (3 : Int) then (if (script.ns.length : Int) < (4 : Int) then (script.ns.length : Int) else (4 : Int)) else (3 : Int)) < 2 ^ 62) ∧ (∀ (st : (List (Tp4 JobsV Int Int (List Int)))) (k : Int), At (m_law_L1 script names drawn made) (rangeL (1 : Int) (if (if (script.ns.length : Int) < (4 : Int) then (script.ns.length : Int) else (4 : Int)) > (3 : Int) then (if (script.ns.length : Int) < (4 : Int) then (script.ns.length : Int) else (4 : Int)) else (3 : Int))) told st k → (okI drawn (k % (2 : Int))) ∧ (ok_m_behind names (getI drawn (k % (2 : Int)))) ∧ (pipe (m_behind names (getI drawn (k % (2 : Int)))) fun (behind : (Dct Str (Dct Str Bool))) =>
  (ok_m_cell script k) ∧ (ok_m_purse (m_cell script k) k) ∧ (pipe (m_purse (m_cell script k) k) fun (purse : Pu) =>
  (pipe purse fun (purse_1 : Pu) =>
  (ok_m_benches purse_1) ∧ (pipe (m_benches purse_1).1 fun (benches : Int) =>
  (pipe (m_benches purse_1).2 fun (purse_2 : Pu) =>
  (okI ([(41 : Int), (7 : Int)] : (List Int)) (if (decide ((names.length : Int) > (5 : Int))) then (1 : Int) else 0)) ∧ (ok_m_take purse_2 (getI ([(41 : Int), (7 : Int)] : (List Int)) (if (decide ((names.length : Int) > (5 : Int))) then (1 : Int) else 0))) ∧ (pipe (m_take purse_2 (getI ([(41 : Int), (7 : Int)] : (List Int)) (if (decide ((names.length : Int) > (5 : Int))) then (1 : Int) else 0))).1 fun (turns : Int) =>
  (pipe (m_take purse_2 (getI ([(41 : Int), (7 : Int)] : (List Int)) (if (decide ((names.length : Int) > (5 : Int))) then (1 : Int) else 0))).2 fun (purse_3 : Pu) =>
  (ok_m_by_sets names behind benches (if (turns + (1 : Int)) < (40 : Int) then (turns + (1 : Int)) else (40 : Int))) ∧ (pipe (m_by_sets names behind benches (if (turns + (1 : Int)) < (40 : Int) then (turns + (1 : Int)) else (40 : Int))) fun (dues : (List Int)) =>
  (okI dues turns) ∧ (pipe (getI dues turns) fun (plain : Int) =>
  (okIf ((decide ((names.length : Int) < (5 : Int))) && (decide (turns < (6 : Int)))) ((ok_m_by_jobs names behind benches turns) ∧ True) (True)) ∧ (pipe (bif ((decide ((names.length : Int) < (5 : Int))) && (decide (turns < (6 : Int)))) then (pipe (m_by_jobs names behind benches turns) fun (plain_1 : Int) =>
  plain_1) else plain) fun (st_1 : Int) =>
  (okI dues turns) ∧ okIf (!(decide (st_1 = (getI dues turns)))) (True) ((okI made (k % (2 : Int))) ∧ (st.length < big) ∧ (pipe (st ++ [(Tp4.mk (getI made (k % (2 : Int))) benches turns dues)]) fun (told_1 : (List (Tp4 JobsV Int Int (List Int)))) =>
  (okI made (k % (2 : Int))) ∧ (ok_m_fits (getI made (k % (2 : Int))) benches turns dues) ∧ okIf (!(m_fits (getI made (k % (2 : Int))) benches turns dues)) (True) ((∀ (st_2 : Unit) (x : (Tp4 JobsV Int Int (List Int))), At m_law_L2 told_1 () st_2 x → (pipe x.a fun (jobs : JobsV) =>
  (pipe x.b fun (wide : Int) =>
  (pipe x.c fun (many : Int) =>
  (pipe x.d fun (due : (List Int)) =>
  (ok_p_counted jobs wide many) ∧ (okI due many) ∧ True))))) ∧
  True)))))))))))))) ∧
  True))))) := hok
  exact es_cons (s_asgG (ps_asg peW pgW) (fUt D_m_jobs (hr.mono (by decide)) (nD D_m_purse (hr.mono (by decide)) (a_cons (fD D_m_cell (hr.mono (by decide)) (a_cons (f_var (pv 0)) (a_cons (RJ.sc (r_int)) (a_nil))) (⟨_, _, (hok.1), rfl, rfl⟩)) (a_cons (RJ.sc (r_int)) (a_nil))) (⟨_, _, (hok.2.1), rfl, rfl⟩)) (a_cons (RJ.sc (r_int)) (a_nil)) (⟨_, (hok.2.2.1), rfl, rfl, rfl⟩)) (g_tup2 (pg_tup rfl (pgs_cons (pg_name (i := 1) sc_m_law.nd rfl (.inr rfl)) (pgs_cons (pg_name (i := 2) sc_m_law.nd rfl (.inl rfl)) pgs_nil))) ⟨Nat.le_of_ble_eq_true rfl, Nat.le_of_ble_eq_true rfl⟩))
     (es_gen (k := (fun (m : Bool) => Out.rt (.fz m))) (fun (names : (List Str)) => [.fz script, .fz names, .fz (m_jobs (m_purse (m_cell script (0 : Int)) (0 : Int)) (7 : Int)).1.2, .un, .un, .un, .un, .un, .un, .un, .un, .un, .un, .un, .un, .un, .un, .un]) fun names h =>
     have ok := ok_gen hok.2.2.2 h; es_gen (k := (fun (m : Bool) => Out.rt (.fz m))) (fun (orders : (List (Str × Str))) => [.fz script, .fz names, .fz orders, .un, .un, .un, .un, .un, .un, .un, .un, .un, .un, .un, .un, .un, .un, .un]) fun orders h_1 =>
     have ok_1 := ok_gen ok h_1; es_cons (s_asg (ps_set (i := 3) sc_m_law.nd rfl (.inl rfl) peW) (NJ.frz (n_disp (α := (List (Str × Str))) (la_cons (f_var (pv 2)) (la_cons (NJ.frz (n_slice ((f_var (pv 2)).lr) .no (.some (r_div ⟨by decide, by decide +kernel⟩ (r_len (by rfl) B.n_len (FJ.rd (f_var (pv 2)))) (r_int))))) (la_nil))))))
     (es_gen (k := (fun (m : Bool) => Out.rt (.fz m))) (fun (drawn : (List (List (Str × Str)))) => [.fz script, .fz names, .fz orders, .fz drawn, .un, .un, .un, .un, .un, .un, .un, .un, .un, .un, .un, .un, .un, .un]) fun drawn h_2 =>
     have ok_2 := ok_gen ok_1 h_2; es_cons (s_asgRdF (ps_lcW (i := 4) (own := [("_law_some", 17)]) rfl sc_m_law.nd rfl rfl (sw_true rfl rfl rfl (by decide +kernel)) (blkOk_by (N := N_m_law) (sc := defScope st_m_law) (by decide +kernel))) (rd_lc (vs := [17]) (est := fun some => [.fz script, .fz names, .fz orders, .fz drawn, .un, .un, .un, .un, .un, .un, .un, .un, .un, .un, .un, .un, .un, .fz some]) (p := fun (some : (List (Str × Str))) => true) (g := fun (some : (List (Str × Str))) => (p_Jobs names some)) (h_list ((f_var (pv 3)).lr)) rfl (fun _ _ _ _ _ some => ct_name (pg_name (i := 17) sc_m_law.nd rfl (Or.inl rfl)) (by decide) (Nat.le_of_ble_eq_true rfl)) (fun _ _ _ _ _ some hx => if_nil) (fun _ _ _ _ _ some hx hp => fMk D_p_Jobs (hr.mono (by decide)) (a_cons (NJ.frz (n_listof (by rfl) B.n_list ((f_var (pv 1)).lr))) (a_cons (NJ.frz (n_listof (by rfl) B.n_list ((f_var (pv 17)).lr))) (a_nil))) ⟨_, _, (((ok_2.1) some hx hp).1), rfl, rfl, rfl, rfl⟩)))
     (es_gen (k := (fun (m : Bool) => Out.rt (.fz m))) (fun (made : (List JobsV)) => [.fz script, .fz names, .fz orders, .fz drawn, .fz made, .un, .un, .un, .un, .un, .un, .un, .un, .un, .un, .un, .un, .un]) fun made h_3 =>
     have ok_3 := ok_gen ok_2.2 h_3; es_cons (s_asgN (ps_set (i := 5) sc_m_law.nd rfl (.inl rfl) peW) (n_disp (α := (Tp4 JobsV Int Int (List Int))) (la_nil)))
     (es_gen (k := (fun (m : Bool) => Out.rt (.fz m))) (fun (told : (List (Tp4 JobsV Int Int (List Int)))) => [.fz script, .fz names, .fz orders, .fz drawn, .fz made, .ow told, .un, .un, .un, .un, .un, .un, .un, .un, .un, .un, .un, .un]) fun told h_4 =>
     have ok_4 := ok_gen ok_3 h_4; es_seq (k := (fun (m : Bool) => Out.rt (.fz m))) (esf := (fun (st : (List (Tp4 JobsV Int Int (List Int)))) => [.fz script, .fz names, .fz orders, .fz drawn, .fz made, .ow st, .un, .un, .un, .un, .un, .un, .un, .un, .un, .un, .un, .un])) (kr := fun r => (fun (m : Bool) => Out.rt (.fz m)) r) (rr := fun r => r) (s_for (tst := PassesOwn.never) (esf := (fun (st : (List (Tp4 JobsV Int Int (List Int)))) => [.fz script, .fz names, .fz orders, .fz drawn, .fz made, .ow st, .un, .un, .un, .un, .un, .un, .un, .un, .un, .un, .un, .un])) (est := fun st k => [.fz script, .fz names, .fz orders, .fz drawn, .fz made, .ow st, .fz k, .un, .un, .un, .un, .un, .un, .un, .un, .un, .un, .un]) (g := (m_law_L1 script names drawn made)) (y0 := told) (kr := fun r => (fun (m : Bool) => Out.rt (.fz m)) r) rfl (i_range2 (by rfl) B.n_range (ok_4.1) (RJ.xs (r_int)) (RJ.xs (r_max2 (by rfl) (by rfl) B.n_max (r_int) (r_min2 (by rfl) (by rfl) B.n_min (r_int) (r_lenScr (by rfl) B.n_len (FJ.rd (f_var (pv 0)))))))) (fun st k => g_name (pg_name (i := 6) sc_m_law.nd rfl (.inl rfl)) (Nat.le_of_ble_eq_true rfl)) (fun _ => by first | rfl | exact ruO_rets)
     (fun st k hat => have ok_5 := ok_4.2.1 st k hat; es_cons (s_asg (ps_set (i := 7) sc_m_law.nd rfl (.inl rfl) peW) (fD D_m_behind (hr.mono (by decide)) (a_cons (f_var (pv 1)) (a_cons (f_ix (ok_5.1) (f_var (pv 3)) (r_mod (by decide) (r_var (pv 6)) (r_int))) (a_nil))) (⟨_, _, (ok_5.2.1), rfl, rfl⟩)))
     (es_gen (k := (flO (fun (st : (List (Tp4 JobsV Int Int (List Int)))) => [.fz script, .fz names, .fz orders, .fz drawn, .fz made, .ow st, .un, .un, .un, .un, .un, .un, .un, .un, .un, .un, .un, .un]) (fun r => (fun (m : Bool) => Out.rt (.fz m)) r))) (fun (behind : (Dct Str (Dct Str Bool))) => [.fz script, .fz names, .fz orders, .fz drawn, .fz made, .ow st, .fz k, .fz behind, .un, .un, .un, .un, .un, .un, .un, .un, .un, .un]) fun behind h_5 =>
     have ok_6 := ok_gen ok_5.2.2 h_5; es_cons (s_asgN (ps_set (i := 8) sc_m_law.nd rfl (.inl rfl) peW) (nD D_m_purse (hr.mono (by decide)) (a_cons (fD D_m_cell (hr.mono (by decide)) (a_cons (f_var (pv 0)) (a_cons (RJ.sc (r_var (pv 6))) (a_nil))) (⟨_, _, (ok_6.1), rfl, rfl⟩)) (a_cons (RJ.sc (r_var (pv 6))) (a_nil))) (⟨_, _, (ok_6.2.1), rfl, rfl⟩)))
     (es_gen (k := (flO (fun (st : (List (Tp4 JobsV Int Int (List Int)))) => [.fz script, .fz names, .fz orders, .fz drawn, .fz made, .ow st, .un, .un, .un, .un, .un, .un, .un, .un, .un, .un, .un, .un]) (fun r => (fun (m : Bool) => Out.rt (.fz m)) r))) (fun (purse : Pu) => [.fz script, .fz names, .fz orders, .fz drawn, .fz made, .ow st, .fz k, .fz behind, .ow purse, .un, .un, .un, .un, .un, .un, .un, .un, .un]) fun purse h_6 =>
     have ok_7 := ok_gen ok_6.2.2 h_6; es_gen (k := (flO (fun (st : (List (Tp4 JobsV Int Int (List Int)))) => [.fz script, .fz names, .fz orders, .fz drawn, .fz made, .ow st, .un, .un, .un, .un, .un, .un, .un, .un, .un, .un, .un, .un]) (fun r => (fun (m : Bool) => Out.rt (.fz m)) r))) (fun (purse_1 : Pu) => [.fz script, .fz names, .fz orders, .fz drawn, .fz made, .ow st, .fz k, .fz behind, .ow purse_1, .un, .un, .un, .un, .un, .un, .un, .un, .un]) fun purse_1 h_7 =>
     have ok_8 := ok_gen ok_7 h_7; es_cons (s_asgX (ps_set (i := 9) sc_m_law.nd rfl (.inl rfl) peW) (xU D_m_benches (hr.mono (by decide)) (pv 8) (xa_nil) .ow rfl .ow rfl (⟨(), (ok_8.1), rfl, rfl, rfl⟩)))
     (es_gen (k := (flO (fun (st : (List (Tp4 JobsV Int Int (List Int)))) => [.fz script, .fz names, .fz orders, .fz drawn, .fz made, .ow st, .un, .un, .un, .un, .un, .un, .un, .un, .un, .un, .un, .un]) (fun r => (fun (m : Bool) => Out.rt (.fz m)) r))) (fun (benches : Int) => [.fz script, .fz names, .fz orders, .fz drawn, .fz made, .ow st, .fz k, .fz behind, .ow (m_benches purse_1).2, .fz benches, .un, .un, .un, .un, .un, .un, .un, .un]) fun benches h_8 =>
     have ok_9 := ok_gen ok_8.2 h_8; es_gen (k := (flO (fun (st : (List (Tp4 JobsV Int Int (List Int)))) => [.fz script, .fz names, .fz orders, .fz drawn, .fz made, .ow st, .un, .un, .un, .un, .un, .un, .un, .un, .un, .un, .un, .un]) (fun r => (fun (m : Bool) => Out.rt (.fz m)) r))) (fun (purse_2 : Pu) => [.fz script, .fz names, .fz orders, .fz drawn, .fz made, .ow st, .fz k, .fz behind, .ow purse_2, .fz benches, .un, .un, .un, .un, .un, .un, .un, .un]) fun purse_2 h_9 =>
     have ok_10 := ok_gen ok_9 h_9; es_cons (s_asgX (ps_set (i := 10) sc_m_law.nd rfl (.inl rfl) peW) (xU D_m_take (hr.mono (by decide)) (pv 8) (xa_cons (FJ.x (f_ix (ok_10.1) (NJ.frz (n_disp (α := Int) (la_cons (RJ.sc (r_int)) (la_cons (RJ.sc (r_int)) (la_nil))))) (r_intB (by rfl) B.n_int (r_gt (r_len (by rfl) B.n_len (FJ.rd (f_var (pv 1)))) (r_int))))) (xa_nil)) .ow rfl .ow rfl (⟨_, (ok_10.2.1), rfl, rfl, rfl⟩)))
     (es_gen (k := (flO (fun (st : (List (Tp4 JobsV Int Int (List Int)))) => [.fz script, .fz names, .fz orders, .fz drawn, .fz made, .ow st, .un, .un, .un, .un, .un, .un, .un, .un, .un, .un, .un, .un]) (fun r => (fun (m : Bool) => Out.rt (.fz m)) r))) (fun (turns : Int) => [.fz script, .fz names, .fz orders, .fz drawn, .fz made, .ow st, .fz k, .fz behind, .ow (m_take purse_2 (getI ([(41 : Int), (7 : Int)] : (List Int)) (if (decide ((names.length : Int) > (5 : Int))) then (1 : Int) else 0))).2, .fz benches, .fz turns, .un, .un, .un, .un, .un, .un, .un]) fun turns h_10 =>
     have ok_11 := ok_gen ok_10.2.2 h_10; es_gen (k := (flO (fun (st : (List (Tp4 JobsV Int Int (List Int)))) => [.fz script, .fz names, .fz orders, .fz drawn, .fz made, .ow st, .un, .un, .un, .un, .un, .un, .un, .un, .un, .un, .un, .un]) (fun r => (fun (m : Bool) => Out.rt (.fz m)) r))) (fun (purse_3 : Pu) => [.fz script, .fz names, .fz orders, .fz drawn, .fz made, .ow st, .fz k, .fz behind, .ow purse_3, .fz benches, .fz turns, .un, .un, .un, .un, .un, .un, .un]) fun purse_3 h_11 =>
     have ok_12 := ok_gen ok_11 h_11; es_cons (s_asg (ps_set (i := 11) sc_m_law.nd rfl (.inl rfl) peW) (NJ.frz (nD D_m_by_sets (hr.mono (by decide)) (a_cons (f_var (pv 1)) (a_cons (f_var (pv 7)) (a_cons (RJ.sc (r_var (pv 9))) (a_cons (RJ.sc (r_min2 (by rfl) (by rfl) B.n_min (r_int) (r_add (r_var (pv 10)) (r_int)))) (a_nil))))) (⟨_, _, _, _, (ok_12.1), rfl, rfl⟩))))
     (es_gen (k := (flO (fun (st : (List (Tp4 JobsV Int Int (List Int)))) => [.fz script, .fz names, .fz orders, .fz drawn, .fz made, .ow st, .un, .un, .un, .un, .un, .un, .un, .un, .un, .un, .un, .un]) (fun r => (fun (m : Bool) => Out.rt (.fz m)) r))) (fun (dues : (List Int)) => [.fz script, .fz names, .fz orders, .fz drawn, .fz made, .ow st, .fz k, .fz behind, .ow purse_3, .fz benches, .fz turns, .fz dues, .un, .un, .un, .un, .un, .un]) fun dues h_12 =>
     have ok_13 := ok_gen ok_12.2 h_12; es_cons (s_asg (ps_set (i := 12) sc_m_law.nd rfl (.inl rfl) peW) (f_ix (ok_13.1) (f_var (pv 11)) (r_var (pv 10))))
     (es_gen (k := (flO (fun (st : (List (Tp4 JobsV Int Int (List Int)))) => [.fz script, .fz names, .fz orders, .fz drawn, .fz made, .ow st, .un, .un, .un, .un, .un, .un, .un, .un, .un, .un, .un, .un]) (fun r => (fun (m : Bool) => Out.rt (.fz m)) r))) (fun (plain : Int) => [.fz script, .fz names, .fz orders, .fz drawn, .fz made, .ow st, .fz k, .fz behind, .ow purse_3, .fz benches, .fz turns, .fz dues, .fz plain, .un, .un, .un, .un, .un]) fun plain h_13 =>
     have ok_14 := ok_gen ok_13.2 h_13; es_cons (s_ifeO (m1 := (pipe (m_by_jobs names behind benches turns) fun (plain_1 : Int) =>
     plain_1)) (m2 := plain) (fun (st_1 : Int) => [.fz script, .fz names, .fz orders, .fz drawn, .fz made, .ow st, .fz k, .fz behind, .ow purse_3, .fz benches, .fz turns, .fz dues, .fz st_1, .un, .un, .un, .un, .un]) (TJ.x (w_t (w_and (t_lt (r_len (by rfl) B.n_len (FJ.rd (f_var (pv 1)))) (r_int)) (fun hb => w_and1 (t_lt (r_var (pv 10)) (r_int)))))) (fun hb_1 => have ok_15 := (ok_14.1).1 hb_1; es_cons (s_asg (ps_set (i := 12) sc_m_law.nd rfl (.inl rfl) peW) (fD D_m_by_jobs (hr.mono (by decide)) (a_cons (f_var (pv 1)) (a_cons (f_var (pv 7)) (a_cons (RJ.sc (r_var (pv 9))) (a_cons (RJ.sc (r_var (pv 10))) (a_nil))))) (⟨_, _, _, _, (ok_15.1), rfl, rfl⟩)))
     (es_gen (k := (nxO (fun (st_1 : Int) => [.fz script, .fz names, .fz orders, .fz drawn, .fz made, .ow st, .fz k, .fz behind, .ow purse_3, .fz benches, .fz turns, .fz dues, .fz st_1, .un, .un, .un, .un, .un]))) (fun (plain_1 : Int) => [.fz script, .fz names, .fz orders, .fz drawn, .fz made, .ow st, .fz k, .fz behind, .ow purse_3, .fz benches, .fz turns, .fz dues, .fz plain_1, .un, .un, .un, .un, .un]) fun plain_1 h_14 =>
     es_nilO ⟨.inr rfl, .inr rfl, .inr rfl, .inr rfl, .inr rfl, .inr rfl, .inr rfl, .inr rfl, .inr rfl, .inr rfl, .inr rfl, .inr rfl, .inr rfl, .inl rfl, .inl rfl, .inl rfl, .inl rfl, .inl rfl, trivial⟩)) (fun hb_1 => es_nilO ⟨.inr rfl, .inr rfl, .inr rfl, .inr rfl, .inr rfl, .inr rfl, .inr rfl, .inr rfl, .inr rfl, .inr rfl, .inr rfl, .inr rfl, .inr rfl, .inl rfl, .inl rfl, .inl rfl, .inl rfl, .inl rfl, trivial⟩))
     (es_gen (k := (flO (fun (st : (List (Tp4 JobsV Int Int (List Int)))) => [.fz script, .fz names, .fz orders, .fz drawn, .fz made, .ow st, .un, .un, .un, .un, .un, .un, .un, .un, .un, .un, .un, .un]) (fun r => (fun (m : Bool) => Out.rt (.fz m)) r))) (fun (st_1 : Int) => [.fz script, .fz names, .fz orders, .fz drawn, .fz made, .ow st, .fz k, .fz behind, .ow purse_3, .fz benches, .fz turns, .fz dues, .fz st_1, .un, .un, .un, .un, .un]) fun st_1 h_15 =>
     have ok_18 := ok_gen ok_14.2 h_15; es_ifr (k := (flO (fun (st : (List (Tp4 JobsV Int Int (List Int)))) => [.fz script, .fz names, .fz orders, .fz drawn, .fz made, .ow st, .un, .un, .un, .un, .un, .un, .un, .un, .un, .un, .un, .un]) (fun r => (fun (m : Bool) => Out.rt (.fz m)) r))) (m1 := (Fl.rt false)) (TJ.x (t_ne (r_var (pv 12)) (FJ.rd (f_ix (ok_18.1) (f_var (pv 11)) (r_var (pv 10)))))) (by first | rfl | exact ruO_ends) (fun hb_2 => es_one (s_ret (ps_ret peW) (RJ.sc (r_bl))))
     (fun hb_2 => have ok_20 := ok_18.2.2 hb_2; es_cons (s_app (α := (Tp4 JobsV Int Int (List Int))) (ps_expr (pe_bm PySem.F.plainAttrs_list PySem.F.slot_list_append PySem.F.type_list_append mt_append (pv 5) (pa_cons peW pa_nil))) (FJ.x (f_tup4 (f_ix (ok_20.1) (f_var (pv 4)) (r_mod (by decide) (r_var (pv 6)) (r_int))) (RJ.sc (r_var (pv 9))) (RJ.sc (r_var (pv 10))) (f_var (pv 11)))) ⟨_, _, rfl, .ow⟩ rfl .ow (ok_20.2.1))
     (es_gen (k := (flO (fun (st : (List (Tp4 JobsV Int Int (List Int)))) => [.fz script, .fz names, .fz orders, .fz drawn, .fz made, .ow st, .un, .un, .un, .un, .un, .un, .un, .un, .un, .un, .un, .un]) (fun r => (fun (m : Bool) => Out.rt (.fz m)) r))) (fun (told_1 : (List (Tp4 JobsV Int Int (List Int)))) => [.fz script, .fz names, .fz orders, .fz drawn, .fz made, .ow told_1, .fz k, .fz behind, .ow purse_3, .fz benches, .fz turns, .fz dues, .fz st_1, .un, .un, .un, .un, .un]) fun told_1 h_16 =>
     have ok_21 := ok_gen ok_20.2.2 h_16; es_ifr (k := (flO (fun (st : (List (Tp4 JobsV Int Int (List Int)))) => [.fz script, .fz names, .fz orders, .fz drawn, .fz made, .ow st, .un, .un, .un, .un, .un, .un, .un, .un, .un, .un, .un, .un]) (fun r => (fun (m : Bool) => Out.rt (.fz m)) r))) (m1 := (Fl.rt false)) (TJ.x (t_not (t_val (FJ.rd (fD D_m_fits (hr.mono (by decide)) (a_cons (f_ix (ok_21.1) (f_var (pv 4)) (r_mod (by decide) (r_var (pv 6)) (r_int))) (a_cons (RJ.sc (r_var (pv 9))) (a_cons (RJ.sc (r_var (pv 10))) (a_cons (f_var (pv 11)) (a_nil))))) (⟨_, _, _, _, (ok_21.2.1), rfl, rfl⟩)))))) (by first | rfl | exact ruO_ends) (fun hb_3 => es_one (s_ret (ps_ret peW) (RJ.sc (r_bl))))
     (fun hb_3 => have ok_23 := ok_21.2.2.2 hb_3; es_seq (k := (flO (fun (st : (List (Tp4 JobsV Int Int (List Int)))) => [.fz script, .fz names, .fz orders, .fz drawn, .fz made, .ow st, .un, .un, .un, .un, .un, .un, .un, .un, .un, .un, .un, .un]) (fun r => (fun (m : Bool) => Out.rt (.fz m)) r))) (esf := (fun (st_2 : Unit) => [.fz script, .fz names, .fz orders, .fz drawn, .fz made, .ow told_1, .fz k, .fz behind, .ow purse_3, .fz benches, .fz turns, .fz dues, .fz st_1, .un, .un, .un, .un, .un])) (kr := fun r => (fun (m : Bool) => Out.rt (.fz m)) r) (rr := fun r => (Fl.rt r)) (s_forO (tst := PassesOwn.never) (i := 5) (esf := (fun (st_2 : Unit) => [.fz script, .fz names, .fz orders, .fz drawn, .fz made, .ow told_1, .fz k, .fz behind, .ow purse_3, .fz benches, .fz turns, .fz dues, .fz st_1, .un, .un, .un, .un, .un])) (est := fun pf st_2 x => [.fz script, .fz names, .fz orders, .fz drawn, .fz made, .ow (Adr.mk pf told_1), .fz k, .fz behind, .ow purse_3, .fz benches, .fz turns, .fz dues, .fz st_1, .fz x.a, .fz x.b, .fz x.c, .fz x.d, .un]) (g := m_law_L2) (y0 := ()) (kr := fun r => (fun (m : Bool) => Out.rt (.fz m)) r) rfl (pv 5) (fun _ => rfl) (fun _ => rfl) (fun pf st_2 x => g_tup4 (pg_tup rfl (pgs_cons (pg_name (i := 13) sc_m_law.nd rfl (.inl rfl)) (pgs_cons (pg_name (i := 14) sc_m_law.nd rfl (.inl rfl)) (pgs_cons (pg_name (i := 15) sc_m_law.nd rfl (.inl rfl)) (pgs_cons (pg_name (i := 16) sc_m_law.nd rfl (.inl rfl)) pgs_nil))))) ⟨Nat.le_of_ble_eq_true rfl, Nat.le_of_ble_eq_true rfl, Nat.le_of_ble_eq_true rfl, Nat.le_of_ble_eq_true rfl⟩) (fun _ => by first | rfl | exact ruO_rets)
     (fun pf st_2 x hat_1 => have ok_24 := ok_23.1 st_2 x hat_1; es_gen (k := (flO (fun (st_2 : Unit) => [.fz script, .fz names, .fz orders, .fz drawn, .fz made, .ow (Adr.mk pf told_1), .fz k, .fz behind, .ow purse_3, .fz benches, .fz turns, .fz dues, .fz st_1, .un, .un, .un, .un, .un]) (fun r => (fun (m : Bool) => Out.rt (.fz m)) r))) (fun (jobs : JobsV) => [.fz script, .fz names, .fz orders, .fz drawn, .fz made, .ow (Adr.mk pf told_1), .fz k, .fz behind, .ow purse_3, .fz benches, .fz turns, .fz dues, .fz st_1, .fz jobs, .fz x.b, .fz x.c, .fz x.d, .un]) fun jobs h_17 =>
     have ok_25 := ok_gen ok_24 h_17; es_gen (k := (flO (fun (st_2 : Unit) => [.fz script, .fz names, .fz orders, .fz drawn, .fz made, .ow (Adr.mk pf told_1), .fz k, .fz behind, .ow purse_3, .fz benches, .fz turns, .fz dues, .fz st_1, .un, .un, .un, .un, .un]) (fun r => (fun (m : Bool) => Out.rt (.fz m)) r))) (fun (wide : Int) => [.fz script, .fz names, .fz orders, .fz drawn, .fz made, .ow (Adr.mk pf told_1), .fz k, .fz behind, .ow purse_3, .fz benches, .fz turns, .fz dues, .fz st_1, .fz jobs, .fz wide, .fz x.c, .fz x.d, .un]) fun wide h_18 =>
     have ok_26 := ok_gen ok_25 h_18; es_gen (k := (flO (fun (st_2 : Unit) => [.fz script, .fz names, .fz orders, .fz drawn, .fz made, .ow (Adr.mk pf told_1), .fz k, .fz behind, .ow purse_3, .fz benches, .fz turns, .fz dues, .fz st_1, .un, .un, .un, .un, .un]) (fun r => (fun (m : Bool) => Out.rt (.fz m)) r))) (fun (many : Int) => [.fz script, .fz names, .fz orders, .fz drawn, .fz made, .ow (Adr.mk pf told_1), .fz k, .fz behind, .ow purse_3, .fz benches, .fz turns, .fz dues, .fz st_1, .fz jobs, .fz wide, .fz many, .fz x.d, .un]) fun many h_19 =>
     have ok_27 := ok_gen ok_26 h_19; es_gen (k := (flO (fun (st_2 : Unit) => [.fz script, .fz names, .fz orders, .fz drawn, .fz made, .ow (Adr.mk pf told_1), .fz k, .fz behind, .ow purse_3, .fz benches, .fz turns, .fz dues, .fz st_1, .un, .un, .un, .un, .un]) (fun r => (fun (m : Bool) => Out.rt (.fz m)) r))) (fun (due : (List Int)) => [.fz script, .fz names, .fz orders, .fz drawn, .fz made, .ow (Adr.mk pf told_1), .fz k, .fz behind, .ow purse_3, .fz benches, .fz turns, .fz dues, .fz st_1, .fz jobs, .fz wide, .fz many, .fz due, .un]) fun due h_20 =>
     have ok_28 := ok_gen ok_27 h_20; es_ifr (k := (flO (fun (st_2 : Unit) => [.fz script, .fz names, .fz orders, .fz drawn, .fz made, .ow (Adr.mk pf told_1), .fz k, .fz behind, .ow purse_3, .fz benches, .fz turns, .fz dues, .fz st_1, .un, .un, .un, .un, .un]) (fun r => (fun (m : Bool) => Out.rt (.fz m)) r))) (m1 := (Fl.rt false)) (TJ.x (t_ne (FJ.rd (fD D_p_counted (hr.mono (by decide)) (a_cons (f_var (pv 13)) (a_cons (RJ.sc (r_var (pv 14))) (a_cons (RJ.sc (r_var (pv 15))) (a_nil)))) (⟨_, _, _, (ok_28.1), rfl, rfl⟩))) (FJ.rd (f_ix (ok_28.2.1) (f_var (pv 16)) (r_var (pv 15)))))) (by first | rfl | exact ruO_ends) (fun hb_4 => es_one (s_ret (ps_ret peW) (RJ.sc (r_bl))))
     (fun hb_4 => (by exact es_nil ⟨.inr rfl, .inr rfl, .inr rfl, .inr rfl, .inr rfl, .inr rfl, .inr rfl, .inr rfl, .inr rfl, .inr rfl, .inr rfl, .inr rfl, .inr rfl, .inl rfl, .inl rfl, .inl rfl, .inl rfl, .inl rfl, trivial⟩)))) (fun _ => by first | rfl | exact ruO_rets) (fun _ => by first | rfl | exact ruO_rets) (fun st_2 h_21 =>
     (by exact es_nil ⟨.inr rfl, .inr rfl, .inr rfl, .inr rfl, .inr rfl, .inr rfl, .inl rfl, .inl rfl, .inl rfl, .inl rfl, .inl rfl, .inl rfl, .inl rfl, .inl rfl, .inl rfl, .inl rfl, .inl rfl, .inl rfl, trivial⟩)))))))))))))) (fun _ => by first | rfl | exact ruO_rets) (fun _ => by first | rfl | exact ruO_rets) (fun st h_22 =>
     es_one (s_ret (ps_ret peW) (RJ.sc (r_bl))))))))
end
end Lw
namespace Lw
open PySem PySem.Spec PyProof.Rows L2 Ly TL
theorem take_eq (p : Pu) (n : Int) : m_take p n = takeV p n := rfl
theorem take_ok (p : Pu) {n : Int} (h : 0 < n) (h2 : n < 2 ^ 250) : ok_m_take p n := by
  unfold ok_m_take
  simp only [pipe_eq]
  exact ⟨fun _ => ⟨h, divW_of h h2, trivial⟩, fun _ => ⟨mod_small _ (by decide) (by decide), h, trivial⟩⟩
theorem take_lt (p : Pu) {n : Int} (h : 0 < n) : 0 ≤ (m_take p n).1 ∧ (m_take p n).1 < n := by
  rw [take_eq]; exact takeV_lt p h
theorem purse_ok (c : Int) {k : Int} (h : -(2 ^ 64) < k ∧ k < 2 ^ 64) : ok_m_purse c k := by
  unfold ok_m_purse
  simp only [pipe_eq]
  exact ⟨.inl h, mod_small _ (by decide) (by decide), trivial⟩
theorem cell_ok (s : Scr) {k : Int} (h : 0 ≤ k) : ok_m_cell s k := by
  refine ⟨fun e => ⟨okI_of h ?_, trivial⟩, trivial⟩
  exact of_decide_eq_true e
abbrev abc : Str := "abcdefghijklmnopqrstuvwxyz"
theorem abc_tl : ∀ c ∈ tl abc, 97 ≤ c ∧ c ≤ 122 := by decide
theorem abc_all : ∀ c : Nat, 97 ≤ c ∧ c ≤ 122 → c ∈ tl abc := by
  intro c h
  have : c < 123 := by omega
  have key : ∀ c < 123, 97 ≤ c → c ∈ tl abc := by decide
  exact key c this h.1
/-- a NAME -/
def good (w : Str) : Prop := 1 ≤ (tl w).length ∧ (tl w).length ≤ 8 ∧ ∀ c ∈ tl w, 97 ≤ c ∧ c ≤ 122
theorem abc_okC (p : Pu) : okC abc (m_take p 26).1 := okC_of (take_lt p (by decide)).1 (take_lt p (by decide)).2
theorem nodup_len {α : Type} [DecidableEq α] : ∀ {l m : List α}, l.Nodup → (∀ x ∈ l, x ∈ m) → l.length ≤ m.length
  | [], m, _, _ => Nat.zero_le _
  | x :: l, m, h, s => by
    have hx := s x List.mem_cons_self
    have h2 := List.nodup_cons.mp h
    have z := nodup_len (l := l) (m := m.erase x) h2.2 fun y hy => (List.mem_erase_of_ne fun e => h2.1 (by rw [← e]; exact hy)).mpr (s y (List.mem_cons_of_mem _ hy))
    rw [List.length_erase_of_mem hx] at z
    have : 0 < m.length := List.length_pos_of_mem hx
    rw [List.length_cons]; omega
end Lw
namespace Lw
open PySem PySem.Spec PyProof.Rows L2 Ly TL
/-! names -/
def IW (k : Nat) (st : Str × Pu) : Prop := (tl st.1).length = k ∧ ∀ c ∈ tl st.1, 97 ≤ c ∧ c ≤ 122
theorem IW_0 (p : Pu) : IW 0 (("" : Str), p) := ⟨rfl, fun c hc => by cases hc⟩
theorem word_step {k : Nat} {st : Str × Pu} {i : Int} (h : IW k st) : IW (k + 1) (m_names_L2 abc st i) := by
  unfold m_names_L2
  simp only [pipe_eq]
  obtain ⟨c, hc, e⟩ := chI_of (abc_okC st.2)
  show (tl (st.1 ++ chI abc (m_take st.2 26).1)).length = k + 1 ∧ ∀ c ∈ tl (st.1 ++ chI abc (m_take st.2 26).1), 97 ≤ c ∧ c ≤ 122
  rw [e, tl_append, tl_sgn]
  refine ⟨by rw [List.length_append, h.1]; rfl, fun d hd => ?_⟩
  rcases List.mem_append.mp hd with hd | hd
  · exact h.2 d hd
  · rw [List.mem_singleton.mp hd]; exact abc_tl c hc
theorem word_len (p : Pu) : 0 ≤ (m_take p 2).1 * (m_take (m_take p 2).2 8).1 ∧ (m_take p 2).1 * (m_take (m_take p 2).2 8).1 ≤ 7 := by
  have t1 := take_lt p (n := 2) (by decide)
  have t2 := take_lt (m_take p 2).2 (n := 8) (by decide)
  generalize (m_take p 2).1 = a at t1
  generalize (m_take (m_take p 2).2 8).1 = b at t2
  have h1 : a * b ≤ 1 * 7 := Int.mul_le_mul (by omega) (by omega) (by omega) (by omega)
  exact ⟨Int.mul_nonneg t1.1 t2.1, by omega⟩
theorem letters_free {found : List Str} (h : found.length < 26) : okI (given (fun (letter : Str) => (!(decide (letter ∈ found)))) (fun (letter : Str) => letter) (signsOf abc)) 0 := by
  have e : (signsOf abc).length = 26 := rfl
  have nd : (signsOf abc).Nodup := by decide
  refine okI_of (by decide) ?_
  unfold given
  rw [List.length_map]
  cases q : (signsOf abc).filter fun letter => !(decide (letter ∈ found)) with
  | cons x r => simp
  | nil =>
    have z := nodup_len nd fun x hx => by
      have w := List.filter_eq_nil_iff.mp q x hx
      simpa using w
    omega
theorem letters_get {found : List Str} (h : found.length < 26) : getI (given (fun (letter : Str) => (!(decide (letter ∈ found)))) (fun (letter : Str) => letter) (signsOf abc)) 0 ∉ found ∧ good (getI (given (fun (letter : Str) => (!(decide (letter ∈ found)))) (fun (letter : Str) => letter) (signsOf abc)) 0) := by
  have m := getI_mem (letters_free h)
  generalize getI (given (fun (letter : Str) => (!(decide (letter ∈ found)))) (fun (letter : Str) => letter) (signsOf abc)) 0 = w at m ⊢
  unfold given at m
  obtain ⟨w', m2, rfl⟩ := List.mem_map.mp m
  obtain ⟨h1, h2⟩ := List.mem_filter.mp m2
  refine ⟨by simpa using h2, ?_⟩
  obtain ⟨c, hc, rfl⟩ := List.mem_map.mp h1
  have hc := abc_tl c hc
  refine ⟨Nat.le_refl _, by show 1 ≤ 8; decide, fun d hd => ?_⟩
  have e : d = c := List.mem_singleton.mp hd
  rw [e]; exact hc
def IN (k : Nat) (st : Pu × List Str) : Prop := st.2.length = k ∧ st.2.Nodup ∧ ∀ w ∈ st.2, good w
theorem IN_0 (p : Pu) : IN 0 (p, []) := ⟨rfl, List.nodup_nil, fun w hw => by cases hw⟩
theorem names_step {k : Nat} {st : Pu × List Str} {i : Int} (hk : k < 26) (h : IN k st) : IN (k + 1) (m_names_L1 abc st i) := by
  unfold m_names_L1
  simp only [pipe_eq]
  have t := word_len st.1
  have z := fold_inv IW (g := m_names_L2 abc) (xs := rangeL 0 (1 + ((m_take st.1 2).1 * (m_take (m_take st.1 2).2 8).1))) (n := 0) (IW_0 (m_take (m_take st.1 2).2 8).2) fun k y x _ _ hy => word_step hy
  rw [rangeL_len] at z
  generalize List.foldl (m_names_L2 abc) _ _ = s1 at z ⊢
  have gw : good s1.1 := ⟨by rw [z.1]; omega, by rw [z.1]; omega, z.2⟩
  have key : ∀ w : Str, w ∉ st.2 → good w → IN (k + 1) (s1.2, st.2 ++ [w]) := fun w h1 h2 => by
    refine ⟨by rw [List.length_append, h.1]; rfl, ?_, fun v hv => ?_⟩
    · refine List.nodup_append.mpr ⟨h.2.1, by simp, fun a ha b hb => ?_⟩
      rw [List.mem_singleton.mp hb]
      exact fun e => h1 (e ▸ ha)
    · rcases List.mem_append.mp hv with hv | hv
      · exact h.2.2 v hv
      · rw [List.mem_singleton.mp hv]; exact h2
  by_cases c : s1.1 ∈ st.2
  · rw [decide_eq_true c]
    have z2 := letters_get (found := st.2) (by rw [h.1]; exact hk)
    exact key _ z2.1 z2.2
  · rw [decide_eq_false c]
    exact key _ c gw
theorem names_good (p : Pu) {n : Int} (h : 0 ≤ n ∧ n ≤ 26) : (m_names p n).1.length = n.toNat ∧ (m_names p n).1.Nodup ∧ ∀ w ∈ (m_names p n).1, good w := by
  unfold m_names
  simp only [pipe_eq]
  have z := fold_inv (fun k st => k ≤ 26 → IN k st) (g := m_names_L1 abc) (xs := rangeL 0 n) (y := (p, [])) (n := 0) (fun _ => IN_0 p) fun k y x _ hk hy h2 => names_step (by omega) (hy (by omega))
  rw [rangeL_len] at z
  obtain ⟨z1, z2, z3⟩ := z (by omega)
  exact ⟨by rw [z1]; omega, z2, z3⟩
theorem names_ok (p : Pu) {n : Int} (h : 0 ≤ n ∧ n ≤ 26) : ok_m_names p n := by
  unfold ok_m_names
  simp only [pipe_eq]
  refine ⟨⟨by omega, by omega⟩, fun st k hat => ?_, trivial⟩
  obtain ⟨_, n1, hn1, _, i1⟩ := atF_inv (fun k st => k ≤ 26 → IN k st) hat (fun _ => IN_0 p) fun k y x _ hk hy h2 => names_step (by omega) (hy (by omega))
  rw [rangeL_len] at hn1
  have i1 := i1 (by omega)
  have t := word_len st.1
  refine ⟨take_ok _ (by decide) (by decide), take_ok _ (by decide) (by decide), ?_, ⟨by omega, by omega⟩, fun st3 i hat3 => ?_, ?_, ?_, trivial⟩
  · have t1 := take_lt st.1 (n := 2) (by decide)
    exact .inl ⟨by omega, by omega⟩
  · obtain ⟨_, n3, hn3, _, i3⟩ := atF_inv IW hat3 (IW_0 _) fun k y x _ _ hy => word_step hy
    rw [rangeL_len] at hn3
    refine ⟨take_ok _ (by decide) (by decide), abc_okC _, ?_, trivial⟩
    obtain ⟨c, hc, e⟩ := chI_of (abc_okC st3.2)
    rw [len_app, strlen, i3.1, e]
    show _ + 1 ≤ _
    have : sbig = 900000 := rfl
    omega
  · exact ⟨fun _ => ⟨letters_free (by rw [i1.1]; omega), trivial⟩, fun _ => trivial⟩
  · rw [i1.1]; show _ < 1000000; omega
end Lw
namespace Lw
open PySem PySem.Spec PyProof.Rows L2 Ly TL
/-! plain lemmas, used in several laws -/
abbrev B60 : Int := 1000000000000000000000000000000000000000000000000000000000000
theorem e60 : ((10 : Int) ^ (60 : Int).toNat) = B60 := by decide +kernel
theorem take_snoc {α : Type} {ns : List α} {k : Nat} {x : α} (h : ns[k]? = some x) : ns.take (k + 1) = ns.take k ++ [x] := by
  rw [List.take_succ, h]; rfl
theorem nodup_fresh {ns : List Str} (nd : ns.Nodup) {k : Nat} {x : Str} (h : ns[k]? = some x) : x ∉ ns.take k := by
  have z : (ns.take (k + 1)).Nodup := nd.sublist (List.take_sublist _ _)
  rw [take_snoc h] at z
  exact fun e => (List.nodup_append.mp z).2.2 x e x (List.mem_singleton.mpr rfl) rfl
theorem fold_at {β α : Type} {g : β → α → β} {xs : List α} (I : Nat → β → Prop) {y : β} (h0 : I 0 y) (hs : ∀ k y x, xs[k]? = some x → I k y → I (k + 1) (g y x)) : ∀ n, n ≤ xs.length → I n ((xs.take n).foldl g y)
  | 0, _ => h0
  | n + 1, hn => by
    have hx : xs[n]? = some (xs[n]'hn) := List.getElem?_eq_getElem hn
    rw [take_snoc hx, List.foldl_append]
    exact hs n _ _ hx (fold_at I h0 hs n (by omega))
theorem fold_end {β α : Type} {g : β → α → β} {xs : List α} (I : Nat → β → Prop) {y : β} (h0 : I 0 y) (hs : ∀ k y x, xs[k]? = some x → I k y → I (k + 1) (g y x)) : I xs.length (xs.foldl g y) := by
  have z := fold_at I h0 hs xs.length (Nat.le_refl _)
  rw [List.take_length] at z; exact z
theorem atF_at {β α : Type} {g : β → α → β} {xs : List α} (I : Nat → β → Prop) {y0 y : β} {x : α} (h : AtF g xs y0 y x) (h0 : I 0 y0) (hs : ∀ k y x, xs[k]? = some x → I k y → I (k + 1) (g y x)) : ∃ k, xs[k]? = some x ∧ I k y := by
  obtain ⟨pre, post, e, h⟩ := h
  subst e
  have z := fold_at I h0 hs pre.length (by rw [List.length_append]; omega)
  rw [List.take_left] at z
  exact ⟨pre.length, by simp, h ▸ z⟩
theorem mem_signs {z w : Str} (h : w ∈ signsOf z) : ∃ c ∈ tl z, w = sgn c := by
  obtain ⟨c, hc, e⟩ := List.mem_map.mp h
  exact ⟨c, hc, e.symm⟩
theorem wh_ends {β ρ : Type} {c : β → Bool} {g : β → Fl β ρ} {ok : β → Prop} (I : Nat → β → Prop) (h : ∀ k y, I k y → c y = true → ok y ∧ ∃ z, g y = .nx z ∧ ∃ j, j < k ∧ I j z) : ∀ (n k : Nat) (y : β), I k y → k < n → whOk c g ok n y ∧ ∃ z j, whFl c g n y = .nx z ∧ I j z ∧ c z = false
  | 0, k, y, _, hk => by omega
  | n + 1, k, y, hi, hk => by
    cases q : c y with
    | false => exact ⟨fun e => (by rw [q] at e; cases e), y, k, by unfold whFl; rw [q]; rfl, hi, q⟩
    | true =>
      obtain ⟨o, z, e, j, hj, hz⟩ := h k y hi q
      obtain ⟨r1, z2, j2, r2, r3⟩ := wh_ends I h n j z hz (by omega)
      refine ⟨fun _ => ⟨o, fun z' e' => ?_⟩, z2, j2, ?_, r3⟩
      · rw [e] at e'; cases e'; exact r1
      · unfold whFl
        rw [q, if_pos rfl, e]
        exact r2
theorem more {b : Int} (hb : 1 ≤ b ∧ b < B60) : b ≤ (if (b + (1 : Int)) < (((10 : Int) ^ (60 : Int).toNat) - (1 : Int)) then (b + (1 : Int)) else (((10 : Int) ^ (60 : Int).toNat) - (1 : Int))) ∧ (if (b + (1 : Int)) < (((10 : Int) ^ (60 : Int).toNat) - (1 : Int)) then (b + (1 : Int)) else (((10 : Int) ^ (60 : Int).toNat) - (1 : Int))) < 2 ^ 250 := by
  rw [e60]
  have e : B60 < 2 ^ 250 := by decide +kernel
  split <;> omega
end Lw
namespace Lw
open PySem PySem.Spec PyProof.Rows L2 Ly TL
/-! the pairs of places -/
def PP (n : Int) (ps : List (Int × Int)) : Prop := ∀ x ∈ ps, 0 ≤ x.1 ∧ x.1 < x.2 ∧ x.2 < n
theorem PP.add {n : Int} {ps qs : List (Int × Int)} (h : PP n ps) (h2 : PP n qs) : PP n (ps ++ qs) := fun x hx => by
  rcases List.mem_append.mp hx with c | c
  · exact h x c
  · exact h2 x c
theorem PP.one {n a b : Int} (h : 0 ≤ a ∧ a < b ∧ b < n) : PP n [(a, b)] := fun x hx => by
  rw [List.mem_singleton.mp hx]; exact h
theorem lrep1 {α : Type} (x : α) (c : Bool) : lrep [x] (if c then (1 : Int) else 0) = (if c then [x] else []) := by
  cases c <;> rfl
theorem int01 (c : Bool) : 0 ≤ (if c then (1 : Int) else 0) ∧ (if c then (1 : Int) else 0) ≤ 1 := by cases c <;> decide
theorem pp_rep {n a b : Int} {far : Int} (h : far > 0 → 0 ≤ a ∧ a < b ∧ b < n) : PP n (lrep ([(a, b)] : List (Int × Int)) (if (decide (far > (0 : Int))) then (1 : Int) else 0)) ∧ (lrep ([(a, b)] : List (Int × Int)) (if (decide (far > (0 : Int))) then (1 : Int) else 0)).length ≤ 1 := by
  rw [lrep1]
  by_cases c : far > 0
  · rw [decide_eq_true c]
    exact ⟨PP.one (h c), Nat.le_refl _⟩
  · rw [decide_eq_false c]
    exact ⟨fun x hx => (by cases hx), Nat.zero_le _⟩
/-- the inner loop: k steps gone -/
def I2 (n : Int) (b k : Nat) (st : List (Int × Int) × Pu) : Prop := PP n st.1 ∧ st.1.length ≤ b + k
theorem pairs2_step {n way thin j i : Int} {b k : Nat} {st : List (Int × Int) × Pu} (hj : j < n) (hi : 0 ≤ i ∧ i < j) (h : I2 n b k st) : I2 n b (k + 1) (m_pairs_L2 way thin j st i) := by
  unfold m_pairs_L2
  simp only [pipe_eq]
  cases (((!(decide (way = (3 : Int)))) || (decide (((i / thin) + (1 : Int)) = (j / thin)))) && (decide ((decide ((m_take st.2 thin).1 = (0 : Int))) = (!(decide (way = (3 : Int))))))) with
  | true =>
    refine ⟨h.1.add (PP.one ⟨hi.1, hi.2, hj⟩), ?_⟩
    show (st.1 ++ [(i, j)]).length ≤ _
    rw [List.length_append]
    have := h.2
    show st.1.length + 1 ≤ _
    omega
  | false => exact ⟨h.1, Nat.le_succ_of_le h.2⟩
/-- the outer loop: places 1 .. k gone -/
def I1 (n : Int) (k : Nat) (st : Pu × List (Int × Int)) : Prop := PP n st.2 ∧ 2 * st.2.length ≤ k * k + 5 * k
theorem sq_step (k : Nat) : (k + 1) * (k + 1) + 5 * (k + 1) = k * k + 5 * k + (2 * k + 6) := by
  rw [Nat.add_mul, Nat.mul_add]; omega
theorem way01 (way j : Int) (hj : 0 ≤ j) : 0 ≤ (j * (if (!(decide (way ∈ ([(1 : Int), (2 : Int)] : (List Int))))) then (1 : Int) else 0)) ∧ (j * (if (!(decide (way ∈ ([(1 : Int), (2 : Int)] : (List Int))))) then (1 : Int) else 0)) ≤ j := by
  cases (!(decide (way ∈ ([(1 : Int), (2 : Int)] : (List Int))))) with
  | true => simp [hj]
  | false => simp [hj]
theorem ifA {n way j : Int} {k : Nat} {st : Pu × List (Int × Int)} (hj : j = 1 + (k : Int)) (hn : j < n) (h : I1 n k st) {s1 : Int × Pu × List (Int × Int)} (f : Int)
    (e1 : (bif (decide (way = (1 : Int))) then ((m_take st.1 ((n - j) + (1 : Int))).1, (m_take st.1 ((n - j) + (1 : Int))).2, (st.2 ++ (lrep ([((j - (1 : Int)), ((j - (1 : Int)) + (m_take st.1 ((n - j) + (1 : Int))).1))] : (List (Int × Int))) (if (decide ((m_take st.1 ((n - j) + (1 : Int))).1 > (0 : Int))) then (1 : Int) else 0)))) else (f, st.1, st.2)) = s1) : PP n s1.2.2 ∧ s1.2.2.length ≤ st.2.length + 1 := by
  subst e1
  by_cases c : way = 1
  · rw [decide_eq_true c]
    have t := take_lt st.1 (n := (n - j) + 1) (by omega)
    have r := pp_rep (n := n) (a := j - 1) (b := (j - 1) + (m_take st.1 ((n - j) + 1)).1) (far := (m_take st.1 ((n - j) + 1)).1) (fun hf => ⟨by omega, by omega, by omega⟩)
    refine ⟨h.1.add r.1, ?_⟩
    show (st.2 ++ _).length ≤ _
    rw [List.length_append]
    have := r.2
    omega
  · rw [decide_eq_false c]; exact ⟨h.1, Nat.le_succ _⟩
theorem ifB {n way j : Int} {b : Nat} {s1 : Int × Pu × List (Int × Int)} (h0 : 1 ≤ j) (hn : j < n) (h : PP n s1.2.2 ∧ s1.2.2.length ≤ b + 1) {s2 : Int × Pu × List (Int × Int)}
    (e2 : (bif (decide (way = (2 : Int))) then ((m_take s1.2.1 (j + (1 : Int))).1, (m_take s1.2.1 (j + (1 : Int))).2, (s1.2.2 ++ (lrep ([((j - (m_take s1.2.1 (j + (1 : Int))).1), j)] : (List (Int × Int))) (if (decide ((m_take s1.2.1 (j + (1 : Int))).1 > (0 : Int))) then (1 : Int) else 0)))) else (s1.1, s1.2.1, s1.2.2)) = s2) : PP n s2.2.2 ∧ s2.2.2.length ≤ b + 2 := by
  subst e2
  by_cases c : way = 2
  · rw [decide_eq_true c]
    have t := take_lt s1.2.1 (n := j + 1) (by omega)
    have r := pp_rep (n := n) (a := j - (m_take s1.2.1 (j + 1)).1) (b := j) (far := (m_take s1.2.1 (j + 1)).1) (fun hf => ⟨by omega, by omega, by omega⟩)
    refine ⟨h.1.add r.1, ?_⟩
    show (s1.2.2 ++ _).length ≤ _
    rw [List.length_append]
    have := r.2
    have := h.2
    omega
  · rw [decide_eq_false c]; exact ⟨h.1, Nat.le_succ_of_le h.2⟩
theorem pairs_step {n way thin j : Int} {k : Nat} {st : Pu × List (Int × Int)} (hj : j = 1 + (k : Int)) (hn : j < n) (h : I1 n k st) : I1 n (k + 1) (m_pairs_L1 n way thin st j) := by
  unfold m_pairs_L1
  simp only [pipe_eq]
  generalize e1 : (bif (decide (way = (1 : Int))) then _ else _) = s1
  have q1 := ifA hj hn h _ e1
  generalize e2 : (bif (decide (way = (2 : Int))) then _ else _) = s2
  have q2 := ifB (by omega) hn q1 e2
  clear e1 e2
  have w := way01 way j (by omega)
  have z := fold_inv (I2 n s2.2.2.length) (g := m_pairs_L2 way thin j) (xs := rangeL 0 (j * (if (!(decide (way ∈ ([(1 : Int), (2 : Int)] : (List Int))))) then (1 : Int) else 0))) (y := (s2.2.2, s2.2.1)) (n := 0) ⟨q2.1, Nat.le_refl _⟩ fun k y x hx _ hy => pairs2_step hn (by have := mem_rangeL.mp hx; omega) hy
  rw [rangeL_len] at z
  refine ⟨z.1, ?_⟩
  have z2 := z.2
  have h2 := h.2
  rw [sq_step]
  show 2 * (List.foldl (m_pairs_L2 way thin j) (s2.2.2, s2.2.1) _).1.length ≤ _
  omega
theorem pairs_good (p : Pu) {n way thin : Int} (h : 0 ≤ n ∧ n ≤ 20) : PP n (m_pairs p n way thin).1 ∧ (m_pairs p n way thin).1.length ≤ 228 := by
  unfold m_pairs
  simp only [pipe_eq]
  have z := fold_end (fun k st => I1 n k st) (g := m_pairs_L1 n way thin) (xs := rangeL 1 n) (y := (p, [])) ⟨fun x hx => (by cases hx), Nat.zero_le _⟩ fun k y x hx hy => by
    have e := rangeL_at hx
    have m := mem_rangeL.mp (List.mem_of_getElem? hx)
    exact pairs_step e m.2 hy
  rw [rangeL_len] at z
  refine ⟨z.1, ?_⟩
  have z2 := z.2
  have k19 : (n - 1).toNat ≤ 19 := by omega
  have sq := Nat.mul_le_mul k19 k19
  omega
theorem pairs_ok (p : Pu) {n way thin : Int} (h : 0 ≤ n ∧ n ≤ 20) (ht : 0 < thin ∧ thin < 1000) : ok_m_pairs p n way thin := by
  unfold ok_m_pairs
  simp only [pipe_eq]
  refine ⟨⟨by decide, by decide, by omega, by omega⟩, fun st j hat => ?_, trivial⟩
  obtain ⟨k, hk, i1⟩ := atF_at (fun k st => I1 n k st) hat ⟨fun x hx => (by cases hx), Nat.zero_le _⟩ fun k y x hx hy => by
    have e := rangeL_at hx
    have m := mem_rangeL.mp (List.mem_of_getElem? hx)
    exact pairs_step e m.2 hy
  have ej := rangeL_at hk
  have mj := mem_rangeL.mp (List.mem_of_getElem? hk)
  have k19 : k ≤ 19 := by omega
  have sq := Nat.mul_le_mul k19 k19
  have L1 : st.2.length ≤ 228 := by have := i1.2; omega
  have big1 : ∀ (a b : Int) (c : Bool) (ps : List (Int × Int)), ps.length ≤ 1000 → (-(2 ^ 63) ≤ (if c then (1 : Int) else 0) ∧ (if c then (1 : Int) else 0) < 2 ^ 63) ∧ (([(a, b)] : List (Int × Int)).length * ((if c then (1 : Int) else 0)).toNat ≤ big) ∧ ((ps ++ (lrep ([(a, b)] : List (Int × Int)) (if c then (1 : Int) else 0))).length ≤ big) ∧ True := fun a b c ps hps => by
    rw [lrep1]
    have bg : big = 1000000 := rfl
    cases c with
    | true =>
      refine ⟨by decide, (show 1 * 1 ≤ 1000000 by decide), ?_, trivial⟩
      show (ps ++ [(a, b)]).length ≤ _
      rw [List.length_append]
      show ps.length + 1 ≤ _
      omega
    | false =>
      refine ⟨by decide, (show 1 * 0 ≤ 1000000 by decide), ?_, trivial⟩
      show (ps ++ []).length ≤ _
      rw [List.append_nil]
      omega
  refine ⟨⟨fun _ => ⟨take_ok _ (by omega) (by omega), big1 _ _ _ _ (by omega)⟩, fun _ => trivial⟩, ?_⟩
  generalize e1 : (bif (decide (way = (1 : Int))) then _ else _) = s1
  have q1 := ifA ej mj.2 i1 _ e1
  refine ⟨⟨fun _ => ⟨take_ok _ (by omega) (by omega), big1 _ _ _ _ (by have := q1.2; omega)⟩, fun _ => trivial⟩, ?_⟩
  generalize e2 : (bif (decide (way = (2 : Int))) then _ else _) = s2
  have q2 := ifB (by omega) mj.2 q1 e2
  clear e1 e2
  have w := way01 way j (by omega)
  refine ⟨.inl ⟨by omega, by omega⟩, ⟨by omega, by omega⟩, fun st3 i hat3 => ?_, trivial⟩
  obtain ⟨mi, k3, hk3, _, i3⟩ := atF_inv (I2 n s2.2.2.length) hat3 ⟨q2.1, Nat.le_refl _⟩ fun k y x hx _ hy => pairs2_step mj.2 (by have := mem_rangeL.mp hx; omega) hy
  rw [rangeL_len] at hk3
  have i32 := i3.2
  have q22 := q2.2
  refine ⟨fun _ => ⟨divW_of ht.1 (by omega), divW_of ht.1 (by omega), trivial⟩, fun _ => ⟨take_ok _ ht.1 (by omega), trivial⟩, fun _ => ⟨?_, trivial⟩, fun _ => trivial⟩
  have bg : big = 1000000 := rfl
  omega
end Lw
namespace Lw
open PySem PySem.Spec PyProof.Rows L2 Ly TL
/-! jobs -/
theorem mem_insI {α : Type} {xs : List α} {k : Int} {y x : α} (h : x ∈ insI xs k y) : x ∈ xs ∨ x = y := by
  unfold insI at h
  rcases List.mem_append.mp h with c | c
  · rcases List.mem_append.mp c with c | c
    · exact .inl (List.mem_of_mem_take c)
    · exact .inr (List.mem_singleton.mp c)
  · exact .inl (List.mem_of_mem_drop c)
theorem nodup_insI {α : Type} {xs : List α} {k : Int} {y : α} (h : xs.Nodup) (hy : y ∉ xs) : (insI xs k y).Nodup := by
  have e : insI xs k y = xs.take k.toNat ++ (y :: xs.drop k.toNat) := by
    unfold insI
    rw [List.append_assoc]
    rfl
  have p : (insI xs k y).Perm (y :: xs) := by
    rw [e]
    refine List.perm_middle.trans ?_
    rw [List.take_append_drop]
  exact p.nodup_iff.mpr (List.nodup_cons.mpr ⟨hy, h⟩)
/-- some told once more -/
def I3 (n : Int) (b k : Nat) (st : List (Int × Int) × Pu) : Prop := PP n st.1 ∧ st.1.length = b + k
theorem jobs1_step {n : Int} {b k : Nat} {st : List (Int × Int) × Pu} {i : Int} (hb : 0 < b) (h : I3 n b k st) : I3 n b (k + 1) (m_jobs_L1 st i) := by
  unfold m_jobs_L1
  simp only [pipe_eq]
  refine ⟨fun x hx => ?_, ?_⟩
  · rcases mem_insI hx with c | c
    · exact h.1 x c
    · rw [c]
      refine h.1 _ (getI_mem ?_)
      have t := take_lt (m_take st.2 ((st.1.length : Int) + 1)).2 (n := (st.1.length : Int)) (by have := h.2; omega)
      exact okI_of t.1 t.2
  · show (insI _ _ _).length = _
    rw [insI_len, h.2]
    rfl
/-- the places, mixed -/
def I4 (k : Nat) (st : List Int × Pu) : Prop := st.1.length = k ∧ st.1.Nodup ∧ ∀ s ∈ st.1, 0 ≤ s ∧ s < (k : Int)
theorem jobs2_step {k : Nat} {st : List Int × Pu} {i : Int} (hi : i = (k : Int)) (h : I4 k st) : I4 (k + 1) (m_jobs_L2 st i) := by
  unfold m_jobs_L2
  simp only [pipe_eq]
  obtain ⟨h1, h2, h3⟩ := h
  refine ⟨?_, nodup_insI h2 fun c => ?_, fun s hs => ?_⟩
  · show (insI _ _ _).length = _
    rw [insI_len, h1]
  · have := (h3 i c).2; omega
  · rcases mem_insI hs with c | c
    · have := h3 s c; omega
    · omega
/-- jobs that go round nowhere -/
structure JG (names : List Str) (orders : List (Str × Str)) : Prop where
  len : names.length ≤ 20
  nd : names.Nodup
  gd : ∀ w ∈ names, good w
  olen : orders.length < 300
  rank : ∃ r : Str → Nat, ∀ x ∈ orders, x.1 ∈ names ∧ x.2 ∈ names ∧ r x.1 < r x.2
def posOf (x : Str) : List Str → Nat
  | [] => 0
  | y :: l => if y = x then 0 else posOf x l + 1
theorem posOf_at {x : Str} : ∀ {l : List Str} {i : Nat}, l.Nodup → l[i]? = some x → posOf x l = i
  | [], i, _, h => by simp at h
  | y :: l, 0, _, h => by
    have e : y = x := by simpa using h
    unfold posOf
    rw [if_pos e]
  | y :: l, i + 1, nd, h => by
    have h2 : l[i]? = some x := by simpa using h
    have z := List.nodup_cons.mp nd
    have ne : y ≠ x := fun e => z.1 (e ▸ List.mem_of_getElem? h2)
    unfold posOf
    rw [if_neg ne, posOf_at z.2 h2]
theorem getI_at {α : Type} [Inhabited α] {xs : List α} {s : Int} (h0 : 0 ≤ s) (h1 : s < xs.length) : xs[s.toNat]? = some (getI xs s) := by
  obtain ⟨k, rfl⟩ : ∃ k : Nat, s = (k : Int) := ⟨s.toNat, by omega⟩
  have hk : k < xs.length := by omega
  rw [getI_nat hk, show ((k : Int)).toNat = k from Int.toNat_natCast k, List.getElem?_eq_getElem hk]
theorem ranked {names : List Str} {spots : List Int} {n : Int} (hn : (names.length : Int) = n) (hl : (spots.length : Int) = n) (nd : names.Nodup) (ns : spots.Nodup) (hs : ∀ s ∈ spots, 0 ≤ s ∧ s < n) {ps : List (Int × Int)} (hp : PP n ps) :
    ∃ r : Str → Nat, ∀ x ∈ ps.map (fun x : Int × Int => ((getI names (getI spots x.1)), (getI names (getI spots x.2)))), x.1 ∈ names ∧ x.2 ∈ names ∧ r x.1 < r x.2 := by
  have inj : ∀ s t : Int, 0 ≤ s → s < n → 0 ≤ t → t < n → getI names s = getI names t → s = t := fun s t a b c d e => by
    have e1 := getI_at (xs := names) a (by omega)
    have e2 := getI_at (xs := names) c (by omega)
    rw [e] at e1
    have e3 : s.toNat = t.toNat := (List.getElem?_inj (show s.toNat < names.length by omega) nd).mp (e1.trans e2.symm)
    omega
  have ndL : (spots.map fun s => getI names s).Nodup := by
    refine List.pairwise_map.mpr (List.Pairwise.imp_of_mem (fun {s t} ms mt ne e => ?_) ns)
    exact ne (inj s t (hs s ms).1 (hs s ms).2 (hs t mt).1 (hs t mt).2 e)
  refine ⟨fun x => posOf x (spots.map fun s => getI names s), fun x hx => ?_⟩
  obtain ⟨y, hy, rfl⟩ := List.mem_map.mp hx
  have p := hp y hy
  have at_ : ∀ i : Int, 0 ≤ i → i < n → getI names (getI spots i) ∈ names ∧ posOf (getI names (getI spots i)) (spots.map fun s => getI names s) = i.toNat := fun i a b => by
    have e1 := getI_at (xs := spots) a (by omega)
    have m := List.mem_of_getElem? e1
    have q := hs _ m
    refine ⟨getI_mem (okI_of q.1 (by omega)), posOf_at ndL ?_⟩
    rw [List.getElem?_map, e1]
    rfl
  obtain ⟨a1, a2⟩ := at_ y.1 p.1 (by omega)
  obtain ⟨b1, b2⟩ := at_ y.2 (by omega) p.2.2
  refine ⟨a1, b1, ?_⟩
  show posOf _ _ < posOf _ _
  rw [a2, b2]
  omega
theorem many0 (p : Pu) {most : Int} (h : 0 ≤ most ∧ most ≤ 20) : 0 ≤ (m_take p (most + 1)).1 ∧ (m_take p (most + 1)).1 ≤ 20 := by
  have t := take_lt p (n := most + 1) (by omega)
  omega
theorem more_steps (ps : List (Int × Int)) (p : Pu) : 0 ≤ ((if (!(decide (ps = ([] : (List (Int × Int)))))) then (1 : Int) else 0) * (m_take p (3 : Int)).1) ∧ ((if (!(decide (ps = ([] : (List (Int × Int)))))) then (1 : Int) else 0) * (m_take p (3 : Int)).1) ≤ 2 ∧ (ps = [] → ((if (!(decide (ps = ([] : (List (Int × Int)))))) then (1 : Int) else 0) * (m_take p (3 : Int)).1) = 0) := by
  have t := take_lt p (n := 3) (by decide)
  by_cases c : ps = []
  · rw [decide_eq_true c]
    simp
  · rw [decide_eq_false c]
    simp [c]
    omega
theorem jobs1_fold {n : Int} {ps : List (Int × Int)} (p : Pu) (h : PP n ps ∧ ps.length ≤ 228) : PP n (List.foldl m_jobs_L1 (ps, (m_take p (3 : Int)).2) (rangeL 0 ((if (!(decide (ps = ([] : (List (Int × Int)))))) then (1 : Int) else 0) * (m_take p (3 : Int)).1))).1 ∧ (List.foldl m_jobs_L1 (ps, (m_take p (3 : Int)).2) (rangeL 0 ((if (!(decide (ps = ([] : (List (Int × Int)))))) then (1 : Int) else 0) * (m_take p (3 : Int)).1))).1.length ≤ 230 := by
  have w := more_steps ps p
  generalize hm : ((if (!(decide (ps = ([] : (List (Int × Int)))))) then (1 : Int) else 0) * (m_take p (3 : Int)).1) = m at w ⊢
  by_cases c : ps = []
  · have e := w.2.2 c
    subst e
    exact ⟨h.1, by have := h.2; show ps.length ≤ 230; omega⟩
  · have z := fold_inv (I3 n ps.length) (g := m_jobs_L1) (xs := rangeL 0 m) (y := (ps, (m_take p (3 : Int)).2)) (n := 0) ⟨h.1, rfl⟩ fun k y x _ _ hy => jobs1_step (List.length_pos_iff.mpr c) hy
    rw [rangeL_len] at z
    refine ⟨z.1, ?_⟩
    rw [z.2]
    have := h.2
    omega
theorem jobs2_fold (p : Pu) {n : Int} (h : 0 ≤ n) : I4 n.toNat (List.foldl m_jobs_L2 (([] : List Int), p) (rangeL 0 n)) := by
  have z := fold_end (fun k st => I4 k st) (g := m_jobs_L2) (xs := rangeL 0 n) (y := (([] : List Int), p)) ⟨rfl, List.nodup_nil, fun s hs => (by cases hs)⟩ fun k y x hx hy => jobs2_step (by have := rangeL_at hx; omega) hy
  rw [rangeL_len] at z
  rw [show n.toNat = (n - 0).toNat from by omega]
  exact z
theorem jobs_good (p : Pu) {most : Int} (h : 0 ≤ most ∧ most ≤ 20) : JG (m_jobs p most).1.1 (m_jobs p most).1.2 := by
  unfold m_jobs
  simp only [pipe_eq]
  have m := many0 p h
  generalize (m_take p (most + 1)).1 = many at m ⊢
  generalize (m_take p (most + 1)).2 = p1
  have ng := names_good p1 (n := many) (by omega)
  generalize (m_names p1 many).1 = names at ng ⊢
  generalize (m_names p1 many).2 = p2
  generalize getI ([(2 : Int), (3 : Int), (4 : Int), (6 : Int), (12 : Int)] : (List Int)) _ = thin
  have pg := pairs_good (m_take (m_take p2 6).2 5).2 (n := many) (way := (m_take p2 6).1) (thin := thin) m
  generalize (m_pairs (m_take (m_take p2 6).2 5).2 many (m_take p2 6).1 thin).1 = ps at pg ⊢
  generalize (m_pairs (m_take (m_take p2 6).2 5).2 many (m_take p2 6).1 thin).2 = p3
  have jf := jobs1_fold p3 pg
  generalize List.foldl m_jobs_L1 _ _ = s1 at jf ⊢
  have sf := jobs2_fold s1.2 m.1
  generalize List.foldl m_jobs_L2 _ _ = s2 at sf ⊢
  obtain ⟨a1, a2, a3⟩ := sf
  refine ⟨by show names.length ≤ 20; omega, ng.2.1, ng.2.2, ?_, ?_⟩
  · rw [given_all, List.length_map]
    have := jf.2
    omega
  · rw [given_all]
    exact ranked (n := many) (by omega) (by omega) ng.2.1 a2 (fun s hs => by have := a3 s hs; omega) jf.1
theorem jobs_ok (p : Pu) {most : Int} (h : 0 ≤ most ∧ most ≤ 20) : ok_m_jobs p most := by
  unfold ok_m_jobs
  simp only [pipe_eq]
  have m := many0 p h
  refine ⟨take_ok _ (by omega) (by omega), ?_⟩
  generalize (m_take p (most + 1)).1 = many at m ⊢
  generalize (m_take p (most + 1)).2 = p1
  have ng := names_good p1 (n := many) (by omega)
  refine ⟨names_ok _ (by omega), ?_⟩
  generalize (m_names p1 many).1 = names at ng ⊢
  generalize (m_names p1 many).2 = p2
  have t5 := take_lt (m_take p2 6).2 (n := 5) (by decide)
  refine ⟨take_ok _ (by decide) (by decide), take_ok _ (by decide) (by decide), okI_of t5.1 t5.2, ?_⟩
  have th : ∀ i : Int, okI ([(2 : Int), (3 : Int), (4 : Int), (6 : Int), (12 : Int)] : (List Int)) i → 0 < getI ([(2 : Int), (3 : Int), (4 : Int), (6 : Int), (12 : Int)] : (List Int)) i ∧ getI ([(2 : Int), (3 : Int), (4 : Int), (6 : Int), (12 : Int)] : (List Int)) i < 1000 := fun i hi => by
    have z := getI_mem hi
    generalize getI ([(2 : Int), (3 : Int), (4 : Int), (6 : Int), (12 : Int)] : (List Int)) i = w at z
    have : ∀ w ∈ ([(2 : Int), (3 : Int), (4 : Int), (6 : Int), (12 : Int)] : (List Int)), 0 < w ∧ w < 1000 := by decide
    exact this w z
  have tt := th _ (okI_of t5.1 t5.2)
  generalize getI ([(2 : Int), (3 : Int), (4 : Int), (6 : Int), (12 : Int)] : (List Int)) _ = thin at tt ⊢
  refine ⟨pairs_ok _ m tt, ?_⟩
  have pg := pairs_good (m_take (m_take p2 6).2 5).2 (n := many) (way := (m_take p2 6).1) (thin := thin) m
  generalize (m_pairs (m_take (m_take p2 6).2 5).2 many (m_take p2 6).1 thin).1 = ps at pg ⊢
  generalize (m_pairs (m_take (m_take p2 6).2 5).2 many (m_take p2 6).1 thin).2 = p3
  have w := more_steps ps p3
  have t3 := take_lt p3 (n := 3) (by decide)
  have i01 := int01 (!(decide (ps = ([] : (List (Int × Int))))))
  have bg : big = 1000000 := rfl
  refine ⟨take_ok _ (by decide) (by decide), .inl ⟨by omega, by omega⟩, ⟨by omega, by omega⟩, fun st k hat => ?_, ?_⟩
  · have ne : ps ≠ [] := fun c => by
      obtain ⟨pre, post, e, _⟩ := hat
      rw [w.2.2 c] at e
      have e2 : rangeL 0 0 = [] := rfl
      rw [e2] at e
      simp at e
    obtain ⟨_, k1, hk1, _, i3⟩ := atF_inv (I3 many ps.length) hat ⟨pg.1, rfl⟩ fun k y x _ _ hy => jobs1_step (List.length_pos_iff.mpr ne) hy
    rw [rangeL_len] at hk1
    have l1 := i3.2
    have l0 := List.length_pos_iff.mpr ne
    have ta := take_lt st.2 (n := (st.1.length : Int) + 1) (by omega)
    have tb := take_lt (m_take st.2 ((st.1.length : Int) + 1)).2 (n := (st.1.length : Int)) (by omega)
    have p2 := pg.2
    exact ⟨take_ok _ (by omega) (by omega), take_ok _ (by omega) (by omega), okI_of tb.1 tb.2, by omega, ⟨by omega, by omega⟩, trivial⟩
  · have jf := jobs1_fold p3 pg
    generalize List.foldl m_jobs_L1 _ _ = s1 at jf ⊢
    refine ⟨⟨by omega, by omega⟩, fun st k hat => ?_, ?_⟩
    · obtain ⟨k1, hk1, i4⟩ := atF_at (fun k st => I4 k st) hat ⟨rfl, List.nodup_nil, fun s hs => (by cases hs)⟩ fun k y x hx hy => jobs2_step (by have := rangeL_at hx; omega) hy
      have e := rangeL_at hk1
      have mk := mem_rangeL.mp (List.mem_of_getElem? hk1)
      have ta := take_lt st.2 (n := k + 1) (by omega)
      exact ⟨take_ok _ (by omega) (by omega), by rw [i4.1]; omega, ⟨by omega, by omega⟩, trivial⟩
    · have sf := jobs2_fold s1.2 m.1
      generalize List.foldl m_jobs_L2 _ _ = s2 at sf ⊢
      obtain ⟨a1, a2, a3⟩ := sf
      refine ⟨fun x hx _ => ?_, trivial⟩
      have px := jf.1 x hx
      have k1 : okI s2.1 x.1 := okI_of px.1 (by omega)
      have k2 : okI s2.1 x.2 := okI_of (by omega) (by omega)
      have m1 := a3 _ (getI_mem k1)
      have m2 := a3 _ (getI_mem k2)
      exact ⟨k1, okI_of m1.1 (by omega), k2, okI_of m2.1 (by omega), trivial⟩
end Lw
namespace Lw
open PySem PySem.Spec PyProof.Rows L2 Ly TL
/-! ways along orders -/
inductive Rch (E : List (Str × Str)) : Str → Str → Prop where
  | one {a b : Str} : (a, b) ∈ E → Rch E a b
  | more {a b c : Str} : Rch E a b → (b, c) ∈ E → Rch E a c
theorem Rch.mono {E E2 : List (Str × Str)} (h : ∀ x ∈ E, x ∈ E2) {a b : Str} (r : Rch E a b) : Rch E2 a b := by
  induction r with
  | one m => exact .one (h _ m)
  | more _ m ih => exact .more ih (h _ m)
theorem Rch.up {E : List (Str × Str)} {r : Str → Nat} (h : ∀ x ∈ E, r x.1 < r x.2) {a b : Str} (w : Rch E a b) : r a < r b := by
  induction w with
  | one m => exact h _ m
  | more _ m ih => exact Nat.lt_trans ih (h _ m)
noncomputable def rb (E : List (Str × Str)) (a b : Str) : Bool := @decide (Rch E a b) (Classical.propDecidable _)
theorem rb_iff {E : List (Str × Str)} {a b : Str} : rb E a b = true ↔ Rch E a b := by
  unfold rb
  exact @decide_eq_true_iff (Rch E a b) (Classical.propDecidable _)
theorem rb_eq {E : List (Str × Str)} {a b : Str} {c : Bool} (h : c = true ↔ Rch E a b) : c = rb E a b := Bool.eq_iff_iff.mpr (h.trans rb_iff.symm)
theorem rb_same {E E2 : List (Str × Str)} (h : ∀ x, x ∈ E ↔ x ∈ E2) (a b : Str) : rb E a b = rb E2 a b :=
  rb_eq (rb_iff.trans ⟨fun r => r.mono fun x hx => (h x).mp hx, fun r => r.mono fun x hx => (h x).mpr hx⟩)
theorem mem_sset {xs : List (Str × Str)} {x : Str × Str} : x ∈ LyT.sset xs ↔ x ∈ xs := by
  unfold LyT.sset
  rw [(srtE_perm _).mem_iff]
  exact LyT.mem_dd
theorem sset_len (xs : List (Str × Str)) : (LyT.sset xs).length ≤ xs.length := by
  unfold LyT.sset
  rw [(srtE_perm _).length_eq]
  exact LyT.dd_len xs
/-- what one job's orders bring -/
theorem add_step (here : Str) (F W : List Str) (x : Str × Str) : p_reached_from_L2 here (F, W) x = if x.1 = here ∧ x.2 ∉ F then (F ++ [x.2], W ++ [x.2]) else (F, W) := by
  unfold p_reached_from_L2
  simp only [pipe_eq]
  by_cases c : x.1 = here
  · by_cases d : x.2 ∈ F
    · simp [c, d]
    · simp [c, d]
  · simp [c]
theorem add_fold (here : Str) : ∀ (E : List (Str × Str)) (F W : List Str), ∃ new, E.foldl (p_reached_from_L2 here) (F, W) = (F ++ new, W ++ new) ∧ (∀ x ∈ new, (here, x) ∈ E ∧ x ∉ F) ∧ new.Nodup ∧ ∀ x, (here, x) ∈ E → x ∈ F ++ new
  | [], F, W => ⟨[], by simp, fun x h => (by cases h), List.nodup_nil, fun x h => (by cases h)⟩
  | y :: E, F, W => by
    rw [List.foldl_cons, add_step]
    by_cases c : y.1 = here ∧ y.2 ∉ F
    · rw [if_pos c]
      obtain ⟨new, e, h1, h2, h3⟩ := add_fold here E (F ++ [y.2]) (W ++ [y.2])
      refine ⟨y.2 :: new, by rw [e]; simp, fun x hx => ?_, List.nodup_cons.mpr ⟨fun m => (h1 _ m).2 (by simp), h2⟩, fun x hx => ?_⟩
      · rcases List.mem_cons.mp hx with q | q
        · rw [q, ← c.1]
          exact ⟨List.mem_cons_self, c.2⟩
        · have z := h1 x q
          exact ⟨List.mem_cons_of_mem _ z.1, fun m => z.2 (List.mem_append_left _ m)⟩
      · rcases List.mem_cons.mp hx with q | q
        · rw [← q]; simp
        · have z := h3 x q
          simp only [List.append_assoc, List.singleton_append] at z
          exact z
    · rw [if_neg c]
      obtain ⟨new, e, h1, h2, h3⟩ := add_fold here E F W
      refine ⟨new, e, fun x hx => ⟨List.mem_cons_of_mem _ (h1 x hx).1, (h1 x hx).2⟩, h2, fun x hx => ?_⟩
      rcases List.mem_cons.mp hx with q | q
      · rw [← q] at c
        have m : x ∈ F := Classical.byContradiction fun n => c ⟨rfl, n⟩
        exact List.mem_append_left _ m
      · exact h3 x q
/-- the search: waiting ones, found ones -/
structure Jn (E : List (Str × Str)) (name : Str) (W F : List Str) : Prop where
  f : ∀ x ∈ F, Rch E name x
  w : ∀ x ∈ W, x = name ∨ x ∈ F
  c : ∀ y, y = name ∨ y ∈ F → y ∈ W ∨ ∀ z, (y, z) ∈ E → z ∈ F
  nd : F.Nodup
  s : ∀ x ∈ F, x ∈ E.map (·.2)
  l : W.length ≤ F.length + 1
theorem Jn.first (E : List (Str × Str)) (name : Str) : Jn E name [name] [] :=
  ⟨fun x h => (by cases h), fun x h => .inl (List.mem_singleton.mp h), fun y h => .inl (by
    rcases h with h | h
    · rw [h]; simp
    · cases h), List.nodup_nil, fun x h => (by cases h), Nat.le_refl _⟩
theorem last_cut {W : List Str} (h : W ≠ []) : W.dropLast ++ [W.getLastD default] = W := by
  have e : W.getLastD default = W.getLast h := by
    rw [List.getLastD_eq_getLast?, List.getLast?_eq_getLast h]
    rfl
  rw [e]
  exact List.dropLast_concat_getLast h
theorem Jn.next {E : List (Str × Str)} {name : Str} {W F : List Str} (j : Jn E name W F) (h : W ≠ []) : ∃ new, E.foldl (p_reached_from_L2 (W.getLastD default)) (F, W.dropLast) = (F ++ new, W.dropLast ++ new) ∧ Jn E name (W.dropLast ++ new) (F ++ new) := by
  have ew := last_cut h
  generalize W.getLastD default = here at ew ⊢
  generalize W.dropLast = W0 at ew ⊢
  subst ew
  obtain ⟨new, e, h1, h2, h3⟩ := add_fold here E F W0
  have rh : ∀ x, (here, x) ∈ E → Rch E name x := fun x hx => by
    rcases j.w here (by simp) with q | q
    · rw [q] at hx; exact .one hx
    · exact .more (j.f _ q) hx
  refine ⟨new, e, fun x hx => ?_, fun x hx => ?_, fun y hy => ?_, List.nodup_append.mpr ⟨j.nd, h2, fun a ha b hb q => (h1 b hb).2 (q ▸ ha)⟩, fun x hx => ?_, ?_⟩
  · rcases List.mem_append.mp hx with q | q
    · exact j.f x q
    · exact rh x (h1 x q).1
  · rcases List.mem_append.mp hx with q | q
    · rcases j.w x (List.mem_append_left _ q) with z | z
      · exact .inl z
      · exact .inr (List.mem_append_left _ z)
    · exact .inr (List.mem_append_right _ q)
  · have old : (y = name ∨ y ∈ F) → y ∈ W0 ++ new ∨ ∀ z, (y, z) ∈ E → z ∈ F ++ new := fun hy => by
      rcases j.c y hy with q | q
      · rcases List.mem_append.mp q with q | q
        · exact .inl (List.mem_append_left _ q)
        · rw [List.mem_singleton.mp q]
          exact .inr fun z hz => h3 z hz
      · exact .inr fun z hz => List.mem_append_left _ (q z hz)
    rcases hy with q | q
    · exact old (.inl q)
    · rcases List.mem_append.mp q with q | q
      · exact old (.inr q)
      · exact .inl (List.mem_append_right _ q)
  · rcases List.mem_append.mp hx with q | q
    · exact j.s x q
    · exact List.mem_map.mpr ⟨_, (h1 x q).1, rfl⟩
  · have z := j.l
    rw [List.length_append] at z ⊢
    rw [List.length_append]
    have z1 : ([here] : List Str).length = 1 := rfl
    omega
theorem Jn.last {E : List (Str × Str)} {name : Str} {F : List Str} (j : Jn E name [] F) (x : Str) : x ∈ F ↔ Rch E name x := by
  refine ⟨j.f x, fun r => ?_⟩
  have cl : ∀ y, y = name ∨ y ∈ F → ∀ z, (y, z) ∈ E → z ∈ F := fun y hy => by
    rcases j.c y hy with q | q
    · cases q
    · exact q
  induction r with
  | one m => exact cl _ (.inl rfl) _ m
  | more _ m ih => exact cl _ (.inr ih) _ m
theorem Jn.few {E : List (Str × Str)} {name : Str} {W F : List Str} (j : Jn E name W F) : F.length ≤ E.length := by
  have z := nodup_len j.nd j.s
  rw [List.length_map] at z
  exact z
theorem ne_of_test {W : List Str} (h : (!(decide (W = ([] : List Str)))) = true) : W ≠ [] := by
  intro e
  rw [decide_eq_true e] at h
  cases h
theorem nil_of_test {W : List Str} (h : (!(decide (W = ([] : List Str)))) = false) : W = [] := by
  by_cases e : W = []
  · exact e
  · rw [decide_eq_false e] at h
    cases h
theorem given_id {α : Type} (p : α → Bool) (xs : List α) : given p (fun x => x) xs = xs.filter p := by
  unfold given
  simp
/-- all that are behind -/
theorem reached (name : Str) (row : List Str) {E : List (Str × Str)} (hE : E.length < 1000) : ok_p_reached_from name row E ∧ p_reached_from name row E = row.filter (rb E name) := by
  have main := wh_ends (c := fun (st : ((List Str) × (List Str))) => (!(decide (st.1 = ([] : (List Str)))))) (g := p_reached_from_L1 E) (ok := fun (st : ((List Str) × (List Str))) => (pipe st.1 fun (waiting_1 : (List Str)) => (pipe st.2 fun (found_1 : (List Str)) => (0 < waiting_1.length) ∧ (pipe (waiting_1.getLastD default) fun (here : Str) =>
      (∀ (st_1 : ((List Str) × (List Str))) (x : (Str × Str)), AtF (p_reached_from_L2 here) E (found_1, waiting_1.dropLast) st_1 x → (pipe st_1.1 fun (found_2 : (List Str)) => (pipe st_1.2 fun (waiting_2 : (List Str)) => (pipe x.1 fun (one : Str) =>
      (pipe x.2 fun (other : Str) =>
      okIf ((decide (one = here)) && (!(decide (other ∈ found_2)))) ((found_2.length < big) ∧ (pipe (found_2 ++ [other]) fun (found_3 : (List Str)) =>
      (waiting_2.length < big) ∧ True)) (True)))))) ∧
      True)))) (fun k st => Jn E name st.1 st.2 ∧ k = (E.length - st.2.length) + st.1.length) (fun k st ⟨j, ek⟩ hc => by
    have hne := ne_of_test hc
    obtain ⟨new, e, j2⟩ := j.next hne
    have few := j.few
    have few2 := j2.few
    have lw := j.l
    have bg : big = 1000000 := rfl
    refine ⟨?_, (st.1.dropLast ++ new, st.2 ++ new), ?_, (E.length - (st.2 ++ new).length) + (st.1.dropLast ++ new).length, ?_, j2, rfl⟩
    · simp only [pipe_eq]
      refine ⟨List.length_pos_iff.mpr hne, fun st1 x hat => ⟨fun _ => ?_, fun _ => trivial⟩, trivial⟩
      obtain ⟨pre, post, ep, ef⟩ := hat
      obtain ⟨nw, e2, n1, n2, _⟩ := add_fold (st.1.getLastD default) pre st.2 st.1.dropLast
      rw [e2] at ef
      rw [← ef]
      have nl := nodup_len n2 (m := E.map (·.2)) fun x hx => List.mem_map.mpr ⟨_, by rw [ep]; exact List.mem_append_left _ (n1 x hx).1, rfl⟩
      rw [List.length_map] at nl
      refine ⟨?_, ?_, trivial⟩
      · show (st.2 ++ nw).length < big
        rw [List.length_append]; omega
      · show (st.1.dropLast ++ nw).length < big
        rw [List.length_append, List.length_dropLast]; omega
    · unfold p_reached_from_L1
      simp only [pipe_eq]
      rw [e]
    · have lp := List.length_pos_iff.mpr hne
      simp only [List.length_append, List.length_dropLast] at few2 ⊢
      omega) 1000000 (E.length + 1) ([name], []) ⟨Jn.first E name, by simp⟩ (by omega)
  obtain ⟨ok, z, k, e, ⟨j, _⟩, hz⟩ := main
  refine ⟨⟨ok, trivial⟩, ?_⟩
  unfold p_reached_from
  simp only [pipe_eq]
  rw [e]
  show given (fun other => decide (other ∈ z.2)) (fun other => other) row = _
  rw [given_id]
  have w0 := nil_of_test hz
  rw [w0] at j
  refine List.filter_congr fun x _ => rb_eq ?_
  rw [decide_eq_true_iff]
  exact j.last x
end Lw
namespace Lw
open PySem PySem.Spec PyProof.Rows L2 Ly TL
theorem name_test {w : Str} (h : good w) : ((!true) || (!(decide ((1 : Int) ≤ (w.length : Int)) && decide ((w.length : Int) ≤ (8 : Int))))) = false := by
  rw [strlen]
  have h1 := h.1
  have h2 := h.2.1
  rw [decide_eq_true (show (1 : Int) ≤ ((tl w).length : Int) by omega), decide_eq_true (show ((tl w).length : Int) ≤ 8 by omega)]
  rfl
theorem name_ok (w : Str) : ok_p_is_name w := by
  refine ⟨fun _ => trivial, fun _ => ⟨fun l hl _ => ?_, trivial⟩⟩
  obtain ⟨c, _, e⟩ := mem_signs hl
  exact ⟨by rw [e, sgnOf_sgn], trivial⟩
theorem name_good {w : Str} (h : good w) : p_is_name w = true := by
  unfold p_is_name
  rw [name_test h, given_all]
  show ((signsOf w).map _).all id = true
  rw [all_id]
  intro b hb
  obtain ⟨l, hl, e⟩ := List.mem_map.mp hb
  obtain ⟨c, hc, e2⟩ := mem_signs hl
  rw [← e, e2, sgnOf_sgn]
  exact decide_eq_true (abc_all c (h.2.2 c hc))
theorem want_names_ok {row : List Str} (hl : row.length ≤ 20) (nd : row.Nodup) (hg : ∀ w ∈ row, good w) : ok_p_want_names row := by
  unfold ok_p_want_names
  simp only [pipe_eq]
  refine ⟨decide_eq_false (by omega), fun st thing hat => ?_, fun st x hat => ?_, trivial⟩
  · obtain ⟨pre, post, e, _⟩ := hat
    have m : thing ∈ row := by rw [e]; simp
    exact ⟨name_ok _, by rw [name_good (hg _ m)]; rfl, trivial⟩
  · obtain ⟨pre, post, e, _⟩ := hat
    have m : x ∈ zipN row := by rw [e]; simp
    obtain ⟨k, hk, ek⟩ := List.getElem_of_mem m
    obtain ⟨z1, z2⟩ := zipN_at (xs := row) (k := k) (by rw [List.getElem?_eq_getElem hk, ek])
    rw [z2, cut_to]
    exact ⟨decide_eq_false (nodup_fresh nd z1), trivial⟩
theorem want_orders_ok {row : List Str} {E : List (Str × Str)} (h : ∀ x ∈ E, x.1 ∈ row ∧ x.2 ∈ row) : ok_p_want_orders row E := by
  unfold ok_p_want_orders
  simp only [pipe_eq]
  refine ⟨fun st x hat => ⟨fun st1 part hat2 => ?_, trivial⟩, trivial⟩
  obtain ⟨pre, post, e, _⟩ := hat
  have m : x ∈ E := by rw [e]; simp
  obtain ⟨pre2, post2, e2, _⟩ := hat2
  have m2 : part ∈ [x.1, x.2] := by
    have e3 : [x.1, x.2] = pre2 ++ part :: post2 := e2
    rw [e3]; simp
  have m3 : part ∈ row := by
    rcases List.mem_cons.mp m2 with q | q
    · rw [q]; exact (h x m).1
    · rw [List.mem_singleton.mp q]; exact (h x m).2
  rw [decide_eq_true m3]
  exact ⟨rfl, trivial⟩
/-! no ring -/
theorem straight_no {name : Str} {E : List (Str × Str)} {left : List Str} (h : ∀ x ∈ E, x.1 = name → x.2 ∉ left) : p_straight_from name E left = none := by
  unfold p_straight_from
  rw [forFl_unit fun x hx => ?_]
  · rfl
  · unfold p_straight_from_L1
    simp only [pipe_eq]
    by_cases c : x.1 = name
    · rw [decide_eq_true c, decide_eq_false (h x hx c)]
      rfl
    · rw [decide_eq_false c]
      rfl
theorem top_of (r : Str → Nat) : ∀ {left : List Str}, left ≠ [] → ∃ m ∈ left, ∀ x ∈ left, r x ≤ r m
  | [], h => absurd rfl h
  | [x], _ => ⟨x, by simp, fun y hy => by rw [List.mem_singleton.mp hy]; exact Nat.le_refl _⟩
  | x :: y :: l, _ => by
    obtain ⟨m, hm, h⟩ := top_of r (left := y :: l) (by simp)
    by_cases c : r x ≤ r m
    · refine ⟨m, List.mem_cons_of_mem _ hm, fun z hz => ?_⟩
      rcases List.mem_cons.mp hz with q | q
      · rw [q]; exact c
      · exact h z q
    · refine ⟨x, by simp, fun z hz => ?_⟩
      rcases List.mem_cons.mp hz with q | q
      · rw [q]; exact Nat.le_refl _
      · have := h z q; omega
theorem filter_less {p : Str → Bool} {m : Str} : ∀ {l : List Str}, m ∈ l → p m = false → (l.filter p).length < l.length
  | x :: l, hm, hp => by
    rcases List.mem_cons.mp hm with e | e
    · subst e
      rw [List.filter_cons_of_neg (by rw [hp]; exact Bool.false_ne_true)]
      exact Nat.lt_succ_of_le (List.length_filter_le _ _)
    · have ih := filter_less e hp
      by_cases c : p x = true
      · rw [List.filter_cons_of_pos c]
        exact Nat.succ_lt_succ ih
      · rw [List.filter_cons_of_neg c]
        exact Nat.lt_succ_of_lt ih
theorem no_ring {names : List Str} {E : List (Str × Str)} (hl : names.length ≤ 20) {r : Str → Nat} (hr : ∀ x ∈ E, r x.1 < r x.2) : ok_p_ring_in names E ∧ p_ring_in names E = none := by
  have main := wh_ends (c := fun (st : ((List Str) × Bool)) => st.2) (g := p_ring_in_L1 E) (ok := fun (st : ((List Str) × Bool)) => True) (fun k st => k = st.1.length + (if st.2 then 1 else 0) ∧ (st.2 = false → st.1 = [])) (fun k st ⟨ek, _⟩ hc => by
    obtain ⟨left, done⟩ := st
    have hd : done = true := hc
    subst hd
    refine ⟨trivial, (left.filter (fun name => !(decide (name ∈ left.filter fun name => !(p_straight_from name E left).isSome))), !(decide ((left.filter fun name => !(p_straight_from name E left).isSome) = ([] : List Str)))), ?_, _, ?_, rfl, ?_⟩
    · unfold p_ring_in_L1
      simp only [pipe_eq, given_id]
    · by_cases c : left = []
      · subst c
        rw [ek]
        exact Nat.zero_lt_one
      · obtain ⟨m, hm, ht⟩ := top_of r c
        have no := straight_no (name := m) (E := E) (left := left) fun x hx e hx2 => by
          have a := hr x hx
          have b := ht _ hx2
          rw [e] at a
          omega
        have me : m ∈ left.filter fun name => !(p_straight_from name E left).isSome := List.mem_filter.mpr ⟨hm, by rw [no]; rfl⟩
        have less := filter_less (p := fun name => !(decide (name ∈ left.filter fun name => !(p_straight_from name E left).isSome))) hm (by rw [decide_eq_true me]; rfl)
        rw [ek]
        have key : ∀ (A : List Str) (B : Bool), A.length < left.length → A.length + (if B = true then 1 else 0) < left.length + 1 := by
          intro A B h
          cases B
          · show A.length + 0 < _
            omega
          · show A.length + 1 < _
            omega
        exact key _ _ less
    · intro e
      have c : left = [] := Classical.byContradiction fun c => by
        obtain ⟨m, hm, ht⟩ := top_of r c
        have no := straight_no (name := m) (E := E) (left := left) fun x hx e hx2 => by
          have a := hr x hx
          have b := ht _ hx2
          rw [e] at a
          omega
        have me : m ∈ left.filter fun name => !(p_straight_from name E left).isSome := List.mem_filter.mpr ⟨hm, by rw [no]; rfl⟩
        have e2 := nil_of_test e
        rw [e2] at me
        cases me
      subst c
      rfl) 1000000 (names.length + 1) (names, true) ⟨rfl, fun e => (by cases e)⟩ (by omega)
  obtain ⟨ok, z, k, e, ⟨_, hz0⟩, hz⟩ := main
  have z0 := hz0 hz
  refine ⟨⟨ok, fun st hst => ?_⟩, ?_⟩
  · rcases hst with q | q
    · rw [show whFl _ _ _ _ = _ from e] at q
      cases q
      exact ⟨decide_eq_true z0, trivial⟩
    · rw [show whFl _ _ _ _ = _ from e] at q
      cases q
  · unfold p_ring_in
    simp only [pipe_eq]
    rw [e]
    show (bif decide (z.1 = []) then none else default) = none
    rw [decide_eq_true z0]
    rfl
/-! jobs, made -/
structure JM (names : List Str) (E : List (Str × Str)) (j : JobsV) : Prop where
  row : j.row = names
  pairs : j.pairs = LyT.sset E
  later : ∀ n ∈ names, look j.later.l n = some (names.filter (rb E n))
def LK (names : List Str) (E : List (Str × Str)) (k : Nat) (d : Dct Str (List Str)) : Prop := d.l.length ≤ k ∧ ∀ n ∈ names.take k, look d.l n = some (names.filter (rb E n))
theorem later_step {names : List Str} {E : List (Str × Str)} (hE : E.length < 300) {k : Nat} {d : Dct Str (List Str)} {name : Str} (hk : names[k]? = some name) (h : LK names E k d) : LK names E (k + 1) (p_Jobs_L names (LyT.sset E) d name) := by
  have z := (reached name names (E := LyT.sset E) (by have := sset_len E; omega)).2
  unfold p_Jobs_L
  rw [z]
  refine ⟨Nat.le_trans (putL_len _ _ _) (Nat.succ_le_succ h.1), fun n hn => ?_⟩
  show look (putL d.l name _) n = _
  rw [look_putL]
  have same : names.filter (rb (LyT.sset E) name) = names.filter (rb E name) := List.filter_congr fun x _ => rb_same (fun x => mem_sset) _ _
  by_cases c : n = name
  · rw [if_pos c, c, same]
  · rw [if_neg c]
    rw [take_snoc hk] at hn
    rcases List.mem_append.mp hn with q | q
    · exact h.2 n q
    · exact absurd (List.mem_singleton.mp q) c
theorem jobs_made {names : List Str} {E : List (Str × Str)} (g : JG names E) : ok_p_Jobs names E ∧ JM names E (p_Jobs names E) := by
  obtain ⟨r, hr⟩ := g.rank
  have nr := no_ring (names := names) (E := E) g.len fun x hx => (hr x hx).2.2
  have ol := g.olen
  have z0 : LK names E 0 (Dct.mk []) := ⟨Nat.le_refl _, fun n hn => (by cases hn)⟩
  refine ⟨⟨want_names_ok g.len g.nd g.gd, want_orders_ok fun x hx => ⟨(hr x hx).1, (hr x hx).2.1⟩, nr.1, ?_, ol, fun d name hat => ?_, trivial⟩, rfl, rfl, ?_⟩
  · show (p_ring_in names E).isSome = false
    rw [nr.2]
    rfl
  · obtain ⟨k, hk, h⟩ := atF_at (fun k d => LK names E k d) hat z0 fun k y x hx hy => later_step ol hx hy
    have kl : k < names.length := (List.getElem?_eq_some_iff.mp hk).1
    have nl := g.len
    have bg : big = 1000000 := rfl
    exact ⟨by have := h.1; omega, (reached name names (E := LyT.sset E) (by have := sset_len E; omega)).1⟩
  · have z := fold_end (fun k d => LK names E k d) (g := p_Jobs_L names (LyT.sset E)) (xs := names) z0 fun k y x hx hy => later_step ol hx hy
    intro n hn
    exact z.2 n (by rw [List.take_length]; exact hn)
theorem JM.get {names : List Str} {E : List (Str × Str)} {j : JobsV} (h : JM names E j) {n : Str} (hn : n ∈ names) : hasD j.later n = true ∧ getD j.later n = names.filter (rb E n) := by
  unfold hasD getD
  rw [h.later n hn]
  exact ⟨rfl, rfl⟩
theorem JM.wok {names : List Str} {E : List (Str × Str)} {j : JobsV} (h : JM names E j) {n : Str} (hn : n ∈ names) : ok_p_Jobs_want j n := by
  unfold ok_p_Jobs_want
  rw [h.row, decide_eq_true hn]
  exact ⟨rfl, trivial⟩
end Lw
namespace Lw
open PySem PySem.Spec PyProof.Rows L2 Ly TL
/-! the law's own search, in a dict of dicts -/
theorem has_keys {α : Type} (d : Dct Str α) (k : Str) : hasD d k = decide (k ∈ d.l.map (·.1)) := by
  unfold hasD
  cases h : look d.l k with
  | none =>
    have z := look_none.mp h
    rw [decide_eq_false fun m => ?_]
    · rfl
    · obtain ⟨p, hp, e⟩ := List.mem_map.mp m
      exact z p hp e
  | some x =>
    rw [decide_eq_true (List.mem_map.mpr ⟨_, look_mem h, rfl⟩)]
    rfl
theorem putL_new {α : Type} {l : List (Str × α)} {k : Str} {x : α} (h : look l k = none) : putL l k x = l ++ [(k, x)] := by
  unfold putL
  rw [h]
  rfl
theorem putL_old {α : Type} {l : List (Str × α)} {k : Str} {x y : α} (h : look l k = some y) : (putL l k x).length = l.length := by
  unfold putL
  rw [h, if_pos (show (some y).isSome = true from rfl), List.length_map]
structure Rl (st0 : Dct Str (Dct Str Bool)) (name : Str) (D : Dct Str (Dct Str Bool)) (F : List Str) : Prop where
  d : ∃ d, look D.l name = some d ∧ d.l.map (·.1) = F
  o : ∀ n, n ≠ name → look D.l n = look st0.l n
  n : D.l.length = st0.l.length + 1
theorem Rl.has {st0 : Dct Str (Dct Str Bool)} {name : Str} {D : Dct Str (Dct Str Bool)} {F : List Str} (h : Rl st0 name D F) : hasD D name = true ∧ (∀ x, hasD (getD D name) x = decide (x ∈ F)) ∧ (getD D name).l.length = F.length := by
  obtain ⟨d, e1, e2⟩ := h.d
  have g : getD D name = d := by
    unfold getD
    rw [e1]; rfl
  refine ⟨by unfold hasD; rw [e1]; rfl, fun x => ?_, ?_⟩
  · rw [g, has_keys, e2]
  · rw [g, ← e2, List.length_map]
theorem Rl.put {st0 : Dct Str (Dct Str Bool)} {name : Str} {D : Dct Str (Dct Str Bool)} {F : List Str} (h : Rl st0 name D F) {x : Str} (hx : x ∉ F) : Rl st0 name (putD D name (putD (getD D name) x true)) (F ++ [x]) := by
  obtain ⟨d, e1, e2⟩ := h.d
  have g : getD D name = d := by
    unfold getD
    rw [e1]; rfl
  have nk : look d.l x = none := by
    have z := has_keys d x
    rw [e2, decide_eq_false hx] at z
    unfold hasD at z
    cases w : look d.l x with
    | none => rfl
    | some y => rw [w] at z; cases z
  refine ⟨⟨putD d x true, ?_, ?_⟩, fun n hn => ?_, ?_⟩
  · rw [g]
    show look (putL D.l name (putD d x true)) name = _
    rw [look_putL, if_pos rfl]
  · show (putL d.l x true).map (·.1) = _
    rw [putL_new nk, List.map_append, e2]
    rfl
  · show look (putL D.l name _) n = _
    rw [look_putL, if_neg hn]
    exact h.o n hn
  · show (putL D.l name _).length = _
    rw [putL_old e1]
    exact h.n
/-- what is told behind each -/
structure BH (names : List Str) (E : List (Str × Str)) (b : Dct Str (Dct Str Bool)) : Prop where
  at_ : ∀ n ∈ names, hasD b n = true ∧ ∀ x, hasD (getD b n) x = rb E n x
  nd : ∀ n ∈ names, ((getD b n).l.map (·.1)).Nodup
def BK (names : List Str) (E : List (Str × Str)) (k : Nat) (d : Dct Str (Dct Str Bool)) : Prop := d.l.length = k ∧ (∀ n ∈ names.take k, ∃ e, look d.l n = some e ∧ (∀ x, hasD e x = rb E n x) ∧ (e.l.map (·.1)).Nodup) ∧ ∀ n, n ∉ names.take k → look d.l n = none
/-- one job's answer, put in -/
def One (E : List (Str × Str)) (st0 : Dct Str (Dct Str Bool)) (name : Str) (D : Dct Str (Dct Str Bool)) : Prop := D.l.length = st0.l.length + 1 ∧ (∀ n, n ≠ name → look D.l n = look st0.l n) ∧ ∃ d, look D.l name = some d ∧ (∀ x, hasD d x = rb E name x) ∧ (d.l.map (·.1)).Nodup
theorem bk_put {names : List Str} {E : List (Str × Str)} {k : Nat} {d D : Dct Str (Dct Str Bool)} {name : Str} (hk : names[k]? = some name) (h : BK names E k d) (o : One E d name D) : BK names E (k + 1) D := by
  obtain ⟨h1, h2, d2, h3, h4⟩ := o
  refine ⟨by rw [h1, h.1], fun n hn => ?_, fun n hn => ?_⟩
  · rw [take_snoc hk] at hn
    by_cases c : n = name
    · subst c
      exact ⟨d2, h3, h4⟩
    · rw [h2 n c]
      rcases List.mem_append.mp hn with q | q
      · exact h.2.1 n q
      · exact absurd (List.mem_singleton.mp q) c
  · rw [take_snoc hk] at hn
    have c : n ≠ name := fun c => hn (by rw [c]; simp)
    rw [h2 n c]
    exact h.2.2 n fun m => hn (List.mem_append_left _ m)
theorem bk_0 (names : List Str) (E : List (Str × Str)) : BK names E 0 (Dct.mk []) := ⟨rfl, fun n hn => (by cases hn), fun n _ => rfl⟩
theorem bk_end {names : List Str} {E : List (Str × Str)} {b : Dct Str (Dct Str Bool)} (z : BK names E names.length b) : BH names E b := ⟨fun n hn => by
  obtain ⟨e, h1, h2, _⟩ := z.2.1 n (by rw [List.take_length]; exact hn)
  unfold hasD getD
  rw [h1]
  exact ⟨rfl, h2⟩, fun n hn => by
  obtain ⟨e, h1, _, h3⟩ := z.2.1 n (by rw [List.take_length]; exact hn)
  unfold getD
  rw [h1]
  exact h3⟩
/-! the second way: near ones first -/
def nearOf (E : List (Str × Str)) (n : Str) : List Str := (E.filter fun x => decide (x.1 = n)).map (·.2)
theorem mem_near {E : List (Str × Str)} {n z : Str} : z ∈ nearOf E n ↔ (n, z) ∈ E := by
  unfold nearOf
  rw [List.mem_map]
  constructor
  · rintro ⟨x, hx, rfl⟩
    obtain ⟨h1, h2⟩ := List.mem_filter.mp hx
    have e : x.1 = n := of_decide_eq_true h2
    rw [← e]
    exact h1
  · intro h
    exact ⟨(n, z), List.mem_filter.mpr ⟨h, decide_eq_true rfl⟩, rfl⟩
theorem near_len (E : List (Str × Str)) (n : Str) : (nearOf E n).length ≤ E.length := by
  unfold nearOf
  rw [List.length_map]
  exact List.length_filter_le _ _
structure NK (names : List Str) (E : List (Str × Str)) (d : Dct Str (List Str)) : Prop where
  at_ : ∀ n ∈ names, look d.l n = some (nearOf E n)
theorem NK.get {names : List Str} {E : List (Str × Str)} {d : Dct Str (List Str)} (h : NK names E d) {n : Str} (hn : n ∈ names) : hasD d n = true ∧ getD d n = nearOf E n := by
  unfold hasD getD
  rw [h.at_ n hn]
  exact ⟨rfl, rfl⟩
def NI (names : List Str) (E : List (Str × Str)) (k : Nat) (d : Dct Str (List Str)) : Prop := d.l.length ≤ k ∧ ∀ n ∈ names.take k, look d.l n = some (nearOf E n)
theorem near_step {names : List Str} {E : List (Str × Str)} {k : Nat} {d : Dct Str (List Str)} {name : Str} (hk : names[k]? = some name) (h : NI names E k d) : NI names E (k + 1) (m_behind_L1 E d name) := by
  refine ⟨Nat.le_trans (putL_len _ _ _) (Nat.succ_le_succ h.1), fun n hn => ?_⟩
  show look (putL d.l name (nearOf E name)) n = _
  rw [look_putL]
  by_cases c : n = name
  · rw [if_pos c, c]
  · rw [if_neg c]
    rw [take_snoc hk] at hn
    rcases List.mem_append.mp hn with q | q
    · exact h.2 n q
    · exact absurd (List.mem_singleton.mp q) c
theorem near_fold (names : List Str) (E : List (Str × Str)) : NK names E (List.foldl (m_behind_L1 E) (Dct.mk []) names) := by
  have z := fold_end (fun k d => NI names E k d) (g := m_behind_L1 E) (xs := names) (y := Dct.mk []) ⟨Nat.le_refl _, fun n hn => (by cases hn)⟩ fun k y x hx hy => near_step hx hy
  exact ⟨fun n hn => z.2 n (by rw [List.take_length]; exact hn)⟩
/-- the search -/
structure Jm (E : List (Str × Str)) (name : Str) (W F : List Str) : Prop where
  f : ∀ x ∈ F, Rch E name x
  w : ∀ x ∈ W, Rch E name x
  c : ∀ y, y = name ∨ y ∈ F → ∀ z, (y, z) ∈ E → z ∈ F ∨ z ∈ W
  nd : F.Nodup
  l : W.length ≤ (F.length + 1) * E.length
theorem Rch.end_ {E : List (Str × Str)} {a b : Str} (r : Rch E a b) : b ∈ E.map (·.2) := by
  cases r with
  | one m => exact List.mem_map.mpr ⟨_, m, rfl⟩
  | more _ m => exact List.mem_map.mpr ⟨_, m, rfl⟩
theorem Jm.few {E : List (Str × Str)} {name : Str} {W F : List Str} (j : Jm E name W F) : F.length ≤ E.length := by
  have z := nodup_len j.nd fun x hx => (j.f x hx).end_
  rw [List.length_map] at z
  exact z
theorem Jm.first (E : List (Str × Str)) (name : Str) : Jm E name (nearOf E name) [] :=
  ⟨fun x h => (by cases h), fun x h => .one (mem_near.mp h), fun y h z hz => .inr (by
    rcases h with h | h
    · rw [h] at hz; exact mem_near.mpr hz
    · cases h), List.nodup_nil, by
    have z := near_len E name
    show _ ≤ (0 + 1) * E.length
    omega⟩
theorem Jm.known {E : List (Str × Str)} {name : Str} {W0 F : List Str} {here : Str} (j : Jm E name (W0 ++ [here]) F) (h : here ∈ F) : Jm E name W0 F :=
  ⟨j.f, fun x hx => j.w x (List.mem_append_left _ hx), fun y hy z hz => by
    rcases j.c y hy z hz with q | q
    · exact .inl q
    · rcases List.mem_append.mp q with q | q
      · exact .inr q
      · rw [List.mem_singleton.mp q]; exact .inl h, j.nd, by
    have z := j.l
    rw [List.length_append] at z
    exact Nat.le_trans (Nat.le_add_right _ _) z⟩
theorem Jm.fresh {E : List (Str × Str)} {name : Str} {W0 F : List Str} {here : Str} (j : Jm E name (W0 ++ [here]) F) (h : here ∉ F) : Jm E name (W0 ++ nearOf E here) (F ++ [here]) := by
  have rh := j.w here (by simp)
  refine ⟨fun x hx => ?_, fun x hx => ?_, fun y hy z hz => ?_, List.nodup_append.mpr ⟨j.nd, by simp, fun a ha b hb e => h (by rw [← List.mem_singleton.mp hb, ← e]; exact ha)⟩, ?_⟩
  · rcases List.mem_append.mp hx with q | q
    · exact j.f x q
    · rw [List.mem_singleton.mp q]; exact rh
  · rcases List.mem_append.mp hx with q | q
    · exact j.w x (List.mem_append_left _ q)
    · exact .more rh (mem_near.mp q)
  · have old : (y = name ∨ y ∈ F) → z ∈ F ++ [here] ∨ z ∈ W0 ++ nearOf E here := fun hy => by
      rcases j.c y hy z hz with q | q
      · exact .inl (List.mem_append_left _ q)
      · rcases List.mem_append.mp q with q | q
        · exact .inr (List.mem_append_left _ q)
        · exact .inl (List.mem_append_right _ q)
    rcases hy with q | q
    · exact old (.inl q)
    · rcases List.mem_append.mp q with q | q
      · exact old (.inr q)
      · rw [List.mem_singleton.mp q] at hz
        exact .inr (List.mem_append_right _ (mem_near.mpr hz))
  · have z := j.l
    have nl := near_len E here
    rw [List.length_append] at z
    rw [List.length_append, List.length_append, List.length_singleton, Nat.succ_mul]
    have o : ([here] : List Str).length = 1 := rfl
    omega
theorem Jm.last {E : List (Str × Str)} {name : Str} {F : List Str} (j : Jm E name [] F) (x : Str) : x ∈ F ↔ Rch E name x := by
  refine ⟨j.f x, fun r => ?_⟩
  have cl : ∀ y, y = name ∨ y ∈ F → ∀ z, (y, z) ∈ E → z ∈ F := fun y hy z hz => by
    rcases j.c y hy z hz with q | q
    · exact q
    · cases q
  induction r with
  | one m => exact cl _ (.inl rfl) _ m
  | more _ m ih => exact cl _ (.inr ih) _ m
theorem beh2_one {names : List Str} {st0 : Dct Str (Dct Str Bool)} {name : Str} {E : List (Str × Str)} {st : Dct Str (List Str)} (hE : E.length < 300) (hst : NK names E st) (hn : name ∈ names) (hin : ∀ x ∈ E, x.2 ∈ names) (h0 : look st0.l name = none) :
    whOk (fun (st_3 : ((List Str) × (Dct Str (Dct Str Bool)))) => (!(decide (st_3.1 = ([] : (List Str)))))) (m_behind_L4 st name) (fun (st_3 : ((List Str) × (Dct Str (Dct Str Bool)))) => (pipe st_3.1 fun (waiting_1 : (List Str)) => (pipe st_3.2 fun (found_3 : (Dct Str (Dct Str Bool))) => (0 < waiting_1.length) ∧ (pipe (waiting_1.getLastD default) fun (here : Str) =>
  (hasD found_3 name = true) ∧ okIf (!(hasD (getD found_3 name) here)) ((hasD found_3 name = true) ∧ ((getD found_3 name).l.length < big) ∧ (pipe (putD found_3 name (putD (getD found_3 name) here true)) fun (found_4 : (Dct Str (Dct Str Bool))) =>
  (hasD st here = true) ∧ ((waiting_1.dropLast ++ (getD st here)).length ≤ big) ∧ True)) (True))))) 1000000 (getD st name, putD st0 name (Dct.mk [])) ∧ One E st0 name (m_behind_L3 st st0 name) := by
  have r0 : Rl st0 name (putD st0 name (Dct.mk [])) [] := by
    refine ⟨⟨Dct.mk [], ?_, rfl⟩, fun n hn => ?_, ?_⟩
    · show look (putL st0.l name _) name = _
      rw [look_putL, if_pos rfl]
    · show look (putL st0.l name _) n = _
      rw [look_putL, if_neg hn]
    · show (putL st0.l name _).length = _
      rw [putL_new h0, List.length_append]
      rfl
  have main := wh_ends (ρ := Empty) (c := fun (st_3 : ((List Str) × (Dct Str (Dct Str Bool)))) => (!(decide (st_3.1 = ([] : (List Str)))))) (g := m_behind_L4 st name) (ok := fun (st_3 : ((List Str) × (Dct Str (Dct Str Bool)))) => (pipe st_3.1 fun (waiting_1 : (List Str)) => (pipe st_3.2 fun (found_3 : (Dct Str (Dct Str Bool))) => (0 < waiting_1.length) ∧ (pipe (waiting_1.getLastD default) fun (here : Str) =>
  (hasD found_3 name = true) ∧ okIf (!(hasD (getD found_3 name) here)) ((hasD found_3 name = true) ∧ ((getD found_3 name).l.length < big) ∧ (pipe (putD found_3 name (putD (getD found_3 name) here true)) fun (found_4 : (Dct Str (Dct Str Bool))) =>
  (hasD st here = true) ∧ ((waiting_1.dropLast ++ (getD st here)).length ≤ big) ∧ True)) (True))))) (fun k s => ∃ F, Jm E name s.1 F ∧ Rl st0 name s.2 F ∧ k = (E.length - F.length) * (E.length + 1) + s.1.length) (fun k s ⟨F, j, rl, ek⟩ hc => by
    obtain ⟨W, D⟩ := s
    have hne : W ≠ [] := ne_of_test hc
    have ew := last_cut hne
    have lp := List.length_pos_iff.mpr hne
    have few := j.few
    have jl := j.l
    have bg : big = 1000000 := rfl
    obtain ⟨z1, z2, z3⟩ := rl.has
    have lw : W.length = W.dropLast.length + 1 := by rw [List.length_dropLast]; omega
    have up : (F.length + 1) * E.length ≤ 300 * 299 := Nat.mul_le_mul (by omega) (by omega)
    have jl2 : W.length ≤ (F.length + 1) * E.length := jl
    generalize hh : W.getLastD default = here at ew
    have rh : Rch E name here := j.w here (by rw [← ew]; simp)
    have hin2 : here ∈ names := by
      obtain ⟨x, hx, e⟩ := List.mem_map.mp rh.end_
      rw [← e]
      exact hin x hx
    have nl := near_len E here
    have gn := (hst.get hin2).2
    refine ⟨?_, ?_⟩
    · simp only [pipe_eq]
      rw [hh, gn]
      refine ⟨lp, z1, fun _ => ⟨z1, by rw [z3]; omega, (hst.get hin2).1, ?_, trivial⟩, fun _ => trivial⟩
      rw [List.length_append]
      omega
    · unfold m_behind_L4
      simp only [pipe_eq]
      rw [hh, z2, gn]
      rw [← ew] at j
      by_cases c : here ∈ F
      · rw [decide_eq_true c]
        refine ⟨(W.dropLast, D), rfl, _, ?_, F, j.known c, rl, rfl⟩
        rw [ek]
        show (E.length - F.length) * (E.length + 1) + W.dropLast.length < (E.length - F.length) * (E.length + 1) + W.length
        omega
      · rw [decide_eq_false c]
        have j2 := j.fresh c
        have few2 := j2.few
        rw [List.length_append, List.length_singleton] at few2
        refine ⟨(W.dropLast ++ nearOf E here, _), rfl, _, ?_, F ++ [here], j2, rl.put c, rfl⟩
        rw [ek]
        show (E.length - (F ++ [here]).length) * (E.length + 1) + (W.dropLast ++ nearOf E here).length < (E.length - F.length) * (E.length + 1) + W.length
        rw [List.length_append, List.length_append, List.length_singleton]
        have e1 : E.length - F.length = (E.length - (F.length + 1)) + 1 := by omega
        rw [e1, Nat.succ_mul]
        omega) 1000000 (E.length * (E.length + 1) + (nearOf E name).length) (getD st name, putD st0 name (Dct.mk [])) ⟨[], by rw [(hst.get hn).2]; exact Jm.first E name, r0, by rw [(hst.get hn).2]; rfl⟩ (by
      have a : E.length * (E.length + 1) ≤ 300 * 300 := Nat.mul_le_mul (by omega) (by omega)
      have b := near_len E name
      omega)
  obtain ⟨ok, z, k, e, ⟨F, j, rl, _⟩, hz⟩ := main
  have el : m_behind_L3 st st0 name = z.2 := by
    unfold m_behind_L3
    simp only [pipe_eq]
    rw [e]
    rfl
  refine ⟨ok, ?_⟩
  rw [el]
  obtain ⟨d, e1, e2⟩ := rl.d
  refine ⟨rl.n, rl.o, d, e1, fun x => ?_, by rw [e2]; exact j.nd⟩
  rw [nil_of_test hz] at j
  rw [has_keys, e2]
  exact rb_eq (decide_eq_true_iff.trans (j.last x))
theorem behind_ok {names : List Str} {E : List (Str × Str)} (hl : names.length ≤ 20) (nd : names.Nodup) (hE : E.length < 300) (hin : ∀ x ∈ E, x.2 ∈ names) : ok_m_behind names E ∧ BH names E (m_behind names E) := by
  have nk := near_fold names E
  have bg : big = 1000000 := rfl
  have step : ∀ k d name, names[k]? = some name → BK names E k d → BK names E (k + 1) (m_behind_L3 (List.foldl (m_behind_L1 E) (Dct.mk []) names) d name) := fun k d name hk h =>
    bk_put hk h (beh2_one hE nk (List.mem_of_getElem? hk) hin (h.2.2 name (nodup_fresh nd hk))).2
  refine ⟨⟨fun st name hat => ?_, fun st name hat => ?_, trivial⟩, ?_⟩
  · obtain ⟨k, hk, h⟩ := atF_at (fun k d => NI names E k d) hat ⟨Nat.le_refl _, fun n hn => (by cases hn)⟩ fun k y x hx hy => near_step hx hy
    have kl : k < names.length := (List.getElem?_eq_some_iff.mp hk).1
    exact ⟨by have := h.1; omega, trivial⟩
  · obtain ⟨k, hk, h⟩ := atF_at (fun k d => BK names E k d) hat (bk_0 names E) fun k y x hx hy => step k y x hx hy
    have kl : k < names.length := (List.getElem?_eq_some_iff.mp hk).1
    have hn := List.mem_of_getElem? hk
    have no := h.2.2 name (nodup_fresh nd hk)
    refine ⟨by have := h.1; omega, ?_, (nk.get hn).1, (beh2_one hE nk hn hin no).1, trivial⟩
    unfold hasD
    rw [no]
    rfl
  · exact bk_end (fold_end (fun k d => BK names E k d) (g := m_behind_L3 (List.foldl (m_behind_L1 E) (Dct.mk []) names)) (xs := names) (bk_0 names E) fun k y x hx hy => step k y x hx hy)
end Lw
namespace Lw
open PySem PySem.Spec PyProof.Rows L2 Ly TL
noncomputable def lA (names : List Str) (E : List (Str × Str)) (n : Str) : List Str := names.filter (rb E n)
noncomputable def lB (names : List Str) (E : List (Str × Str)) (n : Str) : List Str := names.filter fun o => rb E o n
noncomputable def lS (names : List Str) (E : List (Str × Str)) (n : Str) : List Str := (lA names E n).filter fun far => !((lA names E n).map fun near => rb E near far).any id
theorem lA_sub {names : List Str} {E : List (Str × Str)} {n x : Str} (h : x ∈ lA names E n) : x ∈ names := (List.mem_filter.mp h).1
/-- the orders told otherwise -/
theorem sset_same {E E2 : List (Str × Str)} (h : ∀ x, x ∈ E ↔ x ∈ E2) : LyT.sset E = LyT.sset E2 := by
  unfold LyT.sset
  exact LyT.srtE_one ((List.perm_ext_iff_of_nodup (LyT.nodup_dd E) (LyT.nodup_dd E2)).mpr fun x => (LyT.mem_dd.trans (h x)).trans LyT.mem_dd.symm)
theorem JM.same {names : List Str} {E E2 : List (Str × Str)} {j : JobsV} (h : ∀ x, x ∈ E ↔ x ∈ E2) (m : JM names E j) : JM names E2 j :=
  ⟨m.row, m.pairs.trans (sset_same h), fun n hn => by
    rw [m.later n hn]
    congr 1
    exact List.filter_congr fun x _ => rb_same h _ _⟩
def sw (E : List (Str × Str)) : List (Str × Str) := E.map fun x => (x.2, x.1)
theorem rank_top {r : Str → Nat} : ∀ (E : List (Str × Str)), ∃ M, ∀ x ∈ E, r x.2 ≤ M
  | [] => ⟨0, fun x h => (by cases h)⟩
  | y :: E => by
    obtain ⟨M, h⟩ := rank_top (r := r) E
    refine ⟨M + r y.2, fun x hx => ?_⟩
    rcases List.mem_cons.mp hx with q | q
    · rw [q]; omega
    · have := h x q; omega
theorem JG.turn {names : List Str} {E E2 : List (Str × Str)} (g : JG names E) (h : ∀ x, x ∈ E2 ↔ (x.2, x.1) ∈ E) (hl : E2.length < 300) : JG names E2 := by
  obtain ⟨r, hr⟩ := g.rank
  obtain ⟨M, hM⟩ := rank_top (r := r) E
  refine ⟨g.len, g.nd, g.gd, hl, fun x => M - r x, fun x hx => ?_⟩
  have m := (h x).mp hx
  obtain ⟨a, b, c⟩ := hr _ m
  have d := hM _ m
  refine ⟨b, a, ?_⟩
  have c2 : r x.2 < r x.1 := c
  have d2 : r x.1 ≤ M := d
  show M - r x.1 < M - r x.2
  omega
end Lw
namespace Lw
open PySem PySem.Spec PyProof.Rows L2 Ly TL
theorem JM.ahead {names : List Str} {E : List (Str × Str)} {j : JobsV} (h : JM names E j) {n : Str} (hn : n ∈ names) : ok_p_Jobs_ahead j n ∧ p_Jobs_ahead j n = lB names E n := by
  refine ⟨⟨h.wok hn, fun o ho => ⟨(h.get (by rw [← h.row]; exact ho)).1, trivial⟩, trivial⟩, ?_⟩
  unfold p_Jobs_ahead
  rw [given_id, h.row]
  refine List.filter_congr fun o ho => ?_
  rw [(h.get ho).2]
  refine Bool.eq_iff_iff.mpr ?_
  rw [decide_eq_true_iff, List.mem_filter]
  exact ⟨fun z => z.2, fun z => ⟨hn, z⟩⟩
end Lw
namespace Lw
open PySem PySem.Spec PyProof.Rows L2 Ly TL
theorem inn {names : List Str} {E : List (Str × Str)} (g : JG names E) : ∀ x ∈ E, x.2 ∈ names := fun x hx => by
  obtain ⟨r, hr⟩ := g.rank
  exact (hr x hx).2.1
end Lw
namespace Lw
open PySem PySem.Spec PyProof.Rows L2 Ly TL
theorem jobs_sizes (p : Pu) {most : Int} (h : 0 ≤ most ∧ most ≤ 20) : ((m_jobs p most).1.1.length : Int) ≤ most ∧ (m_jobs p most).1.2.length ≤ 230 := by
  unfold m_jobs
  simp only [pipe_eq]
  have m := many0 p h
  have t := take_lt p (n := most + 1) (by omega)
  generalize (m_take p (most + 1)).1 = many at m t ⊢
  generalize (m_take p (most + 1)).2 = p1
  have ng := names_good p1 (n := many) (by omega)
  generalize (m_names p1 many).1 = names at ng ⊢
  generalize (m_names p1 many).2 = p2
  generalize getI ([(2 : Int), (3 : Int), (4 : Int), (6 : Int), (12 : Int)] : (List Int)) _ = thin
  have pg := pairs_good (m_take (m_take p2 6).2 5).2 (n := many) (way := (m_take p2 6).1) (thin := thin) m
  generalize (m_pairs (m_take (m_take p2 6).2 5).2 many (m_take p2 6).1 thin).1 = ps at pg ⊢
  generalize (m_pairs (m_take (m_take p2 6).2 5).2 many (m_take p2 6).1 thin).2 = p3
  have jf := jobs1_fold p3 pg
  refine ⟨by show (names.length : Int) ≤ most; omega, ?_⟩
  show (given _ _ _).length ≤ 230
  rw [given_all, List.length_map]
  exact jf.2
end Lw
namespace Lw
open PySem PySem.Spec PyProof.Rows L2 Ly TL
/-! the rows that a turn may have -/
def rowS (b : Int) (st : List (List Str)) (x : Str) : List (List Str) := st ++ (st.filter fun r => decide ((r.length : Int) < b)).map fun r => r ++ [x]
def rowR (b : Int) (fr : List Str) : List (List Str) := fr.foldl (rowS b) [[]]
structure RowI (b : Int) (fr : List Str) (k : Nat) (st : List (List Str)) : Prop where
  len : st.length ≤ 2 ^ k
  few : ∀ r ∈ st, (r.length : Int) ≤ b ∧ r = (fr.take k).filter fun x => decide (x ∈ r)
  all : ∀ p : Str → Bool, (((fr.take k).filter p).length : Int) ≤ b → (fr.take k).filter p ∈ st
  nd : st.Nodup
theorem rowI_zero {b : Int} (hb : 1 ≤ b) (fr : List Str) : RowI b fr 0 [[]] := by
  refine ⟨Nat.le_refl _, fun r hr => ?_, fun p _ => ?_, by simp⟩
  · rw [List.mem_singleton.mp hr]
    exact ⟨by show (0 : Int) ≤ b; omega, rfl⟩
  · rw [List.take_zero]
    exact List.mem_singleton.mpr rfl
theorem rowI_step {b : Int} {fr : List Str} (nd : fr.Nodup) {k : Nat} {x : Str} (hk : fr[k]? = some x) {st : List (List Str)} (h : RowI b fr k st) : RowI b fr (k + 1) (rowS b st x) := by
  have hx := nodup_fresh nd hk
  have sub : ∀ r ∈ st, ∀ y ∈ r, y ∈ fr.take k := fun r hr y hy => by
    rw [(h.few r hr).2] at hy
    exact (List.mem_filter.mp hy).1
  have out : ∀ r ∈ st, x ∉ r := fun r hr m => hx (sub r hr x m)
  have same : ∀ r ∈ st, ((fr.take k).filter fun y => decide (y ∈ r ++ [x])) = r := fun r hr => by
    refine Eq.trans (List.filter_congr fun y hy => ?_) (h.few r hr).2.symm
    rw [Bool.eq_iff_iff, decide_eq_true_iff, decide_eq_true_iff, List.mem_append, List.mem_singleton]
    exact ⟨fun z => z.elim id fun e => absurd (e ▸ hy) hx, .inl⟩
  refine ⟨?_, fun r hr => ?_, fun p hp => ?_, ?_⟩
  · unfold rowS
    rw [List.length_append, List.length_map]
    have := List.length_filter_le (fun r : List Str => decide ((r.length : Int) < b)) st
    have := h.len
    rw [Nat.pow_succ]
    omega
  · rw [take_snoc hk, List.filter_append]
    rcases List.mem_append.mp hr with m | m
    · refine ⟨(h.few r m).1, ?_⟩
      rw [List.filter_cons, if_neg (by simpa using out r m), List.filter_nil, List.append_nil]
      exact (h.few r m).2
    · obtain ⟨q, hq, rfl⟩ := List.mem_map.mp m
      obtain ⟨hq1, hq2⟩ := List.mem_filter.mp hq
      have hq3 := of_decide_eq_true hq2
      refine ⟨by rw [List.length_append, List.length_singleton]; omega, ?_⟩
      rw [List.filter_cons, if_pos (by simp), List.filter_nil, same q hq1]
  · rw [take_snoc hk, List.filter_append] at hp ⊢
    cases c : p x with
    | false =>
      rw [List.filter_cons, if_neg (by rw [c]; exact Bool.false_ne_true), List.filter_nil, List.append_nil] at hp ⊢
      exact List.mem_append_left _ (h.all p hp)
    | true =>
      rw [List.filter_cons, if_pos c, List.filter_nil] at hp ⊢
      rw [List.length_append, List.length_singleton] at hp
      exact List.mem_append_right _ (List.mem_map.mpr ⟨_, List.mem_filter.mpr ⟨h.all p (by omega), decide_eq_true (by omega)⟩, rfl⟩)
  · unfold rowS
    refine List.nodup_append.mpr ⟨h.nd, ?_, fun a ha c hc e => ?_⟩
    · refine List.pairwise_map.mpr ((h.nd.sublist List.filter_sublist).imp fun {a c} ne e => ne ?_)
      exact List.append_cancel_right e
    · obtain ⟨q, hq, rfl⟩ := List.mem_map.mp hc
      exact out a ha (by rw [e]; simp)
theorem rowI {b : Int} (hb : 1 ≤ b) {fr : List Str} (nd : fr.Nodup) : RowI b fr fr.length (rowR b fr) := fold_end (RowI b fr) (rowI_zero hb fr) fun _ _ _ hk h => rowI_step nd hk h
theorem rowR_few {b : Int} (hb : 1 ≤ b) {fr : List Str} (nd : fr.Nodup) {r : List Str} (h : r ∈ rowR b fr) : (r.length : Int) ≤ b ∧ r = fr.filter fun x => decide (x ∈ r) := by
  have := (rowI hb nd).few r h
  rwa [List.take_length] at this
theorem rowR_all {b : Int} (hb : 1 ≤ b) {fr : List Str} (nd : fr.Nodup) (p : Str → Bool) (h : ((fr.filter p).length : Int) ≤ b) : fr.filter p ∈ rowR b fr := by
  have := (rowI hb nd).all p
  rw [List.take_length] at this
  exact this h
/-- the jobs that may come next -/
noncomputable def frS (names : List Str) (E : List (Str × Str)) (done : List Str) : List Str := names.filter fun n => !(decide (n ∈ done)) && (lB names E n).all fun o => decide (o ∈ done)
def thS (names done row : List Str) : List Str := names.filter fun n => decide (n ∈ done) || decide (n ∈ row)
/-- all that a list can be filtered to -/
def subsL : List Str → List (List Str)
  | [] => [[]]
  | x :: xs => subsL xs ++ (subsL xs).map fun r => x :: r
theorem subsL_len : ∀ xs : List Str, (subsL xs).length = 2 ^ xs.length
  | [] => rfl
  | x :: xs => by
    show (subsL xs ++ (subsL xs).map _).length = _
    rw [List.length_append, List.length_map, subsL_len xs, List.length_cons, Nat.pow_succ]
    omega
theorem subsL_all (p : Str → Bool) : ∀ xs : List Str, xs.filter p ∈ subsL xs
  | [] => List.mem_singleton.mpr rfl
  | x :: xs => by
    show _ ∈ subsL xs ++ (subsL xs).map _
    rw [List.filter_cons]
    split
    · exact List.mem_append_right _ (List.mem_map.mpr ⟨_, subsL_all p xs, rfl⟩)
    · exact List.mem_append_left _ (subsL_all p xs)
end Lw
namespace Lw
open PySem PySem.Spec PyProof.Rows L2 Ly TL
/-! plans counted, set by set -/
def sm {γ : Type} (φ : γ → Int) : List γ → Int
  | [] => 0
  | x :: xs => φ x + sm φ xs
theorem sm_app {γ : Type} (φ : γ → Int) : ∀ xs ys : List γ, sm φ (xs ++ ys) = sm φ xs + sm φ ys
  | [], ys => (Int.zero_add _).symm
  | x :: xs, ys => by
    show φ x + sm φ (xs ++ ys) = φ x + sm φ xs + sm φ ys
    rw [sm_app φ xs ys, Int.add_assoc]
theorem sm_congr {γ : Type} {φ ψ : γ → Int} : ∀ {xs : List γ}, (∀ x ∈ xs, φ x = ψ x) → sm φ xs = sm ψ xs
  | [], _ => rfl
  | x :: xs, h => by
    show φ x + sm φ xs = ψ x + sm ψ xs
    rw [h x List.mem_cons_self, sm_congr fun y hy => h y (List.mem_cons_of_mem _ hy)]
theorem sm_map {γ δ : Type} (φ : δ → Int) (g : γ → δ) : ∀ xs : List γ, sm φ (xs.map g) = sm (fun x => φ (g x)) xs
  | [] => rfl
  | x :: xs => by
    show φ (g x) + sm φ (xs.map g) = _
    rw [sm_map φ g xs]
    rfl
theorem sm_flat {γ δ : Type} (φ : δ → Int) (g : γ → List δ) : ∀ xs : List γ, sm φ (xs.flatMap g) = sm (fun x => sm φ (g x)) xs
  | [] => rfl
  | x :: xs => by
    rw [List.flatMap_cons, sm_app, sm_flat φ g xs]
    rfl
theorem sm_one {γ : Type} (p : γ → Bool) : ∀ xs : List γ, sm (fun x => bif p x then 1 else 0) xs = ((xs.filter p).length : Int)
  | [] => rfl
  | x :: xs => by
    show (bif p x then 1 else 0) + sm _ xs = _
    rw [sm_one p xs, List.filter_cons]
    cases c : p x with
    | false => simp
    | true => simp; omega
abbrev KV_ := Tl Str × Int
def wt (φ : List Str → Int) (l : List KV_) : Int := sm (fun p => p.2 * φ p.1.l) l
def addW (W : Dct (Tl Str) Int) (S : List Str) (w : Int) : Dct (Tl Str) Int := putD W (Tl.mk S) (getOr W (Tl.mk S) (0 : Int) + w)
structure WI (names : List Str) (W : Dct (Tl Str) Int) : Prop where
  nd : (W.l.map (·.1)).Nodup
  sub : ∀ k ∈ W.l.map (·.1), k.l ∈ subsL names
theorem WI.few {names : List Str} {W : Dct (Tl Str) Int} (h : WI names W) : W.l.length ≤ 2 ^ names.length := by
  have n1 : ((W.l.map (·.1)).map (·.l)).Nodup := by
    refine List.pairwise_map.mpr (h.nd.imp fun {a c} ne e => ne ?_)
    cases a; cases c
    exact congrArg Tl.mk e
  have := nodup_len n1 (m := subsL names) fun x hx => by
    obtain ⟨k, hk, rfl⟩ := List.mem_map.mp hx
    exact h.sub k hk
  rwa [List.length_map, List.length_map, subsL_len] at this
theorem keys_putL {l : List KV_} {k : Tl Str} {x : Int} (h : (look l k).isSome = true) : (putL l k x).map (·.1) = l.map (·.1) := by
  unfold putL
  rw [if_pos h, List.map_map]
  refine List.map_congr_left fun p _ => ?_
  show (if p.1 = k then (p.1, x) else p).1 = p.1
  split <;> rfl
theorem WI.add {names : List Str} {W : Dct (Tl Str) Int} (h : WI names W) {S : List Str} (hS : S ∈ subsL names) (w : Int) : WI names (addW W S w) := by
  cases c : (look W.l (Tl.mk S)).isSome with
  | true =>
    refine ⟨?_, ?_⟩
    · show ((putL W.l _ _).map (·.1)).Nodup
      rw [keys_putL c]; exact h.nd
    · show ∀ k ∈ (putL W.l _ _).map (·.1), _
      rw [keys_putL c]; exact h.sub
  | false =>
    have e : ∀ x, putL W.l (Tl.mk S) x = W.l ++ [(Tl.mk S, x)] := fun x => by
      unfold putL
      rw [c]; rfl
    refine ⟨?_, ?_⟩
    · show ((putL W.l _ _).map (·.1)).Nodup
      rw [e, List.map_append]
      refine List.nodup_append.mpr ⟨h.nd, by simp, fun a ha b hb q => ?_⟩
      rw [List.map_singleton, List.mem_singleton] at hb
      have z : look W.l (Tl.mk S) = none := by
        cases q : look W.l (Tl.mk S) with
        | none => rfl
        | some v => rw [q] at c; cases c
      obtain ⟨p, hp, e2⟩ := List.mem_map.mp ha
      exact look_none.mp z p hp (e2.trans (q.trans hb))
    · show ∀ k ∈ (putL W.l _ _).map (·.1), _
      rw [e, List.map_append]
      intro k hk
      rcases List.mem_append.mp hk with q | q
      · exact h.sub k q
      · rw [List.map_singleton, List.mem_singleton] at q
        rw [q]; exact hS
theorem wt_map (φ : List Str → Int) (k : Tl Str) (x : Int) : ∀ {l : List KV_}, (l.map (·.1)).Nodup → (look l k).isSome = true → wt φ (l.map fun p => if p.1 = k then (p.1, x) else p) = wt φ l + (x - (look l k).getD 0) * φ k.l
  | [], _, h => by cases h
  | p :: l, nd, h => by
    obtain ⟨n1, n2⟩ := List.nodup_cons.mp nd
    rw [look_cons]
    by_cases c : p.1 = k
    · have id_ : (l.map fun q => if q.1 = k then (q.1, x) else q) = l := by
        refine (List.map_congr_left fun q hq => ?_).trans (List.map_id' l)
        rw [if_neg fun e => n1 (List.mem_map.mpr ⟨q, hq, e.trans c.symm⟩)]
      rw [if_pos c, List.map_cons, if_pos c, id_]
      show x * φ p.1.l + wt φ l = p.2 * φ p.1.l + wt φ l + (x - p.2) * φ k.l
      rw [c, Int.sub_mul]
      omega
    · rw [look_cons, if_neg c] at h
      rw [if_neg c, List.map_cons, if_neg c]
      show p.2 * φ p.1.l + wt φ _ = p.2 * φ p.1.l + wt φ l + _
      rw [wt_map φ k x n2 h]
      omega
theorem wt_add {names : List Str} (φ : List Str → Int) {W : Dct (Tl Str) Int} (h : WI names W) (S : List Str) (w : Int) : wt φ (addW W S w).l = wt φ W.l + w * φ S := by
  show wt φ (putL W.l (Tl.mk S) ((look W.l (Tl.mk S)).getD 0 + w)) = _
  unfold putL
  cases c : (look W.l (Tl.mk S)).isSome with
  | true =>
    rw [if_pos rfl, wt_map φ _ _ h.nd c]
    have e : (look W.l (Tl.mk S)).getD 0 + w - (look W.l (Tl.mk S)).getD 0 = w := by omega
    rw [e]
  | false =>
    rw [if_neg Bool.false_ne_true]
    have e : look W.l (Tl.mk S) = none := by
      cases q : look W.l (Tl.mk S) with
      | none => rfl
      | some v => rw [q] at c; cases c
    unfold wt
    rw [sm_app, e]
    show _ + (((0 : Int) + w) * φ S + 0) = _
    rw [Int.zero_add, Int.add_zero]
theorem wt_get {names : List Str} {W : Dct (Tl Str) Int} (h : WI names W) (S : List Str) : wt (fun s => bif decide (s = S) then 1 else 0) W.l = getOr W (Tl.mk S) 0 := by
  have key : ∀ {l : List KV_}, (l.map (·.1)).Nodup → wt (fun s => bif decide (s = S) then 1 else 0) l = (look l (Tl.mk S)).getD 0 := fun {l} => by
    induction l with
    | nil => intro _; rfl
    | cons p l ih =>
      intro nd
      obtain ⟨n1, n2⟩ := List.nodup_cons.mp nd
      show p.2 * (bif decide (p.1.l = S) then 1 else 0) + wt (fun s => bif decide (s = S) then 1 else 0) l = _
      rw [look_cons, ih n2]
      by_cases c : p.1 = Tl.mk S
      · have c2 : p.1.l = S := by rw [c]
        have z : look l (Tl.mk S) = none := look_none.mpr fun q hq e => n1 (List.mem_map.mpr ⟨q, hq, e.trans c.symm⟩)
        rw [if_pos c, decide_eq_true c2, z]
        show p.2 * 1 + 0 = p.2
        omega
      · have c2 : p.1.l ≠ S := fun e => c (by rw [← e])
        rw [if_neg c, decide_eq_false c2]
        show p.2 * 0 + _ = _
        omega
  exact key h.nd
/-- one turn more -/
noncomputable def stE (names : List Str) (E : List (Str × Str)) (b : Int) (W : Dct (Tl Str) Int) (p : KV_) : Dct (Tl Str) Int := (rowR b (frS names E p.1.l)).foldl (fun W row => addW W (thS names p.1.l row) p.2) W
noncomputable def stW (names : List Str) (E : List (Str × Str)) (b : Int) (W : Dct (Tl Str) Int) : Dct (Tl Str) Int := W.l.foldl (stE names E b) (Dct.mk [])
noncomputable def itW (names : List Str) (E : List (Str × Str)) (b : Int) : Nat → Dct (Tl Str) Int
  | 0 => Dct.mk [(Tl.mk [], 1)]
  | t + 1 => stW names E b (itW names E b t)
theorem thS_in (names done row : List Str) : thS names done row ∈ subsL names := subsL_all _ names
theorem WI.nil (names : List Str) : WI names (Dct.mk []) := ⟨List.nodup_nil, fun k h => by cases h⟩
theorem add_all {names : List Str} (φ : List Str → Int) (done : List Str) (w : Int) : ∀ (rows : List (List Str)) {W : Dct (Tl Str) Int}, WI names W → WI names (rows.foldl (fun W row => addW W (thS names done row) w) W) ∧
    wt φ (rows.foldl (fun W row => addW W (thS names done row) w) W).l = wt φ W.l + w * sm (fun row => φ (thS names done row)) rows
  | [], W, h => ⟨h, by show wt φ W.l = wt φ W.l + w * 0; omega⟩
  | r :: rows, W, h => by
    rw [List.foldl_cons]
    obtain ⟨a, b⟩ := add_all φ done w rows (h.add (thS_in names done r) w)
    refine ⟨a, ?_⟩
    rw [b, wt_add φ h]
    show _ = wt φ W.l + w * (φ (thS names done r) + sm _ rows)
    rw [Int.mul_add]
    omega
theorem step_all {names : List Str} {E : List (Str × Str)} {b : Int} (φ : List Str → Int) : ∀ (l : List KV_) {W : Dct (Tl Str) Int}, WI names W → WI names (l.foldl (stE names E b) W) ∧
    wt φ (l.foldl (stE names E b) W).l = wt φ W.l + wt (fun s => sm (fun row => φ (thS names s row)) (rowR b (frS names E s))) l
  | [], W, h => ⟨h, by show wt φ W.l = wt φ W.l + 0; omega⟩
  | p :: l, W, h => by
    rw [List.foldl_cons]
    obtain ⟨a, c⟩ := add_all φ p.1.l p.2 (rowR b (frS names E p.1.l)) h
    obtain ⟨a2, c2⟩ := step_all φ l a
    refine ⟨a2, ?_⟩
    have c3 : wt φ (stE names E b W p).l = wt φ W.l + p.2 * sm (fun row => φ (thS names p.1.l row)) (rowR b (frS names E p.1.l)) := c
    rw [show wt φ (l.foldl (stE names E b) (stE names E b W p)).l = _ from c2, c]
    exact Int.add_assoc _ _ _
theorem itW_ok (names : List Str) (E : List (Str × Str)) (b : Int) : ∀ t, WI names (itW names E b t)
  | 0 => ⟨by simp [itW], fun k h => by
    have e : k = Tl.mk [] := by simpa [itW] using h
    rw [e]
    have := subsL_all (fun _ => false) names
    rwa [List.filter_eq_nil_iff.mpr fun _ _ => Bool.false_ne_true] at this⟩
  | t + 1 => (step_all (fun _ => 0) (itW names E b t).l (WI.nil names)).1
/-! plans as functions: the turn of each job, -1: not yet -/
section
variable (names : List Str) (E : List (Str × Str)) (b : Int)
def dnF (f : Str → Int) : List Str := names.filter fun x => decide (f x ≠ -1)
def exF (t : Nat) (f : Str → Int) (r : List Str) (x : Str) : Int := if x ∈ r then (t : Int) else f x
noncomputable def fnS : Nat → List (Str → Int)
  | 0 => [fun _ => -1]
  | t + 1 => (fnS t).flatMap fun f => (rowR b (frS names E (dnF names f))).map (exF t f)
structure Gf (t : Nat) (f : Str → Int) : Prop where
  rng : ∀ x ∈ names, -1 ≤ f x ∧ f x < (t : Int)
  ord : ∀ x ∈ names, ∀ y ∈ names, rb E x y = true → f y ≠ -1 → f x ≠ -1 ∧ f x < f y
  cap : ∀ i : Int, 0 ≤ i → ((names.filter fun x => decide (f x = i)).length : Int) ≤ b
end
section
variable {names : List Str} {E : List (Str × Str)} {b : Int}
theorem mem_dn {f : Str → Int} {x : Str} : x ∈ dnF names f ↔ x ∈ names ∧ f x ≠ -1 := by
  unfold dnF
  rw [List.mem_filter, decide_eq_true_iff]
theorem mem_fr {done : List Str} {x : Str} : x ∈ frS names E done ↔ x ∈ names ∧ x ∉ done ∧ ∀ o ∈ names, rb E o x = true → o ∈ done := by
  unfold frS
  rw [List.mem_filter, Bool.and_eq_true_iff, List.all_eq_true]
  refine and_congr_right fun _ => and_congr (by simp) ?_
  unfold lB
  exact ⟨fun z o h1 h2 => of_decide_eq_true (z o (List.mem_filter.mpr ⟨h1, h2⟩)), fun z o ho => decide_eq_true (z o (List.mem_filter.mp ho).1 (List.mem_filter.mp ho).2)⟩
theorem fr_nd (nd : names.Nodup) (done : List Str) : (frS names E done).Nodup := nd.sublist List.filter_sublist
theorem row_sub (hb : 1 ≤ b) (nd : names.Nodup) {done r : List Str} (h : r ∈ rowR b (frS names E done)) {x : Str} (hx : x ∈ r) : x ∈ frS names E done := by
  rw [(rowR_few hb (fr_nd nd done) h).2] at hx
  exact (List.mem_filter.mp hx).1
theorem dn_ext {t : Nat} {f : Str → Int} {r : List Str} : thS names (dnF names f) r = dnF names (exF t f r) := by
  unfold thS dnF
  refine List.filter_congr fun x hx => ?_
  rw [Bool.eq_iff_iff, Bool.or_eq_true_iff, decide_eq_true_iff, decide_eq_true_iff, decide_eq_true_iff]
  unfold exF
  by_cases c : x ∈ r
  · rw [if_pos c]
    exact ⟨fun _ => by omega, fun _ => .inr c⟩
  · rw [if_neg c]
    exact ⟨fun z => z.elim (fun m => (mem_dn.mp m).2) fun m => absurd m c, fun z => .inl (mem_dn.mpr ⟨hx, z⟩)⟩
theorem fnS_wt (φ : List Str → Int) : ∀ t, sm (fun f => φ (dnF names f)) (fnS names E b t) = wt φ (itW names E b t).l := fun t => by
  induction t generalizing φ with
  | zero =>
    show φ (dnF names fun _ => -1) + 0 = 1 * φ [] + 0
    have e : dnF names (fun _ => -1) = [] := List.filter_eq_nil_iff.mpr fun x _ => by simp
    rw [e, Int.one_mul]
  | succ t ih =>
    show sm _ ((fnS names E b t).flatMap _) = wt φ (stW names E b (itW names E b t)).l
    rw [sm_flat]
    have e : ∀ f, sm (fun f => φ (dnF names f)) ((rowR b (frS names E (dnF names f))).map (exF t f)) = sm (fun row => φ (thS names (dnF names f) row)) (rowR b (frS names E (dnF names f))) := fun f => by
      rw [sm_map]
      exact sm_congr fun r _ => by rw [dn_ext (t := t)]
    rw [sm_congr fun f _ => e f, ih fun s => sm (fun row => φ (thS names s row)) (rowR b (frS names E s))]
    have := (step_all (E := E) (b := b) φ (itW names E b t).l (WI.nil names)).2
    rw [show wt φ (stW names E b (itW names E b t)).l = _ from this]
    show _ = wt φ [] + _
    exact (Int.zero_add _).symm
theorem fnS_count (t : Nat) : getOr (itW names E b t) (Tl.mk names) 0 = (((fnS names E b t).filter fun f => decide (dnF names f = names)).length : Int) := by
  rw [← wt_get (itW_ok names E b t), ← fnS_wt, sm_one]
theorem fnS_good (hb : 1 ≤ b) (nd : names.Nodup) (ac : ∀ x, rb E x x = false) : ∀ t, ∀ f ∈ fnS names E b t, Gf names E b t f
  | 0, f, h => by
    rw [List.mem_singleton.mp h]
    refine ⟨fun x _ => ⟨Int.le_refl _, by show (-1 : Int) < 0; omega⟩, fun x _ y _ _ z => absurd rfl z, fun i hi => ?_⟩
    rw [List.filter_eq_nil_iff.mpr fun x _ => by show ¬ decide ((-1 : Int) = i) = true; rw [decide_eq_true_iff]; omega]
    show (0 : Int) ≤ b
    omega
  | t + 1, f, h => by
    obtain ⟨g, hg, h2⟩ := List.mem_flatMap.mp h
    obtain ⟨r, hr, rfl⟩ := List.mem_map.mp h2
    have G := fnS_good hb nd ac t g hg
    have rs := fun {x} hx => mem_fr.mp (row_sub hb nd hr (x := x) hx)
    have und : ∀ {x}, x ∈ r → g x = -1 := fun {x} hx => by
      obtain ⟨h1, h2, _⟩ := rs hx
      exact Classical.byContradiction fun z => h2 (mem_dn.mpr ⟨h1, z⟩)
    refine ⟨fun x hx => ?_, fun x hx y hy w z => ?_, fun i hi => ?_⟩
    · have := G.rng x hx
      unfold exF
      split <;> constructor <;> omega
    · unfold exF at z ⊢
      by_cases cy : y ∈ r
      · rw [if_pos cy] at z ⊢
        have dx := mem_dn.mp ((rs cy).2.2 x hx w)
        have cx : x ∉ r := fun c => dx.2 (und c)
        rw [if_neg cx]
        exact ⟨dx.2, by have := (G.rng x hx).2; omega⟩
      · rw [if_neg cy] at z ⊢
        have o := G.ord x hx y hy w z
        have cx : x ∉ r := fun c => o.1 (und c)
        rw [if_neg cx]
        exact o
    · by_cases c : i = (t : Int)
      · subst c
        have fw := rowR_few hb (fr_nd nd _) hr
        have e : (names.filter fun x => decide (exF t g r x = (t : Int))) = names.filter fun x => decide (x ∈ r) := List.filter_congr fun x hx => by
          rw [Bool.eq_iff_iff, decide_eq_true_iff, decide_eq_true_iff]
          unfold exF
          by_cases cx : x ∈ r
          · rw [if_pos cx]; exact ⟨fun _ => cx, fun _ => rfl⟩
          · rw [if_neg cx]
            have := (G.rng x hx).2
            exact ⟨fun z => by omega, fun z => absurd z cx⟩
        rw [e]
        have l2 : (names.filter fun x => decide (x ∈ r)).length ≤ r.length := nodup_len (nd.sublist List.filter_sublist) fun x hx => of_decide_eq_true (List.mem_filter.mp hx).2
        omega
      · refine Int.le_trans ?_ (G.cap i hi)
        have l2 : (names.filter fun x => decide (exF t g r x = i)).length ≤ (names.filter fun x => decide (g x = i)).length := nodup_len (nd.sublist List.filter_sublist) fun x hx => by
          obtain ⟨h1, h2⟩ := List.mem_filter.mp hx
          have h2 := of_decide_eq_true h2
          unfold exF at h2
          by_cases cx : x ∈ r
          · rw [if_pos cx] at h2; omega
          · rw [if_neg cx] at h2
            exact List.mem_filter.mpr ⟨h1, decide_eq_true h2⟩
        omega
theorem fnS_all (hb : 1 ≤ b) (nd : names.Nodup) : ∀ (t : Nat) (g : Str → Int), Gf names E b t g → ∃ f ∈ fnS names E b t, ∀ x ∈ names, f x = g x
  | 0, g, G => ⟨_, List.mem_singleton.mpr rfl, fun x hx => by have := G.rng x hx; show (-1 : Int) = g x; omega⟩
  | t + 1, g, G => by
    have G0 : Gf names E b t fun x => if g x = (t : Int) then -1 else g x := by
      refine ⟨fun x hx => ?_, fun x hx y hy w z => ?_, fun i hi => ?_⟩
      · have := G.rng x hx
        show -1 ≤ (if g x = (t : Int) then (-1 : Int) else g x) ∧ (if g x = (t : Int) then (-1 : Int) else g x) < t
        split <;> constructor <;> omega
      · have z : (if g y = (t : Int) then (-1 : Int) else g y) ≠ -1 := z
        show (if g x = (t : Int) then (-1 : Int) else g x) ≠ -1 ∧ (if g x = (t : Int) then (-1 : Int) else g x) < (if g y = (t : Int) then (-1 : Int) else g y)
        by_cases cy : g y = (t : Int)
        · rw [if_pos cy] at z; exact absurd rfl z
        · rw [if_neg cy] at z ⊢
          have o := G.ord x hx y hy w z
          have := (G.rng y hy).2
          rw [if_neg (by omega)]
          exact o
      · refine Int.le_trans ?_ (G.cap i hi)
        have l2 : (names.filter fun x => decide ((if g x = (t : Int) then (-1 : Int) else g x) = i)).length ≤ (names.filter fun x => decide (g x = i)).length := nodup_len (nd.sublist List.filter_sublist) fun x hx => by
          obtain ⟨h1, h2⟩ := List.mem_filter.mp hx
          have h2 := of_decide_eq_true h2
          by_cases cx : g x = (t : Int)
          · rw [if_pos cx] at h2; omega
          · rw [if_neg cx] at h2
            exact List.mem_filter.mpr ⟨h1, decide_eq_true h2⟩
        show ((names.filter fun x => decide ((if g x = (t : Int) then (-1 : Int) else g x) = i)).length : Int) ≤ _
        omega
    obtain ⟨f0, hf0, same⟩ := fnS_all hb nd t _ G0
    have fr_ : ∀ x ∈ names, g x = (t : Int) → x ∈ frS names E (dnF names f0) := fun x hx e => by
      refine mem_fr.mpr ⟨hx, fun m => (mem_dn.mp m).2 ?_, fun o ho w => mem_dn.mpr ⟨ho, ?_⟩⟩
      · rw [same x hx, if_pos e]
      · have q := G.ord o ho x hx w (by omega)
        rw [same o ho, if_neg (by omega)]
        exact q.1
    let r := (frS names E (dnF names f0)).filter fun x => decide (g x = (t : Int))
    have mr : ∀ x ∈ names, x ∈ r ↔ g x = (t : Int) := fun x hx => by
      rw [List.mem_filter, decide_eq_true_iff]
      exact ⟨fun z => z.2, fun z => ⟨fr_ x hx z, z⟩⟩
    have hr : r ∈ rowR b (frS names E (dnF names f0)) := by
      refine rowR_all hb (fr_nd nd _) _ ?_
      refine Int.le_trans ?_ (G.cap (t : Int) (by omega))
      have l2 : ((frS names E (dnF names f0)).filter fun x => decide (g x = (t : Int))).length ≤ (names.filter fun x => decide (g x = (t : Int))).length := nodup_len ((fr_nd nd _).sublist List.filter_sublist) fun x hx => by
        obtain ⟨h1, h2⟩ := List.mem_filter.mp hx
        exact List.mem_filter.mpr ⟨(mem_fr.mp h1).1, h2⟩
      omega
    refine ⟨exF t f0 r, List.mem_flatMap.mpr ⟨f0, hf0, List.mem_map.mpr ⟨r, hr, rfl⟩⟩, fun x hx => ?_⟩
    unfold exF
    by_cases c : g x = (t : Int)
    · rw [if_pos ((mr x hx).mpr c), c]
    · rw [if_neg fun m => c ((mr x hx).mp m), same x hx, if_neg c]
theorem fnS_nd (hb : 1 ≤ b) (nd : names.Nodup) (ac : ∀ x, rb E x x = false) : ∀ t, (fnS names E b t).Pairwise fun f g => ∃ x ∈ names, f x ≠ g x
  | 0 => List.pairwise_singleton _ _
  | t + 1 => by
    have und : ∀ {f r x}, f ∈ fnS names E b t → r ∈ rowR b (frS names E (dnF names f)) → x ∈ r → x ∈ names ∧ f x = -1 := fun {f r x} hf hr hx => by
      obtain ⟨h1, h2, _⟩ := mem_fr.mp (row_sub hb nd hr hx)
      exact ⟨h1, Classical.byContradiction fun z => h2 (mem_dn.mpr ⟨h1, z⟩)⟩
    refine List.pairwise_flatMap.mpr ⟨fun f hf => ?_, ?_⟩
    · refine List.pairwise_map.mpr ((List.Pairwise.imp_of_mem fun {r s} hr hs ne => ?_) (rowI hb (fr_nd nd (dnF names f))).nd)
      apply Classical.byContradiction
      intro hc
      have same : ∀ x ∈ names, exF t f r x = exF t f s x := fun x hx => Classical.byContradiction fun z => hc ⟨x, hx, z⟩
      have mm : ∀ x, x ∈ frS names E (dnF names f) → (x ∈ r ↔ x ∈ s) := fun x hx => by
        have hxn := (mem_fr.mp hx).1
        have e := same x hxn
        have lt := ((fnS_good hb nd ac t f hf).rng x hxn).2
        unfold exF at e
        by_cases c1 : x ∈ r <;> by_cases c2 : x ∈ s
        · exact ⟨fun _ => c2, fun _ => c1⟩
        · rw [if_pos c1, if_neg c2] at e; omega
        · rw [if_neg c1, if_pos c2] at e; omega
        · exact ⟨fun z => absurd z c1, fun z => absurd z c2⟩
      refine ne ?_
      rw [(rowR_few hb (fr_nd nd _) hr).2, (rowR_few hb (fr_nd nd _) hs).2]
      exact List.filter_congr fun x hx => by rw [Bool.eq_iff_iff, decide_eq_true_iff, decide_eq_true_iff]; exact mm x hx
    · refine (List.Pairwise.imp_of_mem fun {f g} hf hg ⟨x, hx, ne⟩ => ?_) (fnS_nd hb nd ac t)
      intro f2 h2 g2 k2
      obtain ⟨r, hr, rfl⟩ := List.mem_map.mp h2
      obtain ⟨s, hs, rfl⟩ := List.mem_map.mp k2
      refine ⟨x, hx, fun e => ne ?_⟩
      have l1 := ((fnS_good hb nd ac t f hf).rng x hx).2
      have l2 := ((fnS_good hb nd ac t g hg).rng x hx).2
      unfold exF at e
      by_cases c1 : x ∈ r <;> by_cases c2 : x ∈ s
      · rw [(und hf hr c1).2, (und hg hs c2).2]
      · rw [if_pos c1, if_neg c2] at e; omega
      · rw [if_neg c1, if_pos c2] at e; omega
      · rw [if_neg c1, if_neg c2] at e; exact e
end
end Lw
namespace Lw
open PySem PySem.Spec PyProof.Rows L2 Ly TL
/-! rows_ahead, turns_behind, and the law's own -/
noncomputable def bfS (names : List Str) (E : List (Str × Str)) : Dct Str (List Str) := Dct.mk (names.map fun n => (n, lB names E n))
theorem putD_new {α : Type} {d : Dct Str α} {k : Str} {x : α} (h : k ∉ d.l.map (·.1)) : putD d k x = ⟨d.l ++ [(k, x)]⟩ := by
  have : look d.l k = none := look_none.mpr fun p hp e => h (List.mem_map.mpr ⟨p, hp, e⟩)
  unfold putD
  rw [putL_new this]
theorem keys_bf (names : List Str) (E : List (Str × Str)) : keysD (bfS names E) = names := by
  unfold keysD bfS
  rw [List.map_map]
  exact List.map_id' names
theorem look_bf {names : List Str} {E : List (Str × Str)} {n : Str} (h : n ∈ names) : look (bfS names E).l n = some (lB names E n) := by
  unfold bfS
  induction names with
  | nil => cases h
  | cons x xs ih =>
    have gen : ∀ ys : List Str, n ∈ ys → look (ys.map fun m => (m, lB (x :: xs) E m)) n = some (lB (x :: xs) E n) := fun ys => by
      induction ys with
      | nil => intro h; cases h
      | cons y ys ih2 =>
        intro h
        rw [List.map_cons, look_cons]
        by_cases c : y = n
        · rw [if_pos c, c]
        · rw [if_neg c]
          exact ih2 ((List.mem_cons.mp h).resolve_left fun e => c e.symm)
    exact gen _ h
theorem bf_fold {names : List Str} {E : List (Str × Str)} (nd : names.Nodup) {g : Dct Str (List Str) → Str → Dct Str (List Str)} (hg : ∀ d n, n ∈ names → g d n = putD d n (lB names E n)) :
    names.foldl g (Dct.mk []) = bfS names E ∧ ∀ d n, AtF g names (Dct.mk []) d n → n ∈ names ∧ d.l.length ≤ names.length := by
  let I : Nat → Dct Str (List Str) → Prop := fun k d => d = Dct.mk ((names.take k).map fun n => (n, lB names E n))
  have h0 : I 0 (Dct.mk []) := by show _ = Dct.mk ((names.take 0).map _); rw [List.take_zero]; rfl
  have hs : ∀ k d n, names[k]? = some n → I k d → I (k + 1) (g d n) := fun k d n hk hd => by
    have hd : d = Dct.mk ((names.take k).map fun n => (n, lB names E n)) := hd
    show g d n = Dct.mk ((names.take (k + 1)).map _)
    rw [hg d n (List.mem_of_getElem? hk), putD_new (by
      rw [hd]
      show n ∉ ((names.take k).map _).map _
      rw [List.map_map]
      have e : ((fun x : Str × List Str => x.1) ∘ fun n => (n, lB names E n)) = fun n => n := rfl
      rw [e, List.map_id']
      exact nodup_fresh nd hk), take_snoc hk, List.map_append, hd]
    rfl
  refine ⟨?_, fun d n hat => ?_⟩
  · have z := fold_end I h0 hs
    have z : names.foldl g (Dct.mk []) = Dct.mk ((names.take names.length).map _) := z
    rw [List.take_length] at z
    exact z
  · obtain ⟨k, hk, hd⟩ := atF_at I hat h0 hs
    have hd : d = Dct.mk ((names.take k).map fun n => (n, lB names E n)) := hd
    refine ⟨List.mem_of_getElem? hk, ?_⟩
    rw [hd]
    show ((names.take k).map _).length ≤ _
    rw [List.length_map, List.length_take]
    omega
theorem ahead_good {names : List Str} {E : List (Str × Str)} {j : JobsV} (g : JG names E) (h : JM names E j) : ok_p_rows_ahead j ∧ p_rows_ahead j = bfS names E := by
  have er : p_Jobs_names j = names := h.row
  have nl := g.len
  have bg : big = 1000000 := rfl
  unfold ok_p_rows_ahead p_rows_ahead
  simp only [pipe_eq]
  rw [er]
  obtain ⟨f1, f2⟩ := bf_fold g.nd (E := E) (g := p_rows_ahead_L1 j) fun d n hn => by
    unfold p_rows_ahead_L1
    simp only [pipe_eq]
    rw [(h.ahead hn).2]
  exact ⟨⟨fun d n hat => ⟨(h.ahead (f2 d n hat).1).1, by have := (f2 d n hat).2; omega, trivial⟩, trivial⟩, f1⟩
theorem given_snd {xs : List Str} {p : Str → Bool} : ((given (fun (_ : Str) => true) p xs).all id) = xs.all p := by
  rw [given_all, List.all_map]
  rfl
/-- the rows, by a walk over all that passes over those that may not come -/
theorem walk_rows {names : List Str} {E : List (Str × Str)} (nl : names.length ≤ 7) (nd : names.Nodup) {b : Int} (hb : 1 ≤ b) (done : List Str) {g : List (List Str) → Str → List (List Str)}
    (hg : ∀ st n, n ∈ names → g st n = bif (!(decide (n ∈ done)) && (lB names E n).all fun o => decide (o ∈ done)) then rowS b st n else st) :
    names.foldl g [[]] = rowR b (frS names E done) ∧ ∀ st n, AtF g names [[]] st n → n ∈ names ∧ st.length ≤ 128 ∧ ∀ r ∈ st, r.length ≤ 7 := by
  let q : Str → Bool := fun n => !(decide (n ∈ done)) && (lB names E n).all fun o => decide (o ∈ done)
  let I : Nat → List (List Str) → Prop := fun k st => st = rowR b ((names.take k).filter q)
  have h0 : I 0 [[]] := by show _ = rowR b ((names.take 0).filter q); rw [List.take_zero]; rfl
  have hs : ∀ k st n, names[k]? = some n → I k st → I (k + 1) (g st n) := fun k st n hk hd => by
    have hd : st = rowR b ((names.take k).filter q) := hd
    show g st n = rowR b ((names.take (k + 1)).filter q)
    rw [hg st n (List.mem_of_getElem? hk), take_snoc hk, List.filter_append, List.filter_cons, List.filter_nil]
    show (bif q n then _ else _) = _
    cases c : q n with
    | true =>
      rw [cond_true, if_pos rfl, hd]
      unfold rowR
      rw [List.foldl_append]
      rfl
    | false => rw [cond_false, if_neg Bool.false_ne_true, List.append_nil, hd]
  refine ⟨?_, fun st n hat => ?_⟩
  · have z := fold_end I h0 hs
    have z : names.foldl g [[]] = rowR b ((names.take names.length).filter q) := z
    rw [List.take_length] at z
    exact z
  · obtain ⟨k, hk, hd⟩ := atF_at I hat h0 hs
    have hd : st = rowR b ((names.take k).filter q) := hd
    have nd2 : ((names.take k).filter q).Nodup := (nd.sublist (List.take_sublist _ _)).sublist List.filter_sublist
    have R := rowI hb nd2
    have l1 : ((names.take k).filter q).length ≤ 7 := Nat.le_trans (List.length_filter_le _ _) (by rw [List.length_take]; omega)
    refine ⟨List.mem_of_getElem? hk, ?_, fun r hr => ?_⟩
    · rw [hd]
      exact Nat.le_trans R.len (Nat.pow_le_pow_right (by omega) l1)
    · rw [hd] at hr
      have e := (R.few r hr).2
      rw [List.take_length] at e
      rw [e]
      exact Nat.le_trans (List.length_filter_le _ _) l1
theorem foldl_map_ {α β γ : Type} (f : α → β) (g : γ → β → γ) : ∀ (l : List α) (x : γ), (l.map f).foldl g x = l.foldl (fun x a => g x (f a)) x
  | [], _ => rfl
  | a :: l, x => foldl_map_ f g l (g x (f a))
theorem turns_good {names : List Str} {E : List (Str × Str)} (nl : names.length ≤ 7) (nd : names.Nodup) {b : Int} (hb : 1 ≤ b) (done : Tl Str) :
    ok_p_turns_behind (bfS names E) done b ∧ p_turns_behind (bfS names E) done b = (rowR b (frS names E done.l)).map fun row => (row, Tl.mk (thS names done.l row)) := by
  have bg : big = 1000000 := rfl
  obtain ⟨w1, w2⟩ := walk_rows (E := E) nl nd hb done.l (g := fun st n => p_turns_behind_L1 done b st (n, lB names E n)) fun st n hn => by
    unfold p_turns_behind_L1
    simp only [pipe_eq]
    rw [given_snd]
    rfl
  have eb : (bfS names E).l = names.map fun n => (n, lB names E n) := rfl
  unfold ok_p_turns_behind p_turns_behind
  simp only [pipe_eq]
  refine ⟨⟨fun st x hat => ?_, trivial⟩, ?_⟩
  · obtain ⟨pre, post, e, h⟩ := hat
    rw [eb] at e
    obtain ⟨p1, p2, e1, e2, e3⟩ := List.map_eq_append_iff.mp e
    obtain ⟨n, p3, e4, e5, e6⟩ := List.map_eq_cons_iff.mp e3
    have at2 : AtF (fun st n => p_turns_behind_L1 done b st (n, lB names E n)) names [[]] st n := ⟨p1, p3, by rw [e1, e4], by rw [← foldl_map_ (fun n => (n, lB names E n)) (p_turns_behind_L1 done b), e2]; exact h⟩
    obtain ⟨_, h2, h3⟩ := w2 st n at2
    refine ⟨fun _ => ⟨fun r hr _ => ⟨?_, trivial⟩, ?_, trivial⟩, fun _ => trivial⟩
    · rw [List.length_append]
      show r.length + 1 ≤ big
      have := h3 r hr
      omega
    · unfold given
      rw [List.length_append, List.length_map]
      have := List.length_filter_le (fun row : List Str => decide ((row.length : Int) < b)) st
      omega
  · rw [eb, foldl_map_, w1, given_all]
    refine List.map_congr_left fun row _ => ?_
    rw [given_id, keys_bf]
    rfl
theorem free_good {names : List Str} {E : List (Str × Str)} (nl : names.length ≤ 7) (done : Tl Str) : ok_m_free (bfS names E) done ∧ m_free (bfS names E) done = frS names E done.l := by
  have bg : big = 1000000 := rfl
  have ex : ∀ n ∈ names, (decide ((given (fun (other : Str) => (!(decide (other ∈ done.l)))) (fun (other : Str) => other) (getD (bfS names E) n)) = ([] : (List Str)))) = (lB names E n).all fun o => decide (o ∈ done.l) := fun n hn => by
    have eg : getD (bfS names E) n = lB names E n := by unfold getD; rw [look_bf hn]; rfl
    rw [eg, given_id, Bool.eq_iff_iff, decide_eq_true_iff, List.filter_eq_nil_iff, List.all_eq_true]
    exact ⟨fun z o ho => by simpa using z o ho, fun z o ho => by simpa using z o ho⟩
  let q : Str → Bool := fun n => !(decide (n ∈ done.l)) && (lB names E n).all fun o => decide (o ∈ done.l)
  let I : Nat → List Str → Prop := fun k st => st = (names.take k).filter q
  have h0 : I 0 [] := by show _ = (names.take 0).filter q; rw [List.take_zero]; rfl
  have hs : ∀ k st n, names[k]? = some n → I k st → I (k + 1) (m_free_L1 (bfS names E) done st n) := fun k st n hk hd => by
    have hd : st = (names.take k).filter q := hd
    show _ = (names.take (k + 1)).filter q
    unfold m_free_L1
    simp only [pipe_eq]
    rw [ex n (List.mem_of_getElem? hk), take_snoc hk, List.filter_append, List.filter_cons, List.filter_nil]
    show (bif q n then _ else _) = _
    cases c : q n with
    | true => rw [cond_true, if_pos rfl, hd]
    | false => rw [cond_false, if_neg Bool.false_ne_true, List.append_nil, hd]
  unfold ok_m_free m_free
  simp only [pipe_eq]
  rw [keys_bf]
  refine ⟨⟨fun st n hat => ?_, trivial⟩, ?_⟩
  · obtain ⟨k, hk, hd⟩ := atF_at I hat h0 hs
    have hd : st = (names.take k).filter q := hd
    refine ⟨fun _ => ⟨?_, trivial⟩, fun _ => ⟨?_, trivial⟩, fun _ => trivial⟩
    · unfold hasD
      rw [look_bf (List.mem_of_getElem? hk)]
      rfl
    · rw [hd]
      have := List.length_filter_le q (names.take k)
      rw [List.length_take] at this
      omega
  · have z := fold_end I h0 hs
    have z : names.foldl (m_free_L1 (bfS names E) done) [] = (names.take names.length).filter q := z
    rw [List.take_length] at z
    exact z
theorem mrows_good {fr : List Str} (fl : fr.length ≤ 7) (nd : fr.Nodup) {b : Int} (hb : 1 ≤ b) : ok_m_rows fr b ∧ m_rows fr b = rowR b fr := by
  have bg : big = 1000000 := rfl
  have e : m_rows fr b = rowR b fr := rfl
  refine ⟨?_, e⟩
  unfold ok_m_rows
  simp only [pipe_eq]
  refine ⟨fun st x hat => ?_, trivial⟩
  obtain ⟨k, hk, R⟩ := atF_at (RowI b fr) hat (rowI_zero hb fr) fun _ _ _ hk h => rowI_step nd hk h
  have hlt := (List.getElem?_eq_some_iff.mp hk).1
  have l1 : 2 ^ k ≤ 2 ^ 7 := Nat.pow_le_pow_right (by omega) (by omega)
  have := R.len
  refine ⟨fun r hr _ => ⟨?_, trivial⟩, ?_, trivial⟩
  · rw [List.length_append, (R.few r hr).2]
    show _ + 1 ≤ big
    have := List.length_filter_le (fun x => decide (x ∈ r)) (fr.take k)
    rw [List.length_take] at this
    omega
  · unfold given
    rw [List.length_append, List.length_map]
    have := List.length_filter_le (fun row : List Str => decide ((row.length : Int) < b)) st
    omega
theorem before_good {names : List Str} {E : List (Str × Str)} {B : Dct Str (Dct Str Bool)} (nl : names.length ≤ 20) (nd : names.Nodup) (h : BH names E B) : ok_m_before names B ∧ m_before names B = bfS names E := by
  have bg : big = 1000000 := rfl
  unfold ok_m_before m_before
  simp only [pipe_eq]
  obtain ⟨f1, f2⟩ := bf_fold nd (E := E) (g := m_before_L1 names B) fun d n hn => by
    unfold m_before_L1
    simp only [pipe_eq]
    rw [given_id]
    congr 1
    exact List.filter_congr fun o ho => (h.at_ o ho).2 n
  exact ⟨⟨fun d n hat => ⟨fun o ho => ⟨(h.at_ o ho).1, trivial⟩, by have := (f2 d n hat).2; omega, trivial⟩, trivial⟩, f1⟩
end Lw
namespace Lw
open PySem PySem.Spec PyProof.Rows L2 Ly TL
theorem at0 {α : Type} [Inhabited α] {P : List α} {k : Nat} {T : α} (h : P[k]? = some T) : okI P (k : Int) ∧ getI P (k : Int) = T := by
  obtain ⟨hk, e⟩ := List.getElem?_eq_some_iff.mp h
  exact ⟨okI_nat hk, by rw [getI_nat hk, e]⟩
end Lw
namespace Lw
open PySem PySem.Spec PyProof.Rows L2 Ly TL
/-! counted, and the law's counting set by set -/
section
variable {names : List Str} {E : List (Str × Str)} {b : Int}
theorem cE (nl : names.length ≤ 7) (nd : names.Nodup) (hb : 1 ≤ b) (W : Dct (Tl Str) Int) (p : KV_) : p_counted_L2 b (bfS names E) W p = stE names E b W p := by
  unfold p_counted_L2 stE
  simp only [pipe_eq]
  rw [(turns_good nl nd hb p.1).2, foldl_map_]
  rfl
theorem cW (nl : names.length ≤ 7) (nd : names.Nodup) (hb : 1 ≤ b) (W : Dct (Tl Str) Int) (t : Int) : p_counted_L1 b (bfS names E) W t = stW names E b W := by
  unfold p_counted_L1 stW
  simp only [pipe_eq]
  rw [show p_counted_L2 b (bfS names E) = stE names E b from funext fun W => funext fun p => cE nl nd hb W p]
theorem stE_ok {W : Dct (Tl Str) Int} (h : WI names W) (p : KV_) : WI names (stE names E b W p) := (add_all (fun _ => 0) p.1.l p.2 (rowR b (frS names E p.1.l)) h).1
theorem counted_good {j : JobsV} (g : JG names E) (h : JM names E j) (nl : names.length ≤ 7) (hb : 1 ≤ b) {t : Int} (ht : 0 ≤ t ∧ t ≤ 40) : ok_p_counted j b t ∧ p_counted j b t = getOr (itW names E b t.toNat) (Tl.mk names) 0 := by
  have bg : big = 1000000 := rfl
  obtain ⟨ao, ae⟩ := ahead_good g h
  have er : p_Jobs_names j = names := h.row
  have p7 : 2 ^ names.length ≤ 2 ^ 7 := Nat.pow_le_pow_right (by omega) nl
  have hs : ∀ k (W : Dct (Tl Str) Int) x, (rangeL 0 t)[k]? = some x → W = itW names E b k → p_counted_L1 b (bfS names E) W x = itW names E b (k + 1) := fun k W x _ e => by
    rw [cW nl g.nd hb, e]
    rfl
  unfold ok_p_counted p_counted
  simp only [pipe_eq]
  rw [ae, keys_bf]
  refine ⟨⟨?_, ⟨?_, trivial⟩, ⟨by rw [er]; exact decide_eq_false (by omega), trivial⟩, ao, ⟨by omega, by omega⟩, fun W x hat => ⟨fun W1 p hat1 => ⟨(turns_good nl g.nd hb p.1).1, fun W2 q hat2 => ⟨?_, trivial⟩, trivial⟩, trivial⟩, trivial⟩, ?_⟩
  · unfold ok_p_want_benches
    exact ⟨by rw [show p_is_whole b = true from rfl, decide_eq_false (by omega)]; rfl, trivial⟩
  · rw [decide_eq_false (by omega), decide_eq_false (by omega)]
    rfl
  · have w1 : WI names W1 := (atF_inv0 (fun W1 => WI names W1) hat1 (WI.nil names) fun W1 p _ h => by rw [cE nl g.nd hb]; exact stE_ok h p).2
    rw [(turns_good nl g.nd hb p.1).2] at hat2
    have w2 : WI names W2 := (atF_inv0 (fun W2 => WI names W2) hat2 w1 fun W2 q hq h => by
      obtain ⟨row, _, rfl⟩ := List.mem_map.mp hq
      exact h.add (thS_in names p.1.l row) p.2).2
    have := w2.few
    omega
  · have z : List.foldl (p_counted_L1 b (bfS names E)) (Dct.mk [(Tl.mk [], 1)]) (rangeL 0 t) = itW names E b (rangeL 0 t).length := fold_end (fun k W => W = itW names E b k) (g := p_counted_L1 b (bfS names E)) (xs := rangeL 0 t) rfl hs
    rw [z, rangeL_len, Int.sub_zero]
noncomputable def duS (names : List Str) (E : List (Str × Str)) (b : Int) (k : Nat) : List Int := (List.range k).map fun t => getOr (itW names E b t) (Tl.mk names) (0 : Int)
theorem duS_at {k m : Nat} (h : m < k) : okI (duS names E b k) (m : Int) ∧ getI (duS names E b k) (m : Int) = getOr (itW names E b m) (Tl.mk names) 0 := at0 (by
  unfold duS
  rw [List.getElem?_map, List.getElem?_range h]
  rfl)
theorem bysets_good {B : Dct Str (Dct Str Bool)} (g : JG names E) (h : BH names E B) (nl : names.length ≤ 7) (hb : 1 ≤ b) {t : Int} (ht : 0 ≤ t ∧ t ≤ 40) : ok_m_by_sets names B b t ∧ m_by_sets names B b t = duS names E b (t.toNat + 1) := by
  have bg : big = 1000000 := rfl
  obtain ⟨ao, ae⟩ := before_good g.len g.nd h
  have p7 : 2 ^ names.length ≤ 2 ^ 7 := Nat.pow_le_pow_right (by omega) nl
  have frl : ∀ done, (frS names E done).length ≤ 7 := fun done => Nat.le_trans (List.length_filter_le _ _) nl
  have lE : ∀ W W1 (d : Tl Str), m_by_sets_L2 names b (bfS names E) W W1 d = stE names E b W1 (d, getD W d) := fun W W1 d => by
    unfold m_by_sets_L2 stE
    simp only [pipe_eq]
    rw [(free_good nl d).2, (mrows_good (frl d.l) (fr_nd g.nd d.l) hb).2]
    refine congrArg (fun f => List.foldl f W1 _) (funext fun W2 => funext fun row => ?_)
    unfold m_by_sets_L3 addW thS
    simp only [pipe_eq]
    rw [given_id]
  have lW : ∀ {W : Dct (Tl Str) Int}, WI names W → (keysD W).foldl (m_by_sets_L2 names b (bfS names E) W) (Dct.mk []) = stW names E b W := fun {W} hW => by
    rw [show m_by_sets_L2 names b (bfS names E) W = fun W1 d => stE names E b W1 (d, getD W d) from funext fun W1 => funext fun d => lE W W1 d]
    unfold keysD stW
    rw [foldl_map_]
    have key : ∀ (l : List KV_), (∀ p ∈ l, p ∈ W.l) → ∀ D, l.foldl (fun W1 a => stE names E b W1 (a.1, getD W a.1)) D = l.foldl (stE names E b) D := fun l => by
      induction l with
      | nil => intro _ D; rfl
      | cons p l ih =>
        intro hl D
        have e : getD W p.1 = p.2 := by
          unfold getD
          rw [look_of_mem hW.nd (k := p.1) (x := p.2) (hl p List.mem_cons_self)]
          rfl
        rw [List.foldl_cons, List.foldl_cons, e]
        exact ih (fun q hq => hl q (List.mem_cons_of_mem _ hq)) _
    exact key W.l (fun _ h => h) _
  have l1 : ∀ k (st : Dct (Tl Str) Int × List Int) x, (rangeL 0 t)[k]? = some x → st = (itW names E b k, duS names E b (k + 1)) → m_by_sets_L1 names b (bfS names E) st x = (itW names E b (k + 1), duS names E b (k + 2)) := fun k st x _ e => by
    unfold m_by_sets_L1
    simp only [pipe_eq]
    rw [e]
    show (_, _) = _
    rw [lW (itW_ok names E b k)]
    show (itW names E b (k + 1), duS names E b (k + 1) ++ [getOr (itW names E b (k + 1)) (Tl.mk names) 0]) = _
    unfold duS
    rw [List.range_succ (n := k + 1), List.map_append]
    rfl
  unfold ok_m_by_sets m_by_sets
  simp only [pipe_eq]
  rw [ae]
  refine ⟨⟨ao, ⟨by omega, by omega⟩, fun st x hat => ?_, trivial⟩, ?_⟩
  · obtain ⟨k, hk, e⟩ := atF_at (fun k (st : Dct (Tl Str) Int × List Int) => st = (itW names E b k, duS names E b (k + 1))) hat rfl l1
    have hlt := (List.getElem?_eq_some_iff.mp hk).1
    rw [rangeL_len] at hlt
    rw [e]
    refine ⟨fun W1 d hat1 => ?_, ?_, trivial⟩
    · obtain ⟨hd, w1⟩ := atF_inv0 (fun W1 => WI names W1) hat1 (WI.nil names) fun W1 d _ h => by rw [lE]; exact stE_ok h _
      refine ⟨(free_good nl d).1, ?_, fun W2 row hat2 => ⟨?_, ?_, trivial⟩, trivial⟩
      · rw [(free_good nl d).2]
        exact (mrows_good (frl d.l) (fr_nd g.nd d.l) hb).1
      · unfold hasD
        obtain ⟨p, hp, rfl⟩ := List.mem_map.mp hd
        rw [look_of_mem (itW_ok names E b k).nd (k := p.1) (x := p.2) hp]
        rfl
      · have w2 : WI names W2 := (atF_inv0 (fun W2 => WI names W2) hat2 w1 fun W2 row _ h => by
          unfold m_by_sets_L3
          simp only [pipe_eq]
          rw [given_id]
          exact h.add (thS_in names d.l row) _).2
        have := w2.few
        omega
    · unfold duS
      rw [List.length_map, List.length_range]
      omega
  · have z := fold_end (fun k (st : Dct (Tl Str) Int × List Int) => st = (itW names E b k, duS names E b (k + 1))) (g := m_by_sets_L1 names b (bfS names E)) (xs := rangeL 0 t) rfl l1
    rw [rangeL_len] at z
    have z2 := congrArg Prod.snd z
    refine Eq.trans z2 ?_
    show duS names E b ((t - 0).toNat + 1) = _
    rw [Int.sub_zero]
end
end Lw
namespace Lw
open PySem PySem.Spec PyProof.Rows L2 Ly TL
/-! plans counted, job by job -/
theorem fold_if {α β : Type} (c : α → Bool) (f : α → β) : ∀ (xs : List α) (acc : List β), xs.foldl (fun acc x => bif c x then acc ++ [f x] else acc) acc = acc ++ (xs.filter c).map f
  | [], acc => by simp
  | x :: xs, acc => by
    rw [List.foldl_cons, fold_if c f xs, List.filter_cons]
    cases q : c x with
    | true => simp
    | false => simp
theorem flat_len {α β : Type} {F : α → List β} {m : Nat} : ∀ {xs : List α}, (∀ x ∈ xs, (F x).length ≤ m) → (xs.flatMap F).length ≤ xs.length * m
  | [], _ => by simp
  | x :: xs, h => by
    rw [List.flatMap_cons, List.length_append, List.length_cons, Nat.add_mul, Nat.one_mul]
    have := h x List.mem_cons_self
    have := flat_len (F := F) (m := m) (xs := xs) fun y hy => h y (List.mem_cons_of_mem _ hy)
    omega
theorem hasD_key {α : Type} {d : Dct Str α} {x : Str} (h : x ∈ keysD d) : hasD d x = true := by
  obtain ⟨p, hp, e⟩ := List.mem_map.mp h
  unfold hasD
  cases q : look d.l x with
  | some v => rfl
  | none => exact absurd e (look_none.mp q p hp)
section
variable (E : List (Str × Str)) (b T : Int)
structure PV (ns : List Str) (f : Str → Int) : Prop where
  rng : ∀ x ∈ ns, 0 ≤ f x ∧ f x < T
  ord : ∀ x ∈ ns, ∀ y ∈ ns, rb E x y = true → f x < f y
  cap : ∀ i : Int, ((ns.filter fun x => decide (f x = i)).length : Int) ≤ b
noncomputable def okT (n : Str) (one : Dct Str Int) (t : Int) : Bool :=
  decide ((((keysD one).filter fun o => decide (getD one o = t)).length : Int) < b) && (decide (((keysD one).filter fun o => rb E o n && decide (getD one o ≥ t)) = []) && decide (((keysD one).filter fun o => rb E n o && decide (getD one o ≤ t)) = []))
noncomputable def exJ (n : Str) (one : Dct Str Int) : List (Dct Str Int) := ((rangeL 0 T).filter (okT E b n one)).map (putD one n)
structure BJ_ (names : List Str) (k : Nat) (st : List (Dct Str Int)) : Prop where
  key : ∀ one ∈ st, keysD one = names.take k
  val : ∀ one ∈ st, PV E b T (names.take k) (getD one)
  all : ∀ f, PV E b T (names.take k) f → ∃ one ∈ st, ∀ x ∈ names.take k, getD one x = f x
  dis : st.Pairwise fun one two => ∃ x ∈ names.take k, getD one x ≠ getD two x
  len : st.length ≤ T.toNat ^ k
end
section
variable {names : List Str} {E : List (Str × Str)} {b T : Int}
theorem okT_iff {ns : List Str} {n : Str} {one : Dct Str Int} (hk : keysD one = ns) {t : Int} : okT E b n one t = true ↔ ((ns.filter fun o => decide (getD one o = t)).length : Int) < b ∧ (∀ o ∈ ns, rb E o n = true → getD one o < t) ∧ ∀ o ∈ ns, rb E n o = true → t < getD one o := by
  unfold okT
  rw [hk, Bool.and_eq_true_iff, Bool.and_eq_true_iff, decide_eq_true_iff, decide_eq_true_iff, decide_eq_true_iff, List.filter_eq_nil_iff, List.filter_eq_nil_iff]
  refine and_congr_right fun _ => and_congr ⟨fun z o ho w => ?_, fun z o ho w => ?_⟩ ⟨fun z o ho w => ?_, fun z o ho w => ?_⟩
  · have := z o ho
    rw [w, Bool.true_and, decide_eq_true_iff] at this
    omega
  · rw [Bool.and_eq_true_iff, decide_eq_true_iff] at w
    have := z o ho w.1
    omega
  · have := z o ho
    rw [w, Bool.true_and, decide_eq_true_iff] at this
    omega
  · rw [Bool.and_eq_true_iff, decide_eq_true_iff] at w
    have := z o ho w.1
    omega
theorem put_get {one : Dct Str Int} {n : Str} {t : Int} {x : Str} : getD (putD one n t) x = if x = n then t else getD one x := by
  unfold getD
  show (look (putL one.l n t) x).getD default = _
  rw [look_putL]
  by_cases c : x = n
  · rw [if_pos c, if_pos c]; rfl
  · rw [if_neg c, if_neg c]
theorem bj_step (nd : names.Nodup) (ac : ∀ x, rb E x x = false) {k : Nat} {n : Str} (hk : names[k]? = some n) {st : List (Dct Str Int)} (h : BJ_ E b T names k st) : BJ_ E b T names (k + 1) (st.flatMap (exJ E b T n)) := by
  have fr := nodup_fresh nd hk
  have own : ∀ {one}, one ∈ st → ∀ {two}, two ∈ exJ E b T n one → ∃ t, 0 ≤ t ∧ t < T ∧ okT E b n one t = true ∧ two = putD one n t := fun {one} h1 {two} h2 => by
    obtain ⟨t, ht, e⟩ := List.mem_map.mp h2
    obtain ⟨t1, t2⟩ := List.mem_filter.mp ht
    have := mem_rangeL.mp t1
    exact ⟨t, this.1, this.2, t2, e.symm⟩
  have cnt : ∀ (f : Str → Int) (i : Int), (((names.take k ++ [n]).filter fun x => decide (f x = i)).length : Int) = (((names.take k).filter fun x => decide (f x = i)).length : Int) + (if f n = i then 1 else 0) := fun f i => by
    rw [List.filter_append, List.length_append, List.filter_cons, List.filter_nil]
    by_cases c : f n = i
    · rw [if_pos c, if_pos (decide_eq_true c)]
      rfl
    · rw [if_neg c, if_neg (by rw [decide_eq_true_iff]; exact c)]
      rfl
  have old : ∀ {x}, x ∈ names.take k → x ≠ n := fun {x} hx e => fr (e ▸ hx)
  refine ⟨fun two h2 => ?_, fun two h2 => ?_, fun f hf => ?_, ?_, ?_⟩
  · obtain ⟨one, h1, h3⟩ := List.mem_flatMap.mp h2
    obtain ⟨t, _, _, _, rfl⟩ := own h1 h3
    rw [putD_new (by have := h.key one h1; unfold keysD at this; rw [this]; exact fr), take_snoc hk, ← h.key one h1]
    unfold keysD
    rw [List.map_append]
    rfl
  · obtain ⟨one, h1, h3⟩ := List.mem_flatMap.mp h2
    obtain ⟨t, t0, t1, ot, rfl⟩ := own h1 h3
    obtain ⟨o1, o2, o3⟩ := (okT_iff (h.key one h1)).mp ot
    have v := h.val one h1
    have gn : getD (putD one n t) n = t := by rw [put_get, if_pos rfl]
    have go : ∀ {x}, x ∈ names.take k → getD (putD one n t) x = getD one x := fun hx => by rw [put_get, if_neg (old hx)]
    rw [take_snoc hk]
    refine ⟨fun x hx => ?_, fun x hx y hy w => ?_, fun i => ?_⟩
    · rcases List.mem_append.mp hx with q | q
      · rw [go q]; exact v.rng x q
      · rw [List.mem_singleton.mp q, gn]; exact ⟨t0, t1⟩
    · rcases List.mem_append.mp hx with q | q <;> rcases List.mem_append.mp hy with r | r
      · rw [go q, go r]; exact v.ord x q y r w
      · rw [List.mem_singleton.mp r] at w ⊢
        rw [go q, gn]; exact o2 x q w
      · rw [List.mem_singleton.mp q] at w ⊢
        rw [gn, go r]; exact o3 y r w
      · rw [List.mem_singleton.mp q, List.mem_singleton.mp r, ac] at w
        cases w
    · rw [cnt, gn]
      have e : ((names.take k).filter fun x => decide (getD (putD one n t) x = i)) = (names.take k).filter fun x => decide (getD one x = i) := List.filter_congr fun x hx => by rw [go hx]
      rw [e]
      have := v.cap i
      by_cases c : t = i
      · subst c
        rw [if_pos rfl]
        omega
      · rw [if_neg c]
        omega
  · rw [take_snoc hk] at hf
    have hf0 : PV E b T (names.take k) f := ⟨fun x hx => hf.rng x (List.mem_append_left _ hx), fun x hx y hy => hf.ord x (List.mem_append_left _ hx) y (List.mem_append_left _ hy), fun i => by
      have := hf.cap i
      rw [cnt] at this
      split at this <;> omega⟩
    obtain ⟨one, h1, same⟩ := h.all f hf0
    have mn : n ∈ names.take k ++ [n] := by simp
    have rn := hf.rng n mn
    refine ⟨putD one n (f n), List.mem_flatMap.mpr ⟨one, h1, List.mem_map.mpr ⟨f n, List.mem_filter.mpr ⟨mem_rangeL.mpr rn, (okT_iff (h.key one h1)).mpr ⟨?_, fun o ho w => ?_, fun o ho w => ?_⟩⟩, rfl⟩⟩, fun x hx => ?_⟩
    · have := hf.cap (f n)
      rw [cnt, if_pos rfl] at this
      have e : ((names.take k).filter fun x => decide (getD one x = f n)) = (names.take k).filter fun x => decide (f x = f n) := List.filter_congr fun x hx => by rw [same x hx]
      rw [e]
      omega
    · rw [same o ho]; exact hf.ord o (List.mem_append_left _ ho) n mn w
    · rw [same o ho]; exact hf.ord n mn o (List.mem_append_left _ ho) w
    · rw [take_snoc hk] at hx
      rw [put_get]
      rcases List.mem_append.mp hx with q | q
      · rw [if_neg (old q)]; exact same x q
      · rw [List.mem_singleton.mp q, if_pos rfl]
  · rw [take_snoc hk]
    refine List.pairwise_flatMap.mpr ⟨fun one h1 => ?_, ?_⟩
    · refine List.pairwise_map.mpr (List.Pairwise.imp (fun {s t} ne => ⟨n, by simp, ?_⟩) ((show (rangeL 0 T).Nodup from ?_).sublist List.filter_sublist))
      · refine List.pairwise_iff_getElem.mpr fun i j hi hj hij => ?_
        have e1 := rangeL_at (List.getElem?_eq_getElem hi)
        have e2 := rangeL_at (List.getElem?_eq_getElem hj)
        omega
      · rw [put_get, put_get, if_pos rfl, if_pos rfl]; exact ne
    · refine List.Pairwise.imp_of_mem (fun {one two} h1 h2 ⟨x, hx, ne⟩ => ?_) h.dis
      intro a ha c hc
      obtain ⟨s, _, _, _, rfl⟩ := own h1 ha
      obtain ⟨t, _, _, _, rfl⟩ := own h2 hc
      refine ⟨x, List.mem_append_left _ hx, ?_⟩
      rw [put_get, put_get, if_neg (old hx), if_neg (old hx)]
      exact ne
  · refine Nat.le_trans (flat_len (m := T.toNat) fun one _ => ?_) ?_
    · unfold exJ
      rw [List.length_map]
      refine Nat.le_trans (List.length_filter_le _ _) ?_
      rw [rangeL_len]
      omega
    · rw [Nat.pow_succ]
      exact Nat.mul_le_mul_right _ h.len
theorem bj_zero (hb : 1 ≤ b) : BJ_ E b T names 0 [Dct.mk []] := by
  have no : ∀ {x : Str}, x ∈ names.take 0 → False := fun h => by rw [List.take_zero] at h; cases h
  refine ⟨fun one h => ?_, fun one _ => ⟨fun x hx => (no hx).elim, fun x hx => (no hx).elim, fun i => ?_⟩, fun f _ => ⟨_, List.mem_singleton.mpr rfl, fun x hx => (no hx).elim⟩, List.pairwise_singleton _ _, Nat.le_refl _⟩
  · rw [List.mem_singleton.mp h, List.take_zero]; rfl
  · rw [List.take_zero]
    show (0 : Int) ≤ b
    omega
theorem byjobs_good {B : Dct Str (Dct Str Bool)} (g : JG names E) (ac : ∀ x, rb E x x = false) (hB : BH names E B) (nl : names.length < 5) (hb : 1 ≤ b) (hT : 0 ≤ T ∧ T < 6) :
    ok_m_by_jobs names B b T ∧ ∃ st, BJ_ E b T names names.length st ∧ m_by_jobs names B b T = (st.length : Int) := by
  have bg : big = 1000000 := rfl
  have e3 : ∀ {k : Nat} {n : Str}, names[k]? = some n → ∀ {one : Dct Str Int}, keysD one = names.take k → ∀ st2, (rangeL 0 T).foldl (m_by_jobs_L3 B b n one) st2 = st2 ++ exJ E b T n one := fun {k n} hk {one} ho st2 => by
    have hn := List.mem_of_getElem? hk
    have sub : ∀ o ∈ keysD one, o ∈ names := fun o h => List.mem_of_mem_take (by rw [← ho]; exact h)
    have ef : m_by_jobs_L3 B b n one = fun acc t => bif okT E b n one t then acc ++ [putD one n t] else acc := funext fun acc => funext fun t => by
      unfold m_by_jobs_L3 okT
      simp only [pipe_eq]
      have q1 : (keysD one).filter (fun o => hasD (getD B o) n && decide (getD one o ≥ t)) = (keysD one).filter fun o => rb E o n && decide (getD one o ≥ t) := List.filter_congr fun o h => by rw [(hB.at_ o (sub o h)).2 n]
      have q2 : (keysD one).filter (fun o => hasD (getD B n) o && decide (getD one o ≤ t)) = (keysD one).filter fun o => rb E n o && decide (getD one o ≤ t) := List.filter_congr fun o h => by rw [(hB.at_ n hn).2 o]
      rw [given_id, given_id, given_id, q1, q2]
    rw [ef, fold_if]
    rfl
  have e2 : ∀ {k : Nat} {n : Str}, names[k]? = some n → ∀ (l : List (Dct Str Int)), (∀ one ∈ l, keysD one = names.take k) → ∀ acc, l.foldl (m_by_jobs_L2 B b T n) acc = acc ++ l.flatMap (exJ E b T n) := fun {k n} hk l => by
    induction l with
    | nil => intro _ acc; simp
    | cons one l ih =>
      intro h acc
      rw [List.foldl_cons, ih (fun o ho => h o (List.mem_cons_of_mem _ ho)), List.flatMap_cons, ← List.append_assoc]
      congr 1
      exact e3 hk (h one List.mem_cons_self) acc
  have hs : ∀ k st n, names[k]? = some n → BJ_ E b T names k st → BJ_ E b T names (k + 1) (m_by_jobs_L1 B b T st n) := fun k st n hk h => by
    have e : m_by_jobs_L1 B b T st n = st.flatMap (exJ E b T n) := by
      unfold m_by_jobs_L1
      simp only [pipe_eq]
      rw [e2 hk st h.key, List.nil_append]
    rw [e]
    exact bj_step g.nd ac hk h
  unfold ok_m_by_jobs m_by_jobs
  simp only [pipe_eq]
  refine ⟨⟨fun st n hat => ?_, trivial⟩, _, fold_end (BJ_ E b T names) (bj_zero hb) hs, rfl⟩
  obtain ⟨k, hk, h⟩ := atF_at (BJ_ E b T names) hat (bj_zero hb) hs
  have hn := List.mem_of_getElem? hk
  have hlt := (List.getElem?_eq_some_iff.mp hk).1
  have sl : st.length ≤ 5 ^ 4 := Nat.le_trans h.len (Nat.le_trans (Nat.pow_le_pow_left (show T.toNat ≤ 5 by omega) k) (Nat.pow_le_pow_right (by omega) (by omega)))
  have xl : ∀ one, (exJ E b T n one).length ≤ 5 := fun one => by
    unfold exJ
    rw [List.length_map]
    refine Nat.le_trans (List.length_filter_le _ _) ?_
    rw [rangeL_len]
    omega
  refine ⟨fun st1 one hat1 => ⟨⟨by omega, by omega⟩, fun st2 t hat2 => ?_, trivial⟩, trivial⟩
  obtain ⟨pre, post, e1, h1⟩ := hat1
  have mo : one ∈ st := by rw [e1]; simp
  have ko := h.key one mo
  have sub : ∀ o ∈ keysD one, o ∈ names := fun o h => List.mem_of_mem_take (by rw [← ko]; exact h)
  rw [e2 hk pre (fun o ho => h.key o (by rw [e1]; exact List.mem_append_left _ ho)), List.nil_append] at h1
  have l1 : st1.length ≤ 625 * 5 := by
    rw [← h1]
    refine Nat.le_trans (flat_len (m := 5) fun o _ => xl o) (Nat.mul_le_mul_right _ ?_)
    have : st.length = pre.length + (post.length + 1) := by rw [e1]; simp
    omega
  obtain ⟨pre2, post2, e4, h2⟩ := hat2
  have l2 : st2.length ≤ 625 * 5 + 10 := by
    have gen : ∀ (xs : List Int) (acc : List (Dct Str Int)), (xs.foldl (m_by_jobs_L3 B b n one) acc).length ≤ acc.length + xs.length := fun xs => by
      induction xs with
      | nil => intro acc; exact Nat.le_refl _
      | cons x xs ih =>
        intro acc
        rw [List.foldl_cons, List.length_cons]
        refine Nat.le_trans (ih _) ?_
        have : (m_by_jobs_L3 B b n one acc x).length ≤ acc.length + 1 := by
          unfold m_by_jobs_L3
          simp only [pipe_eq, Bool.cond_eq_ite]
          split
          · rw [List.length_append]; exact Nat.le_refl _
          · omega
        omega
    have := gen pre2 st1
    rw [h2] at this
    have l3 : (rangeL 0 T).length = pre2.length + (post2.length + 1) := by rw [e4]; simp
    rw [rangeL_len] at l3
    omega
  refine ⟨fun o ho => ⟨hasD_key ho, trivial⟩, fun o ho => ⟨(hB.at_ o (sub o ho)).1, fun _ => ⟨hasD_key ho, trivial⟩, trivial⟩, fun o ho => ⟨(hB.at_ n hn).1, fun _ => ⟨hasD_key ho, trivial⟩, trivial⟩, fun _ => ⟨?_, by omega, trivial⟩, fun _ => trivial⟩
  have : (keysD one).length = one.l.length := by unfold keysD; rw [List.length_map]
  rw [ko, List.length_take] at this
  omega
/-- the two countings agree -/
theorem same_count (hb : 1 ≤ b) (nd : names.Nodup) (ac : ∀ x, rb E x x = false) {t : Nat} {st : List (Dct Str Int)} (h : BJ_ E b (t : Int) names names.length st) : (st.length : Int) = getOr (itW names E b t) (Tl.mk names) 0 := by
  rw [fnS_count]
  have tk : names.take names.length = names := List.take_length
  have h1 := h.val
  have h2 := h.all
  have h3 := h.dis
  rw [tk] at h1 h2 h3
  have full : ∀ {f : Str → Int}, dnF names f = names ↔ ∀ x ∈ names, f x ≠ -1 := fun {f} => by
    unfold dnF
    rw [List.filter_eq_self]
    exact ⟨fun z x hx => of_decide_eq_true (z x hx), fun z x hx => decide_eq_true (z x hx)⟩
  let A : List (List Int) := st.map fun one => names.map (getD one)
  let C : List (List Int) := ((fnS names E b t).filter fun f => decide (dnF names f = names)).map fun f => names.map f
  have vec : ∀ {f g : Str → Int}, names.map f = names.map g ↔ ∀ x ∈ names, f x = g x := fun {f g} => List.map_inj_left
  have nA : A.Nodup := List.pairwise_map.mpr (h3.imp fun {one two} ⟨x, hx, ne⟩ e => ne (vec.mp e x hx))
  have nC : C.Nodup := List.pairwise_map.mpr (((fnS_nd hb nd ac t).sublist List.filter_sublist).imp fun {f g} ⟨x, hx, ne⟩ e => ne (vec.mp e x hx))
  have mem : ∀ v, v ∈ A ↔ v ∈ C := fun v => by
    constructor
    · intro m
      obtain ⟨one, ho, rfl⟩ := List.mem_map.mp m
      have p := h1 one ho
      obtain ⟨f, hf, same⟩ := fnS_all hb nd t (getD one) ⟨fun x hx => by have := p.rng x hx; constructor <;> omega, fun x hx y hy w _ => ⟨by have := p.rng x hx; omega, p.ord x hx y hy w⟩, fun i _ => p.cap i⟩
      refine List.mem_map.mpr ⟨f, List.mem_filter.mpr ⟨hf, decide_eq_true (full.mpr fun x hx => ?_)⟩, vec.mpr same⟩
      rw [same x hx]
      have := p.rng x hx
      omega
    · intro m
      obtain ⟨f, hf, rfl⟩ := List.mem_map.mp m
      obtain ⟨hf1, hf2⟩ := List.mem_filter.mp hf
      have fu := full.mp (of_decide_eq_true hf2)
      have G := fnS_good hb nd ac t f hf1
      obtain ⟨one, ho, same⟩ := h2 f ⟨fun x hx => by have := G.rng x hx; have := fu x hx; constructor <;> omega, fun x hx y hy w => (G.ord x hx y hy w (fu y hy)).2, fun i => by
        by_cases c : 0 ≤ i
        · exact G.cap i c
        · rw [List.filter_eq_nil_iff.mpr fun x hx => by
            rw [decide_eq_true_iff]
            have := G.rng x hx
            have := fu x hx
            omega]
          show (0 : Int) ≤ b
          omega⟩
      exact List.mem_map.mpr ⟨one, ho, vec.mpr same⟩
  have := ((List.perm_ext_iff_of_nodup nA nC).mpr mem).length_eq
  rw [List.length_map, List.length_map] at this
  omega
end
end Lw
namespace Lw
open PySem PySem.Spec PyProof.Rows L2 Ly TL
/-! tables that are filled pass by pass, from the last jobs on -/
def Vf (F : (Str → Int) → Str → Int) : Nat → Str → Int
  | 0 => fun _ => 0
  | k + 1 => F (Vf F k)
noncomputable def dp (names : List Str) (E : List (Str × Str)) (n : Str) : Nat := (lA names E n).length
theorem mem_lA {names : List Str} {E : List (Str × Str)} {n x : Str} : x ∈ lA names E n ↔ x ∈ names ∧ rb E n x = true := List.mem_filter
theorem rch_trans {E : List (Str × Str)} {a b c : Str} (h1 : Rch E a b) (h2 : Rch E b c) : Rch E a c := by
  induction h2 with
  | one m => exact .more h1 m
  | more _ m ih => exact .more ih m
theorem rb_trans {E : List (Str × Str)} {a b c : Str} (h1 : rb E a b = true) (h2 : rb E b c = true) : rb E a c = true := rb_iff.mpr (rch_trans (rb_iff.mp h1) (rb_iff.mp h2))
theorem rb_self {names : List Str} {E : List (Str × Str)} (g : JG names E) (a : Str) : rb E a a = false := by
  cases q : rb E a a with
  | false => rfl
  | true =>
    obtain ⟨r, hr⟩ := g.rank
    exact absurd (Rch.up (r := r) (fun x hx => (hr x hx).2.2) (rb_iff.mp q)) (Nat.lt_irrefl _)
theorem lA_lA {names : List Str} {E : List (Str × Str)} {n x : Str} (h : rb E n x = true) : (lA names E n).filter (rb E x) = lA names E x := by
  unfold lA
  rw [List.filter_filter]
  refine List.filter_congr fun y _ => ?_
  cases q : rb E x y with
  | false => rfl
  | true => rw [rb_trans h q]; rfl
theorem dp_lt {names : List Str} {E : List (Str × Str)} (g : JG names E) {n x : Str} (h : x ∈ lA names E n) : dp names E x < dp names E n := by
  have h2 := (mem_lA.mp h).2
  unfold dp
  rw [← lA_lA h2]
  exact filter_less h (rb_self g x)
theorem dp_top {names : List Str} {E : List (Str × Str)} (g : JG names E) {n : Str} (hn : n ∈ names) : dp names E n < names.length := filter_less hn (rb_self g n)
def Only (names : List Str) (E : List (Str × Str)) (F : (Str → Int) → Str → Int) : Prop := ∀ (f h : Str → Int) (n : Str), n ∈ names → (∀ x ∈ lA names E n, f x = h x) → F f n = F h n
def Vt (names : List Str) (F : (Str → Int) → Str → Int) : Str → Int := Vf F names.length
structure Part (names : List Str) (V : Str → Int) (d : Dct Str Int) : Prop where
  nd : (d.l.map (·.1)).Nodup
  at_ : ∀ n v, look d.l n = some v → n ∈ names ∧ v = V n
theorem Part.zero (names : List Str) (V : Str → Int) : Part names V (Dct.mk []) := ⟨List.nodup_nil, fun n v h => by cases h⟩
theorem Part.put {names : List Str} {V : Str → Int} {d : Dct Str Int} (h : Part names V d) {n : Str} (hn : n ∈ names) {v : Int} (e : v = V n) : Part names V (putD d n v) := ⟨putL_keys h.nd, fun m w hw => by
  have hw' : look (putL d.l n v) m = some w := hw
  rw [look_putL] at hw'
  by_cases c : m = n
  · rw [if_pos c] at hw'
    cases hw'
    subst c
    exact ⟨hn, e⟩
  · rw [if_neg c] at hw'
    exact h.at_ m w hw'⟩
theorem Part.get {names : List Str} {V : Str → Int} {d : Dct Str Int} (h : Part names V d) {n : Str} (hh : hasD d n = true) : getD d n = V n := by
  unfold hasD at hh
  obtain ⟨v, e⟩ := Option.isSome_iff_exists.mp hh
  unfold getD
  rw [e]
  exact (h.at_ n v e).2
theorem Part.sub {names : List Str} {V : Str → Int} {d : Dct Str Int} (h : Part names V d) {n : Str} (hn : n ∈ d.l.map (·.1)) : n ∈ names := by
  obtain ⟨p, hp, e⟩ := List.mem_map.mp hn
  subst e
  exact (h.at_ p.1 p.2 (look_of_mem h.nd hp)).1
theorem Part.few {names : List Str} {V : Str → Int} {d : Dct Str Int} (h : Part names V d) : d.l.length ≤ names.length := by
  have := nodup_len h.nd (m := names) fun x hx => h.sub hx
  rwa [List.length_map] at this
theorem mem_keysD {α : Type} {d : Dct Str α} {n : Str} : n ∈ keysD d ↔ hasD d n = true := by
  rw [has_keys, decide_eq_true_iff]
  rfl
theorem Part.full {names : List Str} {V : Str → Int} {d : Dct Str Int} (h : Part names V d) (nd : names.Nodup) (a : ∀ n ∈ names, hasD d n = true) : d.l.length = names.length := by
  have h1 := h.few
  have h2 := nodup_len nd (m := keysD d) fun x hx => mem_keysD.mpr (a x hx)
  unfold keysD at h2
  rw [List.length_map] at h2
  omega
theorem has_put {α : Type} {d : Dct Str α} {n m : Str} {v : α} : hasD (putD d n v) m = (decide (m = n) || hasD d m) := by
  show (look (putL d.l n v) m).isSome = _
  rw [look_putL]
  by_cases c : m = n
  · rw [if_pos c, decide_eq_true c]; rfl
  · rw [if_neg c, decide_eq_false c]; rfl
theorem Part.same {names : List Str} {V : Str → Int} {d e : Dct Str Int} (h1 : Part names V d) (h2 : Part names V e) (nd : names.Nodup) (a1 : ∀ n ∈ names, hasD d n = true) (a2 : ∀ n ∈ names, hasD e n = true) : eqb d e = true := by
  show eqbD d e = true
  unfold eqbD
  rw [h1.full nd a1, h2.full nd a2, beq_self_eq_true, Bool.true_and, List.all_eq_true]
  intro p hp
  have e1 := look_of_mem h1.nd hp
  obtain ⟨k1, k2⟩ := h1.at_ p.1 p.2 e1
  have q := a2 p.1 k1
  unfold hasD at q
  obtain ⟨v, e2⟩ := Option.isSome_iff_exists.mp q
  rw [e2]
  have k3 := (h2.at_ p.1 v e2).2
  show decide (p.2 = v) = true
  exact decide_eq_true (k2.trans k3.symm)
/-- one step of a pass -/
def Ste (names : List Str) (E : List (Str × Str)) (V : Str → Int) (g : Dct Str Int → Str → Dct Str Int) : Prop := ∀ d n, Part names V d → n ∈ names →
  ((hasD d n = false ∧ ∀ x ∈ lA names E n, hasD d x = true) → g d n = putD d n (V n)) ∧ (¬ (hasD d n = false ∧ ∀ x ∈ lA names E n, hasD d x = true) → g d n = d)
theorem Ste.part {names : List Str} {E : List (Str × Str)} {V : Str → Int} {g : Dct Str Int → Str → Dct Str Int} (hs : Ste names E V g) {d : Dct Str Int} {n : Str} (h : Part names V d) (hn : n ∈ names) : Part names V (g d n) ∧ (∀ x, hasD d x = true → hasD (g d n) x = true) ∧ ((∀ x ∈ lA names E n, hasD d x = true) → hasD (g d n) n = true) := by
  obtain ⟨s1, s2⟩ := hs d n h hn
  by_cases c : hasD d n = false ∧ ∀ x ∈ lA names E n, hasD d x = true
  · rw [s1 c]
    refine ⟨h.put hn rfl, fun x hx => ?_, fun _ => ?_⟩
    · rw [has_put, hx, Bool.or_true]
    · rw [has_put, decide_eq_true rfl]; rfl
  · rw [s2 c]
    refine ⟨h, fun x hx => hx, fun ha => ?_⟩
    cases q : hasD d n with
    | true => rfl
    | false => exact absurd ⟨q, ha⟩ c
theorem pass_good {names : List Str} {E : List (Str × Str)} {V : Str → Int} {g : Dct Str Int → Str → Dct Str Int} (hs : Ste names E V g) : ∀ (l : List Str), (∀ n ∈ l, n ∈ names) → ∀ d, Part names V d →
    Part names V (l.foldl g d) ∧ (∀ x, hasD d x = true → hasD (l.foldl g d) x = true) ∧ ∀ n ∈ l, (∀ x ∈ lA names E n, hasD d x = true) → hasD (l.foldl g d) n = true
  | [], _, d, h => ⟨h, fun _ hx => hx, fun n hn => by cases hn⟩
  | m :: l, hl, d, h => by
    obtain ⟨p1, p2, p3⟩ := hs.part h (hl m List.mem_cons_self)
    obtain ⟨q1, q2, q3⟩ := pass_good hs l (fun n hn => hl n (List.mem_cons_of_mem _ hn)) (g d m) p1
    refine ⟨q1, fun x hx => q2 x (p2 x hx), fun n hn ha => ?_⟩
    rcases List.mem_cons.mp hn with e | e
    · subst e
      exact q2 _ (p3 ha)
    · exact q3 n e fun x hx => p2 x (ha x hx)
def PK (names : List Str) (E : List (Str × Str)) (V : Str → Int) (k : Nat) (d : Dct Str Int) : Prop := Part names V d ∧ ∀ n ∈ names, dp names E n < k → hasD d n = true
theorem PK.zero (names : List Str) (E : List (Str × Str)) (V : Str → Int) : PK names E V 0 (Dct.mk []) := ⟨Part.zero _ _, fun n _ h => absurd h (Nat.not_lt_zero _)⟩
theorem PK.next {names : List Str} {E : List (Str × Str)} (jg : JG names E) {V : Str → Int} {g : Dct Str Int → Str → Dct Str Int} (hs : Ste names E V g) {k : Nat} {d : Dct Str Int} (h : PK names E V k d) : PK names E V (k + 1) (names.foldl g d) := by
  obtain ⟨p1, p2, p3⟩ := pass_good hs names (fun _ h => h) d h.1
  refine ⟨p1, fun n hn hd => p3 n hn fun x hx => h.2 x (lA_sub hx) ?_⟩
  have := dp_lt jg hx
  omega
theorem PK.all {names : List Str} {E : List (Str × Str)} (jg : JG names E) {V : Str → Int} {k : Nat} {d : Dct Str Int} (h : PK names E V k d) (hk : names.length ≤ k) : ∀ n ∈ names, hasD d n = true := fun n hn => h.2 n hn (by
  have := dp_top jg hn
  omega)
end Lw
namespace Lw
open PySem PySem.Spec PyProof.Rows L2 Ly TL
/-! jobs by other names -/
theorem Rch.map {E E2 : List (Str × Str)} {f : Str → Str} (h : ∀ x ∈ E, (f x.1, f x.2) ∈ E2) {a b : Str} (r : Rch E a b) : Rch E2 (f a) (f b) := by
  induction r with
  | one m => exact .one (h _ m)
  | more _ m ih => exact .more ih (h _ m)
/-- jobs by other names -/
structure Ren (names : List Str) (E : List (Str × Str)) (names2 : List Str) (E2 : List (Str × Str)) (f g : Str → Str) : Prop where
  jg : JG names2 E2
  perm : names2.Perm (names.map f)
  back : ∀ x ∈ names, g (f x) = x
  way : ∀ a ∈ names, ∀ c ∈ names, rb E2 (f a) (f c) = rb E a c
theorem JG.other {names names2 : List Str} {E E2 : List (Str × Str)} (g : JG names E) (m : ∀ x, x ∈ names2 ↔ x ∈ names) (nd : names2.Nodup) (h : ∀ x ∈ E2, x ∈ E) (hl : E2.length < 300) : JG names2 E2 := by
  obtain ⟨r, hr⟩ := g.rank
  refine ⟨?_, nd, fun w hw => g.gd w ((m w).mp hw), hl, r, fun x hx => ?_⟩
  · have := nodup_len nd (m := names) fun x hx => (m x).mp hx
    have := g.len
    omega
  · have := hr x (h x hx)
    exact ⟨(m _).mpr this.1, (m _).mpr this.2.1, this.2.2⟩
end Lw
namespace Lw
open PySem PySem.Spec PyProof.Rows L2 Ly TL
/-! k85 -/
theorem forFl_ex {α β ρ : Type} {g : β → α → Fl β ρ} (I : Nat → β → Prop) : ∀ {xs : List α} {y : β} {n : Nat}, I n y → (∀ k y x, xs[k]? = some x → I (n + k) y → ∃ z, g y x = .nx z ∧ I (n + k + 1) z) → ∃ z, forFl g xs y = .nx z ∧ I (n + xs.length) z
  | [], y, n, h, _ => ⟨y, rfl, h⟩
  | x :: xs, y, n, h, hs => by
    obtain ⟨z, e, hi⟩ := hs 0 y x rfl h
    obtain ⟨w, e2, h2⟩ := forFl_ex I (xs := xs) (n := n + 1) hi fun k y x hk hy => by
      have := hs (k + 1) y x (by simpa using hk) (by rw [show n + (k + 1) = n + 1 + k by omega]; exact hy)
      rw [show n + (k + 1) + 1 = n + 1 + k + 1 by omega] at this
      exact this
    refine ⟨w, ?_, by rw [List.length_cons, show n + (xs.length + 1) = n + 1 + xs.length by omega]; exact h2⟩
    show (match g y x with | .nx z => forFl g xs z | .rt r => .rt r | .bk z => .bk z) = _
    rw [e]
    exact e2
theorem benches_ok (p : Pu) : ok_m_benches p ∧ 1 ≤ (m_benches p).1 := by
  have e0 : ((10 : Int) ^ (58 : Int).toNat) = 10000000000000000000000000000000000000000000000000000000000 := by decide +kernel
  have e1 : (10000000000000000000000000000000000000000000000000000000000 : Int) < 2 ^ 250 := by decide +kernel
  have t := take_lt p (n := 8) (by decide)
  unfold ok_m_benches m_benches
  simp only [pipe_eq]
  rw [e0]
  generalize (m_take p 8).1 = w at t ⊢
  generalize (m_take p 8).2 = q
  have ix : ∀ w : Int, 1 ≤ w → w < 8 → okI ([(1 : Int), 2, 3, 4, 2, 3, 7] : List Int) (w - 1) ∧ 1 ≤ getI ([(1 : Int), 2, 3, 4, 2, 3, 7] : List Int) (w - 1) := fun w h1 h2 => by
    have : w = 1 ∨ w = 2 ∨ w = 3 ∨ w = 4 ∨ w = 5 ∨ w = 6 ∨ w = 7 := by omega
    rcases this with c | c | c | c | c | c | c <;> subst c <;> exact ⟨okI_of (by decide) (by decide), by decide⟩
  refine ⟨⟨take_ok _ (by decide) (by decide), fun _ => ⟨take_ok _ (by decide) e1, trivial⟩, fun c => ⟨?_, trivial⟩⟩, ?_⟩
  · have c := of_decide_eq_false c
    exact (ix w (by omega) t.2).1
  · by_cases c : w = 0
    · rw [decide_eq_true c]
      have := (take_lt q (n := 10000000000000000000000000000000000000000000000000000000000) (by decide)).1
      show 1 ≤ 1 + (m_take q _).1
      omega
    · rw [decide_eq_false c]
      exact (ix w (by omega) t.2).2
abbrev Td := Tp4 JobsV Int Int (List Int)
structure Gt (names : List Str) (x : Td) : Prop where
  h : ∃ E K, JG names E ∧ JM names E x.a ∧ 1 ≤ x.b ∧ (0 ≤ x.c ∧ x.c ≤ 40) ∧ x.d = duS names E x.b K ∧ x.c.toNat < K
theorem due_at {names : List Str} {E : List (Str × Str)} {j : JobsV} {b : Int} (g : JG names E) (h : JM names E j) (nl : names.length ≤ 7) (hb : 1 ≤ b) {K : Nat} {t : Int} (ht : 0 ≤ t ∧ t ≤ 40) (hK : t.toNat < K) :
    ok_p_counted j b t ∧ okI (duS names E b K) t ∧ getI (duS names E b K) t = getOr (itW names E b t.toNat) (Tl.mk names) 0 ∧ p_counted j b t = getI (duS names E b K) t := by
  obtain ⟨c1, c2⟩ := counted_good g h nl hb ht
  have d := duS_at (names := names) (E := E) (b := b) hK
  have et : ((t.toNat : Nat) : Int) = t := by omega
  rw [et] at d
  exact ⟨c1, d.1, d.2, by rw [c2, d.2]⟩
theorem fits_good {names : List Str} {E : List (Str × Str)} {j : JobsV} {b : Int} (g : JG names E) (h : JM names E j) (nl : names.length ≤ 7) (hb : 1 ≤ b) {K : Nat} {t : Int} (ht : 0 ≤ t ∧ t ≤ 40) (hK : (if t + 1 < 40 then t + 1 else 40).toNat < K) :
    ok_m_fits j b t (duS names E b K) ∧ m_fits j b t (duS names E b K) = true := by
  have all : ∀ many ∈ ([t, (if (t + (1 : Int)) < (40 : Int) then (t + (1 : Int)) else (40 : Int)), (if (t - (1 : Int)) > (0 : Int) then (t - (1 : Int)) else (0 : Int))] : List Int), (0 ≤ many ∧ many ≤ 40) ∧ many.toNat < K := fun many hm => by
    rcases List.mem_cons.mp hm with c | hm
    · subst c
      split at hK <;> constructor <;> omega
    rcases List.mem_cons.mp hm with c | hm
    · subst c
      refine ⟨?_, hK⟩
      split <;> constructor <;> omega
    have c := List.mem_singleton.mp hm
    subst c
    split <;> split at hK <;> constructor <;> omega
  refine ⟨⟨fun st many hat => ?_, trivial⟩, ?_⟩
  · obtain ⟨pre, post, e, _⟩ := hat
    obtain ⟨a1, a2⟩ := all many (by rw [e]; simp)
    obtain ⟨d1, d2, _, _⟩ := due_at g h nl hb a1 a2
    exact ⟨d1, fun _ => ⟨d2, trivial⟩, trivial⟩
  · unfold m_fits
    rw [forFl_unit fun many hm => ?_]
    · rfl
    · obtain ⟨a1, a2⟩ := all many hm
      obtain ⟨_, _, _, d4⟩ := due_at g h nl hb a1 a2
      unfold m_fits_L1
      simp only [pipe_eq]
      rw [d4, decide_eq_true rfl]
      rfl
theorem times (s : Scr) : 1 ≤ (if (if (s.ns.length : Int) < (4 : Int) then (s.ns.length : Int) else (4 : Int)) > (3 : Int) then (if (s.ns.length : Int) < (4 : Int) then (s.ns.length : Int) else (4 : Int)) else (3 : Int)) ∧ (if (if (s.ns.length : Int) < (4 : Int) then (s.ns.length : Int) else (4 : Int)) > (3 : Int) then (if (s.ns.length : Int) < (4 : Int) then (s.ns.length : Int) else (4 : Int)) else (3 : Int)) ≤ 4 := by
  split <;> split <;> omega
/-- one round -/
theorem round_ (s : Scr) {names : List Str} {drawn : List (List (Str × Str))} {made : List JobsV} (nl : names.length ≤ 7) {k : Int} (hk : 1 ≤ k ∧ k < 4) {E : List (Str × Str)} (g : JG names E) {j : JobsV} (jm : JM names E j)
    (d1 : okI drawn (k % 2)) (d2 : getI drawn (k % 2) = E) (m1 : okI made (k % 2)) (m2 : getI made (k % 2) = j) (st : List Td) (hst : st.length < 10) (hI : ∀ x ∈ st, Gt names x) :
    ((okI drawn (k % (2 : Int))) ∧ (ok_m_behind names (getI drawn (k % (2 : Int)))) ∧ (pipe (m_behind names (getI drawn (k % (2 : Int)))) fun (behind : (Dct Str (Dct Str Bool))) =>
  (ok_m_cell s k) ∧ (ok_m_purse (m_cell s k) k) ∧ (pipe (m_purse (m_cell s k) k) fun (purse : Pu) =>
  (pipe purse fun (purse_1 : Pu) =>
  (ok_m_benches purse_1) ∧ (pipe (m_benches purse_1).1 fun (benches : Int) =>
  (pipe (m_benches purse_1).2 fun (purse_2 : Pu) =>
  (okI ([(41 : Int), (7 : Int)] : (List Int)) (if (decide ((names.length : Int) > (5 : Int))) then (1 : Int) else 0)) ∧ (ok_m_take purse_2 (getI ([(41 : Int), (7 : Int)] : (List Int)) (if (decide ((names.length : Int) > (5 : Int))) then (1 : Int) else 0))) ∧ (pipe (m_take purse_2 (getI ([(41 : Int), (7 : Int)] : (List Int)) (if (decide ((names.length : Int) > (5 : Int))) then (1 : Int) else 0))).1 fun (turns : Int) =>
  (pipe (m_take purse_2 (getI ([(41 : Int), (7 : Int)] : (List Int)) (if (decide ((names.length : Int) > (5 : Int))) then (1 : Int) else 0))).2 fun (purse_3 : Pu) =>
  (ok_m_by_sets names behind benches (if (turns + (1 : Int)) < (40 : Int) then (turns + (1 : Int)) else (40 : Int))) ∧ (pipe (m_by_sets names behind benches (if (turns + (1 : Int)) < (40 : Int) then (turns + (1 : Int)) else (40 : Int))) fun (dues : (List Int)) =>
  (okI dues turns) ∧ (pipe (getI dues turns) fun (plain : Int) =>
  (okIf ((decide ((names.length : Int) < (5 : Int))) && (decide (turns < (6 : Int)))) ((ok_m_by_jobs names behind benches turns) ∧ True) (True)) ∧ (pipe (bif ((decide ((names.length : Int) < (5 : Int))) && (decide (turns < (6 : Int)))) then (pipe (m_by_jobs names behind benches turns) fun (plain_1 : Int) =>
  plain_1) else plain) fun (st_1 : Int) =>
  (okI dues turns) ∧ okIf (!(decide (st_1 = (getI dues turns)))) (True) ((okI made (k % (2 : Int))) ∧ (st.length < big) ∧ (pipe (st ++ [(Tp4.mk (getI made (k % (2 : Int))) benches turns dues)]) fun (told_1 : (List (Tp4 JobsV Int Int (List Int)))) =>
  (okI made (k % (2 : Int))) ∧ (ok_m_fits (getI made (k % (2 : Int))) benches turns dues) ∧ okIf (!(m_fits (getI made (k % (2 : Int))) benches turns dues)) (True) ((∀ (st_2 : Unit) (x : (Tp4 JobsV Int Int (List Int))), At m_law_L2 told_1 () st_2 x → (pipe x.a fun (jobs : JobsV) =>
  (pipe x.b fun (wide : Int) =>
  (pipe x.c fun (many : Int) =>
  (pipe x.d fun (due : (List Int)) =>
  (ok_p_counted jobs wide many) ∧ (okI due many) ∧ True))))) ∧
  True)))))))))))))) ∧
    ∃ x, m_law_L1 s names drawn made st k = .nx (st ++ [x]) ∧ Gt names x := by
  have bg : big = 1000000 := rfl
  obtain ⟨bo, hB⟩ := behind_ok g.len g.nd g.olen (inn g)
  unfold m_law_L1
  simp only [pipe_eq]
  rw [d2, m2]
  generalize m_behind names E = B at hB ⊢
  have bk := benches_ok (m_purse (m_cell s k) k)
  generalize (m_benches (m_purse (m_cell s k) k)).1 = b at bk ⊢
  generalize (m_benches (m_purse (m_cell s k) k)).2 = p2
  have it : okI ([(41 : Int), (7 : Int)] : (List Int)) (if (decide ((names.length : Int) > (5 : Int))) then (1 : Int) else 0) ∧ 0 < getI ([(41 : Int), (7 : Int)] : (List Int)) (if (decide ((names.length : Int) > (5 : Int))) then (1 : Int) else 0) ∧ getI ([(41 : Int), (7 : Int)] : (List Int)) (if (decide ((names.length : Int) > (5 : Int))) then (1 : Int) else 0) ≤ 41 := by
    by_cases c : (names.length : Int) > 5
    · rw [decide_eq_true c, if_pos rfl]
      exact ⟨okI_of (by decide) (by decide), by decide, by decide⟩
    · rw [decide_eq_false c, if_neg Bool.false_ne_true]
      exact ⟨okI_of (by decide) (by decide), by decide, by decide⟩
  generalize getI ([(41 : Int), (7 : Int)] : (List Int)) _ = m at it ⊢
  have tl_ := take_lt p2 it.2.1
  have tk := take_ok p2 it.2.1 (Int.lt_of_le_of_lt it.2.2 (by decide))
  generalize (m_take p2 m).1 = t at tl_ ⊢
  have ht : 0 ≤ t ∧ t ≤ 40 := by omega
  have hM : 0 ≤ (if t + 1 < 40 then t + 1 else 40) ∧ (if t + 1 < 40 then t + 1 else 40) ≤ 40 := by split <;> constructor <;> omega
  have hK : t.toNat < (if t + 1 < 40 then t + 1 else 40).toNat + 1 := by split <;> omega
  obtain ⟨bs1, bs2⟩ := bysets_good g hB nl bk.2 hM
  rw [bs2]
  obtain ⟨c1, c2, c3, c4⟩ := due_at g jm nl bk.2 ht hK
  obtain ⟨f1, f2⟩ := fits_good g jm nl bk.2 ht (Nat.lt_succ_self (if t + 1 < 40 then t + 1 else 40).toNat)
  have gx : Gt names (Tp4.mk j b t (duS names E b ((if t + 1 < 40 then t + 1 else 40).toNat + 1))) := ⟨E, _, g, jm, bk.2, ht, rfl, hK⟩
  have bj : (((decide ((names.length : Int) < (5 : Int))) && (decide (t < (6 : Int)))) = true → ok_m_by_jobs names B b t ∧ m_by_jobs names B b t = getI (duS names E b ((if t + 1 < 40 then t + 1 else 40).toNat + 1)) t) := fun c => by
    obtain ⟨x1, x2⟩ := Bool.and_eq_true_iff.mp c
    have x1 := of_decide_eq_true x1
    have x2 := of_decide_eq_true x2
    obtain ⟨o, st, S, e⟩ := byjobs_good g (rb_self g) hB (by omega) bk.2 (T := t) ⟨ht.1, x2⟩
    refine ⟨o, ?_⟩
    have et : t = ((t.toNat : Nat) : Int) := by omega
    rw [et] at S
    rw [e, same_count bk.2 g.nd (rb_self g) S, c3]
  have pl : (bif ((decide ((names.length : Int) < (5 : Int))) && (decide (t < (6 : Int)))) then (m_by_jobs names B b t) else (getI (duS names E b ((if t + 1 < 40 then t + 1 else 40).toNat + 1)) t)) = getI (duS names E b ((if t + 1 < 40 then t + 1 else 40).toNat + 1)) t := by
    cases c : ((decide ((names.length : Int) < (5 : Int))) && (decide (t < (6 : Int)))) with
    | true => exact (bj c).2
    | false => rfl
  rw [pl, f2]
  have last : ∀ x ∈ st ++ [Tp4.mk j b t (duS names E b ((if t + 1 < 40 then t + 1 else 40).toNat + 1))], (ok_p_counted x.a x.b x.c ∧ okI x.d x.c ∧ True) ∧ m_law_L2 () x = .nx () := fun x hx => by
    have G : Gt names x := by
      rcases List.mem_append.mp hx with q | q
      · exact hI x q
      · rw [List.mem_singleton.mp q]; exact gx
    obtain ⟨E2, K, g2, j2, b2, t2, e2, k2⟩ := G.h
    obtain ⟨y1, y2, _, y4⟩ := due_at g2 j2 nl b2 t2 k2
    rw [← e2] at y2 y4
    refine ⟨⟨y1, y2, trivial⟩, ?_⟩
    unfold m_law_L2
    simp only [pipe_eq]
    rw [y4, decide_eq_true rfl]
    rfl
  refine ⟨⟨d1, bo, cell_ok s (by omega), purse_ok _ ⟨by omega, by omega⟩, bk.1, it.1, tk, bs1, c2, ⟨fun c => ⟨(bj c).1, trivial⟩, fun _ => trivial⟩, c2, fun _ => trivial, fun _ => ⟨m1, by omega, m1, f1, fun _ => trivial, fun _ => ⟨fun u x hat => ?_, trivial⟩⟩⟩, _, ?_, gx⟩
  · obtain ⟨pre, post, e, _⟩ := hat
    exact (last x (by rw [e]; simp)).1
  · rw [decide_eq_true rfl, forFl_unit fun x hx => (last x hx).2]
    rfl
theorem law_all (s : Scr) (h : s.ns.length ≤ 63) : ok_m_law s ∧ m_law s = true := by
  have bg : big = 1000000 := rfl
  unfold ok_m_law m_law
  simp only [pipe_eq]
  have g := jobs_good (m_purse (m_cell s 0) 0) (most := 7) (by decide)
  have sz := (jobs_sizes (m_purse (m_cell s 0) 0) (most := 7) (by decide)).1
  have jo := jobs_ok (m_purse (m_cell s 0) 0) (most := 7) (by decide)
  have po := purse_ok (m_cell s 0) (k := 0) (by decide)
  have co := cell_ok s (k := 0) (by decide)
  generalize (m_jobs (m_purse (m_cell s 0) 0) 7).1.1 = names at g sz ⊢
  generalize (m_jobs (m_purse (m_cell s 0) 0) 7).1.2 = E at g ⊢
  have half : cutX E none (some ((E.length : Int) / 2)) = E.take (E.length / 2) := by
    rw [show (E.length : Int) / 2 = ((E.length / 2 : Nat) : Int) by omega]
    exact cut_to
  rw [half]
  have g2 : JG names (E.take (E.length / 2)) := g.other (fun _ => Iff.rfl) g.nd (fun x hx => List.mem_of_mem_take hx) (by rw [List.length_take]; have := g.olen; omega)
  generalize E.take (E.length / 2) = E2 at g2 ⊢
  obtain ⟨jo1, jm1⟩ := jobs_made g
  obtain ⟨jo2, jm2⟩ := jobs_made g2
  have em : given (fun (some : (List (Str × Str))) => true) (fun (some : (List (Str × Str))) => (p_Jobs names some)) [E, E2] = [p_Jobs names E, p_Jobs names E2] := by
    rw [given_all]
    rfl
  rw [em]
  have T := times s
  generalize (if (if (s.ns.length : Int) < (4 : Int) then (s.ns.length : Int) else (4 : Int)) > (3 : Int) then (if (s.ns.length : Int) < (4 : Int) then (s.ns.length : Int) else (4 : Int)) else (3 : Int)) = t at T ⊢
  have pick : ∀ k : Int, ∃ F j, JG names F ∧ JM names F j ∧ okI [E, E2] (k % 2) ∧ getI [E, E2] (k % 2) = F ∧ okI [p_Jobs names E, p_Jobs names E2] (k % 2) ∧ getI [p_Jobs names E, p_Jobs names E2] (k % 2) = j := fun k => by
    rcases (show k % 2 = 0 ∨ k % 2 = 1 by omega) with c | c
    · rw [c]
      exact ⟨E, _, g, jm1, okI_of (by decide) (by show (0 : Int) < 2; decide), (at0 (P := [E, E2]) (k := 0) rfl).2, okI_of (by decide) (by show (0 : Int) < 2; decide), (at0 (P := [p_Jobs names E, p_Jobs names E2]) (k := 0) rfl).2⟩
    · rw [c]
      exact ⟨E2, _, g2, jm2, okI_of (by decide) (by show (1 : Int) < 2; decide), (at0 (P := [E, E2]) (k := 1) rfl).2, okI_of (by decide) (by show (1 : Int) < 2; decide), (at0 (P := [p_Jobs names E, p_Jobs names E2]) (k := 1) rfl).2⟩
  let I : Nat → List Td → Prop := fun k st => st.length = k ∧ ∀ x ∈ st, Gt names x
  have stp : ∀ k st x, (rangeL 1 t)[k]? = some x → I k st → ∃ z, m_law_L1 s names [E, E2] [p_Jobs names E, p_Jobs names E2] st x = .nx z ∧ I (k + 1) z := fun k st x hk ⟨h1, h2⟩ => by
    have e := rangeL_at hk
    have hlt := (List.getElem?_eq_some_iff.mp hk).1
    rw [rangeL_len] at hlt
    obtain ⟨F, j, gF, jF, d1, d2, m1, m2⟩ := pick x
    obtain ⟨_, y, e2, gy⟩ := round_ s (by omega) (by omega) gF jF d1 d2 m1 m2 st (by omega) h2
    refine ⟨_, e2, by rw [List.length_append, h1]; rfl, fun z hz => ?_⟩
    rcases List.mem_append.mp hz with q | q
    · exact h2 z q
    · rw [List.mem_singleton.mp q]; exact gy
  have h0 : I 0 [] := ⟨rfl, fun x h => by cases h⟩
  refine ⟨⟨co, po, jo, fun e he _ => ⟨?_, trivial⟩, ⟨by omega, by omega, by omega, by omega⟩, fun st k hat => ?_, trivial⟩, ?_⟩
  · rcases List.mem_cons.mp he with q | q
    · rw [q]; exact jo1
    · rw [List.mem_singleton.mp q]; exact jo2
  · obtain ⟨hm, i, hi, hx, h1, h2⟩ := at_at I hat h0 fun k y x z hx hk hI e => by
      obtain ⟨i, hi, e3⟩ := List.getElem_of_mem hx
      have := mem_rangeL.mp hx
      rw [rangeL_len] at hk
      obtain ⟨F, j, gF, jF, d1, d2, m1, m2⟩ := pick x
      obtain ⟨_, y', e2, gy⟩ := round_ s (by omega) (by omega) gF jF d1 d2 m1 m2 y (by have := hI.1; omega) hI.2
      rw [e2] at e
      cases e
      refine ⟨by rw [List.length_append, hI.1]; rfl, fun z hz => ?_⟩
      rcases List.mem_append.mp hz with q | q
      · exact hI.2 z q
      · rw [List.mem_singleton.mp q]; exact gy
    have := mem_rangeL.mp hm
    rw [rangeL_len] at hi
    obtain ⟨F, j, gF, jF, d1, d2, m1, m2⟩ := pick k
    exact (round_ s (by omega) (by omega) gF jF d1 d2 m1 m2 st (by omega) h2).1
  · obtain ⟨z, e, _⟩ := forFl_ex I (n := 0) h0 fun k y x hk hy => by
      rw [Nat.zero_add] at hy
      rw [Nat.zero_add]
      exact stp k y x hk hy
    rw [e]
    rfl
theorem law_ok (s : Scr) (h : s.ns.length ≤ 63) : ok_m_law s := (law_all s h).1
theorem law_true (s : Scr) (h : s.ns.length ≤ 63) : m_law s = true := (law_all s h).2
end Lw
namespace Lw
section
open PySem PySem.Spec PyProof.Rows L2 Ly TL
def d_m_cell : He.DefD := ⟨("_law_cell", none), "_law_cell", "_law_cell", defArgs st_m_cell, defBody st_m_cell, defScope st_m_cell, [], []⟩
def d_m_purse : He.DefD := ⟨("_law_purse", none), "_law_purse", "_law_purse", defArgs st_m_purse, defBody st_m_purse, defScope st_m_purse, [], []⟩
def d_m_take : He.DefD := ⟨("_law_take", none), "_law_take", "_law_take", defArgs st_m_take, defBody st_m_take, defScope st_m_take, [], []⟩
def d_m_names : He.DefD := ⟨("_law_names", none), "_law_names", "_law_names", defArgs st_m_names, defBody st_m_names, defScope st_m_names, [], []⟩
def d_m_pairs : He.DefD := ⟨("_law_pairs", none), "_law_pairs", "_law_pairs", defArgs st_m_pairs, defBody st_m_pairs, defScope st_m_pairs, [], []⟩
def d_m_jobs : He.DefD := ⟨("_law_jobs", none), "_law_jobs", "_law_jobs", defArgs st_m_jobs, defBody st_m_jobs, defScope st_m_jobs, [], []⟩
def d_p_is_name : He.DefD := ⟨("is_name", none), "is_name", "is_name", defArgs st_p_is_name, defBody st_p_is_name, defScope st_p_is_name, [], []⟩
def d_p_want_names : He.DefD := ⟨("want_names", none), "want_names", "want_names", defArgs st_p_want_names, defBody st_p_want_names, defScope st_p_want_names, [], []⟩
def d_p_want_orders : He.DefD := ⟨("want_orders", none), "want_orders", "want_orders", defArgs st_p_want_orders, defBody st_p_want_orders, defScope st_p_want_orders, [], []⟩
def d_p_straight_from : He.DefD := ⟨("straight_from", none), "straight_from", "straight_from", defArgs st_p_straight_from, defBody st_p_straight_from, defScope st_p_straight_from, [], []⟩
def d_p_ring_in : He.DefD := ⟨("ring_in", none), "ring_in", "ring_in", defArgs st_p_ring_in, defBody st_p_ring_in, defScope st_p_ring_in, [], []⟩
def d_p_reached_from : He.DefD := ⟨("reached_from", none), "reached_from", "reached_from", defArgs st_p_reached_from, defBody st_p_reached_from, defScope st_p_reached_from, [], []⟩
def d_p_Jobs : He.DefD := ⟨("Jobs", some "__init__"), "__init__", "Jobs.__init__", defArgs st_p_Jobs, defBody st_p_Jobs, defScope st_p_Jobs, [], []⟩
def d_m_behind : He.DefD := ⟨("_law_behind", none), "_law_behind", "_law_behind", defArgs st_m_behind, defBody st_m_behind, defScope st_m_behind, [], []⟩
def d_m_benches : He.DefD := ⟨("_law_benches", none), "_law_benches", "_law_benches", defArgs st_m_benches, defBody st_m_benches, defScope st_m_benches, [], []⟩
def d_m_before : He.DefD := ⟨("_law_before", none), "_law_before", "_law_before", defArgs st_m_before, defBody st_m_before, defScope st_m_before, [], []⟩
def d_m_free : He.DefD := ⟨("_law_free", none), "_law_free", "_law_free", defArgs st_m_free, defBody st_m_free, defScope st_m_free, [], []⟩
def d_m_rows : He.DefD := ⟨("_law_rows", none), "_law_rows", "_law_rows", defArgs st_m_rows, defBody st_m_rows, defScope st_m_rows, [], []⟩
def d_m_by_sets : He.DefD := ⟨("_law_by_sets", none), "_law_by_sets", "_law_by_sets", defArgs st_m_by_sets, defBody st_m_by_sets, defScope st_m_by_sets, [], []⟩
def d_m_by_jobs : He.DefD := ⟨("_law_by_jobs", none), "_law_by_jobs", "_law_by_jobs", defArgs st_m_by_jobs, defBody st_m_by_jobs, defScope st_m_by_jobs, [], []⟩
def d_p_is_whole : He.DefD := ⟨("is_whole", none), "is_whole", "is_whole", defArgs st_p_is_whole, defBody st_p_is_whole, defScope st_p_is_whole, [], []⟩
def d_p_want_benches : He.DefD := ⟨("want_benches", none), "want_benches", "want_benches", defArgs st_p_want_benches, defBody st_p_want_benches, defScope st_p_want_benches, [], []⟩
def d_p_want_turns : He.DefD := ⟨("want_turns", none), "want_turns", "want_turns", defArgs st_p_want_turns, defBody st_p_want_turns, defScope st_p_want_turns, [], []⟩
def d_p_Jobs_names : He.DefD := ⟨("Jobs", some "names"), "names", "Jobs.names", defArgs st_p_Jobs_names, defBody st_p_Jobs_names, defScope st_p_Jobs_names, [], []⟩
def d_p_want_few : He.DefD := ⟨("want_few", none), "want_few", "want_few", defArgs st_p_want_few, defBody st_p_want_few, defScope st_p_want_few, [], []⟩
def d_p_Jobs_want : He.DefD := ⟨("Jobs", some "want"), "want", "Jobs.want", defArgs st_p_Jobs_want, defBody st_p_Jobs_want, defScope st_p_Jobs_want, [], []⟩
def d_p_Jobs_ahead : He.DefD := ⟨("Jobs", some "ahead"), "ahead", "Jobs.ahead", defArgs st_p_Jobs_ahead, defBody st_p_Jobs_ahead, defScope st_p_Jobs_ahead, [], []⟩
def d_p_rows_ahead : He.DefD := ⟨("rows_ahead", none), "rows_ahead", "rows_ahead", defArgs st_p_rows_ahead, defBody st_p_rows_ahead, defScope st_p_rows_ahead, [], []⟩
def d_p_turns_behind : He.DefD := ⟨("turns_behind", none), "turns_behind", "turns_behind", defArgs st_p_turns_behind, defBody st_p_turns_behind, defScope st_p_turns_behind, [], []⟩
def d_p_counted : He.DefD := ⟨("counted", none), "counted", "counted", defArgs st_p_counted, defBody st_p_counted, defScope st_p_counted, [], []⟩
def d_m_whole : He.DefD := ⟨("_law_whole", none), "_law_whole", "_law_whole", defArgs st_m_whole, defBody st_m_whole, defScope st_m_whole, [], []⟩
def d_m_fits : He.DefD := ⟨("_law_fits", none), "_law_fits", "_law_fits", defArgs st_m_fits, defBody st_m_fits, defScope st_m_fits, [], []⟩
def d_m_law : He.DefD := ⟨("law", none), "law", "law", defArgs st_m_law, defBody st_m_law, defScope st_m_law, [], []⟩
def fn : List He.DefD := ([d_m_cell, d_m_purse, d_m_take, d_m_names, d_m_pairs, d_m_jobs, d_p_is_name, d_p_want_names, d_p_want_orders, d_p_straight_from, d_p_ring_in, d_p_reached_from, d_p_Jobs, d_m_behind, d_m_benches, d_m_before, d_m_free, d_m_rows, d_m_by_sets, d_m_by_jobs, d_p_is_whole, d_p_want_benches, d_p_want_turns, d_p_Jobs_names, d_p_want_few, d_p_Jobs_want, d_p_Jobs_ahead, d_p_rows_ahead, d_p_turns_behind, d_p_counted] : List He.DefD) ++ ([d_m_whole, d_m_fits, d_m_law] : List He.DefD)
def fa : List He.Fa := ([.glo "_law_cell", .glo "_law_purse", .glo "_law_take", .glo "_law_names", .glo "_law_pairs", .glo "_law_jobs", .glo "is_name", .glo "want_names", .glo "want_orders", .glo "straight_from", .glo "ring_in", .glo "reached_from", .mkr "Jobs", .glo "_law_behind", .glo "_law_benches", .glo "_law_before", .glo "_law_free", .glo "_law_rows", .glo "_law_by_sets", .glo "_law_by_jobs", .glo "is_whole", .glo "want_benches", .glo "want_turns", .meth "Jobs" "names", .glo "want_few", .meth "Jobs" "want", .meth "Jobs" "ahead", .glo "rows_ahead", .glo "turns_behind", .glo "counted"] : List He.Fa) ++ ([.glo "_law_whole", .glo "_law_fits", .glo "law", .str "LETTERS" "abcdefghijklmnopqrstuvwxyz", .int "MOST_JOBS_few" 7, .int "MOST_JOBS_jobs" 20, .int "MOST_TURNS" 40, .free "all", .free "bool", .free "dict", .free "enumerate", .free "int", .free "isinstance", .free "len", .free "list", .free "max", .free "min", .free "range", .free "set", .free "sorted", .free "str", .free "tuple", .glo "Jobs", .cls "Jobs", .noat "Jobs" "row", .noat "Jobs" "pairs", .noat "Jobs" "later"] : List He.Fa)
abbrev R : PySem.W.OpenRow := PySem.W.OpenLaw.row PySem.Challenge.rw_levelbench_k85_plans_counted
abbrev hk : PySem.W.Hook := He.hookD 5 fa fn
def ob (s : PySem.W.SharedT) : He.AlD := He.obsDG 5 fa fn (HandSHeadRun.getT s)
theorem ob_eq (s : PySem.W.SharedT) : ob s = hk.obs s.abs := He.obsDG_eq (HandSHeadRun.getT_eq s)
def loose : List PySem.Str := ([("_wall" : PySem.Str), ("BenchError" : PySem.Str), ("NoName" : PySem.Str), ("Twice" : PySem.Str), ("Stranger" : PySem.Str), ("Ring" : PySem.Str), ("TooMany" : PySem.Str), ("NoBench" : PySem.Str), ("NoTurns" : PySem.Str), ("is_whole" : PySem.Str), ("want_benches" : PySem.Str), ("MOST_JOBS_few" : PySem.Str), ("MOST_TURNS" : PySem.Str), ("want_few" : PySem.Str), ("want_turns" : PySem.Str), ("rows_ahead" : PySem.Str), ("turns_behind" : PySem.Str), ("counted" : PySem.Str), ("MOST_JOBS_jobs" : PySem.Str), ("LETTERS" : PySem.Str), ("is_name" : PySem.Str), ("want_names" : PySem.Str), ("want_orders" : PySem.Str), ("straight_from" : PySem.Str), ("ring_in" : PySem.Str), ("reached_from" : PySem.Str), ("Jobs" : PySem.Str), ("_law_cell" : PySem.Str), ("_law_purse" : PySem.Str), ("_law_take" : PySem.Str)] : List PySem.Str) ++ ([("_law_names" : PySem.Str), ("_law_pairs" : PySem.Str), ("_law_jobs" : PySem.Str), ("_law_behind" : PySem.Str), ("_law_rows" : PySem.Str), ("_law_before" : PySem.Str), ("_law_free" : PySem.Str), ("_law_benches" : PySem.Str), ("_law_whole" : PySem.Str), ("_law_by_jobs" : PySem.Str), ("_law_by_sets" : PySem.Str), ("_law_fits" : PySem.Str)] : List PySem.Str)
set_option maxHeartbeats 0 in
theorem run (w : World) : HandSHeadRun.RunEq R (PySem.W.view R.prog [47]) hk ob 20000 loose w := by
  intro os
  kernel_rfl
theorem facts {P : Program} {w : World} {K : PySem.W.Frag} {h : Heap} {mg : Str → Option Value} {f : Addr} (X : K.In h) (G : h.Ns mainGlobals mg) (hfa : mg ("law" : Str) = some (.ref f)) (c : He.SaysD fa fn K) :
    ∃ fd : FuncData, (∀ (s : Shared) (v : Value), BindsTo s fd ⟨[v], []⟩ [("_law_script", v)]) ∧ ∀ base : Heap, K.In base → base.Ns mainGlobals mg → FnOk P w K mg base CX0 6 f fd ["_law_script"] (spP K G_m_law) := by
  have B : Bn mg := ⟨He.str_ok X G (c.fact 33 (f := .str "LETTERS" "abcdefghijklmnopqrstuvwxyz") rfl), He.int_ok X G (c.fact 34 (f := .int "MOST_JOBS_few" 7) rfl), He.int_ok X G (c.fact 35 (f := .int "MOST_JOBS_jobs" 20) rfl), He.int_ok X G (c.fact 36 (f := .int "MOST_TURNS" 40) rfl), He.free_ok X G (c.fact 37 (f := .free "all") rfl), He.free_ok X G (c.fact 38 (f := .free "bool") rfl), He.free_ok X G (c.fact 39 (f := .free "dict") rfl), He.free_ok X G (c.fact 40 (f := .free "enumerate") rfl), He.free_ok X G (c.fact 41 (f := .free "int") rfl), He.free_ok X G (c.fact 42 (f := .free "isinstance") rfl), He.free_ok X G (c.fact 43 (f := .free "len") rfl), He.free_ok X G (c.fact 44 (f := .free "list") rfl), He.free_ok X G (c.fact 45 (f := .free "max") rfl), He.free_ok X G (c.fact 46 (f := .free "min") rfl), He.free_ok X G (c.fact 47 (f := .free "range") rfl), He.free_ok X G (c.fact 48 (f := .free "set") rfl), He.free_ok X G (c.fact 49 (f := .free "sorted") rfl), He.free_ok X G (c.fact 50 (f := .free "str") rfl), He.free_ok X G (c.fact 51 (f := .free "tuple") rfl)⟩
  have gJ := He.glo_ok X G (c.fact 52 (f := .glo "Jobs") rfl)
  have J : JCls K := ⟨He.cls_ok (c.fact 53 (f := .cls "Jobs") rfl), He.noat_ok (c.fact 54 (f := .noat "Jobs" "row") rfl), He.noat_ok (c.fact 55 (f := .noat "Jobs" "pairs") rfl), He.noat_ok (c.fact 56 (f := .noat "Jobs" "later") rfl)⟩
  obtain ⟨fd_m_cell, F_m_cell⟩ := c.def_ 0 (d := d_m_cell) rfl
  obtain ⟨fd_m_purse, F_m_purse⟩ := c.def_ 1 (d := d_m_purse) rfl
  obtain ⟨fd_m_take, F_m_take⟩ := c.def_ 2 (d := d_m_take) rfl
  obtain ⟨fd_m_names, F_m_names⟩ := c.def_ 3 (d := d_m_names) rfl
  obtain ⟨fd_m_pairs, F_m_pairs⟩ := c.def_ 4 (d := d_m_pairs) rfl
  obtain ⟨fd_m_jobs, F_m_jobs⟩ := c.def_ 5 (d := d_m_jobs) rfl
  obtain ⟨fd_p_is_name, F_p_is_name⟩ := c.def_ 6 (d := d_p_is_name) rfl
  obtain ⟨fd_p_want_names, F_p_want_names⟩ := c.def_ 7 (d := d_p_want_names) rfl
  obtain ⟨fd_p_want_orders, F_p_want_orders⟩ := c.def_ 8 (d := d_p_want_orders) rfl
  obtain ⟨fd_p_straight_from, F_p_straight_from⟩ := c.def_ 9 (d := d_p_straight_from) rfl
  obtain ⟨fd_p_ring_in, F_p_ring_in⟩ := c.def_ 10 (d := d_p_ring_in) rfl
  obtain ⟨fd_p_reached_from, F_p_reached_from⟩ := c.def_ 11 (d := d_p_reached_from) rfl
  obtain ⟨fd_p_Jobs, F_p_Jobs⟩ := c.def_ 12 (d := d_p_Jobs) rfl
  obtain ⟨fd_m_behind, F_m_behind⟩ := c.def_ 13 (d := d_m_behind) rfl
  obtain ⟨fd_m_benches, F_m_benches⟩ := c.def_ 14 (d := d_m_benches) rfl
  obtain ⟨fd_m_before, F_m_before⟩ := c.def_ 15 (d := d_m_before) rfl
  obtain ⟨fd_m_free, F_m_free⟩ := c.def_ 16 (d := d_m_free) rfl
  obtain ⟨fd_m_rows, F_m_rows⟩ := c.def_ 17 (d := d_m_rows) rfl
  obtain ⟨fd_m_by_sets, F_m_by_sets⟩ := c.def_ 18 (d := d_m_by_sets) rfl
  obtain ⟨fd_m_by_jobs, F_m_by_jobs⟩ := c.def_ 19 (d := d_m_by_jobs) rfl
  obtain ⟨fd_p_is_whole, F_p_is_whole⟩ := c.def_ 20 (d := d_p_is_whole) rfl
  obtain ⟨fd_p_want_benches, F_p_want_benches⟩ := c.def_ 21 (d := d_p_want_benches) rfl
  obtain ⟨fd_p_want_turns, F_p_want_turns⟩ := c.def_ 22 (d := d_p_want_turns) rfl
  obtain ⟨fd_p_Jobs_names, F_p_Jobs_names⟩ := c.def_ 23 (d := d_p_Jobs_names) rfl
  obtain ⟨fd_p_want_few, F_p_want_few⟩ := c.def_ 24 (d := d_p_want_few) rfl
  obtain ⟨fd_p_Jobs_want, F_p_Jobs_want⟩ := c.def_ 25 (d := d_p_Jobs_want) rfl
  obtain ⟨fd_p_Jobs_ahead, F_p_Jobs_ahead⟩ := c.def_ 26 (d := d_p_Jobs_ahead) rfl
  obtain ⟨fd_p_rows_ahead, F_p_rows_ahead⟩ := c.def_ 27 (d := d_p_rows_ahead) rfl
  obtain ⟨fd_p_turns_behind, F_p_turns_behind⟩ := c.def_ 28 (d := d_p_turns_behind) rfl
  obtain ⟨fd_p_counted, F_p_counted⟩ := c.def_ 29 (d := d_p_counted) rfl
  obtain ⟨fd_m_whole, F_m_whole⟩ := c.def_ 30 (d := d_m_whole) rfl
  obtain ⟨fd_m_fits, F_m_fits⟩ := c.def_ 31 (d := d_m_fits) rfl
  obtain ⟨fd_m_law, F_m_law⟩ := c.def_ 32 (d := d_m_law) rfl
  have e := hfa.symm.trans (He.glo_ok X G (c.fact 32 (f := .glo "law") rfl))
  cases e
  have b := FunD.bindsA (ps := ["_law_script"]) F_m_law fun _ _ _ _ _ _ us hl => match us, hl with | [_], _ => rfl
  refine ⟨fd_m_law, fun s v => b s [v] rfl, fun base _ _ => ?_⟩
  obtain ⟨D_m_cell⟩ := Df.mk' (P := P) (w := w) (mg := mg) (base := base) (ps := ["_law_script", "_law_k"]) F_m_cell (w_m_cell B J F_m_cell) (He.glo_ok X G (c.fact 0 (f := .glo "_law_cell") rfl)) (fun _ _ _ _ _ _ _ us e hl => by
    subst e
    exact match us, hl with | [_, _], _ => rfl)
  obtain ⟨D_m_purse⟩ := Df.mk' (P := P) (w := w) (mg := mg) (base := base) (ps := ["_law_cell_here", "_law_k"]) F_m_purse (w_m_purse B J F_m_purse) (He.glo_ok X G (c.fact 1 (f := .glo "_law_purse") rfl)) (fun _ _ _ _ _ _ _ us e hl => by
    subst e
    exact match us, hl with | [_, _], _ => rfl)
  obtain ⟨D_m_take⟩ := Df.mk' (P := P) (w := w) (mg := mg) (base := base) (ps := ["_law_purse_here", "_law_many"]) F_m_take (w_m_take B J F_m_take) (He.glo_ok X G (c.fact 2 (f := .glo "_law_take") rfl)) (fun _ _ _ _ _ _ _ us e hl => by
    subst e
    exact match us, hl with | [_, _], _ => rfl)
  obtain ⟨D_m_names⟩ := Df.mk' (P := P) (w := w) (mg := mg) (base := base) (ps := ["_law_purse_here", "_law_many"]) F_m_names (w_m_names B J D_m_take F_m_names) (He.glo_ok X G (c.fact 3 (f := .glo "_law_names") rfl)) (fun _ _ _ _ _ _ _ us e hl => by
    subst e
    exact match us, hl with | [_, _], _ => rfl)
  obtain ⟨D_m_pairs⟩ := Df.mk' (P := P) (w := w) (mg := mg) (base := base) (ps := ["_law_purse_here", "_law_many", "_law_way", "_law_thin"]) F_m_pairs (w_m_pairs B J D_m_take F_m_pairs) (He.glo_ok X G (c.fact 4 (f := .glo "_law_pairs") rfl)) (fun _ _ _ _ _ _ _ us e hl => by
    subst e
    exact match us, hl with | [_, _, _, _], _ => rfl)
  obtain ⟨D_m_jobs⟩ := Df.mk' (P := P) (w := w) (mg := mg) (base := base) (ps := ["_law_purse_here", "_law_most"]) F_m_jobs (w_m_jobs B J D_m_take D_m_names D_m_pairs F_m_jobs) (He.glo_ok X G (c.fact 5 (f := .glo "_law_jobs") rfl)) (fun _ _ _ _ _ _ _ us e hl => by
    subst e
    exact match us, hl with | [_, _], _ => rfl)
  obtain ⟨D_p_is_name⟩ := Df.mk' (P := P) (w := w) (mg := mg) (base := base) (ps := ["thing"]) F_p_is_name (w_p_is_name B J F_p_is_name) (He.glo_ok X G (c.fact 6 (f := .glo "is_name") rfl)) (fun _ _ _ _ _ _ _ us e hl => by
    subst e
    exact match us, hl with | [_], _ => rfl)
  obtain ⟨D_p_want_names⟩ := Df.mk' (P := P) (w := w) (mg := mg) (base := base) (ps := ["row"]) F_p_want_names (w_p_want_names B J D_p_is_name F_p_want_names) (He.glo_ok X G (c.fact 7 (f := .glo "want_names") rfl)) (fun _ _ _ _ _ _ _ us e hl => by
    subst e
    exact match us, hl with | [_], _ => rfl)
  obtain ⟨D_p_want_orders⟩ := Df.mk' (P := P) (w := w) (mg := mg) (base := base) (ps := ["row", "pairs"]) F_p_want_orders (w_p_want_orders B J F_p_want_orders) (He.glo_ok X G (c.fact 8 (f := .glo "want_orders") rfl)) (fun _ _ _ _ _ _ _ us e hl => by
    subst e
    exact match us, hl with | [_, _], _ => rfl)
  obtain ⟨D_p_straight_from⟩ := Df.mk' (P := P) (w := w) (mg := mg) (base := base) (ps := ["name", "pairs", "left"]) F_p_straight_from (w_p_straight_from B J F_p_straight_from) (He.glo_ok X G (c.fact 9 (f := .glo "straight_from") rfl)) (fun _ _ _ _ _ _ _ us e hl => by
    subst e
    exact match us, hl with | [_, _, _], _ => rfl)
  obtain ⟨D_p_ring_in⟩ := Df.mk' (P := P) (w := w) (mg := mg) (base := base) (ps := ["row", "pairs"]) F_p_ring_in (w_p_ring_in B J D_p_straight_from F_p_ring_in) (He.glo_ok X G (c.fact 10 (f := .glo "ring_in") rfl)) (fun _ _ _ _ _ _ _ us e hl => by
    subst e
    exact match us, hl with | [_, _], _ => rfl)
  obtain ⟨D_p_reached_from⟩ := Df.mk' (P := P) (w := w) (mg := mg) (base := base) (ps := ["name", "row", "pairs"]) F_p_reached_from (w_p_reached_from B J F_p_reached_from) (He.glo_ok X G (c.fact 11 (f := .glo "reached_from") rfl)) (fun _ _ _ _ _ _ _ us e hl => by
    subst e
    exact match us, hl with | [_, _, _], _ => rfl)
  obtain ⟨D_p_Jobs⟩ := Mkr.mk' (P := P) (w := w) (mg := mg) (base := base) (ps := ["self", "names", "orders"]) F_p_Jobs (w_p_Jobs B J D_p_want_names D_p_want_orders D_p_ring_in D_p_reached_from F_p_Jobs) (He.mkr_ok (c.fact 12 (f := .mkr "Jobs") rfl)) gJ (fun _ _ _ _ _ _ _ us e hl => by
    subst e
    exact match us, hl with | [_, _, _], _ => rfl)
  obtain ⟨D_m_behind⟩ := Df.mk' (P := P) (w := w) (mg := mg) (base := base) (ps := ["_law_names_here", "_law_orders"]) F_m_behind (w_m_behind B J F_m_behind) (He.glo_ok X G (c.fact 13 (f := .glo "_law_behind") rfl)) (fun _ _ _ _ _ _ _ us e hl => by
    subst e
    exact match us, hl with | [_, _], _ => rfl)
  obtain ⟨D_m_benches⟩ := Df.mk' (P := P) (w := w) (mg := mg) (base := base) (ps := ["_law_purse_here"]) F_m_benches (w_m_benches B J D_m_take F_m_benches) (He.glo_ok X G (c.fact 14 (f := .glo "_law_benches") rfl)) (fun _ _ _ _ _ _ _ us e hl => by
    subst e
    exact match us, hl with | [_], _ => rfl)
  obtain ⟨D_m_before⟩ := Df.mk' (P := P) (w := w) (mg := mg) (base := base) (ps := ["_law_names_here", "_law_behind_here"]) F_m_before (w_m_before B J F_m_before) (He.glo_ok X G (c.fact 15 (f := .glo "_law_before") rfl)) (fun _ _ _ _ _ _ _ us e hl => by
    subst e
    exact match us, hl with | [_, _], _ => rfl)
  obtain ⟨D_m_free⟩ := Df.mk' (P := P) (w := w) (mg := mg) (base := base) (ps := ["_law_before_here", "_law_done"]) F_m_free (w_m_free B J F_m_free) (He.glo_ok X G (c.fact 16 (f := .glo "_law_free") rfl)) (fun _ _ _ _ _ _ _ us e hl => by
    subst e
    exact match us, hl with | [_, _], _ => rfl)
  obtain ⟨D_m_rows⟩ := Df.mk' (P := P) (w := w) (mg := mg) (base := base) (ps := ["_law_free_here", "_law_benches_here"]) F_m_rows (w_m_rows B J F_m_rows) (He.glo_ok X G (c.fact 17 (f := .glo "_law_rows") rfl)) (fun _ _ _ _ _ _ _ us e hl => by
    subst e
    exact match us, hl with | [_, _], _ => rfl)
  obtain ⟨D_m_by_sets⟩ := Df.mk' (P := P) (w := w) (mg := mg) (base := base) (ps := ["_law_names_here", "_law_behind_here", "_law_benches_here", "_law_turns"]) F_m_by_sets (w_m_by_sets B J D_m_before D_m_free D_m_rows F_m_by_sets) (He.glo_ok X G (c.fact 18 (f := .glo "_law_by_sets") rfl)) (fun _ _ _ _ _ _ _ us e hl => by
    subst e
    exact match us, hl with | [_, _, _, _], _ => rfl)
  obtain ⟨D_m_by_jobs⟩ := Df.mk' (P := P) (w := w) (mg := mg) (base := base) (ps := ["_law_names_here", "_law_behind_here", "_law_benches_here", "_law_turns"]) F_m_by_jobs (w_m_by_jobs B J F_m_by_jobs) (He.glo_ok X G (c.fact 19 (f := .glo "_law_by_jobs") rfl)) (fun _ _ _ _ _ _ _ us e hl => by
    subst e
    exact match us, hl with | [_, _, _, _], _ => rfl)
  obtain ⟨D_p_is_whole⟩ := Df.mk' (P := P) (w := w) (mg := mg) (base := base) (ps := ["thing"]) F_p_is_whole (w_p_is_whole B J F_p_is_whole) (He.glo_ok X G (c.fact 20 (f := .glo "is_whole") rfl)) (fun _ _ _ _ _ _ _ us e hl => by
    subst e
    exact match us, hl with | [_], _ => rfl)
  obtain ⟨D_p_want_benches⟩ := Df.mk' (P := P) (w := w) (mg := mg) (base := base) (ps := ["benches"]) F_p_want_benches (w_p_want_benches B J D_p_is_whole F_p_want_benches) (He.glo_ok X G (c.fact 21 (f := .glo "want_benches") rfl)) (fun _ _ _ _ _ _ _ us e hl => by
    subst e
    exact match us, hl with | [_], _ => rfl)
  obtain ⟨D_p_want_turns⟩ := Df.mk' (P := P) (w := w) (mg := mg) (base := base) (ps := ["turns"]) F_p_want_turns (w_p_want_turns B J F_p_want_turns) (He.glo_ok X G (c.fact 22 (f := .glo "want_turns") rfl)) (fun _ _ _ _ _ _ _ us e hl => by
    subst e
    exact match us, hl with | [_], _ => rfl)
  obtain ⟨D_p_Jobs_names⟩ := Dm.mk' (P := P) (w := w) (mg := mg) (base := base) (ps := ["self"]) F_p_Jobs_names (w_p_Jobs_names B J F_p_Jobs_names) (He.meth_ok (c.fact 23 (f := .meth "Jobs" "names") rfl)) (fun _ _ _ _ _ _ _ us e hl => by
    subst e
    exact match us, hl with | [_], _ => rfl)
  obtain ⟨D_p_want_few⟩ := Df.mk' (P := P) (w := w) (mg := mg) (base := base) (ps := ["jobs"]) F_p_want_few (w_p_want_few B J D_p_Jobs_names F_p_want_few) (He.glo_ok X G (c.fact 24 (f := .glo "want_few") rfl)) (fun _ _ _ _ _ _ _ us e hl => by
    subst e
    exact match us, hl with | [_], _ => rfl)
  obtain ⟨D_p_Jobs_want⟩ := Dm.mk' (P := P) (w := w) (mg := mg) (base := base) (ps := ["self", "name"]) F_p_Jobs_want (w_p_Jobs_want B J F_p_Jobs_want) (He.meth_ok (c.fact 25 (f := .meth "Jobs" "want") rfl)) (fun _ _ _ _ _ _ _ us e hl => by
    subst e
    exact match us, hl with | [_, _], _ => rfl)
  obtain ⟨D_p_Jobs_ahead⟩ := Dm.mk' (P := P) (w := w) (mg := mg) (base := base) (ps := ["self", "name"]) F_p_Jobs_ahead (w_p_Jobs_ahead B J D_p_Jobs_want F_p_Jobs_ahead) (He.meth_ok (c.fact 26 (f := .meth "Jobs" "ahead") rfl)) (fun _ _ _ _ _ _ _ us e hl => by
    subst e
    exact match us, hl with | [_, _], _ => rfl)
  obtain ⟨D_p_rows_ahead⟩ := Df.mk' (P := P) (w := w) (mg := mg) (base := base) (ps := ["jobs"]) F_p_rows_ahead (w_p_rows_ahead B J D_p_Jobs_names D_p_Jobs_ahead F_p_rows_ahead) (He.glo_ok X G (c.fact 27 (f := .glo "rows_ahead") rfl)) (fun _ _ _ _ _ _ _ us e hl => by
    subst e
    exact match us, hl with | [_], _ => rfl)
  obtain ⟨D_p_turns_behind⟩ := Df.mk' (P := P) (w := w) (mg := mg) (base := base) (ps := ["before", "done", "benches"]) F_p_turns_behind (w_p_turns_behind B J F_p_turns_behind) (He.glo_ok X G (c.fact 28 (f := .glo "turns_behind") rfl)) (fun _ _ _ _ _ _ _ us e hl => by
    subst e
    exact match us, hl with | [_, _, _], _ => rfl)
  obtain ⟨D_p_counted⟩ := Df.mk' (P := P) (w := w) (mg := mg) (base := base) (ps := ["jobs", "benches", "turns"]) F_p_counted (w_p_counted B J D_p_want_benches D_p_want_turns D_p_want_few D_p_rows_ahead D_p_turns_behind F_p_counted) (He.glo_ok X G (c.fact 29 (f := .glo "counted") rfl)) (fun _ _ _ _ _ _ _ us e hl => by
    subst e
    exact match us, hl with | [_, _, _], _ => rfl)
  obtain ⟨D_m_whole⟩ := Df.mk' (P := P) (w := w) (mg := mg) (base := base) (ps := ["_law_found"]) F_m_whole (w_m_whole B J F_m_whole) (He.glo_ok X G (c.fact 30 (f := .glo "_law_whole") rfl)) (fun _ _ _ _ _ _ _ us e hl => by
    subst e
    exact match us, hl with | [_], _ => rfl)
  obtain ⟨D_m_fits⟩ := Df.mk' (P := P) (w := w) (mg := mg) (base := base) (ps := ["_law_jobs_here", "_law_benches_here", "_law_turns", "_law_dues"]) F_m_fits (w_m_fits B J D_p_counted D_m_whole F_m_fits) (He.glo_ok X G (c.fact 31 (f := .glo "_law_fits") rfl)) (fun _ _ _ _ _ _ _ us e hl => by
    subst e
    exact match us, hl with | [_, _, _, _], _ => rfl)
  exact (w_m_law B J D_m_cell D_m_purse D_m_take D_m_jobs D_p_Jobs D_m_behind D_m_benches D_m_by_sets D_m_by_jobs D_p_counted D_m_fits F_m_law)
theorem scr_in {K : PySem.W.Frag} {H : Hp} {a : Addr} {ns : List Int} (hS : SqL K H a (ns.map V.int)) : ∃ F, Sub F H ∧ Rp.rep K F (.ref a) (Scr.mk ns) := by
  refine ⟨fun b => if b = a then H a else none, fun b o e => ?_, a, rfl, ?_⟩
  · have e' : (if b = a then H a else none) = some o := e
    by_cases q : b = a
    · subst q; rw [if_pos rfl] at e'; exact .inl e'
    · rw [if_neg q] at e'; cases e'
  · have e' : (if a = a then H a else none) = H a := if_pos rfl
    rcases hS with (h | ⟨o, h⟩) | h
    · exact .inl (.inl (e'.trans h))
    · exact .inl (.inr ⟨o, e'.trans h⟩)
    · exact .inr h
end
end Lw
open PySem PySem.W PySem.Calls PyProof.Rows
theorem PySem.Challenge.cw_levelbench_k85_plans_counted_holds : PySem.Challenge.rw_levelbench_k85_plans_counted.Holds := by
  w_on; o_law
  refine HandSHeadRun.head_any (r := OpenLaw.row PySem.Challenge.rw_levelbench_k85_plans_counted) (q := view (OpenLaw.row PySem.Challenge.rw_levelbench_k85_plans_counted).prog [47]) (H := Lw.hk) (ob := Lw.ob) (M := 20000) (loose := Lw.loose) (d := HandSHeadRun.topDef (OpenLaw.row PySem.Challenge.rw_levelbench_k85_plans_counted).prog 47) (kwd := []) Lw.ob_eq
    (by kernel_rfl) (fun s => by kernel_rfl) Lw.run (by kernel_rfl) (by kernel_rfl) (by kernel_rfl) (by rfl) (by first | assumption | decide +kernel) (by decide +kernel) ⟨rfl, rfl, rfl, rfl, rfl, by decide +kernel⟩ ?hw ?hc
  case hw => w_witness2
  case hc =>
    refine L2.walk_ofE (l := PySem.Challenge.rw_levelbench_k85_plans_counted) (n := 63) (k := 6) (x := "_law_script") (CX := L2.CX0) rfl (by decide) (by kernel_rfl) ⟨rfl, by decide, by decide⟩ ?F (fun _ _ _ _ z => z)
    intro w mg fa h Y G hmg0
    obtain ⟨K, KX, c⟩ := Y
    have hmg : mg ("law" : PySem.Str) = some (.ref fa) := by
      have e : (HandSHeadRun.topDef (OpenLaw.row PySem.Challenge.rw_levelbench_k85_plans_counted).prog 47).name = ("law" : PySem.Str) := by kernel_rfl
      rw [← e]
      exact hmg0
    obtain ⟨fd, hb, hF⟩ := Lw.facts (P := (PySem.Challenge.rw_levelbench_k85_plans_counted).prog) (w := w) KX G hmg c
    refine ⟨K, fd, Ly.spP K Lw.G_m_law, KX, hb, fun H a ns hl _ hS => ?_, hF⟩
    obtain ⟨F, hs, hr⟩ := Lw.scr_in hS
    refine ⟨_, _, F, ⟨Ly.Scr.mk ns, Lw.law_ok _ hl, rfl, rfl⟩, hs, .cons hr .nil, ?_⟩
    intro v F2 H2 _ r
    exact r.1.trans (congrArg L2.V.bl (Lw.law_true _ hl))
