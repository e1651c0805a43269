import PyProof.Rows.All
import Wide.All
import OpenK.AllK
import Wide.FinOn
import HandS.ForMost
import HandS.Walk
import HandS.Wide
import HandS.SortInts
import HandS.SortRule
import HandS.SortKw
import HandS.IsInst
import HandS.Conv
import HandS.SetFor
import HandS.WideBits
import HandS.TryOnly
import HandS.Zip
import HandS.Dict
import HandS.Iter
import HandS.Style
import HandS.Deep
import KE.DatumOrd
import HandS.Exc
import HandS.ExcOwn
import HandS.ExcIs
import HandS.ExcValue
import HandS.WordsExc
import HandS.ExcInit
import HandS.ExcField
import HandS.ClsMeth
import KE.KExcIs
import KE.DataMinMax
import KE.DataFind
import KE.GoesMore
import HandS.WordsDict
import KE.KDictList
import KE.GoesEnum
import HandS.TupAny
import HandS.New0
import HandS.Rev
import HandS.RevTup
import HandS.ListItems
import HandS.Defaults
import HandS.Text
import HandS.FStr
import HandS.TupLen
import KE.SortData
import PySem.Challenge.RW_goodenough_k52_texts_read
set_option Elab.async false
set_option linter.all false
set_option maxRecDepth 100000
set_option maxHeartbeats 4000000
namespace GM
open PySem PySem.Spec PyProof.Rows L2
/-- not a rfl theorem on purpose: simp then builds a proof, and the kernel need not unfold -/
theorem obs {α β : Type} (x : α) (f : α → Option β) : (some x).bind f = f x := (Eq.refl ((some x).bind f)).trans rfl
class Rp (α : Type) where
  rep : Hp → α → V → Prop
  mono : ∀ {H H' : Hp} {x : α} {v : V}, Same H H' → rep H x v → rep H' x v
  nn : ∀ {H : Hp} {x : α} {v : V}, rep H x v → v ≠ .non
/-- as Rp, but None may be one of its values -/
class Rq (α : Type) where
  rep : Hp → α → V → Prop
  mono : ∀ {H H' : Hp} {x : α} {v : V}, Same H H' → rep H x v → rep H' x v
abbrev rq {α : Type} [Rq α] (H : Hp) (x : α) (v : V) : Prop := Rq.rep H x v
instance (priority := low) rqOf {α : Type} [Rp α] : Rq α := ⟨Rp.rep, Rp.mono⟩
theorem Paired.mono {α β : Type} {F G : α → β → Prop} : ∀ {l₁ : List α} {l₂ : List β}, Paired F l₁ l₂ → (∀ a b, F a b → G a b) → Paired G l₁ l₂
  | _, _, .nil, _ => .nil
  | _, _, .cons r t, f => .cons (f _ _ r) (Paired.mono t f)
instance : Rp Int := ⟨fun _ x v => v = .int x, fun _ h => h, fun h => by rw [h]; exact fun z => by cases z⟩
instance : Rp Bool := ⟨fun _ x v => v = .bl x, fun _ h => h, fun h => by rw [h]; exact fun z => by cases z⟩
instance : Rp Str := ⟨fun _ x v => v = .str x, fun _ h => h, fun h => by rw [h]; exact fun z => by cases z⟩
instance : Rq Unit := ⟨fun _ _ v => v = .non, fun _ h => h⟩
instance {α : Type} [Rp α] : Rq (Option α) := ⟨fun H x v => match x with | none => v = .non | some y => Rp.rep H y v, fun {H H' x v} e h => by
  cases x with
  | none => exact h
  | some y => exact Rp.mono e h⟩
def repL {α : Type} [Rq α] (H : Hp) (xs : List α) (v : V) : Prop := ∃ a vs, v = .ref a ∧ H a = some (.lst vs) ∧ vs.length ≤ sizeLine ∧ Paired (rq H) xs vs
instance {α : Type} [Rq α] : Rp (List α) := ⟨repL, fun {H H' x v} e h => by
  obtain ⟨a, vs, h1, h2, h3, h4⟩ := h
  exact ⟨a, vs, h1, e _ _ h2, h3, Paired.mono h4 fun _ _ => Rq.mono e⟩, fun h => by
  obtain ⟨a, vs, h1, h2, h3, h4⟩ := h
  rw [h1]; exact fun z => by cases z⟩
def repP {α β : Type} [Rq α] [Rq β] (H : Hp) (x : α × β) (v : V) : Prop := ∃ a v1 v2, v = .ref a ∧ H a = some (.tup [v1, v2]) ∧ rq H x.1 v1 ∧ rq H x.2 v2
instance {α β : Type} [Rq α] [Rq β] : Rp (α × β) := ⟨repP, fun {H H' x v} e h => by
  obtain ⟨a, v1, v2, h1, h2, h3, h4⟩ := h
  exact ⟨a, v1, v2, h1, e _ _ h2, Rq.mono e h3, Rq.mono e h4⟩, fun h => by
  obtain ⟨a, v1, v2, h1, h2, h3, h4⟩ := h
  rw [h1]; exact fun z => by cases z⟩
/-- a tuple of three -/
structure T3 (α β γ : Type) where
  a : α
  b : β
  c : γ
def repT3 {α β γ : Type} [Rq α] [Rq β] [Rq γ] (H : Hp) (x : T3 α β γ) (v : V) : Prop := ∃ a v1 v2 v3, v = .ref a ∧ H a = some (.tup [v1, v2, v3]) ∧ rq H x.a v1 ∧ rq H x.b v2 ∧ rq H x.c v3
instance {α β γ : Type} [Rq α] [Rq β] [Rq γ] : Rp (T3 α β γ) := ⟨repT3, fun {H H' x v} e h => by
  obtain ⟨a, v1, v2, v3, h1, h2, h3, h4, h5⟩ := h
  exact ⟨a, v1, v2, v3, h1, e _ _ h2, Rq.mono e h3, Rq.mono e h4, Rq.mono e h5⟩, fun h => by
  obtain ⟨a, v1, v2, v3, h1, h2, h3, h4, h5⟩ := h
  rw [h1]; exact fun z => by cases z⟩
/-- a tuple of any length, like items -/
structure Tp (α : Type) where
  l : List α
def repTp {α : Type} [Rq α] (H : Hp) (x : Tp α) (v : V) : Prop := ∃ a vs, v = .ref a ∧ H a = some (.tup vs) ∧ vs.length ≤ sizeLine ∧ Paired (rq H) x.l vs
instance {α : Type} [Rq α] : Rp (Tp α) := ⟨repTp, fun {H H' x v} e h => by
  obtain ⟨a, vs, h1, h2, h3, h4⟩ := h
  exact ⟨a, vs, h1, e _ _ h2, h3, Paired.mono h4 fun _ _ => Rq.mono e⟩, fun h => by
  obtain ⟨a, vs, h1, h2, h3, h4⟩ := h
  rw [h1]; exact fun z => by cases z⟩
/-- the script -/
structure Scr (K : PySem.W.Frag) where
  l : List Int
instance {K : PySem.W.Frag} : Rp (Scr K) := ⟨fun H x v => ∃ a, v = .ref a ∧ SqL K H a (x.l.map V.int) ∧ x.l.length ≤ 63, fun {H H' x v} e h => by
  obtain ⟨a, h1, h2, h3⟩ := h
  exact ⟨a, h1, Same.seq e h2, h3⟩, fun h => by
  obtain ⟨a, h1, h2⟩ := h
  rw [h1]; exact fun z => by cases z⟩
def del (H : Hp) (p : Addr) : Hp := fun a => if a = p then none else H a
theorem del_same {H : Hp} {p : Addr} : del H p p = none := by unfold del; rw [if_pos rfl]
theorem del_ne {H : Hp} {p a : Addr} (h : a ≠ p) : del H p a = H a := by unfold del; rw [if_neg h]
theorem del_sub {H : Hp} {p : Addr} : Same (del H p) H := fun a o e => by
  by_cases h : a = p
  · rw [h, del_same] at e; cases e
  · rw [del_ne h] at e; exact e
theorem del_upd {H : Hp} {p : Addr} {o : HO} : del (upd H p o) p = del H p := by
  funext a
  by_cases h : a = p
  · rw [h, del_same, del_same]
  · rw [del_ne h, del_ne h, upd_ne h]
theorem del_new {H : Hp} {p : Addr} (h : H p = none) : del H p = H := by
  funext a
  by_cases e : a = p
  · rw [e, del_same, h]
  · rw [del_ne e]
def join (Hi H H' : Hp) : Hp := fun a => match H a with | none => H' a | some _ => Hi a
theorem join_none {Hi H H' : Hp} {a : Addr} (h : H a = none) : join Hi H H' a = H' a := by unfold join; rw [h]
theorem join_some {Hi H H' : Hp} {a : Addr} {o : HO} (h : H a = some o) : join Hi H H' a = Hi a := by unfold join; rw [h]
theorem same_join {Hi H H' : Hp} (h : Same Hi H) : Same Hi (join Hi H H') := fun a o e => by rw [join_some (h a o e)]; exact e
theorem join_same {Hi H H' : Hp} (h : Same Hi H) (h' : Same H H') : Same (join Hi H H') H' := fun a o e => by
  cases q : H a with
  | none => rw [join_none q] at e; exact e
  | some u => rw [join_some q] at e; exact h' _ _ (h _ _ e)
theorem same_new {H : Hp} {p : Addr} {o : HO} (h : H p = none) : Same H (upd H p o) := fun a u e => by rw [upd_ne (ne_of_none e h)]; exact e
theorem same_none {H H' : Hp} {p : Addr} (s : Same H H') (h : H' p = none) : H p = none := s.free h
def one (p : Addr) (u : HO) : Hp := fun a => if a = p then some u else none
theorem one_same {p : Addr} {u : HO} : one p u p = some u := by unfold one; rw [if_pos rfl]
theorem one_ne {p a : Addr} {u : HO} (h : a ≠ p) : one p u a = none := by unfold one; rw [if_neg h]
theorem one_is {p a : Addr} {u o : HO} (h : one p u a = some o) : a = p ∧ o = u := by
  by_cases e : a = p
  · subst e; rw [one_same] at h; cases h; exact ⟨rfl, rfl⟩
  · rw [one_ne e] at h; cases h
def minus (H F : Hp) : Hp := fun a => match F a with | none => H a | some _ => none
theorem minus_none {H F : Hp} {a : Addr} (h : F a = none) : minus H F a = H a := by unfold minus; rw [h]
theorem minus_some {H F : Hp} {a : Addr} {o : HO} (h : F a = some o) : minus H F a = none := by unfold minus; rw [h]
theorem minus_is {H F : Hp} {a : Addr} {o : HO} (h : minus H F a = some o) : F a = none ∧ H a = some o := by
  cases q : F a with
  | none => rw [minus_none q] at h; exact ⟨rfl, h⟩
  | some u => rw [minus_some q] at h; cases h
theorem minus_sub {H F : Hp} : Same (minus H F) H := fun a o e => (minus_is e).2
theorem minus_mono {H H' F : Hp} (h : Same H H') : Same (minus H F) (minus H' F) := fun a o e => by
  obtain ⟨n, e⟩ := minus_is e
  rw [minus_none n]; exact h a o e
theorem minus_comm {H F F' : Hp} : minus (minus H F) F' = minus (minus H F') F := by
  funext a
  unfold minus
  cases F a <;> cases F' a <;> rfl
theorem minus_one {H : Hp} {p : Addr} {u : HO} : minus H (one p u) = del H p := by
  funext a
  by_cases e : a = p
  · subst e; rw [minus_some one_same, del_same]
  · rw [minus_none (one_ne e), del_ne e]
def plus (H F : Hp) : Hp := fun a => match F a with | none => H a | some u => some u
theorem plus_none {H F : Hp} {a : Addr} (h : F a = none) : plus H F a = H a := by unfold plus; rw [h]
theorem plus_some {H F : Hp} {a : Addr} {u : HO} (h : F a = some u) : plus H F a = some u := by unfold plus; rw [h]
theorem plus_one {H : Hp} {p : Addr} {u : HO} : plus H (one p u) = upd H p u := by
  funext a
  by_cases e : a = p
  · subst e; rw [plus_some one_same, upd_same]
  · rw [plus_none (one_ne e), upd_ne e]
theorem same_one {H : Hp} {p : Addr} {u : HO} (h : H p = some u) : Same (one p u) H := fun a o e => by
  obtain ⟨rfl, rfl⟩ := one_is e
  exact h
structure Bk where
  h0 : Hp
  ha : Hp
inductive SV where
  | un
  | fv (φ : Hp → V → Prop) (m : ∀ H H' v, Same H H' → φ H v → φ H' v)
  | ow (φ : Hp → Addr → Hp → Prop) (m : ∀ H H' p F, Same H H' → φ H p F → φ H' p F)
def fz {α : Type} [Rq α] (x : α) : SV := .fv (fun H v => rq H x v) fun _ _ _ e h => Rq.mono e h
/-- our own object, of one part -/
def ow1 (φ : Hp → HO → Prop) (m : ∀ H H' o, Same H H' → φ H o → φ H' o) : SV := .ow (fun H p F => ∃ u, F = one p u ∧ φ H u) fun _ _ _ _ e ⟨u, h1, h2⟩ => ⟨u, h1, m _ _ _ e h2⟩
/-- the same, at a place that is told -/
def owA (p : Addr) (φ : Hp → HO → Prop) (m : ∀ H H' o, Same H H' → φ H o → φ H' o) : SV := .ow (fun H q F => q = p ∧ ∃ u, F = one q u ∧ φ H u) fun _ _ _ _ e ⟨z, u, h1, h2⟩ => ⟨z, u, h1, m _ _ _ e h2⟩
def isL {α : Type} [Rq α] (xs : List α) (H : Hp) (o : HO) : Prop := ∃ vs, o = .lst vs ∧ vs.length ≤ sizeLine ∧ Paired (rq H) xs vs
theorem isL_mono {α : Type} [Rq α] (xs : List α) : ∀ H H' o, Same H H' → isL xs H o → isL xs H' o := fun _ _ _ e ⟨vs, h1, h2, h3⟩ => ⟨vs, h1, h2, Paired.mono h3 fun _ _ => Rq.mono e⟩
def ol {α : Type} [Rq α] (xs : List α) : SV := ow1 (isL xs) fun _ _ _ e ⟨vs, h1, h2, h3⟩ => ⟨vs, h1, h2, Paired.mono h3 fun _ _ => Rq.mono e⟩
def olA {α : Type} [Rq α] (p : Addr) (xs : List α) : SV := owA p (isL xs) fun _ _ _ e ⟨vs, h1, h2, h3⟩ => ⟨vs, h1, h2, Paired.mono h3 fun _ _ => Rq.mono e⟩
def slotS (Hi : Hp) (c : SV) (o : Option V) (k : Hp → Prop) (H : Hp) : Prop :=
  match c with
  | .un => k H
  | .fv φ _ => (∃ v, o = some v ∧ φ Hi v) ∧ k H
  | .ow φ _ => ∃ p F, o = some (.ref p) ∧ Same F H ∧ φ Hi p F ∧ k (minus H F)
def SatG (B : Bk) (Hi : Hp) : List SV → L2.St → Hp → Prop
  | [], [] => fun H => Same Hi H ∧ Same B.h0 H ∧ Same B.ha Hi ∧ ∀ a o, B.h0 a = some o → Hi a = B.ha a
  | c :: L, o :: s => slotS Hi c o (SatG B Hi L s)
  | [], _ :: _ => fun _ => False
  | _ :: _, [] => fun _ => False
section
variable {B : Bk} {Hi H H' : Hp} {L L' : List SV} {s s' : L2.St} {c d : SV} {o o' : Option V}
theorem SatG.len : ∀ {L : List SV} {s : L2.St} {H : Hp}, SatG B Hi L s H → L.length = s.length
  | [], [], _, _ => rfl
  | c :: L, o :: s, H, h => by
    have q : ∃ H', SatG B Hi L s H' := by
      cases c with
      | un => exact ⟨_, h⟩
      | fv φ m => exact ⟨_, h.2⟩
      | ow φ m => obtain ⟨p, F, _, _, _, k⟩ := h; exact ⟨_, k⟩
    obtain ⟨_, q⟩ := q
    rw [List.length_cons, List.length_cons, SatG.len q]
theorem SatG.sub : ∀ {L : List SV} {s : L2.St} {H : Hp}, SatG B Hi L s H → Same Hi H
  | [], [], _, h => h.1
  | c :: L, o :: s, H, h => by
    cases c with
    | un => exact SatG.sub (L := L) (s := s) h
    | fv φ m => exact SatG.sub (L := L) (s := s) h.2
    | ow φ m => obtain ⟨p, F, _, _, _, k⟩ := h; exact (SatG.sub (L := L) (s := s) k).trans minus_sub
theorem SatG.sub0 : ∀ {L : List SV} {s : L2.St} {H : Hp}, SatG B Hi L s H → Same B.h0 H
  | [], [], _, h => h.2.1
  | c :: L, o :: s, H, h => by
    cases c with
    | un => exact SatG.sub0 (L := L) (s := s) h
    | fv φ m => exact SatG.sub0 (L := L) (s := s) h.2
    | ow φ m => obtain ⟨p, F, _, _, _, k⟩ := h; exact (SatG.sub0 (L := L) (s := s) k).trans minus_sub
/-- more stands in the heap -/
theorem SatG.up : ∀ {L : List SV} {s : L2.St} {H H' : Hp}, SatG B Hi L s H → Same H H' → SatG B Hi L s H'
  | [], [], _, _, h, e => ⟨h.1.trans e, h.2.1.trans e, h.2.2⟩
  | c :: L, o :: s, H, H', h, e => by
    cases c with
    | un => exact SatG.up (L := L) (s := s) h e
    | fv φ m => exact ⟨h.1, SatG.up (L := L) (s := s) h.2 e⟩
    | ow φ m => obtain ⟨p, F, h1, h2, h3, k⟩ := h; exact ⟨p, F, h1, h2.trans e, h3, SatG.up (L := L) (s := s) k (minus_mono e)⟩
/-- the heap grew -/
theorem SatG.grow : ∀ {L : List SV} {s : L2.St} {H H' : Hp}, SatG B Hi L s H → Same H H' → SatG B (join Hi H H') L s H'
  | [], [], H, H', h, e => by
    refine ⟨join_same h.1 e, h.2.1.trans e, h.2.2.1.trans (same_join h.1), fun a o q => ?_⟩
    rw [join_some (h.2.1 a o q)]
    exact h.2.2.2 a o q
  | c :: L, o :: s, H, H', h, e => by
    have hs := h.sub
    cases c with
    | un => exact SatG.grow (L := L) (s := s) h e
    | fv φ m =>
      obtain ⟨⟨v, h1, h2⟩, k⟩ := h
      exact ⟨⟨v, h1, m _ _ _ (same_join hs) h2⟩, SatG.grow (L := L) (s := s) k e⟩
    | ow φ m =>
      obtain ⟨p, F, h1, h2, h3, k⟩ := h
      refine ⟨p, F, h1, h2.trans e, m _ _ _ _ (same_join hs) h3, ?_⟩
      have q := SatG.grow (L := L) (s := s) k (minus_mono (F := F) e)
      have ks := SatG.sub (L := L) (s := s) k
      have e2 : join Hi (minus H F) (minus H' F) = join Hi H H' := by
        funext a
        cases z : F a with
        | some u =>
          rw [join_none (minus_some z), minus_some z, join_some (h2 _ _ z)]
          cases w : Hi a with
          | none => rfl
          | some y => have := ks _ _ w; rw [minus_some z] at this; cases this
        | none =>
          cases w : H a with
          | none => rw [join_none w, join_none (by rw [minus_none z]; exact w), minus_none z]
          | some y => rw [join_some w, join_some (o := y) (by rw [minus_none z]; exact w)]
      rw [e2] at q
      exact q
theorem join_new {Hi H : Hp} {p : Addr} {u : HO} (hs : Same Hi H) (h : H p = none) : join Hi H (upd H p u) = upd Hi p u := by
  funext a
  by_cases z : a = p
  · rw [z, join_none h, upd_same, upd_same]
  · rw [upd_ne z]
    cases w : H a with
    | none => rw [join_none w, upd_ne z, w, same_none hs w]
    | some y => rw [join_some w]
/-- a new object that is not to change -/
theorem SatG.newF {p : Addr} {u : HO} (h : SatG B Hi L s H) (n : H p = none) : SatG B (upd Hi p u) L s (upd H p u) := by
  have q := h.grow (same_new (o := u) n)
  rw [join_new h.sub n] at q
  exact q
/-- a new object of our own -/
theorem SatG.newO {p : Addr} {u : HO} {φ : Hp → HO → Prop} {m} (h : SatG B Hi L s H) (n : H p = none) (hu : φ Hi u) : SatG B Hi (ow1 φ m :: L) (some (.ref p) :: s) (upd H p u) := by
  refine ⟨p, one p u, rfl, same_one upd_same, ⟨u, rfl, hu⟩, ?_⟩
  rw [minus_one, del_upd, del_new n]
  exact h
theorem SatG.drop1 (h : SatG B Hi (c :: L) (o :: s) H) : SatG B Hi L s H := by
  cases c with
  | un => exact h
  | fv φ m => exact h.2
  | ow φ m => obtain ⟨p, F, _, _, _, k⟩ := h; exact SatG.up (L := L) (s := s) k minus_sub
/-- our own objects are let go: they are not to change any more -/
theorem SatG.thawF {p : Addr} {φ : Hp → Addr → Hp → Prop} {m} (h : SatG B Hi (.ow φ m :: L) (some (.ref p) :: s) H) : ∃ F, Same F H ∧ φ Hi p F ∧ (∀ a u, F a = some u → Hi a = none) ∧ SatG B (plus Hi F) L s H := by
  obtain ⟨p', F, e, hp, hu, k⟩ := h
  cases e
  have ks := SatG.sub (L := L) (s := s) k
  have n : ∀ a u, F a = some u → Hi a = none := fun a u z => same_none ks (minus_some z)
  refine ⟨F, hp, hu, n, ?_⟩
  have q := SatG.grow (L := L) (s := s) k minus_sub
  have e2 : join Hi (minus H F) H = plus Hi F := by
    funext a
    cases z : F a with
    | some u => rw [join_none (minus_some z), plus_some z, hp _ _ z]
    | none =>
      rw [plus_none z]
      cases w : H a with
      | none =>
        rw [join_none (by rw [minus_none z]; exact w), w]
        exact (same_none ks (by rw [minus_none z]; exact w)).symm
      | some y => rw [join_some (o := y) (by rw [minus_none z]; exact w)]
  rw [e2] at q
  exact q
theorem SatG.thaw {p : Addr} {φ : Hp → HO → Prop} {m} (h : SatG B Hi (ow1 φ m :: L) (some (.ref p) :: s) H) : ∃ u, H p = some u ∧ φ Hi u ∧ Hi p = none ∧ SatG B (upd Hi p u) L s H := by
  obtain ⟨F, h1, ⟨u, rfl, h2⟩, h3, h4⟩ := h.thawF
  rw [plus_one] at h4
  exact ⟨u, h1 _ _ one_same, h2, h3 _ _ one_same, h4⟩
theorem SatG.swap (h : SatG B Hi (c :: d :: L) (o :: o' :: s) H) : SatG B Hi (d :: c :: L) (o' :: o :: s) H := by
  cases c with
  | un => cases d with
    | un => exact h
    | fv φ m => exact h
    | ow φ m => exact h
  | fv φ m => cases d with
    | un => exact h
    | fv ψ n => exact ⟨h.2.1, h.1, h.2.2⟩
    | ow ψ n =>
      obtain ⟨h1, p, F, h2, h3, h4, k⟩ := h
      exact ⟨p, F, h2, h3, h4, h1, k⟩
  | ow φ m => cases d with
    | un => exact h
    | fv ψ n =>
      obtain ⟨p, F, h2, h3, h4, h1, k⟩ := h
      exact ⟨h1, p, F, h2, h3, h4, k⟩
    | ow ψ n =>
      obtain ⟨p, F, h2, h3, h4, q, F', h2', h3', h4', k⟩ := h
      refine ⟨q, F', h2', h3'.trans minus_sub, h4', p, F, h2, fun a u e => ?_, h4, by rw [minus_comm]; exact k⟩
      cases z : F' a with
      | none => rw [minus_none z]; exact h3 a u e
      | some w => have := h3' _ _ z; rw [minus_some e] at this; cases this
theorem slot_map {k k' : Hp → Prop} (h : slotS Hi c o k H) (f : ∀ H, k H → k' H) : slotS Hi c o k' H := by
  cases c with
  | un => exact f _ h
  | fv φ m => exact ⟨h.1, f _ h.2⟩
  | ow φ m => obtain ⟨p, F, h1, h2, h3, q⟩ := h; exact ⟨p, F, h1, h2, h3, f _ q⟩
/-- the front one goes to place i -/
theorem SatG.put : ∀ {L : List SV} {s : L2.St} {H : Hp} {i : Nat}, SatG B Hi (c :: L) (o :: s) H → SatG B Hi (L.set i c) (s.set i o) H
  | [], [], _, _, h => h.drop1
  | [], _ :: _, _, _, h => by
    have := h.len; simp at this
  | _ :: _, [], _, _, h => by
    have := h.len; simp at this
  | d :: L, o' :: s, H, 0, h => by
    have q := h.swap.drop1
    exact q
  | d :: L, o' :: s, H, i + 1, h => by
    have q := h.swap
    show slotS Hi d o' (SatG B Hi (L.set i c) (s.set i o)) H
    exact slot_map q fun H z => SatG.put z
theorem SatG.putT : ∀ {T : List SV} {tv : L2.St} {H : Hp} {i : Nat}, tv.length = T.length → SatG B Hi (c :: (T ++ L)) (o :: (tv ++ s)) H → SatG B Hi (T ++ L.set i c) (tv ++ s.set i o) H
  | [], [], _, _, _, h => h.put
  | [], _ :: _, _, _, e, _ => by simp at e
  | _ :: _, [], _, _, e, _ => by simp at e
  | d :: T, o' :: tv, H, i, e, h => by
    have q := h.swap
    show slotS Hi d o' (SatG B Hi (T ++ L.set i c) (tv ++ s.set i o)) H
    exact slot_map q fun H z => SatG.putT (by simpa using e) z
theorem SatG.get : ∀ {L : List SV} {s : L2.St} {H : Hp} {i : Nat} {φ m}, SatG B Hi L s H → L[i]? = some (.fv φ m) → ∃ v, s[i]? = some (some v) ∧ φ Hi v
  | [], [], _, _, _, _, _, e => by simp at e
  | d :: L, o' :: s, H, 0, φ, m, h, e => by
    have e : d = .fv φ m := by simpa using e
    subst e
    obtain ⟨⟨v, h1, h2⟩, _⟩ := h
    exact ⟨v, by simp [h1], h2⟩
  | d :: L, o' :: s, H, i + 1, φ, m, h, e => by
    have q : ∃ H', SatG B Hi L s H' := by
      cases d with
      | un => exact ⟨_, h⟩
      | fv φ m => exact ⟨_, h.2⟩
      | ow φ m => obtain ⟨p, F, _, _, _, k⟩ := h; exact ⟨_, k⟩
    obtain ⟨_, q⟩ := q
    obtain ⟨v, h1, h2⟩ := SatG.get (i := i) (φ := φ) (m := m) q (by simpa using e)
    exact ⟨v, by simpa using h1, h2⟩
theorem SatG.ownF : ∀ {L : List SV} {s : L2.St} {H : Hp} {i : Nat} {φ m}, SatG B Hi L s H → L[i]? = some (.ow φ m) → ∃ p F, s[i]? = some (some (.ref p)) ∧ Same F H ∧ φ Hi p F ∧ (∀ a u, F a = some u → Hi a = none) ∧
    ∀ F' φ' m' H', φ' Hi p F' → Same F' H' → minus H' F' = minus H F → SatG B Hi (L.set i (.ow φ' m')) s H'
  | [], [], _, _, _, _, _, e => by simp at e
  | d :: L, o' :: s, H, 0, φ, m, h, e => by
    have e : d = .ow φ m := by simpa using e
    subst e
    obtain ⟨p, F, h1, h2, h3, k⟩ := h
    refine ⟨p, F, by simp [h1], h2, h3, fun a u z => same_none (SatG.sub (L := L) (s := s) k) (minus_some z), fun F' φ' m' H' h' e1 e2 => ⟨p, F', h1, e1, h', ?_⟩⟩
    rw [e2]; exact k
  | d :: L, o' :: s, H, i + 1, φ, m, h, e => by
    cases d with
    | un =>
      obtain ⟨p, F, h1, h2, h3, h4, k⟩ := SatG.ownF (L := L) (s := s) (i := i) (φ := φ) (m := m) h (by simpa using e)
      exact ⟨p, F, by simpa using h1, h2, h3, h4, fun F' φ' m' H' h' e1 e2 => k F' φ' m' H' h' e1 e2⟩
    | fv ψ n =>
      obtain ⟨p, F, h1, h2, h3, h4, k⟩ := SatG.ownF (L := L) (s := s) (i := i) (φ := φ) (m := m) h.2 (by simpa using e)
      exact ⟨p, F, by simpa using h1, h2, h3, h4, fun F' φ' m' H' h' e1 e2 => ⟨h.1, k F' φ' m' H' h' e1 e2⟩⟩
    | ow ψ n =>
      obtain ⟨q, W, g1, g2, g3, kk⟩ := h
      obtain ⟨p, F, h1, h2, h3, h4, k⟩ := SatG.ownF (L := L) (s := s) (i := i) (φ := φ) (m := m) kk (by simpa using e)
      refine ⟨p, F, by simpa using h1, h2.trans minus_sub, h3, h4, fun F' φ' m' H' h' e1 e2 => ?_⟩
      -- the other's parts stand as they were
      have dj : ∀ a w, W a = some w → F' a = none ∧ H' a = some w := fun a w z => by
        have n1 : F a = none := by
          cases y : F a with
          | none => rfl
          | some x => have := h2 _ _ y; rw [minus_some z] at this; cases this
        have n2 : minus H F a = some w := by rw [minus_none n1]; exact g2 _ _ z
        rw [← e2] at n2
        exact minus_is n2
      refine ⟨q, W, g1, fun a w z => (dj a w z).2, g3, k F' φ' m' (minus H' W) h' (fun a u z => ?_) ?_⟩
      · cases y : W a with
        | none => rw [minus_none y]; exact e1 _ _ z
        | some x => have := (dj a x y).1; rw [z] at this; cases this
      · rw [minus_comm, e2, minus_comm]
theorem SatG.own {L : List SV} {s : L2.St} {H : Hp} {i : Nat} {φ m} (h : SatG B Hi L s H) (e : L[i]? = some (ow1 φ m)) : ∃ p u, s[i]? = some (some (.ref p)) ∧ H p = some u ∧ φ Hi u ∧ Hi p = none ∧
    ∀ u' φ' m', φ' Hi u' → SatG B Hi (L.set i (ow1 φ' m')) s (upd H p u') := by
  obtain ⟨p, F, h1, h2, ⟨u, rfl, h3⟩, h4, k⟩ := h.ownF e
  refine ⟨p, u, h1, h2 _ _ one_same, h3, h4 _ _ one_same, fun u' φ' m' h' => k (one p u') _ _ (upd H p u') ⟨u', rfl, h'⟩ (same_one upd_same) ?_⟩
  rw [minus_one, minus_one, del_upd]
theorem SatG.front : ∀ {L : List SV} {s : L2.St} {H : Hp} {i : Nat}, SatG B Hi L s H → L[i]? = some c → SatG B Hi (c :: L.set i .un) ((s[i]?.getD none) :: s) H
  | [], _, _, _, _, e => by simp at e
  | _ :: _, [], _, _, h, _ => False.elim h
  | d :: L, o :: s, H, 0, h, e => by
    have e : d = c := by simpa using e
    subst e
    exact slot_map h fun H z => z
  | d :: L, o :: s, H, i + 1, h, e => by
    have q : slotS Hi d o (SatG B Hi (c :: L.set i .un) ((s[i]?.getD none) :: s)) H := slot_map h fun H z => SatG.front z (by simpa using e)
    exact SatG.swap (c := d) (d := c) q
theorem get_app {α : Type} {T L : List α} {i : Nat} : (T ++ L)[T.length + i]? = L[i]? := by
  rw [List.getElem?_append_right (Nat.le_add_right _ _), Nat.add_sub_cancel_left]
theorem set_app {α : Type} {T L : List α} {i : Nat} {c : α} : (T ++ L).set (T.length + i) c = T ++ L.set i c := by
  rw [List.set_append_right _ _ (Nat.le_add_right _ _), Nat.add_sub_cancel_left]
theorem SatG.getT {T : List SV} {tv : L2.St} {i : Nat} {φ m} (e : tv.length = T.length) (h : SatG B Hi (T ++ L) (tv ++ s) H) (hi : L[i]? = some (.fv φ m)) : ∃ v, s[i]? = some (some v) ∧ φ Hi v := by
  obtain ⟨v, h1, h2⟩ := h.get (i := T.length + i) (φ := φ) (m := m) (by rw [get_app]; exact hi)
  rw [← e, get_app] at h1
  exact ⟨v, h1, h2⟩
theorem SatG.ownT {T : List SV} {tv : L2.St} {i : Nat} {φ m} (e : tv.length = T.length) (h : SatG B Hi (T ++ L) (tv ++ s) H) (hi : L[i]? = some (ow1 φ m)) : ∃ p u, s[i]? = some (some (.ref p)) ∧ H p = some u ∧ φ Hi u ∧ Hi p = none ∧
    ∀ u' φ' m', φ' Hi u' → SatG B Hi (T ++ L.set i (ow1 φ' m')) (tv ++ s) (upd H p u') := by
  obtain ⟨p, u, h1, h2, h3, h4, k⟩ := h.own (i := T.length + i) (φ := φ) (m := m) (by rw [get_app]; exact hi)
  rw [← e, get_app] at h1
  exact ⟨p, u, h1, h2, h3, h4, fun u' φ' m' h' => by rw [← set_app]; exact k u' φ' m' h'⟩
theorem SatG.ownFT {T : List SV} {tv : L2.St} {i : Nat} {φ m} (e : tv.length = T.length) (h : SatG B Hi (T ++ L) (tv ++ s) H) (hi : L[i]? = some (.ow φ m)) : ∃ p F, s[i]? = some (some (.ref p)) ∧ Same F H ∧ φ Hi p F ∧ (∀ a u, F a = some u → Hi a = none) ∧
    ∀ F' φ' m' H', φ' Hi p F' → Same F' H' → minus H' F' = minus H F → SatG B Hi (T ++ L.set i (.ow φ' m')) (tv ++ s) H' := by
  obtain ⟨p, F, h1, h2, h3, h4, k⟩ := h.ownF (i := T.length + i) (φ := φ) (m := m) (by rw [get_app]; exact hi)
  rw [← e, get_app] at h1
  exact ⟨p, F, h1, h2, h3, h4, fun F' φ' m' H' h' e1 e2 => by rw [← set_app]; exact k F' φ' m' H' h' e1 e2⟩
/-- a slot that is our own list, wherever it stands -/
def OwL {α : Type} [Rq α] (c : SV) (xs : List α) : Prop := ∃ φ m, c = .ow φ m ∧ ∀ H p F, φ H p F → ∃ u, F = one p u ∧ isL xs H u
theorem owl_ol {α : Type} [Rq α] {xs : List α} : OwL (ol xs) xs := ⟨_, _, rfl, fun _ _ _ h => h⟩
theorem SatG.ownLT {α : Type} [Rq α] {xs : List α} {T : List SV} {tv : L2.St} {i : Nat} (e : tv.length = T.length) (h : SatG B Hi (T ++ L) (tv ++ s) H) (hi : ∃ c, L[i]? = some c ∧ OwL c xs) : ∃ p vs, s[i]? = some (some (.ref p)) ∧ H p = some (.lst vs) ∧ vs.length ≤ sizeLine ∧ Paired (rq Hi) xs vs := by
  obtain ⟨c, hi, φ, m, rfl, f⟩ := hi
  obtain ⟨p, F, h1, h2, h3, h4, k⟩ := h.ownFT e hi
  obtain ⟨u, rfl, vs, rfl, h5, h6⟩ := f _ _ _ h3
  exact ⟨p, vs, h1, h2 _ _ one_same, h5, h6⟩
end
/-- one state by slots is another's -/
inductive Wk : List SV → List SV → Prop
  | nil : Wk [] []
  | same {c L L'} : Wk L L' → Wk (c :: L) (c :: L')
  | drop {c L L'} : Wk L L' → Wk (c :: L) (.un :: L')
  | imp {φ ψ m n L L'} : (∀ H p F, φ H p F → ψ H p F) → Wk L L' → Wk (.ow φ m :: L) (.ow ψ n :: L')
section
variable {B : Bk} {Hi H : Hp}
theorem SatG.wk : ∀ {L L' : List SV} {s : L2.St} {H : Hp}, Wk L L' → SatG B Hi L s H → SatG B Hi L' s H
  | _, _, [], _, .nil, h => h
  | _, _, o :: s, H, .same w, h => slot_map h fun H z => SatG.wk w z
  | _, .un :: L', o :: s, H, .drop w, h => by
    show SatG B Hi L' s H
    exact SatG.wk w h.drop1
  | _, _, o :: s, H, .imp f w, ⟨p, F, h1, h2, h3, k⟩ => ⟨p, F, h1, h2, f _ _ _ h3, SatG.wk w k⟩
  | _, _, [], _, .same w, h => False.elim h
  | _, _, [], _, .drop w, h => False.elim h
  | _, _, [], _, .imp _ w, h => False.elim h
theorem Wk.refl : ∀ (L : List SV), Wk L L
  | [] => .nil
  | _ :: L => .same (Wk.refl L)
theorem SatG.wkT : ∀ {T : List SV} {tv : L2.St} {L L' : List SV} {s : L2.St} {H : Hp}, tv.length = T.length → Wk L L' → SatG B Hi (T ++ L) (tv ++ s) H → SatG B Hi (T ++ L') (tv ++ s) H
  | [], [], _, _, _, _, _, w, h => h.wk w
  | [], _ :: _, _, _, _, _, e, _, _ => by simp at e
  | _ :: _, [], _, _, _, _, e, _, _ => by simp at e
  | _ :: T, _ :: tv, L, L', s, H, e, w, h => slot_map h fun H z => SatG.wkT (by simpa using e) w z
/-- all but the front is let go -/
theorem SatG.bare : ∀ {L : List SV} {s : L2.St} {H : Hp}, SatG B Hi L s H → SatG B Hi [] [] H
  | [], [], _, h => h
  | _ :: _, _ :: _, _, h => SatG.bare h.drop1
theorem SatG.bare1 {c : SV} {o : Option V} {L : List SV} {s : L2.St} (h : SatG B Hi (c :: L) (o :: s) H) : SatG B Hi [c] [o] H := slot_map h fun H z => SatG.bare z
end
end GM
namespace GM
open PySem PySem.Spec PyProof.Rows L2
def EvJ {α : Type} [Rq α] (t : TE) (G : List SV) (m : Option α) : Prop :=
  ∀ (B : Bk) (Hi : Hp) (T : List SV) (tv s : L2.St) (H : Hp) (Q : VK) (x : α), m = some x → tv.length = T.length → SatG B Hi (T ++ G) (tv ++ s) H →
    (∀ v Hi' H', SatG B Hi' (T ++ G) (tv ++ s) H' → rq Hi' x v → Q v H') → t s H Q
structure EJ {α : Type} [Rq α] (X : Cx) (e : Expr) (t : TE) (G : List SV) (m : Option α) : Prop where
  pe : PE X e t
  ev : EvJ t G m
def lstH {α : Type} [Rq α] (Hi H : Hp) (xs : List α) (v : V) : Prop := ∃ a vs, v = .ref a ∧ H a = some (.lst vs) ∧ vs.length ≤ sizeLine ∧ Paired (rq Hi) xs vs
def lstK {α : Type} [Rq α] (K : PySem.W.Frag) (Hi H : Hp) (xs : List α) (v : V) : Prop := ∃ a vs, v = .ref a ∧ SqL K H a vs ∧ vs.length ≤ sizeLine ∧ Paired (rq Hi) xs vs
theorem lstH.K {α : Type} [Rq α] {K : PySem.W.Frag} {Hi H : Hp} {xs : List α} {v : V} (h : lstH Hi H xs v) : lstK K Hi H xs v := by
  obtain ⟨a, vs, h1, h2, h3⟩ := h
  exact ⟨a, vs, h1, SqL.of h2, h3⟩
/-- something that is read later on, by P: the stack may have grown -/
def StJ {α : Type} (P : Hp → Hp → α → V → Prop) (t : TE) (G : List SV) (m : Option α) : Prop :=
  ∀ (B : Bk) (Hi : Hp) (T : List SV) (tv s : L2.St) (H : Hp) (Q : VK) (x : α), m = some x → tv.length = T.length → SatG B Hi (T ++ G) (tv ++ s) H →
    (∀ v T' tv' Hi' H', tv'.length = T'.length → SatG B Hi' (T' ++ G) (tv' ++ s) H' → (∀ Hi2 H2, SatG B Hi2 (T' ++ G) (tv' ++ s) H2 → SatG B Hi2 (T ++ G) (tv ++ s) H2 ∧ P Hi2 H2 x v) → Q v H') → t s H Q
structure SJ {α : Type} (P : Hp → Hp → α → V → Prop) (X : Cx) (e : Expr) (t : TE) (G : List SV) (m : Option α) : Prop where
  pe : PE X e t
  ev : StJ P t G m
/-- a list that is read, ours or not -/
abbrev LJ {α : Type} [Rq α] (X : Cx) (e : Expr) (t : TE) (G : List SV) (m : Option (List α)) : Prop := SJ lstH X e t G m
abbrev LK {α : Type} [Rq α] (X : Cx) (e : Expr) (t : TE) (G : List SV) (m : Option (List α)) : Prop := SJ (lstK X.K) X e t G m
/-- a new list of our own -/
def OvJ {α : Type} [Rq α] (t : TE) (G : List SV) (m : Option (List α)) : Prop :=
  ∀ (B : Bk) (Hi : Hp) (T : List SV) (tv s : L2.St) (H : Hp) (Q : VK) (x : List α), m = some x → tv.length = T.length → SatG B Hi (T ++ G) (tv ++ s) H →
    (∀ p Hi' H', SatG B Hi' (ol x :: (T ++ G)) (some (.ref p) :: (tv ++ s)) H' → Q (.ref p) H') → t s H Q
structure OJ {α : Type} [Rq α] (X : Cx) (e : Expr) (t : TE) (G : List SV) (m : Option (List α)) : Prop where
  pe : PE X e t
  ev : OvJ t G m
def TvJ (t : TT) (G : List SV) (m : Option Bool) : Prop :=
  ∀ (B : Bk) (Hi : Hp) (T : List SV) (tv s : L2.St) (H : Hp) (Q : Bool → Hp → Prop) (x : Bool), m = some x → tv.length = T.length → SatG B Hi (T ++ G) (tv ++ s) H →
    (∀ Hi' H', SatG B Hi' (T ++ G) (tv ++ s) H' → Q x H') → t s H Q
structure TJ (X : Cx) (e : Expr) (t : TT) (G : List SV) (m : Option Bool) : Prop where
  pt : PT X e t
  ev : TvJ t G m
structure TW (X : Cx) (e : Expr) (t : TT) (G : List SV) (m : Option Bool) : Prop where
  pw : PW X e t
  ev : TvJ t G m
section
variable {X : Cx} {e a b c : Expr} {t ta tb tc : TE} {G : List SV} {α β γ : Type} {pos : Pos}
theorem bind_some {α β : Type} {m : Option α} {f : α → Option β} {z : β} (h : m.bind f = some z) : ∃ x, m = some x ∧ f x = some z := by
  cases m with
  | none => cases h
  | some x => exact ⟨x, rfl, h⟩
theorem lstH_of {α : Type} [Rq α] {Hi H : Hp} {xs : List α} {v : V} (e : Same Hi H) (h : rq Hi xs v) : lstH Hi H xs v := by
  obtain ⟨a, vs, h1, h2, h3, h4⟩ := h
  exact ⟨a, vs, h1, e _ _ h2, h3, h4⟩
/-- frozen: read later by anything that it stands for -/
theorem StJ.ofE [Rq α] {P : Hp → Hp → α → V → Prop} {m : Option α} (hP : ∀ Hi H x v, Same Hi H → rq Hi x v → P Hi H x v) (h : EvJ t G m) : StJ P t G m := fun B Hi T tv s H Q x hx hl hs k =>
  h B Hi T tv s H Q x hx hl hs fun v Hi' H' s' r => k v (fz x :: T) (some v :: tv) Hi' H' (by simp [hl]) ⟨⟨v, rfl, r⟩, s'⟩ fun Hi2 H2 s2 => by
    have s3 : SatG B Hi2 (T ++ G) (tv ++ s) H2 := s2.2
    obtain ⟨⟨v', e1, r'⟩, _⟩ := s2
    cases e1
    exact ⟨s3, hP _ _ _ _ s3.sub r'⟩
theorem lj_e [Rq α] {m : Option (List α)} (h : EJ X e t G m) : LJ X e t G m := ⟨h.pe, StJ.ofE (fun _ _ _ _ => lstH_of) h.ev⟩
theorem lk_l [Rq α] {m : Option (List α)} (h : LJ X e t G m) : LK X e t G m := ⟨h.pe, fun B Hi T tv s H Q x hx hl hs k =>
  h.ev B Hi T tv s H Q x hx hl hs fun v T' tv' Hi' H' l' s' r => k v T' tv' Hi' H' l' s' fun Hi2 H2 s2 => ⟨(r Hi2 H2 s2).1, (r Hi2 H2 s2).2.K⟩⟩
/-- our own new list is let go -/
theorem sat_thawL [Rq α] {B : Bk} {Hi H : Hp} {L : List SV} {s : L2.St} {p : Addr} {xs : List α} (h : SatG B Hi (ol xs :: L) (some (.ref p) :: s) H) : ∃ Hi', SatG B Hi' L s H ∧ rq Hi' xs (.ref p) := by
  obtain ⟨u, h1, ⟨vs, e, h2, h3⟩, hn, k⟩ := h.thaw
  subst e
  exact ⟨_, k, p, vs, rfl, upd_same, h2, Paired.mono h3 fun _ _ => Rq.mono (same_new hn)⟩
theorem ej_o [Rq α] {m : Option (List α)} (h : OJ X e t G m) : EJ X e t G m := ⟨h.pe, fun B Hi T tv s H Q x hx hl hs k =>
  h.ev B Hi T tv s H Q x hx hl hs fun p Hi' H' s' => by
    obtain ⟨Hi2, s2, r⟩ := sat_thawL s'
    exact k _ Hi2 H' s2 r⟩
/-- a name whose value stands still -/
theorem ej_n [Rq α] {x : α} (i : Nat) (hi : G[i]? = some (fz x)) {n : Str} (hN : X.N[i]? = some n := by rfl) (hv : Vis X.env.scope n := by first | exact Or.inl rfl | exact Or.inr (Or.inl rfl) | exact Or.inr (Or.inr rfl))
    (hd : (n == ("__debug__" : Str)) = false := by decide) (hcd : (n == ("__classdict__" : Str)) = false := by decide) : EJ X (.Name n pos) (tVar i) G (some x) :=
  ⟨pe_var hN hv hd hcd, fun B Hi T tv s H Q y hx hl hs k => by
    cases hx
    obtain ⟨v, h1, h2⟩ := hs.getT hl hi
    exact ⟨v, h1, k v Hi H hs h2⟩⟩
/-- a name that holds a list of our own -/
theorem lj_nO [Rq α] {xs : List α} (i : Nat) (hi : ∃ c, G[i]? = some c ∧ OwL c xs) {n : Str} (hN : X.N[i]? = some n := by rfl) (hv : Vis X.env.scope n := by first | exact Or.inl rfl | exact Or.inr (Or.inl rfl) | exact Or.inr (Or.inr rfl))
    (hd : (n == ("__debug__" : Str)) = false := by decide) (hcd : (n == ("__classdict__" : Str)) = false := by decide) : LJ X (.Name n pos) (tVar i) G (some xs) :=
  ⟨pe_var hN hv hd hcd, fun B Hi T tv s H Q y hx hl hs k => by
    cases hx
    obtain ⟨p, vs0, h1, h2, h3, h4⟩ := hs.ownLT hl hi
    refine ⟨.ref p, h1, k _ T tv Hi H hl hs fun Hi2 H2 s2 => ⟨s2, ?_⟩⟩
    obtain ⟨p', vs, g1, g2, g5, g6⟩ := s2.ownLT hl hi
    rw [h1] at g1
    cases g1
    exact ⟨p, vs, rfl, g2, g5, g6⟩⟩
theorem lj_n [Rq α] {xs : List α} (i : Nat) (hi : G[i]? = some (ol xs)) {n : Str} (hN : X.N[i]? = some n := by rfl) (hv : Vis X.env.scope n := by first | exact Or.inl rfl | exact Or.inr (Or.inl rfl) | exact Or.inr (Or.inr rfl))
    (hd : (n == ("__debug__" : Str)) = false := by decide) (hcd : (n == ("__classdict__" : Str)) = false := by decide) : LJ X (.Name n pos) (tVar i) G (some xs) := lj_nO i ⟨_, hi, owl_ol⟩ hN hv hd hcd
/-- the script -/
theorem lk_s {K : PySem.W.Frag} {x : Scr K} (hK : K = X.K) (i : Nat) (hi : G[i]? = some (fz x)) {n : Str} (hN : X.N[i]? = some n := by rfl) (hv : Vis X.env.scope n := by first | exact Or.inl rfl | exact Or.inr (Or.inl rfl) | exact Or.inr (Or.inr rfl))
    (hd : (n == ("__debug__" : Str)) = false := by decide) (hcd : (n == ("__classdict__" : Str)) = false := by decide) : LK X (.Name n pos) (tVar i) G (some x.l) :=
  ⟨pe_var hN hv hd hcd, fun B Hi T tv s H Q y hx hl hs k => by
    subst hK
    cases hx
    obtain ⟨v, h1, h2⟩ := hs.getT hl hi
    refine ⟨v, h1, k v (fz x :: T) (some v :: tv) Hi H (by simp [hl]) ⟨⟨v, rfl, h2⟩, hs⟩ fun Hi2 H2 s2 => ?_⟩
    have s3 : SatG B Hi2 (T ++ G) (tv ++ s) H2 := s2.2
    obtain ⟨⟨v', e1, a, h3, h4, h5⟩, _⟩ := s2
    cases e1
    refine ⟨s3, a, _, h3, Same.seq s3.sub h4, ?_, ?_⟩
    · rw [List.length_map]; exact Nat.le_trans h5 (by decide)
    · have : ∀ l : List Int, Paired (rq Hi2) l (l.map V.int) := fun l => by
        induction l with
        | nil => exact .nil
        | cons z l ih => exact .cons rfl ih
      exact this _⟩
theorem ej_c [Rq α] {x : α} {v : V} (h : PE X e (tC v)) (r : ∀ H, rq H x v) : EJ X e (tC v) G (some x) := ⟨h, fun B Hi T tv s H Q y hx hl hs k => by
  cases hx
  exact k v Hi H hs (r Hi)⟩
theorem ej_int {i : Int} {j} : EJ X (.Constant (.int i) j pos) (tC (.int i)) G (some i) := ej_c pe_int fun _ => rfl
theorem ej_bl {i : Bool} {j} : EJ X (.Constant (.bool i) j pos) (tC (.bl i)) G (some i) := ej_c pe_bl fun _ => rfl
theorem ej_str {i : Str} {j} : EJ X (.Constant (.str i) j pos) (tC (.str i)) G (some i) := ej_c pe_str fun _ => rfl
/-- None, where something else might stand -/
theorem ej_none {j} [Rp α] : EJ X (.Constant .none j pos) (tC .non) G (some (none : Option α)) := ej_c pe_non fun _ => rfl
/-- x where None might stand -/
theorem ej_some [Rp α] {m : Option α} (h : EJ X e t G m) : EJ X e t G (m.bind fun x => some (some x)) := ⟨h.pe, fun B Hi T tv s H Q y hx hl hs k => by
  obtain ⟨x, e1, e2⟩ := bind_some hx
  cases e2
  exact h.ev B Hi T tv s H Q x e1 hl hs fun v Hi' H' s' r => k v Hi' H' s' r⟩
def Op2 [Rq α] [Rq β] [Rq γ] (r : R2) (f : α → β → Option γ) : Prop := ∀ (Hi H : Hp) (x : α) (y : β) (vx vy : V) (z : γ) (Q : VK), Same Hi H → rq Hi x vx → rq Hi y vy → f x y = some z → (∀ v, rq Hi z v → Q v H) → r vx vy H Q
theorem ev_op2 [Rq α] [Rq β] [Rq γ] {r : R2} {f : α → β → Option γ} (hf : Op2 r f) {m1 : Option α} {m2 : Option β} (ha : EvJ ta G m1) (hb : EvJ tb G m2) : EvJ (tOp r ta tb) G (m1.bind fun x => m2.bind fun y => f x y) :=
  fun B Hi T tv s H Q z hx hl hs k => by
    obtain ⟨x, e1, hx⟩ := bind_some hx
    obtain ⟨y, e2, e3⟩ := bind_some hx
    refine ha B Hi T tv s H _ x e1 hl hs fun vx Hi1 H1 s1 r1 => ?_
    refine hb B Hi1 (fz x :: T) (some vx :: tv) s H1 _ y e2 (by simp [hl]) ⟨⟨vx, rfl, r1⟩, s1⟩ fun vy Hi2 H2 s2 r2 => ?_
    obtain ⟨⟨v', e4, r1'⟩, s2⟩ := s2
    cases e4
    exact hf Hi2 H2 x y vx vy z Q s2.sub r1' r2 e3 fun v r => k v Hi2 H2 s2 r
theorem ej_op [Rq α] [Rq β] [Rq γ] {op : Operator} {r : R2} {f : α → β → Option γ} (ho : OpR X (binaryOp op) r) (hf : Op2 r f) {m1 : Option α} {m2 : Option β} (ha : EJ X a ta G m1) (hb : EJ X b tb G m2) :
    EJ X (.BinOp a op b pos) (tOp r ta tb) G (m1.bind fun x => m2.bind fun y => f x y) := ⟨pe_op ho ha.pe hb.pe, ev_op2 hf ha.ev hb.ev⟩
theorem ej_cmp [Rq α] [Rq β] [Rq γ] {op : CmpOp} {r : R2} {f : α → β → Option γ} (ho : OpR X (compareOp op) r) (hf : Op2 r f) {m1 : Option α} {m2 : Option β} (ha : EJ X a ta G m1) (hb : EJ X b tb G m2) (hm : behindInMarks op b = false := by first | exact nomark _ | rfl) :
    EJ X (.Compare a [op] [b] pos) (tOp r ta tb) G (m1.bind fun x => m2.bind fun y => f x y) := ⟨pe_cmpR ho ha.pe hb.pe hm, ev_op2 hf ha.ev hb.ev⟩
theorem tv_test {m : Option Bool} (h : EvJ t G m) : TvJ (tTest t) G m := fun B Hi T tv s H Q x hx hl hs k =>
  h B Hi T tv s H _ x hx hl hs fun v Hi' H' s' r => ⟨x, r, k Hi' H' s'⟩
theorem tv_b {m : Option Bool} (h : EvJ t G m) : TvJ (tB t) G m := fun B Hi T tv s H Q x hx hl hs k =>
  h B Hi T tv s H _ x hx hl hs fun v Hi' H' s' r => ⟨x, r, k Hi' H' s'⟩
theorem tj_cmp [Rq α] [Rq β] {op : CmpOp} {r : R2} {f : α → β → Option Bool} (ho : OpR X (compareOp op) r) (hf : Op2 r f) {m1 : Option α} {m2 : Option β} (ha : EJ X a ta G m1) (hb : EJ X b tb G m2) (hm : behindInMarks op b = false := by first | exact nomark _ | rfl) :
    TJ X (.Compare a [op] [b] pos) (tTest (tOp r ta tb)) G (m1.bind fun x => m2.bind fun y => f x y) := ⟨pt_cmpR ho ha.pe hb.pe hm, tv_test (ev_op2 hf ha.ev hb.ev)⟩
/-- a value that is True or False, as a test -/
theorem tj_v {m : Option Bool} (h : EJ X e t G m) (he : ∀ whole, isTrue e X.env whole = (do let v ← whole; standAt e.pos; holding [v] (truthy v)) := by intro _; rfl) : TJ X e (tB t) G m := ⟨pt_val h.pe he, tv_b h.ev⟩
theorem o2_add : Op2 (rI0 fun i j => .int (i + j)) (fun x y : Int => some (x + y)) := fun Hi H x y vx vy z Q _ r1 r2 e k => by
  cases r1; cases r2; cases e; exact ⟨x, y, rfl, rfl, k _ rfl⟩
theorem o2_sub : Op2 (rI0 fun i j => .int (i - j)) (fun x y : Int => some (x - y)) := fun Hi H x y vx vy z Q _ r1 r2 e k => by
  cases r1; cases r2; cases e; exact ⟨x, y, rfl, rfl, k _ rfl⟩
def mulC (x y : Int) : Option Int := if x.natAbs.log2 + y.natAbs.log2 < 1000000 then some (x * y) else none
theorem o2_mul : Op2 (rI CMulW fun i j => .int (i * j)) mulC := fun Hi H x y vx vy z Q _ r1 r2 e k => by
  cases r1; cases r2
  unfold mulC at e
  by_cases h : x.natAbs.log2 + y.natAbs.log2 < 1000000
  · rw [if_pos h] at e
    cases e
    exact ⟨x, y, rfl, rfl, h, k _ rfl⟩
  · rw [if_neg h] at e; cases e
def divC (x y : Int) : Option Int := if 0 < y ∧ y.natAbs.log2 < 9000 then some (x / y) else none
theorem o2_div : Op2 (rI CDivW fun i j => .int (i / j)) divC := fun Hi H x y vx vy z Q _ r1 r2 e k => by
  cases r1; cases r2
  unfold divC at e
  by_cases h : 0 < y ∧ y.natAbs.log2 < 9000
  · rw [if_pos h] at e
    cases e
    exact ⟨x, y, rfl, rfl, h, k _ rfl⟩
  · rw [if_neg h] at e; cases e
def modC (x y : Int) : Option Int := if 0 < y then some (x % y) else none
theorem o2_mod : Op2 (rI (fun _ j => 0 < j) fun i j => .int (i % j)) modC := fun Hi H x y vx vy z Q _ r1 r2 e k => by
  cases r1; cases r2
  unfold modC at e
  by_cases h : 0 < y
  · rw [if_pos h] at e
    cases e
    exact ⟨x, y, rfl, rfl, h, k _ rfl⟩
  · rw [if_neg h] at e; cases e
/-- by a written number -/
theorem ej_opK [Rq γ] {op : Operator} {r : R2} {f : Int → γ} {k : Int} {j} (ho : OpR X (binaryOp op) r) (hf : ∀ (H : Hp) (x : Int) (Q : VK), (∀ v, (∀ Hi, rq Hi (f x) v) → Q v H) → r (.int x) (.int k) H Q) {m1 : Option Int} (ha : EJ X a ta G m1) {p2 : Pos} :
    EJ X (.BinOp a op (.Constant (.int k) j p2) pos) (tOp r ta (tC (.int k))) G (m1.bind fun x => some (f x)) := ⟨pe_op ho ha.pe pe_int, fun B Hi T tv s H Q z hx hl hs kk => by
    obtain ⟨x, e1, e2⟩ := bind_some hx
    cases e2
    refine ha.ev B Hi T tv s H _ x e1 hl hs fun vx Hi1 H1 s1 r1 => ?_
    cases r1
    exact hf H1 x Q fun v r => kk v Hi1 H1 s1 (r Hi1)⟩
theorem ej_modK {k : Int} {j} (hk : 0 < k) {m1 : Option Int} (ha : EJ X a ta G m1) {p2 : Pos} : EJ X (.BinOp a .Mod (.Constant (.int k) j p2) pos) (tOp (rI (fun _ j => 0 < j) fun i j => .int (i % j)) ta (tC (.int k))) G (m1.bind fun x => some (x % k)) :=
  ej_opK (f := fun x => x % k) op_mod (fun H x Q h => ⟨x, k, rfl, rfl, hk, h _ fun _ => rfl⟩) ha
theorem ej_divK {k : Int} {j} (hk : CDiv 0 k) {m1 : Option Int} (ha : EJ X a ta G m1) {p2 : Pos} : EJ X (.BinOp a .FloorDiv (.Constant (.int k) j p2) pos) (tOp (rI CDiv fun i j => .int (i / j)) ta (tC (.int k))) G (m1.bind fun x => some (x / k)) :=
  ej_opK (f := fun x => x / k) op_fdiv (fun H x Q h => ⟨x, k, rfl, rfl, hk, h _ fun _ => rfl⟩) ha
theorem ej_mulK {k : Int} {j} (hk : -(2 ^ 64) < k ∧ k < 2 ^ 64) {m1 : Option Int} (ha : EJ X a ta G m1) {p2 : Pos} : EJ X (.BinOp a .Mult (.Constant (.int k) j p2) pos) (tOp (rI CMul fun i j => .int (i * j)) ta (tC (.int k))) G (m1.bind fun x => some (x * k)) :=
  ej_opK (f := fun x => x * k) op_mul (fun H x Q h => ⟨x, k, rfl, rfl, .inr hk, h _ fun _ => rfl⟩) ha
theorem ej_mulKL {k : Int} {j} (hk : -(2 ^ 64) < k ∧ k < 2 ^ 64) {m1 : Option Int} (ha : EJ X a ta G m1) {p2 : Pos} : EJ X (.BinOp (.Constant (.int k) j p2) .Mult a pos) (tOp (rI CMul fun i j => .int (i * j)) (tC (.int k)) ta) G (m1.bind fun x => some (k * x)) :=
  ⟨pe_op op_mul pe_int ha.pe, fun B Hi T tv s H Q z hx hl hs kk => by
    obtain ⟨x, e1, e2⟩ := bind_some hx
    cases e2
    refine ha.ev B Hi T tv s H _ x e1 hl hs fun vx Hi1 H1 s1 r1 => ?_
    cases r1
    exact ⟨k, x, rfl, rfl, .inl hk, kk _ Hi1 H1 s1 rfl⟩⟩
/-- a power of two written numbers -/
theorem ej_powKK {k n : Int} {j j'} {p1 p2 : Pos} {z : Int} (h : CPow k n) (hz : k ^ n.toNat = z) : EJ X (.BinOp (.Constant (.int k) j p1) .Pow (.Constant (.int n) j' p2) pos) (tOp (rI CPow fun i j => .int (i ^ j.toNat)) (tC (.int k)) (tC (.int n))) G (some z) :=
  ⟨pe_op op_pow pe_int pe_int, fun B Hi T tv s H Q z' hx hl hs kk => by
    cases hx
    exact ⟨k, n, rfl, rfl, h, kk _ Hi H hs (by subst hz; rfl)⟩⟩
theorem o2_lt : Op2 (rI0 fun i j => .bl (decide (i < j))) (fun x y : Int => some (decide (x < y))) := fun Hi H x y vx vy z Q _ r1 r2 e k => by
  cases r1; cases r2; cases e; exact ⟨x, y, rfl, rfl, k _ rfl⟩
theorem o2_gt : Op2 (rI0 fun i j => .bl (decide (j < i))) (fun x y : Int => some (decide (y < x))) := fun Hi H x y vx vy z Q _ r1 r2 e k => by
  cases r1; cases r2; cases e; exact ⟨x, y, rfl, rfl, k _ rfl⟩
/-- values that == compares at once -/
class Sc (α : Type) [Rp α] [DecidableEq α] where
  eq : ∀ {H : Hp} {x y : α} {v u : V}, Rp.rep H x v → Rp.rep H y u → scal v u = true ∧ decide (v = u) = decide (x = y)
  flat : ∀ {H : Hp} {x : α} {v : V}, Rp.rep H x v → flatV v = true
  eqv : ∀ {H : Hp} {x y : α} {v u : V}, Rp.rep H x v → Rp.rep H y u → eqV v u = decide (x = y)
theorem dec_iff {p q : Prop} [Decidable p] [Decidable q] (h : p ↔ q) : decide p = decide q := by
  by_cases hp : p
  · rw [decide_eq_true hp, decide_eq_true (h.mp hp)]
  · rw [decide_eq_false hp, decide_eq_false fun z => hp (h.mpr z)]
instance : Sc Int := ⟨fun h h' => by cases h; cases h'; exact ⟨rfl, dec_iff ⟨fun z => V.int.inj z, fun z => by rw [z]⟩⟩, fun h => by cases h; rfl, fun h h' => by cases h; cases h'; exact Bool.beq_eq_decide_eq _ _⟩
instance : Sc Bool := ⟨fun h h' => by cases h; cases h'; exact ⟨rfl, dec_iff ⟨fun z => V.bl.inj z, fun z => by rw [z]⟩⟩, fun h => by cases h; rfl, fun h h' => by cases h; cases h'; exact Bool.beq_eq_decide_eq _ _⟩
instance : Sc Str := ⟨fun h h' => by cases h; cases h'; exact ⟨rfl, dec_iff ⟨fun z => V.str.inj z, fun z => by rw [z]⟩⟩, fun h => by cases h; rfl, fun h h' => by cases h; cases h'; exact Bool.beq_eq_decide_eq _ _⟩
theorem o2_eq [Rp α] [DecidableEq α] [Sc α] : Op2 rEq (fun x y : α => some (decide (x = y))) := fun Hi H x y vx vy z Q _ r1 r2 e k => by
  cases e
  obtain ⟨h1, h2⟩ := Sc.eq r1 r2
  exact ⟨h1, k _ (by rw [h2]; rfl)⟩
theorem o2_ne [Rp α] [DecidableEq α] [Sc α] : Op2 rNe (fun x y : α => some (!decide (x = y))) := fun Hi H x y vx vy z Q _ r1 r2 e k => by
  cases e
  obtain ⟨h1, h2⟩ := Sc.eq r1 r2
  exact ⟨h1, k _ (by rw [h2]; rfl)⟩
/-- is None -/
theorem ev_isN [Rp α] {m : Option (Option α)} (h : EvJ ta G m) : EvJ (tIsN ta) G (m.bind fun x => some x.isNone) := fun B Hi T tv s H Q z hx hl hs k => by
  obtain ⟨x, e1, e2⟩ := bind_some hx
  cases e2
  refine h B Hi T tv s H _ x e1 hl hs fun v Hi1 H1 s1 r1 => k _ Hi1 H1 s1 ?_
  cases x with
  | none => cases (show v = .non from r1); rfl
  | some y =>
    have n : v ≠ .non := Rp.nn r1
    show V.bl (decide (v = .non)) = V.bl false
    rw [decide_eq_false n]
/-- x where it is known not to be None -/
def unN (x : Option α) : Option α := x
theorem ej_un_n [Rp α] {m : Option (Option α)} (h : EJ X e t G m) : EJ X e t G (m.bind fun x => unN x) := ⟨h.pe, fun B Hi T tv s H Q z hx hl hs k => by
  obtain ⟨x, e1, e2⟩ := bind_some hx
  have e2 : x = some z := e2
  subst e2
  exact h.ev B Hi T tv s H _ _ e1 hl hs fun v Hi1 H1 s1 r1 => k v Hi1 H1 s1 r1⟩
variable {tA tB' : TT} {rest : List Expr}
theorem tj_w {m : Option Bool} (h : TW X e tA G m) : TJ X e tA G m := ⟨h.pw.pt, h.ev⟩
theorem tw_and1 {m : Option Bool} (h : TJ X a tA G m) : TW X (.BoolOp .And [a] pos) tA G m := ⟨pw_and1 h.pt, h.ev⟩
theorem tw_or1 {m : Option Bool} (h : TJ X a tA G m) : TW X (.BoolOp .Or [a] pos) tA G m := ⟨pw_or1 h.pt, h.ev⟩
theorem tw_and {m m2 : Option Bool} (h : TJ X a tA G m) (h2 : TW X (.BoolOp .And (b :: rest) pos) tB' G m2) : TW X (.BoolOp .And (a :: b :: rest) pos) (tAnd tA tB') G (m.bind fun x => if x = true then m2 else some false) :=
  ⟨pw_and h.pt h2.pw, fun B Hi T tv s H Q z hx hl hs k => by
    obtain ⟨x, e1, e2⟩ := bind_some hx
    refine h.ev B Hi T tv s H _ x e1 hl hs fun Hi1 H1 s1 => ?_
    cases x with
    | true =>
      rw [if_pos rfl]
      rw [if_pos rfl] at e2
      exact h2.ev B Hi1 T tv s H1 Q z e2 hl s1 k
    | false =>
      rw [if_neg Bool.false_ne_true]
      rw [if_neg Bool.false_ne_true] at e2
      cases e2
      exact k Hi1 H1 s1⟩
theorem tw_or {m m2 : Option Bool} (h : TJ X a tA G m) (h2 : TW X (.BoolOp .Or (b :: rest) pos) tB' G m2) : TW X (.BoolOp .Or (a :: b :: rest) pos) (tOr tA tB') G (m.bind fun x => if x = true then some true else m2) :=
  ⟨pw_or h.pt h2.pw, fun B Hi T tv s H Q z hx hl hs k => by
    obtain ⟨x, e1, e2⟩ := bind_some hx
    refine h.ev B Hi T tv s H _ x e1 hl hs fun Hi1 H1 s1 => ?_
    cases x with
    | true =>
      rw [if_pos rfl]
      rw [if_pos rfl] at e2
      cases e2
      exact k Hi1 H1 s1
    | false =>
      rw [if_neg Bool.false_ne_true]
      rw [if_neg Bool.false_ne_true] at e2
      exact h2.ev B Hi1 T tv s H1 Q z e2 hl s1 k⟩
theorem tw_orP {x y : Bool} (h : TJ X a tA G (some x)) (h2 : TW X (.BoolOp .Or (b :: rest) pos) tB' G (some y)) : TW X (.BoolOp .Or (a :: b :: rest) pos) (tOr tA tB') G (some (x || y)) := by
  have q := tw_or h h2
  have e : ((some x : Option Bool).bind fun x => if x = true then some true else some y) = some (x || y) := by cases x <;> rfl
  rw [e] at q
  exact q
theorem tj_isN [Rp α] {j p'} {m : Option (Option α)} (h : EJ X a ta G m) : TJ X (.Compare a [.Is] [.Constant .none j p'] pos) (tB (tIsN ta)) G (m.bind fun x => some x.isNone) := ⟨pt_cmp (pc_isN h.pe) (by rfl), tv_b (ev_isN h.ev)⟩
theorem tj_not {m : Option Bool} (h : TJ X a tA G m) : TJ X (.UnaryOp .Not a pos) (tNot tA) G (m.bind fun x => some !x) := ⟨pt_not h.pt, fun B Hi T tv s H Q z hx hl hs k => by
  obtain ⟨x, e1, e2⟩ := bind_some hx
  cases e2
  exact h.ev B Hi T tv s H _ x e1 hl hs fun Hi1 H1 s1 => k Hi1 H1 s1⟩
/-- as values -/
theorem ej_one {op} {m : Option Bool} (h : EJ X a ta G m) : EJ X (.BoolOp op [a] pos) ta G m := ⟨pe_one h.pe, h.ev⟩
theorem ej_and {m m2 : Option Bool} (h : EJ X a ta G m) (h2 : EJ X (.BoolOp .And (b :: rest) pos) tb G m2) : EJ X (.BoolOp .And (a :: b :: rest) pos) (tAndV ta tb) G (m.bind fun x => if x = true then m2 else some false) :=
  ⟨pe_and h.pe h2.pe, fun B Hi T tv s H Q z hx hl hs k => by
    obtain ⟨x, e1, e2⟩ := bind_some hx
    refine h.ev B Hi T tv s H _ x e1 hl hs fun v Hi1 H1 s1 r1 => ⟨x, r1, ?_⟩
    cases x with
    | true =>
      rw [if_pos rfl]
      rw [if_pos rfl] at e2
      exact h2.ev B Hi1 T tv s H1 Q z e2 hl s1 k
    | false =>
      rw [if_neg Bool.false_ne_true]
      rw [if_neg Bool.false_ne_true] at e2
      cases e2
      exact k _ Hi1 H1 s1 rfl⟩
theorem ej_not {m : Option Bool} (h : EJ X a ta G m) : EJ X (.UnaryOp .Not a pos) (tNotV ta) G (m.bind fun x => some !x) := ⟨pe_not h.pe, fun B Hi T tv s H Q z hx hl hs k => by
  obtain ⟨x, e1, e2⟩ := bind_some hx
  cases e2
  exact h.ev B Hi T tv s H _ x e1 hl hs fun v Hi1 H1 s1 r1 => ⟨x, r1, k _ Hi1 H1 s1 rfl⟩⟩
end
end GM
namespace GM
open PySem PySem.Spec PyProof.Rows L2
class RpL (τ : Type) where
  reps : Hp → τ → List V → Prop
  mono : ∀ {H H' : Hp} {x : τ} {v : List V}, Same H H' → reps H x v → reps H' x v
  n : Nat
  len : ∀ {H : Hp} {x : τ} {v : List V}, reps H x v → v.length = n
  svs : τ → List SV
  sat : ∀ {B : Bk} {Hi H : Hp} {x : τ} {vs : List V} {L : List SV} {s : L2.St}, reps Hi x vs → SatG B Hi L s H → SatG B Hi (svs x ++ L) (vs.map some ++ s) H
instance : RpL Unit := ⟨fun _ _ vs => vs = [], fun _ h => h, 0, fun h => by rw [h]; rfl, fun _ => [], fun h s => by subst h; exact s⟩
instance {α τ : Type} [Rq α] [RpL τ] : RpL (α × τ) := ⟨fun H x vs => ∃ v us, vs = v :: us ∧ rq H x.1 v ∧ RpL.reps H x.2 us, fun e ⟨v, us, h1, h2, h3⟩ => ⟨v, us, h1, Rq.mono e h2, RpL.mono e h3⟩, RpL.n τ + 1, fun ⟨v, us, h1, h2, h3⟩ => by
  rw [h1, List.length_cons, RpL.len h3], fun x => fz x.1 :: RpL.svs x.2, fun ⟨v, us, h1, h2, h3⟩ s => by
  subst h1; exact ⟨⟨v, rfl, h2⟩, RpL.sat h3 s⟩⟩
def AvJ {τ : Type} [RpL τ] (P : Hp → Hp → τ → List V → Prop) (t : TA) (G : List SV) (m : Option τ) : Prop :=
  ∀ (B : Bk) (Hi : Hp) (T : List SV) (tv s : L2.St) (H : Hp) (Q : List V → Hp → Prop) (x : τ), m = some x → tv.length = T.length → SatG B Hi (T ++ G) (tv ++ s) H →
    (∀ vs Hi' H', SatG B Hi' (T ++ G) (tv ++ s) H' → P Hi' H' x vs → Q vs H') → t s H Q
/-- all stand still -/
structure AJ {τ : Type} [RpL τ] (X : Cx) (es : List Expr) (t : TA) (G : List SV) (m : Option τ) : Prop where
  pa : PA X es t
  ev : AvJ (fun Hi _ x vs => RpL.reps Hi x vs) t G m
/-- what stands still, and all lists -/
def wide (Hi H : Hp) : Hp := fun a => match Hi a with
  | some o => some o
  | none => match H a with
    | some (.lst vs) => some (.lst vs)
    | some (.dK vs) => some (.dK vs)
    | some (.dT vs) => some (.dT vs)
    | _ => none
theorem wide_some {Hi H : Hp} {a : Addr} {o : HO} (h : Hi a = some o) : wide Hi H a = some o := by unfold wide; rw [h]
theorem wide_of {Hi H : Hp} : Same Hi (wide Hi H) := fun _ _ h => wide_some h
theorem wide_lst {Hi H : Hp} {a : Addr} {vs : List V} (e : Same Hi H) (h : H a = some (.lst vs)) : wide Hi H a = some (.lst vs) := by
  cases q : Hi a with
  | some o => rw [wide_some q, ← e _ _ q, h]
  | none => unfold wide; rw [q, h]
theorem wide_sub {Hi H : Hp} (e : Same Hi H) : Same (wide Hi H) H := fun a o h => by
  cases q : Hi a with
  | some u => rw [wide_some q] at h; cases h; exact e _ _ q
  | none =>
    unfold wide at h
    rw [q] at h
    cases w : H a with
    | none => rw [w] at h; cases h
    | some u =>
      rw [w] at h
      cases u <;> first | exact h | cases h
theorem wide_tup {Hi H : Hp} {a : Addr} {xs : List V} (h : wide Hi H a = some (.tup xs)) : Hi a = some (.tup xs) := by
  cases q : Hi a with
  | some u => rw [wide_some q] at h; exact h
  | none =>
    unfold wide at h
    rw [q] at h
    cases w : H a with
    | none => rw [w] at h; cases h
    | some u =>
      rw [w] at h
      cases u <;> cases h
def wideU {α : Type} [Rq α] (Hi H : Hp) (x : α) (v : V) : Prop := rq (wide Hi H) x v
abbrev WJ {α : Type} [Rq α] (X : Cx) (e : Expr) (t : TE) (G : List SV) (m : Option α) : Prop := SJ wideU X e t G m
structure AW {τ : Type} [RpL τ] (X : Cx) (es : List Expr) (t : TA) (G : List SV) (m : Option τ) : Prop where
  pa : PA X es t
  ev : AvJ (fun Hi H x vs => RpL.reps (wide Hi H) x vs) t G m
section
variable {X : Cx} {e a b c : Expr} {es : List Expr} {t ta tb tc : TE} {tr : TA} {G : List SV} {α β γ τ : Type} {pos : Pos}
theorem wj_e [Rq α] {m : Option α} (h : EJ X e t G m) : WJ X e t G m := ⟨h.pe, StJ.ofE (fun _ _ _ _ e r => Rq.mono wide_of r) h.ev⟩
theorem wj_l [Rq α] {m : Option (List α)} (h : LJ X e t G m) : WJ X e t G m := ⟨h.pe, fun B Hi T tv s H Q x hx hl hs k =>
  h.ev B Hi T tv s H Q x hx hl hs fun v T' tv' Hi' H' l' s' r => k v T' tv' Hi' H' l' s' fun Hi2 H2 s2 => by
    obtain ⟨s3, a, vs, h1, h2, h3, h4⟩ := r Hi2 H2 s2
    exact ⟨s3, a, vs, h1, wide_lst s3.sub h2, h3, Paired.mono h4 fun _ _ => Rq.mono wide_of⟩⟩
theorem aj_nil : AJ X [] tNil G (some ()) := ⟨pa_nil, fun B Hi T tv s H Q x hx hl hs k => k [] Hi H hs rfl⟩
theorem aj_cons [Rq α] [RpL τ] {m : Option α} {m2 : Option τ} (h : EJ X e t G m) (hr : AJ X es tr G m2) (hst : starEach (e :: es) X.env = (false, eval e X.env) :: starEach es X.env := by rfl) :
    AJ X (e :: es) (tCons t tr) G (m.bind fun x => m2.bind fun y => some (x, y)) := ⟨pa_cons h.pe hr.pa hst, fun B Hi T tv s H Q z hx hl hs k => by
    obtain ⟨x, e1, hx⟩ := bind_some hx
    obtain ⟨y, e2, e3⟩ := bind_some hx
    cases e3
    refine h.ev B Hi T tv s H _ x e1 hl hs fun v Hi1 H1 s1 r1 => ?_
    refine hr.ev B Hi1 (fz x :: T) (some v :: tv) s H1 _ y e2 (by simp [hl]) ⟨⟨v, rfl, r1⟩, s1⟩ fun vs Hi2 H2 s2 r2 => ?_
    obtain ⟨⟨v', e4, r1'⟩, s2⟩ := s2
    cases e4
    exact k (v :: vs) Hi2 H2 s2 ⟨v, vs, rfl, r1', r2⟩⟩
theorem aw_nil : AW X [] tNil G (some ()) := ⟨pa_nil, fun B Hi T tv s H Q x hx hl hs k => k [] Hi H hs rfl⟩
theorem aw_cons [Rq α] [RpL τ] {m : Option α} {m2 : Option τ} (h : WJ X e t G m) (hr : AW X es tr G m2) (hst : starEach (e :: es) X.env = (false, eval e X.env) :: starEach es X.env := by rfl) :
    AW X (e :: es) (tCons t tr) G (m.bind fun x => m2.bind fun y => some (x, y)) := ⟨pa_cons h.pe hr.pa hst, fun B Hi T tv s H Q z hx hl hs k => by
    obtain ⟨x, e1, hx⟩ := bind_some hx
    obtain ⟨y, e2, e3⟩ := bind_some hx
    cases e3
    refine h.ev B Hi T tv s H _ x e1 hl hs fun v T' tv' Hi1 H1 l1 s1 r1 => ?_
    refine hr.ev B Hi1 T' tv' s H1 _ y e2 l1 s1 fun vs Hi2 H2 s2 r2 => ?_
    obtain ⟨s3, r3⟩ := r1 Hi2 H2 s2
    exact k (v :: vs) Hi2 H2 s3 ⟨v, vs, rfl, r3, r2⟩⟩
end
class NoL (α : Type) [Rq α] : Prop where
  tr : ∀ {H H' : Hp} {x : α} {v : V}, (∀ a xs, H a = some (.tup xs) → H' a = some (.tup xs)) → rq H x v → rq H' x v
instance : NoL Int := ⟨fun _ h => h⟩
instance : NoL Bool := ⟨fun _ h => h⟩
instance : NoL Str := ⟨fun _ h => h⟩
instance : NoL Unit := ⟨fun _ h => h⟩
instance {α : Type} [Rp α] [NoL α] : NoL (Option α) := ⟨fun {H H' x v} e h => by
  cases x with
  | none => exact h
  | some y => exact NoL.tr (α := α) (x := y) e h⟩
instance {α β : Type} [Rq α] [Rq β] [NoL α] [NoL β] : NoL (α × β) := ⟨fun e h => by
  obtain ⟨a, v1, v2, h1, h2, h3, h4⟩ := h
  exact ⟨a, v1, v2, h1, e _ _ h2, NoL.tr e h3, NoL.tr e h4⟩⟩
instance {α β γ : Type} [Rq α] [Rq β] [Rq γ] [NoL α] [NoL β] [NoL γ] : NoL (T3 α β γ) := ⟨fun e h => by
  obtain ⟨a, v1, v2, v3, h1, h2, h3, h4, h5⟩ := h
  exact ⟨a, v1, v2, v3, h1, e _ _ h2, NoL.tr e h3, NoL.tr e h4, NoL.tr e h5⟩⟩
instance {α : Type} [Rq α] [NoL α] : NoL (Tp α) := ⟨fun e h => by
  obtain ⟨a, vs, h1, h2, h3, h4⟩ := h
  exact ⟨a, vs, h1, e _ _ h2, h3, Paired.mono h4 fun _ _ => NoL.tr e⟩⟩
def SpR {τ ρ : Type} [RpL τ] [Rq ρ] (F : τ → Option ρ) : Sp := fun vs H Q _ => ∃ (Ha : Hp) (x : τ) (r : ρ), Same Ha H ∧ RpL.reps Ha x vs ∧ F x = some r ∧ ∀ v H', Same H H' → rq (join Ha H H') r v → Q v H'
def SpO {τ ρ : Type} [RpL τ] [Rq ρ] (F : τ → Option (List ρ)) : Sp := fun vs H Q _ => ∃ (Ha : Hp) (x : τ) (r : List ρ), Same Ha H ∧ RpL.reps Ha x vs ∧ F x = some r ∧
  ∀ p us H', Same H H' → H p = none → H' p = some (.lst us) → us.length ≤ sizeLine → Paired (rq (del (join Ha H H') p)) r us → Q (.ref p) H'
/-- all that a call of a def wants to know -/
structure Cal (X : Cx) (x : Str) (sp : Sp) : Prop where
  ok : ∃ (k : Nat) (f : Addr) (fd : FuncData) (ps : List Str), FnOk X.prog X.w X.K X.mg X.base CX0 k f fd ps sp ∧ Room k X.A ∧ X.mg x = some (.ref f) ∧ PySem.W.keepIn X.K (.ref f) = true ∧ Binds X.K fd ps []
section
variable {X : Cx} {e a b c : Expr} {es : List Expr} {t ta tb tc : TE} {tr : TA} {G : List SV} {α β γ τ ρ : Type} {pos p : Pos} {n : Str}
theorem cal_pe {sp : Sp} (C : Cal X n sp) (hg : Gl X n) (ha : PA X (e :: es) tr) (hdb : (n == ("__debug__" : Str)) = false := by decide) (he : starEach (e :: es) X.env = (false, eval e X.env) :: starEach es X.env := by rfl)
    (hpl : (backTo pos (starEach es X.env)).any (·.1) = false := by rfl) : PE X (.Call (.Name n p) (e :: es) [] pos) (tCall sp [] E0 tr) := by
  obtain ⟨k, f, fd, ps, F, hr, hm, hk, hb⟩ := C.ok
  exact pe_call F hr hg hm hk hb .nil pass0 ha hdb he hpl
theorem ev_callR [RpL τ] [Rq ρ] {F : τ → Option ρ} {m : Option τ} (ha : AvJ (fun Hi _ x vs => RpL.reps Hi x vs) tr G m) : EvJ (tCall (SpR F) [] E0 tr) G (m.bind F) := fun B Hi T tv s H Q z hx hl hs k => by
  obtain ⟨x, e1, e2⟩ := bind_some hx
  refine ha B Hi T tv s H _ x e1 hl hs fun vs Hi1 H1 s1 r1 => ?_
  refine ⟨Hi1, x, z, s1.sub, by rw [List.append_nil]; exact r1, e2, fun v H' sm r => ?_⟩
  exact k v _ H' (s1.grow sm) r
theorem ev_callO [RpL τ] [Rq ρ] {F : τ → Option (List ρ)} {m : Option τ} (ha : AvJ (fun Hi _ x vs => RpL.reps Hi x vs) tr G m) : OvJ (tCall (SpO F) [] E0 tr) G (m.bind F) := fun B Hi T tv s H Q z hx hl hs k => by
  obtain ⟨x, e1, e2⟩ := bind_some hx
  refine ha B Hi T tv s H _ x e1 hl hs fun vs Hi1 H1 s1 r1 => ?_
  refine ⟨Hi1, x, z, s1.sub, by rw [List.append_nil]; exact r1, e2, fun p us H' sm hn hp hz r => ?_⟩
  have sm2 : Same H1 (del H' p) := fun a o h => by rw [del_ne (ne_of_none h hn)]; exact sm _ _ h
  have s2 := s1.grow sm2
  have e3 : join Hi1 H1 (del H' p) = del (join Hi1 H1 H') p := by
    funext a
    by_cases z : a = p
    · rw [z, del_same, join_none hn, del_same]
    · rw [del_ne z]
      cases w : H1 a with
      | none => rw [join_none w, join_none w, del_ne z]
      | some y => rw [join_some w, join_some w]
  rw [e3] at s2
  exact k p _ H' ⟨p, one p (.lst us), rfl, same_one hp, ⟨_, rfl, us, rfl, hz, r⟩, by rw [minus_one]; exact s2⟩
theorem ev_callW [RpL τ] [Rq ρ] [NoL ρ] {F : τ → Option ρ} {m : Option τ} (ha : AvJ (fun Hi H x vs => RpL.reps (wide Hi H) x vs) tr G m) : EvJ (tCall (SpR F) [] E0 tr) G (m.bind F) := fun B Hi T tv s H Q z hx hl hs k => by
  obtain ⟨x, e1, e2⟩ := bind_some hx
  refine ha B Hi T tv s H _ x e1 hl hs fun vs Hi1 H1 s1 r1 => ?_
  refine ⟨wide Hi1 H1, x, z, wide_sub s1.sub, by rw [List.append_nil]; exact r1, e2, fun v H' sm r => ?_⟩
  refine k v _ H' (s1.grow sm) (NoL.tr (fun a xs q => ?_) r)
  cases w : H1 a with
  | none => rw [join_none w] at q ⊢; exact q
  | some y => rw [join_some w] at q ⊢; exact wide_tup q
theorem ej_call [RpL τ] [Rq ρ] {F : τ → Option ρ} {m : Option τ} (C : Cal X n (SpR F)) (ha : AJ X (e :: es) tr G m) (hg : Gl X n := by rfl) (hdb : (n == ("__debug__" : Str)) = false := by decide) (he : starEach (e :: es) X.env = (false, eval e X.env) :: starEach es X.env := by rfl)
    (hpl : (backTo pos (starEach es X.env)).any (·.1) = false := by rfl) : EJ X (.Call (.Name n p) (e :: es) [] pos) (tCall (SpR F) [] E0 tr) G (m.bind F) := ⟨cal_pe C hg ha.pa hdb he hpl, ev_callR ha.ev⟩
theorem ej_callW [RpL τ] [Rq ρ] [NoL ρ] {F : τ → Option ρ} {m : Option τ} (C : Cal X n (SpR F)) (ha : AW X (e :: es) tr G m) (hg : Gl X n := by rfl) (hdb : (n == ("__debug__" : Str)) = false := by decide) (he : starEach (e :: es) X.env = (false, eval e X.env) :: starEach es X.env := by rfl)
    (hpl : (backTo pos (starEach es X.env)).any (·.1) = false := by rfl) : EJ X (.Call (.Name n p) (e :: es) [] pos) (tCall (SpR F) [] E0 tr) G (m.bind F) := ⟨cal_pe C hg ha.pa hdb he hpl, ev_callW ha.ev⟩
theorem oj_call [RpL τ] [Rq ρ] {F : τ → Option (List ρ)} {m : Option τ} (C : Cal X n (SpO F)) (ha : AJ X (e :: es) tr G m) (hg : Gl X n := by rfl) (hdb : (n == ("__debug__" : Str)) = false := by decide) (he : starEach (e :: es) X.env = (false, eval e X.env) :: starEach es X.env := by rfl)
    (hpl : (backTo pos (starEach es X.env)).any (·.1) = false := by rfl) : OJ X (.Call (.Name n p) (e :: es) [] pos) (tCall (SpO F) [] E0 tr) G (m.bind F) := ⟨cal_pe C hg ha.pa hdb he hpl, ev_callO ha.ev⟩
/-- items of one kind -/
def LvJ [Rq α] (t : TA) (G : List SV) (m : Option (List α)) : Prop :=
  ∀ (B : Bk) (Hi : Hp) (T : List SV) (tv s : L2.St) (H : Hp) (Q : List V → Hp → Prop) (x : List α), m = some x → tv.length = T.length → SatG B Hi (T ++ G) (tv ++ s) H →
    (∀ vs Hi' H', SatG B Hi' (T ++ G) (tv ++ s) H' → Paired (rq Hi') x vs → Q vs H') → t s H Q
structure IL [Rq α] (X : Cx) (es : List Expr) (t : TA) (G : List SV) (m : Option (List α)) : Prop where
  pa : PA X es t
  ev : LvJ t G m
  ln : ∀ x, m = some x → x.length = es.length
theorem il_nil [Rq α] : IL X [] tNil G (some ([] : List α)) := ⟨pa_nil, fun B Hi T tv s H Q x hx hl hs k => by cases hx; exact k [] Hi H hs .nil, fun x h => by cases h; rfl⟩
theorem il_cons [Rq α] {m : Option α} {m2 : Option (List α)} (h : EJ X e t G m) (hr : IL X es tr G m2) (hst : starEach (e :: es) X.env = (false, eval e X.env) :: starEach es X.env := by rfl) :
    IL X (e :: es) (tCons t tr) G (m.bind fun x => m2.bind fun y => some (x :: y)) := ⟨pa_cons h.pe hr.pa hst, fun B Hi T tv s H Q z hx hl hs k => by
    obtain ⟨x, e1, hx⟩ := bind_some hx
    obtain ⟨y, e2, e3⟩ := bind_some hx
    cases e3
    refine h.ev B Hi T tv s H _ x e1 hl hs fun v Hi1 H1 s1 r1 => ?_
    refine hr.ev B Hi1 (fz x :: T) (some v :: tv) s H1 _ y e2 (by simp [hl]) ⟨⟨v, rfl, r1⟩, s1⟩ fun vs Hi2 H2 s2 r2 => ?_
    obtain ⟨⟨v', e4, r1'⟩, s2⟩ := s2
    cases e4
    exact k (v :: vs) Hi2 H2 s2 (.cons r1' r2), fun z hz => by
    obtain ⟨x, e1, hx⟩ := bind_some hz
    obtain ⟨y, e2, e3⟩ := bind_some hx
    cases e3
    rw [List.length_cons, List.length_cons, hr.ln y e2]⟩
theorem oj_lst [Rq α] {m : Option (List α)} (h : IL X es tr G m) (hn : es.length ≤ 1000 := by decide) : OJ X (.List es pos) (tLst tr) G m := ⟨pe_lst h.pa, fun B Hi T tv s H Q z hx hl hs k => by
  refine h.ev B Hi T tv s H _ z hx hl hs fun vs Hi1 H1 s1 r1 => ?_
  have l1 := Paired.length r1
  have l2 := h.ln z hx
  have l3 : vs.length ≤ sizeLine := Nat.le_trans (by omega : vs.length ≤ 1000) (by decide)
  exact ⟨l3, fun p hp => k p Hi1 _ (s1.newO (φ := isL z) hp ⟨vs, rfl, l3, r1⟩)⟩⟩
theorem sat_tup {B : Bk} {Hi H : Hp} {L : List SV} {s : L2.St} {p : Addr} {vs : List V} (h : SatG B Hi L s H) (hp : H p = none) : SatG B (upd Hi p (.tup vs)) L s (upd H p (.tup vs)) ∧ Same Hi (upd Hi p (.tup vs)) :=
  ⟨h.newF hp, same_new (same_none h.sub hp)⟩
theorem ej_tup2 [Rq α] [Rq β] {m : Option (α × β × Unit)} {x1} (h : AJ X [a, b] tr G m) : EJ X (.Tuple [a, b] x1 pos) (tTup tr) G (m.bind fun x => some (x.1, x.2.1)) := ⟨pe_tup h.pa, fun B Hi T tv s H Q z hx hl hs k => by
  obtain ⟨x, e1, e2⟩ := bind_some hx
  cases e2
  refine h.ev B Hi T tv s H _ x e1 hl hs fun vs Hi1 H1 s1 r1 => ?_
  obtain ⟨v1, us, rfl, h1, v2, us2, rfl, h2, h3⟩ := r1
  cases h3
  refine ⟨by show 2 ≤ sizeLine; decide, fun p hp => ?_⟩
  obtain ⟨s2, sm⟩ := sat_tup (vs := [v1, v2]) s1 hp
  exact k _ _ _ s2 ⟨p, v1, v2, rfl, upd_same, Rq.mono sm h1, Rq.mono sm h2⟩⟩
theorem ej_tup3 [Rq α] [Rq β] [Rq γ] {m : Option (α × β × γ × Unit)} {x1} (h : AJ X [a, b, c] tr G m) : EJ X (.Tuple [a, b, c] x1 pos) (tTup tr) G (m.bind fun x => some (T3.mk x.1 x.2.1 x.2.2.1)) := ⟨pe_tup h.pa, fun B Hi T tv s H Q z hx hl hs k => by
  obtain ⟨x, e1, e2⟩ := bind_some hx
  cases e2
  refine h.ev B Hi T tv s H _ x e1 hl hs fun vs Hi1 H1 s1 r1 => ?_
  obtain ⟨v1, us, rfl, h1, v2, us2, rfl, h2, v3, us3, rfl, h3, h4⟩ := r1
  cases h4
  refine ⟨by show 3 ≤ sizeLine; decide, fun p hp => ?_⟩
  obtain ⟨s2, sm⟩ := sat_tup (vs := [v1, v2, v3]) s1 hp
  exact k _ _ _ s2 ⟨p, v1, v2, v3, rfl, upd_same, Rq.mono sm h1, Rq.mono sm h2, Rq.mono sm h3⟩⟩
theorem ej_tupN [Rq α] {m : Option (List α)} {x1} (h : IL X es tr G m) (hn : es.length ≤ 1000 := by decide) : EJ X (.Tuple es x1 pos) (tTup tr) G (m.bind fun x => some (Tp.mk x)) := ⟨pe_tup h.pa, fun B Hi T tv s H Q z hx hl hs k => by
  obtain ⟨x, e1, e2⟩ := bind_some hx
  cases e2
  refine h.ev B Hi T tv s H _ x e1 hl hs fun vs Hi1 H1 s1 r1 => ?_
  have l1 := Paired.length r1
  have l2 := h.ln x e1
  have l3 : vs.length ≤ sizeLine := Nat.le_trans (by omega : vs.length ≤ 1000) (by decide)
  refine ⟨l3, fun p hp => ?_⟩
  obtain ⟨s2, sm⟩ := sat_tup (vs := vs) s1 hp
  exact k _ _ _ s2 ⟨p, vs, rfl, upd_same, l3, Paired.mono r1 fun _ _ => Rq.mono sm⟩⟩
theorem Paired.get {F : α → β → Prop} : ∀ {l : List α} {m : List β} {i : Nat} {x : α}, Paired F l m → l[i]? = some x → ∃ y, m[i]? = some y ∧ F x y
  | _, _, _, _, .nil, e => by simp at e
  | _, _, 0, x, .cons r _, e => by
    simp at e; subst e; exact ⟨_, rfl, r⟩
  | _, _, i + 1, x, .cons _ t, e => by
    obtain ⟨y, h1, h2⟩ := Paired.get (i := i) (x := x) t (by simpa using e)
    exact ⟨y, by simpa using h1, h2⟩
theorem Paired.atI {F : α → β → Prop} {l : List α} {m : List β} {i : Int} {x : α} (h : Paired F l m) (e : L2.atI l i = some x) : ∃ y, L2.atI m i = some y ∧ F x y := by
  unfold L2.atI at e ⊢
  rw [← Paired.length h]
  cases q : L2.ixN l.length i with
  | none => rw [q] at e; cases e
  | some j =>
    rw [q] at e
    exact Paired.get h e
/-- a list, then something else, by values -/
theorem ev_ljop [Rq α] [Rq β] [Rq γ] {P : Hp → Hp → List α → V → Prop} {r : R2} {f : List α → β → Option γ} (hf : ∀ Hi H xs y vx vy z (Q : VK), Same Hi H → P Hi H xs vx → rq Hi y vy → f xs y = some z → (∀ v, rq Hi z v → Q v H) → r vx vy H Q)
    {m1 : Option (List α)} {m2 : Option β} (ha : StJ P ta G m1) (hb : EvJ tb G m2) : EvJ (tOp r ta tb) G (m1.bind fun x => m2.bind fun y => f x y) := fun B Hi T tv s H Q z hx hl hs k => by
  obtain ⟨x, e1, hx⟩ := bind_some hx
  obtain ⟨y, e2, e3⟩ := bind_some hx
  refine ha B Hi T tv s H _ x e1 hl hs fun vx T' tv' Hi1 H1 l1 s1 r1 => ?_
  refine hb B Hi1 T' tv' s H1 _ y e2 l1 s1 fun vy Hi2 H2 s2 r2 => ?_
  obtain ⟨s3, r3⟩ := r1 Hi2 H2 s2
  exact hf Hi2 H2 x y vx vy z Q s3.sub r3 r2 e3 fun v r => k v Hi2 H2 s3 r
theorem ej_ix [Rq α] {m1 : Option (List α)} {m2 : Option Int} (ha : LK X a ta G m1) (hb : EJ X b tb G m2) (hs : PlainIx b := by exact fun _ _ => rfl) : EJ X (.Subscript a b pos) (tOp (rIxL X.K) ta tb) G (m1.bind fun x => m2.bind fun y => atI x y) :=
  ⟨pe_ix ix_list ha.pe hb.pe hs, ev_ljop (fun Hi H xs y vx vy z Q sm h r e k => by
    obtain ⟨a, vs, h1, h2, h3, h4⟩ := h
    cases r
    obtain ⟨v, h5, h6⟩ := Paired.atI h4 e
    exact ⟨a, vs, y, v, h1, rfl, h2, h5, k v h6⟩) ha.ev hb.ev⟩
theorem ej_ix0 [Rq α] [Rq β] {m : Option (α × β)} {j} {p2 : Pos} (ha : EJ X a ta G m) : EJ X (.Subscript a (.Constant (.int 0) j p2) pos) (tOp (rIxT X.K) ta (tC (.int 0))) G (m.bind fun x => some x.1) :=
  ⟨pe_ix ix_tup ha.pe pe_int (fun _ _ => rfl), fun B Hi T tv s H Q z hx hl hs k => by
    obtain ⟨x, e1, e2⟩ := bind_some hx
    cases e2
    refine ha.ev B Hi T tv s H _ x e1 hl hs fun v Hi1 H1 s1 r1 => ?_
    obtain ⟨q, v1, v2, h1, h2, h3, h4⟩ := r1
    exact ⟨q, [v1, v2], 0, v1, h1, rfl, SqT.of (s1.sub _ _ h2), atI_nat (j := 0) rfl, k v1 Hi1 H1 s1 h3⟩⟩
theorem ej_ix1 [Rq α] [Rq β] {m : Option (α × β)} {j} {p2 : Pos} (ha : EJ X a ta G m) : EJ X (.Subscript a (.Constant (.int 1) j p2) pos) (tOp (rIxT X.K) ta (tC (.int 1))) G (m.bind fun x => some x.2) :=
  ⟨pe_ix ix_tup ha.pe pe_int (fun _ _ => rfl), fun B Hi T tv s H Q z hx hl hs k => by
    obtain ⟨x, e1, e2⟩ := bind_some hx
    cases e2
    refine ha.ev B Hi T tv s H _ x e1 hl hs fun v Hi1 H1 s1 r1 => ?_
    obtain ⟨q, v1, v2, h1, h2, h3, h4⟩ := r1
    exact ⟨q, [v1, v2], 1, v2, h1, rfl, SqT.of (s1.sub _ _ h2), atI_nat (j := 1) rfl, k v2 Hi1 H1 s1 h4⟩⟩
/-- a builtin of one argument that is read -/
theorem ev_s1 {P : Hp → Hp → α → V → Prop} [Rq γ] {r : List V → Hp → VK → Prop} {f : α → Option γ} (hf : ∀ Hi H x v z (Q : VK), Same Hi H → P Hi H x v → f x = some z → (∀ u, rq Hi z u → Q u H) → r [v] H Q)
    {m1 : Option α} (ha : StJ P ta G m1) : EvJ (tCB r (tCons ta tNil)) G (m1.bind f) := fun B Hi T tv s H Q z hx hl hs k => by
  obtain ⟨x, e1, e2⟩ := bind_some hx
  refine ha B Hi T tv s H _ x e1 hl hs fun vx T' tv' Hi1 H1 l1 s1 r1 => ?_
  obtain ⟨s3, r3⟩ := r1 Hi1 H1 s1
  exact hf Hi1 H1 x vx z Q s3.sub r3 e2 fun v r => k v Hi1 H1 s3 r
theorem ej_len [Rq α] {m1 : Option (List α)} (ha : LK X a ta G m1) (hm : X.mg "len" = none) (hg : Gl X "len" := by rfl) (he : starEach [a] X.env = (false, eval a X.env) :: starEach [] X.env := by rfl) :
    EJ X (.Call (.Name "len" p) [a] [] pos) (tCB (fun xs H Q => ∃ p ys, xs = [.ref p] ∧ (SqL X.K H p ys ∨ SqT X.K H p ys) ∧ Q (.int ys.length) H) (tCons ta tNil)) G (m1.bind fun x => some (x.length : Int)) :=
  ⟨pe_callB call_len_seq hg hm PySem.boot_len (pa_cons ha.pe pa_nil he) (by decide) (by decide) he rfl, ev_s1 (f := fun x : List α => some (x.length : Int)) (fun Hi H xs v z Q sm h e k => by
    obtain ⟨q, vs, h1, h2, h3, h4⟩ := h
    cases e
    exact ⟨q, vs, by rw [h1], .inl h2, k _ (by rw [Paired.length h4]; rfl)⟩) ha.ev⟩
theorem ej_lenT [Rq α] {m1 : Option (Tp α)} (ha : EJ X a ta G m1) (hm : X.mg "len" = none) (hg : Gl X "len" := by rfl) (he : starEach [a] X.env = (false, eval a X.env) :: starEach [] X.env := by rfl) :
    EJ X (.Call (.Name "len" p) [a] [] pos) (tCB (fun xs H Q => ∃ p ys, xs = [.ref p] ∧ (SqL X.K H p ys ∨ SqT X.K H p ys) ∧ Q (.int ys.length) H) (tCons ta tNil)) G (m1.bind fun x => some (x.l.length : Int)) :=
  ⟨pe_callB call_len_seq hg hm PySem.boot_len (pa_cons ha.pe pa_nil he) (by decide) (by decide) he rfl, ev_s1 (P := fun Hi H x v => rq H x v) (f := fun x : Tp α => some (x.l.length : Int)) (fun Hi H xs v z Q sm h e k => by
    obtain ⟨q, vs, h1, h2, h3, h4⟩ := h
    cases e
    exact ⟨q, vs, by rw [h1], .inr (SqT.of h2), k _ (by rw [Paired.length h4]; rfl)⟩) (StJ.ofE (fun _ _ _ _ e r => Rq.mono e r) ha.ev)⟩
theorem ints_paired {H : Hp} : ∀ ns : List Int, Paired (rq H) ns (ns.map V.int)
  | [] => .nil
  | _ :: l => .cons rfl (ints_paired l)
/-- builtins upon ints -/
theorem ev_b1 [Rq α] [Rq γ] {r : List V → Hp → VK → Prop} {f : α → Option γ} (hf : ∀ Hi H x v z (Q : VK), Same Hi H → rq Hi x v → f x = some z → (∀ u, rq Hi z u → Q u H) → r [v] H Q)
    {m1 : Option α} (ha : EvJ ta G m1) : EvJ (tCB r (tCons ta tNil)) G (m1.bind f) := fun B Hi T tv s H Q z hx hl hs k => by
  obtain ⟨x, e1, e2⟩ := bind_some hx
  refine ha B Hi T tv s H _ x e1 hl hs fun vx Hi1 H1 s1 r1 => ?_
  exact hf Hi1 H1 x vx z Q s1.sub r1 e2 fun v r => k v Hi1 H1 s1 r
theorem ev_b2 [Rq α] [Rq β] [Rq γ] {r : List V → Hp → VK → Prop} {f : α → β → Option γ} (hf : ∀ Hi H x y v u z (Q : VK), Same Hi H → rq Hi x v → rq Hi y u → f x y = some z → (∀ u, rq Hi z u → Q u H) → r [v, u] H Q)
    {m1 : Option α} {m2 : Option β} (ha : EvJ ta G m1) (hb : EvJ tb G m2) : EvJ (tCB r (tCons ta (tCons tb tNil))) G (m1.bind fun x => m2.bind fun y => f x y) := fun B Hi T tv s H Q z hx hl hs k => by
  obtain ⟨x, e1, hx⟩ := bind_some hx
  obtain ⟨y, e2, e3⟩ := bind_some hx
  refine ha B Hi T tv s H _ x e1 hl hs fun vx Hi1 H1 s1 r1 => ?_
  refine hb B Hi1 (fz x :: T) (some vx :: tv) s H1 _ y e2 (by simp [hl]) ⟨⟨vx, rfl, r1⟩, s1⟩ fun vy Hi2 H2 s2 r2 => ?_
  obtain ⟨⟨v', e4, r1'⟩, s2⟩ := s2
  cases e4
  exact hf Hi2 H2 x y vx vy z Q s2.sub r1' r2 e3 fun v r => k v Hi2 H2 s2 r
theorem ej_abs {m1 : Option Int} (ha : EJ X a ta G m1) (hm : X.mg "abs" = none) (hg : Gl X "abs" := by rfl) (he : starEach [a] X.env = (false, eval a X.env) :: starEach [] X.env := by rfl) :
    EJ X (.Call (.Name "abs" p) [a] [] pos) (tCB (fun xs H Q => ∃ i, xs = [.int i] ∧ Q (.int (if i < 0 then -i else i)) H) (tCons ta tNil)) G (m1.bind fun x => some (if x < 0 then -x else x)) :=
  ⟨pe_callB call_abs hg hm (by decide +kernel) (pa_cons ha.pe pa_nil he) (by decide) (by decide) he rfl, ev_b1 (f := fun x : Int => some (if x < 0 then -x else x)) (fun Hi H x v z Q sm h e k => by
    cases h; cases e
    exact ⟨x, rfl, k _ rfl⟩) ha.ev⟩
theorem ej_max2 {m1 m2 : Option Int} (hc : X.calm = true) (ha : EJ X a ta G m1) (hb : EJ X b tb G m2) (hm : X.mg "max" = none) (hg : Gl X "max" := by rfl) (he : starEach [a, b] X.env = (false, eval a X.env) :: starEach [b] X.env := by rfl) (he2 : starEach [b] X.env = (false, eval b X.env) :: starEach [] X.env := by rfl)
    (hpl : (backTo pos (starEach [b] X.env)).any (·.1) = false := by rfl) :
    EJ X (.Call (.Name "max" p) [a, b] [] pos) (tCB (fun xs H Q => ∃ i j, xs = [.int i, .int j] ∧ Q (.int (if j > i then j else i)) H) (tCons ta (tCons tb tNil))) G (m1.bind fun x => m2.bind fun y => some (if y > x then y else x)) :=
  ⟨pe_callB (call_max2 hc) hg hm (by decide +kernel) (pa_cons ha.pe (pa_cons hb.pe pa_nil he2) he) (by decide) (by decide) he hpl, ev_b2 (f := fun x y : Int => some (if y > x then y else x)) (fun Hi H x y v u z Q sm h h' e k => by
    cases h; cases h'; cases e
    exact ⟨x, y, rfl, k _ rfl⟩) ha.ev hb.ev⟩
theorem ej_min2 {m1 m2 : Option Int} (hc : X.calm = true) (ha : EJ X a ta G m1) (hb : EJ X b tb G m2) (hm : X.mg "min" = none) (hg : Gl X "min" := by rfl) (he : starEach [a, b] X.env = (false, eval a X.env) :: starEach [b] X.env := by rfl) (he2 : starEach [b] X.env = (false, eval b X.env) :: starEach [] X.env := by rfl)
    (hpl : (backTo pos (starEach [b] X.env)).any (·.1) = false := by rfl) :
    EJ X (.Call (.Name "min" p) [a, b] [] pos) (tCB (fun xs H Q => ∃ i j, xs = [.int i, .int j] ∧ Q (.int (if j < i then j else i)) H) (tCons ta (tCons tb tNil))) G (m1.bind fun x => m2.bind fun y => some (if y < x then y else x)) :=
  ⟨pe_callB (call_min2 hc) hg hm (by decide +kernel) (pa_cons ha.pe (pa_cons hb.pe pa_nil he2) he) (by decide) (by decide) he hpl, ev_b2 (f := fun x y : Int => some (if y < x then y else x)) (fun Hi H x y v u z Q sm h h' e k => by
    cases h; cases h'; cases e
    exact ⟨x, y, rfl, k _ rfl⟩) ha.ev hb.ev⟩
/-- isinstance, by the kind of the value -/
class TyN (α : Type) [Rq α] where
  n : String
  ty : ∀ {K : PySem.W.Frag} {H : Hp} {x : α} {v : V}, rq H x v → TyX K H v (.type n)
instance : TyN Int := ⟨"int", fun h => by cases h; exact .base (.int _)⟩
instance : TyN Bool := ⟨"bool", fun h => by cases h; exact .base (.bl _)⟩
instance : TyN Str := ⟨"str", fun h => by cases h; exact .base (.str _)⟩
instance : TyN Unit := ⟨"NoneType", fun h => by cases h; exact .base .non⟩
instance {α : Type} [Rq α] : TyN (List α) := ⟨"list", fun h => by obtain ⟨a, vs, h1, h2, _⟩ := h; subst h1; exact .base (.lst h2)⟩
instance {α β : Type} [Rq α] [Rq β] : TyN (α × β) := ⟨"tuple", fun h => by obtain ⟨a, v1, v2, h1, h2, _⟩ := h; subst h1; exact .base (.tup h2)⟩
instance {α β γ : Type} [Rq α] [Rq β] [Rq γ] : TyN (T3 α β γ) := ⟨"tuple", fun h => by obtain ⟨a, v1, v2, v3, h1, h2, _⟩ := h; subst h1; exact .base (.tup h2)⟩
instance {α : Type} [Rq α] : TyN (Tp α) := ⟨"tuple", fun h => by obtain ⟨a, vs, h1, h2, _⟩ := h; subst h1; exact .base (.tup h2)⟩
end
end GM
namespace GM
open PySem PySem.Spec PyProof.Rows L2
section
variable {X : Cx} {e a b c : Expr} {es : List Expr} {t ta tb tc : TE} {tr : TA} {G : List SV} {α β γ τ ρ : Type} {pos p : Pos} {n : Str}
theorem Paired.take {F : α → β → Prop} : ∀ {l : List α} {m : List β} (k : Nat), Paired F l m → Paired F (l.take k) (m.take k)
  | _, _, 0, _ => .nil
  | _, _, _ + 1, .nil => .nil
  | _, _, k + 1, .cons r t => .cons r (Paired.take k t)
theorem Paired.drop {F : α → β → Prop} : ∀ {l : List α} {m : List β} (k : Nat), Paired F l m → Paired F (l.drop k) (m.drop k)
  | _, _, 0, r => r
  | _, _, _ + 1, .nil => .nil
  | _, _, k + 1, .cons _ t => Paired.drop k t
theorem Paired.append {F : α → β → Prop} : ∀ {l l' : List α} {m m' : List β}, Paired F l m → Paired F l' m' → Paired F (l ++ l') (m ++ m')
  | _, _, _, _, .nil, s => s
  | _, _, _, _, .cons r t, s => .cons r (Paired.append t s)
theorem Paired.set {F : α → β → Prop} {x : α} {y : β} (r : F x y) : ∀ {l : List α} {m : List β} (i : Nat), Paired F l m → Paired F (l.set i x) (m.set i y)
  | _, _, _, .nil => .nil
  | _, _, 0, .cons _ t => .cons r t
  | _, _, i + 1, .cons q t => .cons q (Paired.set r i t)
theorem Paired.rep {F : α → β → Prop} {l : List α} {m : List β} (h : Paired F l m) : ∀ k : Nat, Paired F (List.replicate k l).flatten (List.replicate k m).flatten
  | 0 => .nil
  | k + 1 => by rw [List.replicate_succ, List.replicate_succ, List.flatten_cons, List.flatten_cons]; exact Paired.append h (Paired.rep h k)
theorem Paired.erase {F : α → β → Prop} : ∀ {l : List α} {m : List β} (i : Nat), Paired F l m → Paired F (l.eraseIdx i) (m.eraseIdx i)
  | _, _, _, .nil => .nil
  | _, _, 0, .cons _ t => t
  | _, _, i + 1, .cons r t => .cons r (Paired.erase i t)
/-- xs[lo:hi] -/
def cutL (xs : List α) (lo hi : Option Int) : List α := (xs.drop (HT.sIx xs.length 0 lo)).take (HT.sIx xs.length xs.length hi - HT.sIx xs.length 0 lo)
theorem Paired.cut {F : α → β → Prop} {l : List α} {m : List β} (h : Paired F l m) (lo hi : Option Int) {xs : List V} : Paired F (cutL l lo hi) (cutL m lo hi) := by
  unfold cutL
  rw [Paired.length h]
  exact Paired.take _ (Paired.drop _ h)
def OxJ (t : TO) (G : List SV) (m : Option (Option Int)) : Prop :=
  ∀ (B : Bk) (Hi : Hp) (T : List SV) (tv s : L2.St) (H : Hp) (Q : Option Int → Hp → Prop) (x : Option Int), m = some x → tv.length = T.length → SatG B Hi (T ++ G) (tv ++ s) H →
    (∀ Hi' H', SatG B Hi' (T ++ G) (tv ++ s) H' → Q x H') → t s H Q
structure PX (X : Cx) (e : Option Expr) (t : TO) (G : List SV) (m : Option (Option Int)) : Prop where
  po : PO X e t
  ev : OxJ t G m
theorem px_none : PX X none tNoPart G (some none) := ⟨po_none, fun B Hi T tv s H Q x hx hl hs k => by cases hx; exact k Hi H hs⟩
theorem px_some {m : Option Int} (h : EJ X e t G m) : PX X (some e) (tPart t) G (m.bind fun x => some (some x)) := ⟨po_some h.pe, fun B Hi T tv s H Q z hx hl hs k => by
  obtain ⟨x, e1, e2⟩ := bind_some hx
  cases e2
  exact h.ev B Hi T tv s H _ x e1 hl hs fun v Hi1 H1 s1 r1 => ⟨x, r1, k Hi1 H1 s1⟩⟩
theorem oj_slice [Rq α] {lo hi : Option Expr} {tl th : TO} {m : Option (List α)} {m1 m2 : Option (Option Int)} {p2 : Pos} (h : LK X e t G m) (h1 : PX X lo tl G m1) (h2 : PX X hi th G m2) :
    OJ X (.Subscript e (.Slice lo hi none p2) pos) (tSl (rSlL X.K) t tl th) G (m.bind fun x => m1.bind fun l => m2.bind fun u => some (cutL x l u)) := ⟨pe_slice sl_list h.pe h1.po h2.po, fun B Hi T tv s H Q z hx hl hs k => by
  obtain ⟨x, e1, hx⟩ := bind_some hx
  obtain ⟨l, e2, hx⟩ := bind_some hx
  obtain ⟨u, e3, e4⟩ := bind_some hx
  cases e4
  refine h.ev B Hi T tv s H _ x e1 hl hs fun vx T' tv' Hi1 H1 l1 s1 r1 => ?_
  refine h1.ev B Hi1 T' tv' s H1 _ l e2 l1 s1 fun Hi2 H2 s2 => ?_
  refine h2.ev B Hi2 T' tv' s H2 _ u e3 l1 s2 fun Hi3 H3 s3 => ?_
  obtain ⟨s4, a, vs, g1, g2, g3, g4⟩ := r1 Hi3 H3 s3
  refine ⟨a, vs, g1, g2, fun q hq => k q Hi3 _ (s4.newO (φ := isL _) hq ⟨_, rfl, ?_, Paired.cut (xs := vs) g4 l u⟩)⟩
  exact Nat.le_trans (cutV_length vs l u) g3⟩
/-- the ints lo, .., hi - 1 -/
def irange (lo hi : Int) : List Int := (List.range (hi - lo).toNat).map fun i => lo + (i : Nat)
def rngC (lo hi : Int) : Option (List Int) := if -(2 ^ 62) ≤ lo ∧ lo < 2 ^ 62 ∧ -(2 ^ 62) ≤ hi ∧ hi < 2 ^ 62 ∧ (hi - lo).toNat ≤ 2 ^ 24 then some (irange lo hi) else none
theorem irange_len (lo hi : Int) : (irange lo hi).length = (hi - lo).toNat := by unfold irange; rw [List.length_map, List.length_range]
theorem rngC_is {lo hi : Int} {z : List Int} (h : rngC lo hi = some z) : (-(2 ^ 62) ≤ lo ∧ lo < 2 ^ 62 ∧ -(2 ^ 62) ≤ hi ∧ hi < 2 ^ 62 ∧ (hi - lo).toNat ≤ 2 ^ 24) ∧ z = irange lo hi := by
  unfold rngC at h
  by_cases q : -(2 ^ 62) ≤ lo ∧ lo < 2 ^ 62 ∧ -(2 ^ 62) ≤ hi ∧ hi < 2 ^ 62 ∧ (hi - lo).toNat ≤ 2 ^ 24
  · rw [if_pos q] at h; cases h; exact ⟨q, rfl⟩
  · rw [if_neg q] at h; cases h
theorem rngC_small {lo hi : Int} {z : List Int} (h : rngC lo hi = some z) : z.length ≤ sizeLine := by
  obtain ⟨h1, h2⟩ := rngC_is h
  rw [h2, irange_len, sizeLine_eq]; omega
/-- xs + ys -/
def catC (xs ys : List α) : Option (List α) := if xs.length + ys.length ≤ sizeLine then some (xs ++ ys) else none
theorem oj_cat [Rq α] {m1 m2 : Option (List α)} (ha : LJ X a ta G m1) (hb : LJ X b tb G m2) : OJ X (.BinOp a .Add b pos) (tOp rCat ta tb) G (m1.bind fun x => m2.bind fun y => catC x y) := ⟨pe_op op_cat ha.pe hb.pe, fun B Hi T tv s H Q z hx hl hs k => by
  obtain ⟨x, e1, hx⟩ := bind_some hx
  obtain ⟨y, e2, e3⟩ := bind_some hx
  refine ha.ev B Hi T tv s H _ x e1 hl hs fun vx T' tv' Hi1 H1 l1 s1 r1 => ?_
  refine hb.ev B Hi1 T' tv' s H1 _ y e2 l1 s1 fun vy T'' tv'' Hi2 H2 l2 s2 r2 => ?_
  obtain ⟨s3, r3⟩ := r2 Hi2 H2 s2
  obtain ⟨s4, r4⟩ := r1 Hi2 H2 s3
  obtain ⟨a, vs, g1, g2, g3, g4⟩ := r4
  obtain ⟨b, us, h1, h2, h3, h4⟩ := r3
  unfold catC at e3
  by_cases hz : x.length + y.length ≤ sizeLine
  · rw [if_pos hz] at e3
    cases e3
    rw [Paired.length g4, Paired.length h4] at hz
    exact ⟨a, b, vs, us, g1, h1, g2, h2, hz, fun q hq => k q Hi2 _ (s4.newO (φ := isL _) hq ⟨_, rfl, by rw [List.length_append]; exact hz, Paired.append g4 h4⟩)⟩
  · rw [if_neg hz] at e3; cases e3⟩
/-- x in xs -/
theorem in_pair [Rp α] [DecidableEq α] [Sc α] {H : Hp} {x : α} {v : V} (r : rq H x v) : ∀ {xs : List α} {vs : List V}, Paired (rq H) xs vs → inV v vs = decide (x ∈ xs) ∧ vs.all flatV = true
  | _, _, .nil => ⟨rfl, rfl⟩
  | y :: xs, u :: vs, .cons q t => by
    obtain ⟨h1, h2⟩ := in_pair r t
    unfold inV at h1 ⊢
    rw [List.any_cons, List.all_cons, h1, h2, Sc.eqv q r, Sc.flat (α := α) q]
    refine ⟨?_, rfl⟩
    rw [← Bool.decide_or]
    exact dec_iff (by rw [List.mem_cons]; exact ⟨fun z => z.imp (fun e => e.symm) id, fun z => z.imp (fun e => e.symm) id⟩)
theorem ev_inL [Rp α] [DecidableEq α] [Sc α] {K : PySem.W.Frag} {neg : Bool} {m1 : Option α} {m2 : Option (List α)} (ha : EvJ ta G m1) (hb : StJ (lstK K) tb G m2) : EvJ (tOp (rIn K neg) ta tb) G (m1.bind fun x => m2.bind fun y => some (if neg then !decide (x ∈ y) else decide (x ∈ y))) := fun B Hi T tv s H Q z hx hl hs k => by
  obtain ⟨x, e1, hx⟩ := bind_some hx
  obtain ⟨y, e2, e3⟩ := bind_some hx
  cases e3
  refine ha B Hi T tv s H _ x e1 hl hs fun vx Hi1 H1 s1 r1 => ?_
  refine hb B Hi1 (fz x :: T) (some vx :: tv) s H1 _ y e2 (by simp [hl]) ⟨⟨vx, rfl, r1⟩, s1⟩ fun vy T' tv' Hi2 H2 l2 s2 r2 => ?_
  obtain ⟨s3, a, vs, h1, h2, h3, h4⟩ := r2 Hi2 H2 s2
  obtain ⟨⟨v', e4, r1'⟩, s3⟩ := s3
  cases e4
  obtain ⟨g1, g2⟩ := in_pair r1' h4
  exact ⟨a, vs, h1, .inl h2, Sc.flat (α := α) r1', g2, k _ Hi2 H2 s3 (by rw [g1]; rfl)⟩
theorem tj_in [Rp α] [DecidableEq α] [Sc α] {m1 : Option α} {m2 : Option (List α)} (ha : EJ X a ta G m1) (hb : LK X b tb G m2) (hm : behindInMarks .In b = false := by with_unfolding_all rfl) :
    TJ X (.Compare a [.In] [b] pos) (tTest (tOp (rIn X.K false) ta tb)) G (m1.bind fun x => m2.bind fun y => some (decide (x ∈ y))) := ⟨pt_cmpR op_in_seq ha.pe hb.pe hm, tv_test (ev_inL (neg := false) ha.ev hb.ev)⟩
/-- C: what must be so of the slots for the walk to go on -/
def IvJ [Rq α] (C : List SV → L2.St → L2.St → Prop) (w : TI) (G : List SV) (m : Option (List α)) : Prop :=
  ∀ (B : Bk) (Hi : Hp) (T : List SV) (tv s : L2.St) (H : Hp) (R : It → Hp → Prop) (xs : List α), m = some xs → tv.length = T.length → SatG B Hi (T ++ G) (tv ++ s) H →
    (∀ J T' tv' Hi' H', tv'.length = T'.length → SatG B Hi' (T' ++ G) (tv' ++ s) H' → xs.length ≤ sizeLine →
      (∀ G2 s2 Hi2 H2, SatG B Hi2 (T' ++ G2) (tv' ++ s2) H2 → SatG B Hi2 (T ++ G2) (tv ++ s2) H2) →
      (∀ F fv G2 s2 Hi2 H2, fv.length = F.length → C G2 s s2 → SatG B Hi2 (F ++ (T' ++ G2)) (fv ++ (tv' ++ s2)) H2 → J.stop xs.length H2 ∧ ∀ i x, xs[i]? = some x → J.go i H2 ∧ ∀ v H3, J.yld i H2 v H3 → ∃ Hi3, SatG B Hi3 (F ++ (T' ++ G2)) (fv ++ (tv' ++ s2)) H3 ∧ rq Hi3 x v) → R J H') → w s H R
structure IJ [Rq α] (C : List SV → L2.St → L2.St → Prop) (X : Cx) (tg e : Expr) (w : TI) (G : List SV) (m : Option (List α)) : Prop where
  pi : PI X tg e w
  ev : IvJ C w G m
  c : ∀ s, C G s s
theorem SatG.dropF {B : Bk} {Hi : Hp} : ∀ {F : List SV} {fv : L2.St} {L : List SV} {s : L2.St} {H : Hp}, fv.length = F.length → SatG B Hi (F ++ L) (fv ++ s) H → SatG B Hi L s H
  | [], [], _, _, _, _, h => h
  | [], _ :: _, _, _, _, e, _ => by simp at e
  | _ :: _, [], _, _, _, e, _ => by simp at e
  | _ :: F, _ :: fv, _, _, _, e, h => SatG.dropF (by simpa using e) h.drop1
/-- nothing is asked of the slots -/
abbrev C0 : List SV → L2.St → L2.St → Prop := fun _ _ _ => True
/-- our own list at place j stays -/
def CO [Rq α] (j : Nat) (xs : List α) : List SV → L2.St → L2.St → Prop := fun G2 s s2 => (∃ c, G2[j]? = some c ∧ OwL c xs) ∧ s2[j]? = s[j]?
variable {tg : Expr}
theorem irange_get {lo hi : Int} {i : Nat} {x : Int} (h : (irange lo hi)[i]? = some x) : x = lo + i ∧ i < (hi - lo).toNat := by
  unfold irange at h
  rw [List.getElem?_map] at h
  cases q : (List.range (hi - lo).toNat)[i]? with
  | none => rw [q] at h; cases h
  | some j =>
    rw [q] at h
    obtain ⟨h1, h2⟩ := List.getElem?_eq_some_iff.mp q
    rw [List.getElem_range] at h2
    rw [List.length_range] at h1
    subst h2
    exact ⟨(Option.some.inj h).symm, h1⟩
theorem iv_rng {B : Bk} {T : List SV} {tv : L2.St} {lo hi : Int} : ∀ (F : List SV) (fv : L2.St) (G2 : List SV) (s2 : L2.St) (Hi2 H2 : Hp), fv.length = F.length → True → SatG B Hi2 (F ++ (T ++ G2)) (fv ++ (tv ++ s2)) H2 → (Itr lo (hi - lo).toNat).stop (irange lo hi).length H2 ∧
    ∀ i x, (irange lo hi)[i]? = some x → (Itr lo (hi - lo).toNat).go i H2 ∧ ∀ v H3, (Itr lo (hi - lo).toNat).yld i H2 v H3 → ∃ Hi3, SatG B Hi3 (F ++ (T ++ G2)) (fv ++ (tv ++ s2)) H3 ∧ rq Hi3 x v := fun F fv G2 s2 Hi2 H2 _ _ z => by
  refine ⟨Nat.le_of_eq (irange_len lo hi).symm, fun i x hi => ?_⟩
  obtain ⟨e1, e2⟩ := irange_get hi
  refine ⟨e2, fun v H3 y => ?_⟩
  obtain ⟨y1, y2⟩ := y
  subst y1 e1
  exact ⟨Hi2, z, y2⟩
theorem ij_rng1 {m : Option Int} {p1 : Pos} (ha : EJ X a ta G m) (hm : X.mg "range" = none) (hg : Gl X "range" := by rfl) (na : starEach [a] X.env = (false, eval a X.env) :: starEach [] X.env := by rfl) (hs : starEach [a] X.env = [(false, eval a X.env)] := by rfl) :
    IJ C0 X tg (.Call (.Name "range" p1) [a] [] pos) (iRng1 (tCons ta tNil)) G (m.bind fun x => rngC 0 x) := ⟨pi_range1 hg hm (pa_cons ha.pe pa_nil na) hs, fun B Hi T tv s H R xs hx hl hs k => by
  obtain ⟨x, e1, e2⟩ := bind_some hx
  have hz := rngC_small e2
  obtain ⟨⟨h1, h2, h3, h4, h5⟩, h6⟩ := rngC_is e2
  subst h6
  refine ha.ev B Hi T tv s H _ x e1 hl hs fun v Hi1 H1 s1 r1 => ?_
  cases r1
  refine ⟨x, rfl, h3, h4, ?_⟩
  have e3 : x.toNat = (x - 0).toNat := by omega
  rw [e3]
  exact k _ T tv Hi1 H1 hl s1 hz (fun G2 s2 Hi2 H2 z => z) iv_rng, fun _ => trivial⟩
/-- numbered -/
def enumL (xs : List α) : List (Int × α) := xs.zipIdx.map fun p => ((p.2 : Nat), p.1)
theorem enumL_len (xs : List α) : (enumL xs).length = xs.length := by unfold enumL; rw [List.length_map, List.length_zipIdx]
theorem enumL_get {xs : List α} {i : Nat} {z : Int × α} (h : (enumL xs)[i]? = some z) : xs[i]? = some z.2 ∧ z.1 = (i : Int) := by
  unfold enumL at h
  rw [List.getElem?_map, List.getElem?_zipIdx] at h
  cases q : xs[i]? with
  | none => rw [q] at h; cases h
  | some x =>
    rw [q] at h
    have h : ((((0 + i : Nat) : Int), x) : Int × α) = z := Option.some.inj h
    subst h
    exact ⟨rfl, by simp⟩
theorem sat_pair {B : Bk} {Hi H : Hp} {L : List SV} {s : L2.St} {q : Addr} {x y : V} [Rq α] [Rq β] {z : α × β} (h : SatG B Hi L s H) (hq : H q = none) (h1 : rq Hi z.1 x) (h2 : rq Hi z.2 y) : ∃ Hi3, SatG B Hi3 L s (upd H q (.tup [x, y])) ∧ rq Hi3 z (.ref q) := by
  obtain ⟨s2, sm⟩ := sat_tup (vs := [x, y]) h hq
  exact ⟨_, s2, q, x, y, rfl, upd_same, Rq.mono sm h1, Rq.mono sm h2⟩
/-- a list that is read through a walk: where it stands and what it holds at each turn -/
def rdJ [Rq α] (K : PySem.W.Frag) (C : List SV → L2.St → L2.St → Prop) (t : TE) (G : List SV) (m : Option (List α)) : Prop :=
  ∀ (B : Bk) (Hi : Hp) (T : List SV) (tv s : L2.St) (H : Hp) (Q : VK) (xs : List α), m = some xs → tv.length = T.length → SatG B Hi (T ++ G) (tv ++ s) H →
    (∀ a T' tv' Hi' H', tv'.length = T'.length → SatG B Hi' (T' ++ G) (tv' ++ s) H' → xs.length ≤ sizeLine →
      (∀ G2 s2 Hi2 H2, SatG B Hi2 (T' ++ G2) (tv' ++ s2) H2 → SatG B Hi2 (T ++ G2) (tv ++ s2) H2) →
      (∀ G2 s2 Hi2 H2, C G2 s s2 → SatG B Hi2 (T' ++ G2) (tv' ++ s2) H2 → ∃ vs, SqL K H2 a vs ∧ Paired (rq Hi2) xs vs) → (∃ vs, SqL K H' a vs) → Q (.ref a) H') → t s H Q
theorem rd_lst [Rq α] {K : PySem.W.Frag} {m : Option (List α)} (h : EJ X e t G m) : rdJ K C0 t G m := fun B Hi T tv s H Q xs hx hl hs k => by
  refine h.ev B Hi T tv s H _ xs hx hl hs fun v Hi1 H1 s1 r1 => ?_
  obtain ⟨a, vs, h1, h2, h3, h4⟩ := id r1
  subst h1
  refine k a (fz xs :: T) (some (.ref a) :: tv) Hi1 H1 (by simp [hl]) ⟨⟨_, rfl, r1⟩, s1⟩ (by rw [Paired.length h4]; exact h3) (fun G2 s2 Hi2 H2 z => z.2) (fun G2 s2 Hi2 H2 _ z => ?_) ⟨vs, SqL.of (s1.sub _ _ h2)⟩
  obtain ⟨⟨v', e1, a', us, g1, g2, g3, g4⟩, z2⟩ := z
  cases e1; cases g1
  exact ⟨us, SqL.of (z2.sub _ _ g2), g4⟩
theorem rd_own [Rq α] {K : PySem.W.Frag} {xs : List α} (j : Nat) (hi : ∃ c, G[j]? = some c ∧ OwL c xs) : rdJ K (CO j xs) (tVar j) G (some xs) := fun B Hi T tv s H Q ys hx hl hs k => by
  cases hx
  obtain ⟨q, vs, h1, h2, h4, h5⟩ := hs.ownLT hl hi
  refine ⟨.ref q, h1, k q T tv Hi H hl hs (by rw [Paired.length h5]; exact h4) (fun G2 s2 Hi2 H2 z => z) (fun G2 s2 Hi2 H2 c z => ?_) ⟨vs, SqL.of h2⟩⟩
  obtain ⟨q', us, g1, g2, g4, g5⟩ := z.ownLT hl c.1
  rw [c.2, h1] at g1
  cases g1
  exact ⟨us, SqL.of g2, g5⟩
theorem rd_scr {K : PySem.W.Frag} {x : Scr K} (i : Nat) (hi : G[i]? = some (fz x) := by rfl) : rdJ K C0 (tVar i) G (some x.l) := fun B Hi T tv s H Q ys hx hl hs k => by
  cases hx
  obtain ⟨v, h1, h2⟩ := hs.getT hl hi
  obtain ⟨a, g1, g2, g3⟩ := id h2
  subst g1
  refine ⟨_, h1, k a (fz x :: T) (some (.ref a) :: tv) Hi H (by simp [hl]) ⟨⟨_, rfl, h2⟩, hs⟩ (Nat.le_trans g3 (by decide)) (fun G2 s2 Hi2 H2 z => z.2) (fun G2 s2 Hi2 H2 _ z => ?_) ⟨_, Same.seq hs.sub g2⟩⟩
  obtain ⟨⟨v', e1, a', f1, f2, f3⟩, z2⟩ := z
  cases e1; cases f1
  exact ⟨_, Same.seq z2.sub f2, ints_paired _⟩
structure RJ [Rq α] (C : List SV → L2.St → L2.St → Prop) (X : Cx) (e : Expr) (t : TE) (G : List SV) (m : Option (List α)) : Prop where
  pe : PE X e t
  ev : rdJ X.K C t G m
  c : ∀ s, C G s s
theorem rj_e [Rq α] {m : Option (List α)} (h : EJ X e t G m) : RJ C0 X e t G m := ⟨h.pe, rd_lst h, fun _ => trivial⟩
theorem rj_own [Rq α] {xs : List α} (j : Nat) (hi : G[j]? = some (ol xs)) (hN : X.N[j]? = some n := by rfl) (hv : Vis X.env.scope n := by first | exact Or.inl rfl | exact Or.inr (Or.inl rfl) | exact Or.inr (Or.inr rfl))
    (hd : (n == ("__debug__" : Str)) = false := by decide) (hcd : (n == ("__classdict__" : Str)) = false := by decide) : RJ (CO j xs) X (.Name n pos) (tVar j) G (some xs) := ⟨pe_var hN hv hd hcd, rd_own j ⟨_, hi, owl_ol⟩, fun _ => ⟨⟨_, hi, owl_ol⟩, rfl⟩⟩
theorem rj_scr {K : PySem.W.Frag} {x : Scr K} (hK : K = X.K) (i : Nat) (hi : G[i]? = some (fz x)) (hN : X.N[i]? = some n := by rfl) (hv : Vis X.env.scope n := by first | exact Or.inl rfl | exact Or.inr (Or.inl rfl) | exact Or.inr (Or.inr rfl))
    (hd : (n == ("__debug__" : Str)) = false := by decide) (hcd : (n == ("__classdict__" : Str)) = false := by decide) : RJ C0 X (.Name n pos) (tVar i) G (some x.l) := ⟨pe_var hN hv hd hcd, by subst hK; exact rd_scr i hi, fun _ => trivial⟩
theorem ij_l [Rq α] {C} {m : Option (List α)} (h : RJ C X e t G m) : IJ C X tg e (iList X.K t) G m := ⟨pi_list h.pe, fun B Hi T tv s H R xs hx hl hs k => by
  refine h.ev B Hi T tv s H _ xs hx hl hs fun a T' tv' Hi1 H1 l1 s1 hz hT hw hq => ?_
  refine ⟨a, rfl, hq, k _ T' tv' Hi1 H1 l1 s1 hz hT fun F fv G2 s2 Hi2 H2 lf c z => ?_⟩
  obtain ⟨us, hq2, pr⟩ := hw G2 s2 Hi2 H2 c (z.dropF lf)
  refine ⟨⟨us, hq2, by rw [Paired.length pr]; exact Nat.le_refl _⟩, fun i x hi => ?_⟩
  obtain ⟨u, hu, ru⟩ := Paired.get pr hi
  refine ⟨⟨us, u, hq2, hu⟩, fun v H3 y => ?_⟩
  obtain ⟨y1, y2⟩ := y
  subst y1
  have e3 := y2 us hq2
  rw [hu] at e3
  cases e3
  exact ⟨Hi2, z, ru⟩, h.c⟩
theorem ij_enum [Rq α] {C} {m : Option (List α)} {p1 tpos : Pos} {elts : List Expr} {kk : Nat} (h : RJ C X e t G m) (hm : X.mg "enumerate" = none) (hg : Gl X "enumerate" := by rfl) (na : starEach [e] X.env = (false, eval e X.env) :: starEach [] X.env := by rfl) (hs : starEach [e] X.env = [(false, eval e X.env)] := by rfl) :
    IJ C X (.Tuple elts kk tpos) (.Call (.Name "enumerate" p1) [e] [] pos) (iEnum X.K (tCons t tNil)) G (m.bind fun x => some (enumL x)) := ⟨pi_enum hg hm (pa_cons h.pe pa_nil na) hs, fun B Hi T tv s H R zs hx hl hs k => by
  obtain ⟨xs, e1, e2⟩ := bind_some hx
  cases e2
  refine h.ev B Hi T tv s H _ xs e1 hl hs fun a T' tv' Hi1 H1 l1 s1 hz hT hw hq => ?_
  obtain ⟨vs, hq⟩ := hq
  refine ⟨a, vs, rfl, hq, k _ T' tv' Hi1 H1 l1 s1 (by rw [enumL_len]; exact hz) hT fun F fv G2 s2 Hi2 H2 lf c z => ?_⟩
  obtain ⟨us, hq2, pr⟩ := hw G2 s2 Hi2 H2 c (z.dropF lf)
  refine ⟨⟨us, hq2, by rw [enumL_len, Paired.length pr]; exact Nat.le_refl _⟩, fun i x hi => ?_⟩
  obtain ⟨f1, f2⟩ := enumL_get hi
  obtain ⟨u, hu, ru⟩ := Paired.get pr f1
  refine ⟨⟨us, u, hq2, hu⟩, fun v H3 y => ?_⟩
  obtain ⟨q, w, y1, y2, y3, y4⟩ := y
  have e3 := y4 us hq2
  rw [hu] at e3
  cases e3
  subst y1 y3
  exact sat_pair z y2 (by rw [f2]; rfl) ru, h.c⟩
theorem zip_get {xs : List α} {ys : List β} {i : Nat} {z : α × β} (h : (xs.zip ys)[i]? = some z) : xs[i]? = some z.1 ∧ ys[i]? = some z.2 := by
  rw [List.getElem?_zip_eq_some] at h
  exact h
theorem ij_zip [Rq α] [Rq β] {C C'} {m1 : Option (List α)} {m2 : Option (List β)} {p1 tpos : Pos} {elts : List Expr} {kk : Nat} {e2 : Expr} {t2 : TE} (h : RJ C X e t G m1) (h' : RJ C' X e2 t2 G m2) (hm : X.mg "zip" = none) (hg : Gl X "zip" := by rfl) (na : starEach [e, e2] X.env = (false, eval e X.env) :: starEach [e2] X.env := by rfl) (nb : starEach [e2] X.env = (false, eval e2 X.env) :: starEach [] X.env := by rfl)
    (hpl : (backTo pos (starEach [e2] X.env)).any (·.1) = false := by rfl) :
    IJ (fun G2 s s2 => C G2 s s2 ∧ C' G2 s s2) X (.Tuple elts kk tpos) (.Call (.Name "zip" p1) [e, e2] [] pos) (iZip X.K (tCons t (tCons t2 tNil))) G (m1.bind fun x => m2.bind fun y => some (x.zip y)) := ⟨pi_zip hg hm (pa_cons h.pe (pa_cons h'.pe pa_nil nb) na) na hpl, fun B Hi T tv s H R zs hx hl hs k => by
  obtain ⟨xs, e1, hx⟩ := bind_some hx
  obtain ⟨ys, e2, e3⟩ := bind_some hx
  cases e3
  refine h.ev B Hi T tv s H _ xs e1 hl hs fun a T' tv' Hi1 H1 l1 s1 hz hT hw hq => ?_
  refine h'.ev B Hi1 T' tv' s H1 _ ys e2 l1 s1 fun b T'' tv'' Hi2 H2 l2 s2 hz2 hT2 hw2 hq2 => ?_
  obtain ⟨us, gq2, pr2⟩ := hw2 G s Hi2 H2 (h'.c s) s2
  obtain ⟨vs, gq, pr⟩ := hw G s Hi2 H2 (h.c s) (hT2 G s Hi2 H2 s2)
  refine ⟨a, b, vs, us, rfl, gq, gq2, k _ T'' tv'' Hi2 H2 l2 s2 (by rw [List.length_zip]; omega) (fun G2 s2 Hi2 H2 z => hT _ _ _ _ (hT2 _ _ _ _ z)) fun F fv G3 s3 Hi3 H3 lf c z => ?_⟩
  obtain ⟨us, gq2, pr2⟩ := hw2 G3 s3 Hi3 H3 c.2 (z.dropF lf)
  obtain ⟨vs, gq, pr⟩ := hw G3 s3 Hi3 H3 c.1 (hT2 _ _ _ _ (z.dropF lf))
  refine ⟨⟨vs, us, gq, gq2, by rw [List.length_zip, Paired.length pr, Paired.length pr2]; omega⟩, fun i x hi => ?_⟩
  obtain ⟨f1, f2⟩ := zip_get hi
  obtain ⟨u, hu, ru⟩ := Paired.get pr f1
  obtain ⟨w, hw', rw'⟩ := Paired.get pr2 f2
  refine ⟨⟨vs, us, u, w, gq, gq2, hu, hw'⟩, fun v H4 y => ?_⟩
  obtain ⟨q, u', w', y1, y2, y3, y4, y5⟩ := y
  have e3 := y4 vs gq
  rw [hu] at e3
  cases e3
  have e4 := y5 us gq2
  rw [hw'] at e4
  cases e4
  subst y1 y3
  exact sat_pair z y2 ru rw', fun s => ⟨h.c s, h'.c s⟩⟩
end
end GM
namespace GM
open PySem PySem.Spec PyProof.Rows L2
structure GJ {α : Type} [Rq α] (X : Cx) (tg : Expr) (g : TG) (f : α → List SV → List SV) (ids : List Nat) : Prop where
  pg : PG X tg g
  ev : ∀ (B : Bk) (Hi : Hp) (T : List SV) (tv s : L2.St) (H : Hp) (G : List SV) (v : V) (x : α) (Q : L2.St → Hp → Prop), tv.length = T.length → SatG B Hi (T ++ G) (tv ++ s) H → rq Hi x v →
    (∀ s', SatG B Hi (T ++ f x G) (tv ++ s') H → (∀ vs, (∀ i ∈ ids, i ∈ vs) → wipe s' vs = wipe s vs) → Q s' H) → g v s H Q
section
variable {X : Cx} {e a b c : Expr} {es : List Expr} {t ta tb tc te : TE} {tr : TA} {G : List SV} {α β γ τ ρ : Type} {pos p : Pos} {n : Str}
theorem set_set_same {γ : Type} (l : List γ) (i : Nat) (a b : γ) : (l.set i a).set i b = l.set i b := by rw [List.set_set]
theorem wipe_set {s : L2.St} {i : Nat} {o : Option V} : ∀ {vs : List Nat}, i ∈ vs → wipe (s.set i o) vs = wipe s vs
  | [], h => by simp at h
  | w :: vs, h => by
    show (wipe (s.set i o) vs).set w none = (wipe s vs).set w none
    by_cases hi : i ∈ vs
    · rw [wipe_set hi]
    · have e : i = w := by
        rcases List.mem_cons.mp h with e | e
        · exact e
        · exact absurd e hi
      subst e
      have k : ∀ (s : L2.St) (us : List Nat), i ∉ us → (wipe (s.set i o) us).set i none = (wipe s us).set i none := fun s us => by
        induction us with
        | nil => intro _; exact set_set_same _ _ _ _
        | cons w us ih =>
          intro hn
          have h1 : i ≠ w := fun z => hn (by rw [z]; exact List.mem_cons_self)
          have h2 : i ∉ us := fun z => hn (List.mem_cons_of_mem _ z)
          show ((wipe (s.set i o) us).set w none).set i none = ((wipe s us).set w none).set i none
          rw [List.set_comm _ _ (Ne.symm h1), ih h2, List.set_comm _ _ h1]
      exact k s vs hi
theorem gj_name [Rq α] (hN : X.N.Nodup) (i : Nat) (hi : X.N[i]? = some n := by rfl) (hx : Loc X.env.scope n := by first | exact Or.inl rfl | exact Or.inr rfl) (hf : X.fn n = true ∨ X.env.scope.names.lookup n = some .local := by first | exact .inl rfl | exact .inr rfl | assumption) :
    GJ (α := α) X (.Name n pos) (gName i) (fun x G => G.set i (fz x)) [i] := ⟨pg_name hN hi hx hf, fun B Hi T tv s H G v x Q hl hs r k => by
  have h1 : SatG B Hi (fz x :: (T ++ G)) (some v :: (tv ++ s)) H := ⟨⟨v, rfl, r⟩, hs⟩
  exact k _ (h1.putT hl) fun vs h => wipe_set (h i List.mem_cons_self)⟩
theorem gj_pair [Rq α] [Rq β] {g1 g2 : TG} {f1 : α → List SV → List SV} {f2 : β → List SV → List SV} {i1 i2 : List Nat} {k : Nat} (hc : X.calm = true) (h1 : GJ X a g1 f1 i1) (h2 : GJ X b g2 f2 i2)
    (hs1 : (assignEach [a, b] X.env).map (·.2) = assign a X.env :: (assignEach [b] X.env).map (·.2) := by rfl) (hs2 : (assignEach [b] X.env).map (·.2) = assign b X.env :: (assignEach [] X.env).map (·.2) := by rfl)
    (hn : (assignEach [a, b] X.env).length = 2 := by rfl) (hst : (assignEach [a, b] X.env).findIdx? (·.1) = none := by rfl) :
    GJ (α := α × β) X (.Tuple [a, b] k pos) (gTup X.K 2 (gCons g1 (gCons g2 gNil))) (fun x G => f2 x.2 (f1 x.1 G)) (i1 ++ i2) := ⟨pg_tup hc (pgs_cons h1.pg (pgs_cons h2.pg pgs_nil hs2) hs1) hn hst, fun B Hi T tv s H G v x Q hl hs r kk => by
  obtain ⟨q, v1, v2, e1, e2, r1, r2⟩ := r
  refine ⟨q, [v1, v2], e1, SqT.of (hs.sub _ _ e2), rfl, v1, [v2], rfl, ?_⟩
  refine h1.ev B Hi T tv s H G v1 x.1 _ hl hs r1 fun s' s2 w1 => ⟨v2, [], rfl, ?_⟩
  refine h2.ev B Hi T tv s' H _ v2 x.2 _ hl s2 r2 fun s'' s3 w2 => ⟨rfl, kk s'' s3 fun vs hv => ?_⟩
  rw [w2 vs fun i hi => hv i (List.mem_append_right _ hi), w1 vs fun i hi => hv i (List.mem_append_left _ hi)]⟩
theorem gj_trip [Rq α] [Rq β] [Rq γ] {g1 g2 g3 : TG} {f1 : α → List SV → List SV} {f2 : β → List SV → List SV} {f3 : γ → List SV → List SV} {i1 i2 i3 : List Nat} {k : Nat} (hc : X.calm = true) (h1 : GJ X a g1 f1 i1) (h2 : GJ X b g2 f2 i2) (h3 : GJ X c g3 f3 i3)
    (hs1 : (assignEach [a, b, c] X.env).map (·.2) = assign a X.env :: (assignEach [b, c] X.env).map (·.2) := by rfl) (hs2 : (assignEach [b, c] X.env).map (·.2) = assign b X.env :: (assignEach [c] X.env).map (·.2) := by rfl) (hs3 : (assignEach [c] X.env).map (·.2) = assign c X.env :: (assignEach [] X.env).map (·.2) := by rfl)
    (hn : (assignEach [a, b, c] X.env).length = 3 := by rfl) (hst : (assignEach [a, b, c] X.env).findIdx? (·.1) = none := by rfl) :
    GJ (α := T3 α β γ) X (.Tuple [a, b, c] k pos) (gTup X.K 3 (gCons g1 (gCons g2 (gCons g3 gNil)))) (fun x G => f3 x.c (f2 x.b (f1 x.a G))) (i1 ++ (i2 ++ i3)) := ⟨pg_tup hc (pgs_cons h1.pg (pgs_cons h2.pg (pgs_cons h3.pg pgs_nil hs3) hs2) hs1) hn hst, fun B Hi T tv s H G v x Q hl hs r kk => by
  obtain ⟨q, v1, v2, v3, e1, e2, r1, r2, r3⟩ := r
  refine ⟨q, [v1, v2, v3], e1, SqT.of (hs.sub _ _ e2), rfl, v1, [v2, v3], rfl, ?_⟩
  refine h1.ev B Hi T tv s H G v1 x.a _ hl hs r1 fun s' s2 w1 => ⟨v2, [v3], rfl, ?_⟩
  refine h2.ev B Hi T tv s' H _ v2 x.b _ hl s2 r2 fun s'' s3 w2 => ⟨v3, [], rfl, ?_⟩
  refine h3.ev B Hi T tv s'' H _ v3 x.c _ hl s3 r3 fun s4 s5 w3 => ⟨rfl, kk s4 s5 fun vs hv => ?_⟩
  rw [w3 vs fun i hi => hv i (List.mem_append_right _ (List.mem_append_right _ hi)), w2 vs fun i hi => hv i (List.mem_append_right _ (List.mem_append_left _ hi)), w1 vs fun i hi => hv i (List.mem_append_left _ hi)]⟩
def wipeG (G : List SV) : List Nat → List SV
  | [] => G
  | v :: vs => (wipeG G vs).set v .un
theorem sat_unset {B : Bk} {Hi : Hp} : ∀ {L : List SV} {s : L2.St} {H : Hp} {i : Nat} {o : Option V}, SatG B Hi L s H → SatG B Hi (L.set i .un) (s.set i o) H
  | [], [], _, _, _, h => h
  | [], _ :: _, _, _, _, h => False.elim h
  | _ :: _, [], _, _, _, h => False.elim h
  | c :: L, x :: s, H, 0, o, h => h.drop1
  | c :: L, x :: s, H, i + 1, o, h => slot_map h fun H z => sat_unset z
theorem sat_unsetT {B : Bk} {Hi : Hp} {T : List SV} {tv : L2.St} {L : List SV} {s : L2.St} {H : Hp} {i : Nat} {o : Option V} (e : tv.length = T.length) (h : SatG B Hi (T ++ L) (tv ++ s) H) : SatG B Hi (T ++ L.set i .un) (tv ++ s.set i o) H := by
  have q := sat_unset (i := T.length + i) (o := o) h
  rw [set_app, ← e, set_app] at q
  exact q
theorem sat_wipe {B : Bk} {Hi : Hp} {T : List SV} {tv : L2.St} {L : List SV} {s : L2.St} {H : Hp} (e : tv.length = T.length) (h : SatG B Hi (T ++ L) (tv ++ s) H) : ∀ vs, SatG B Hi (T ++ wipeG L vs) (tv ++ wipe s vs) H
  | [] => h
  | v :: vs => sat_unsetT e (sat_wipe e h vs)
theorem set_get_self {γ : Type} : ∀ (l : List γ) (i : Nat) (x : γ), l[i]? = some x → l.set i x = l
  | [], _, _, h => by simp at h
  | y :: l, 0, x, h => by simp at h; rw [h]; rfl
  | y :: l, i + 1, x, h => by
    have := set_get_self l i x (by simpa using h)
    rw [List.set_cons_succ, this]
theorem sat_unwipe {B : Bk} {Hi : Hp} {T : List SV} {tv : L2.St} {L : List SV} {s : L2.St} {H : Hp} (e : tv.length = T.length) : ∀ {vs : List Nat}, SatG B Hi (T ++ wipeG L vs) (tv ++ wipe s vs) H → SatG B Hi (T ++ wipeG L vs) (tv ++ s) H := by
  intro vs
  induction vs generalizing L with
  | nil => intro h; exact h
  | cons v vs ih =>
    intro h
    have hl := h.len
    by_cases hv : v < (wipe s vs).length
    · have q := sat_unsetT (i := v) (o := (wipe s vs)[v]) e h
      have e1 : (wipeG L (v :: vs)).set v .un = wipeG L (v :: vs) := by
        show ((wipeG L vs).set v .un).set v .un = _
        rw [List.set_set]; rfl
      have e2 : (wipe s (v :: vs)).set v (wipe s vs)[v] = wipe s vs := by
        show ((wipe s vs).set v none).set v _ = _
        rw [List.set_set]
        exact set_get_self _ _ _ (by simp [hv])
      rw [e1, e2] at q
      have e3 : wipeG L (v :: vs) = wipeG (L.set v .un) vs := by
        have k : ∀ (L : List SV) (us : List Nat), (wipeG L us).set v .un = wipeG (L.set v .un) us := fun L us => by
          induction us generalizing L with
          | nil => rfl
          | cons w us ih2 =>
            show ((wipeG L us).set w .un).set v .un = (wipeG (L.set v .un) us).set w .un
            rw [← ih2]
            by_cases z : w = v
            · rw [z]
            · rw [List.set_comm _ _ z]
        exact k L vs
      rw [e3] at q ⊢
      exact ih q
    · have e2 : wipe s (v :: vs) = wipe s vs := by
        show (wipe s vs).set v none = _
        exact List.set_eq_of_length_le (Nat.le_of_not_lt hv)
      have e1 : wipeG L (v :: vs) = wipeG L vs := by
        show (wipeG L vs).set v .un = _
        refine List.set_eq_of_length_le ?_
        have : (wipeG L vs).length = L.length := by
          have k : ∀ us : List Nat, (wipeG L us).length = L.length := fun us => by
            induction us with
            | nil => rfl
            | cons w us ih2 => show ((wipeG L us).set w .un).length = _; rw [List.length_set]; exact ih2
          exact k vs
        rw [e2] at h
        have hl2 := h.len
        rw [List.length_append, List.length_append] at hl2
        have : (wipeG L (v :: vs)).length = (wipeG L vs).length := by show ((wipeG L vs).set v .un).length = _; rw [List.length_set]
        omega
      rw [e1, e2] at h
      rw [e1]
      exact ih h
/-- the lists that the items give, one behind another -/
def colO (xs : List α) (g : α → Option (List β)) : Option (List β) := match xs with
  | [] => some []
  | x :: xs => (g x).bind fun ys => (colO xs g).bind fun zs => some (ys ++ zs)
def mapO (xs : List α) (f : α → Option β) : Option (List β) := match xs with
  | [] => some []
  | x :: xs => (f x).bind fun y => (mapO xs f).bind fun ys => some (y :: ys)
def filO (xs : List α) (c : α → Option Bool) (f : α → Option β) : Option (List β) := match xs with
  | [] => some []
  | x :: xs => (c x).bind fun b => if b = true then (f x).bind fun y => (filO xs c f).bind fun ys => some (y :: ys) else filO xs c f
theorem colO_snoc {g : α → Option (List β)} : ∀ {xs : List α} {x : α} {ys zs : List β}, colO xs g = some ys → g x = some zs → colO (xs ++ [x]) g = some (ys ++ zs)
  | [], x, ys, zs, h, h2 => by
    cases h
    show (g x).bind _ = _
    rw [h2]
    show some (zs ++ []) = some ([] ++ zs)
    rw [List.append_nil, List.nil_append]
  | y :: xs, x, ys, zs, h, h2 => by
    obtain ⟨us, e1, h⟩ := bind_some h
    obtain ⟨ws, e2, e3⟩ := bind_some h
    cases e3
    show (g y).bind _ = _
    rw [e1]
    show (colO (xs ++ [x]) g).bind _ = _
    rw [colO_snoc e2 h2]
    show some (us ++ (ws ++ zs)) = some ((us ++ ws) ++ zs)
    rw [List.append_assoc]
theorem colO_at {g : α → Option (List β)} : ∀ {xs : List α} {zs : List β} {i : Nat} {x : α}, colO xs g = some zs → xs[i]? = some x → ∃ ys, g x = some ys
  | [], zs, i, x, h, e => by simp at e
  | y :: xs, zs, 0, x, h, e => by
    obtain ⟨us, e1, h⟩ := bind_some h
    simp at e
    subst e
    exact ⟨us, e1⟩
  | y :: xs, zs, i + 1, x, h, e => by
    obtain ⟨us, e1, h⟩ := bind_some h
    obtain ⟨ws, e2, e3⟩ := bind_some h
    exact colO_at e2 (by simpa using e)
theorem colO_len {g : α → Option (List β)} (hg : ∀ x ys, g x = some ys → ys.length ≤ 1) : ∀ {xs : List α} {zs : List β}, colO xs g = some zs → zs.length ≤ xs.length
  | [], zs, h => by cases h; exact Nat.le_refl _
  | x :: xs, zs, h => by
    obtain ⟨us, e1, h⟩ := bind_some h
    obtain ⟨ws, e2, e3⟩ := bind_some h
    cases e3
    have h1 := hg _ _ e1
    have h2 := colO_len hg e2
    rw [List.length_append, List.length_cons]; omega
theorem mapO_col {f : α → Option β} : ∀ xs : List α, mapO xs f = colO xs fun x => (f x).bind fun y => some [y]
  | [] => rfl
  | x :: xs => by
    show (f x).bind _ = ((f x).bind fun y => some [y]).bind _
    rw [mapO_col xs]
    cases f x <;> rfl
theorem filO_col {c : α → Option Bool} {f : α → Option β} : ∀ xs : List α, filO xs c f = colO xs fun x => (c x).bind fun b => if b = true then (f x).bind fun y => some [y] else some []
  | [] => rfl
  | x :: xs => by
    show (c x).bind _ = ((c x).bind fun b => if b = true then (f x).bind fun y => some [y] else some []).bind _
    rw [filO_col xs]
    cases c x with
    | none => rfl
    | some b =>
      cases b with
      | true =>
        show (f x).bind _ = ((f x).bind fun y => some [y]).bind _
        cases f x <;> rfl
      | false =>
        show colO xs _ = (colO xs _).bind fun zs => some zs
        cases colO xs _ <;> rfl
/-- tests: none, one -/
structure TsJ (X : Cx) (ifs : List Expr) (t : TT) (G : List SV) (m : Option Bool) : Prop where
  pts : PTs X ifs t
  ev : TvJ t G m
theorem ts_nil : TsJ X [] tYes G (some true) := ⟨pts_nil, fun B Hi T tv s H Q x hx hl hs k => by cases hx; exact k Hi H hs⟩
theorem ts_one {tt : TT} {m : Option Bool} (h : TJ X c tt G m) : TsJ X [c] tt G m := ⟨pts_one h.pt, h.ev⟩
variable {elt tg iter : Expr} {ifs : List Expr} {scope : Scope} {own : List (Str × Nat)} {w : TI} {g : TG} {tt : TT}
theorem ov_lc [Rq α] [Rq β] {C} {m1 : Option (List α)} {f : α → List SV → List SV} {ids : List Nat} {mc : α → Option Bool} {me : α → Option β} (hi : IvJ C w G m1) (hc : ∀ s, C G s s)
    (hg : ∀ (B : Bk) (Hi : Hp) (T : List SV) (tv s : L2.St) (H : Hp) (G : List SV) (v : V) (x : α) (Q : L2.St → Hp → Prop), tv.length = T.length → SatG B Hi (T ++ G) (tv ++ s) H → rq Hi x v → (∀ s', SatG B Hi (T ++ f x G) (tv ++ s') H → (∀ vs, (∀ i ∈ ids, i ∈ vs) → wipe s' vs = wipe s vs) → Q s' H) → g v s H Q)
    (ht : ∀ x, TvJ tt (f x G) (mc x)) (he : ∀ x, EvJ te (f x G) (me x)) (hids : ∀ i ∈ ids, i ∈ own.map (·.2)) (hw0 : wipeG G (own.map (·.2)) = G) (hw : ∀ x, wipeG (f x G) (own.map (·.2)) = G) :
    OvJ (tLc w g tt te (own.map (·.2))) G (m1.bind fun xs => colO xs fun x => (mc x).bind fun b => if b = true then (me x).bind fun y => some [y] else some []) := fun B Hi T tv s H Q zs hx hl hs k => by
  obtain ⟨xs, e1, e2⟩ := bind_some hx
  refine hi B Hi T tv s H _ xs e1 hl hs fun J T' tv' Hi1 H1 l1 s1 hz hT hwalk => ?_
  intro D hD
  refine ⟨fun i m H2 => m = xs.length - i ∧ i ≤ xs.length ∧ ∃ Hi2 done, colO (xs.take i) (fun x => (mc x).bind fun b => if b = true then (me x).bind fun y => some [y] else some []) = some done ∧ SatG B Hi2 (ol done :: (T' ++ G)) (some (.ref D) :: (tv' ++ s)) H2,
    ⟨xs.length, by simp, Nat.zero_le _, Hi1, [], rfl, s1.newO (φ := isL []) hD ⟨[], rfl, Nat.zero_le _, .nil⟩⟩, ?_⟩
  rintro i m H2 ⟨rfl, hi, Hi2, done, hd, s2⟩
  obtain ⟨stp, go⟩ := hwalk [ol done] [some (.ref D)] G s Hi2 H2 rfl (hc s) s2
  by_cases hlt : i < xs.length
  · refine .inr ?_
    have hxi : xs[i]? = some xs[i] := by simp [hlt]
    obtain ⟨go1, go2⟩ := go i xs[i] hxi
    refine ⟨go1, fun H3 => ∃ Hi3 done3, colO (xs.take (i + 1)) (fun x => (mc x).bind fun b => if b = true then (me x).bind fun y => some [y] else some []) = some done3 ∧ SatG B Hi3 (ol done3 :: (T' ++ G)) (some (.ref D) :: (tv' ++ s)) H3, fun H3 ⟨Hi3, done3, h3, h4⟩ => ⟨xs.length - (i + 1), by omega, rfl, hlt, Hi3, done3, h3, h4⟩, fun v H3 hy => ?_⟩
    obtain ⟨Hi3, s3, r3⟩ := go2 v H3 hy
    have l3 : (some (V.ref D) :: tv').length = (ol done :: T').length := by simp [l1]
    have s3' : SatG B Hi3 ((ol done :: T') ++ G) ((some (.ref D) :: tv') ++ wipe s (own.map (·.2))) H3 := by
      have q := sat_wipe (T := ol done :: T') (tv := some (.ref D) :: tv') l3 s3 (own.map (·.2))
      rw [hw0] at q
      exact q
    refine hg B Hi3 (ol done :: T') (some (.ref D) :: tv') (wipe s (own.map (·.2))) H3 G v xs[i] _ l3 s3' r3 fun s4 q4 w4 => ?_
    have wid : wipe s4 (own.map (·.2)) = wipe s (own.map (·.2)) := by
      rw [w4 _ hids]
      have k : ∀ (s : L2.St) (vs : List Nat), (∀ us : List Nat, True) → wipe (wipe s vs) vs = wipe s vs := fun s vs _ => by
        have kk : ∀ (us vs : List Nat), (∀ i ∈ us, i ∈ vs) → ∀ s : L2.St, wipe (wipe s us) vs = wipe s vs := fun us => by
          induction us with
          | nil => intro vs _ s; rfl
          | cons u us ih =>
            intro vs hv s
            show wipe ((wipe s us).set u none) vs = _
            rw [wipe_set (hv u List.mem_cons_self)]
            exact ih vs (fun i hi => hv i (List.mem_cons_of_mem _ hi)) s
        exact kk vs vs (fun _ h => h) s
      exact k s _ fun _ => trivial
    refine ⟨wid, ?_⟩
    obtain ⟨ys, hys⟩ := colO_at e2 hxi
    have hsn : xs.take (i + 1) = xs.take i ++ [xs[i]] := by rw [List.take_add_one, hxi]; rfl
    obtain ⟨bb, hb1, hb2⟩ := bind_some hys
    refine ht xs[i] B Hi3 (ol done :: T') (some (.ref D) :: tv') s4 H3 _ bb hb1 l3 q4 fun Hi5 H5 s5 => ?_
    have back : ∀ {Hi6 H6 : Hp} {d : List β}, SatG B Hi6 ((ol d :: T') ++ f xs[i] G) ((some (.ref D) :: tv') ++ s4) H6 → SatG B Hi6 (ol d :: (T' ++ G)) (some (.ref D) :: (tv' ++ s)) H6 := fun {Hi6 H6 d} q => by
      have q1 := sat_wipe (T := ol d :: T') (tv := some (.ref D) :: tv') (by simp [l1]) q (own.map (·.2))
      rw [wid, hw] at q1
      have q2 : SatG B Hi6 ((ol d :: T') ++ wipeG G (own.map (·.2))) ((some (.ref D) :: tv') ++ wipe s (own.map (·.2))) H6 := by rw [hw0]; exact q1
      have q3 := sat_unwipe (T := ol d :: T') (tv := some (.ref D) :: tv') (by simp [l1]) q2
      rw [hw0] at q3
      exact q3
    cases bb with
    | true =>
      rw [if_pos rfl]
      rw [if_pos rfl] at hb2
      obtain ⟨y, hy1, hy2⟩ := bind_some hb2
      cases hy2
      refine he xs[i] B Hi5 (ol done :: T') (some (.ref D) :: tv') s4 H5 _ y hy1 l3 s5 fun u Hi6 H6 s6 r6 => ?_
      obtain ⟨p', F', e3, hp, ⟨_, rfl, acc, rfl, hz4, pr⟩, rest⟩ := s6
      cases e3
      have hp := hp _ _ one_same
      rw [minus_one] at rest
      have hlen : acc.length < sizeLine := by
        rw [← Paired.length pr]
        have h5 := colO_len (fun x ys h => by
          obtain ⟨b5, g1, g2⟩ := bind_some h
          cases b5 with
          | true =>
            rw [if_pos rfl] at g2
            obtain ⟨y5, g3, g4⟩ := bind_some g2
            cases g4
            exact Nat.le_refl _
          | false =>
            rw [if_neg Bool.false_ne_true] at g2
            cases g2
            exact Nat.zero_le _) hd
        rw [List.length_take] at h5
        omega
      refine ⟨acc, hp, hlen, Hi6, done ++ [y], by rw [hsn]; exact colO_snoc hd hys, ?_⟩
      have s7 : SatG B Hi6 ((ol (done ++ [y]) :: T') ++ f xs[i] G) ((some (.ref D) :: tv') ++ s4) (upd H6 D (.lst (acc ++ [u]))) := by
        refine ⟨D, one D (.lst (acc ++ [u])), rfl, same_one upd_same, ⟨_, rfl, acc ++ [u], rfl, by rw [List.length_append]; exact hlen, Paired.snoc pr r6⟩, ?_⟩
        rw [minus_one, del_upd]
        exact rest
      exact back s7
    | false =>
      rw [if_neg Bool.false_ne_true]
      rw [if_neg Bool.false_ne_true] at hb2
      cases hb2
      refine ⟨Hi5, done, by rw [hsn, colO_snoc hd hys, List.append_nil], ?_⟩
      exact back s5
  · have e : i = xs.length := by omega
    subst e
    rw [List.take_length] at hd
    rw [e2] at hd
    cases hd
    refine .inl ⟨stp, ?_⟩
    obtain ⟨p', u', e3, hp, hu, rest⟩ := s2
    cases e3
    refine k D Hi2 H2 ⟨D, u', rfl, hp, hu, ?_⟩
    exact hT G s Hi2 _ rest
theorem oj_lc0 [Rq α] [Rq β] {C} {m1 : Option (List α)} {f : α → List SV → List SV} {ids : List Nat} {mc : α → Option Bool} {me : α → Option β} (hcalm : X.calm = true) (hN : X.N.Nodup) (hi : IJ C X tg iter w G m1) (ok : BlkOk X.N X.env.scope scope own)
    (hg : ∀ (s : Shared) (H : Hp) (C : Addr) (cl : List (Str × Addr)) (fp : List Addr), GJ (X.blk s H scope (compEnvC scope cl C X.env) fp) tg g f ids)
    (ht : ∀ (x : α) (s : Shared) (H : Hp) (C : Addr) (cl : List (Str × Addr)) (fp : List Addr), TsJ (X.blk s H scope (compEnvC scope cl C X.env) fp) ifs tt (f x G) (mc x))
    (he : ∀ (x : α) (s : Shared) (H : Hp) (C : Addr) (cl : List (Str × Addr)) (fp : List Addr), EJ (X.blk s H scope (compEnvC scope cl C X.env) fp) elt te (f x G) (me x)) (x0 : α)
    (hids : ∀ i ∈ ids, i ∈ own.map (·.2)) (hw0 : wipeG G (own.map (·.2)) = G) (hw : ∀ x, wipeG (f x G) (own.map (·.2)) = G) (hs : ∀ x, foldedSetIterable iter X.env x = pure x := by intro _; rfl) :
    OJ X (.ListComp elt [⟨tg, iter, ifs, 0⟩] scope pos) (tLc w g tt te (own.map (·.2))) G (m1.bind fun xs => colO xs fun x => (mc x).bind fun b => if b = true then (me x).bind fun y => some [y] else some []) :=
  ⟨pe_lc hcalm hN hi.pi ok (fun s H C cl fp => (hg s H C cl fp).pg) (fun s H C cl fp => (ht x0 s H C cl fp).pts) (fun s H C cl fp => (he x0 s H C cl fp).pe) hs,
    ov_lc hi.ev hi.c (hg X.s_0 X.H_0 0 [] []).ev (fun x => (ht x X.s_0 X.H_0 0 [] []).ev) (fun x => (he x X.s_0 X.H_0 0 [] []).ev) hids hw0 hw⟩
theorem oj_lc [Rq α] [Rq β] {C} {m1 : Option (List α)} {f : α → List SV → List SV} {ids : List Nat} {me : α → Option β} (x0 : α) (hcalm : X.calm = true) (hN : X.N.Nodup) (hi : IJ C X tg iter w G m1) (ok : BlkOk X.N X.env.scope scope own)
    (hg : ∀ (s : Shared) (H : Hp) (C : Addr) (cl : List (Str × Addr)) (fp : List Addr), GJ (X.blk s H scope (compEnvC scope cl C X.env) fp) tg g f ids)
    (he : ∀ (x : α) (s : Shared) (H : Hp) (C : Addr) (cl : List (Str × Addr)) (fp : List Addr), EJ (X.blk s H scope (compEnvC scope cl C X.env) fp) elt te (f x G) (me x))
    (hids : ∀ i ∈ ids, i ∈ own.map (·.2) := by decide) (hw0 : wipeG G (own.map (·.2)) = G := by rfl) (hw : ∀ x, wipeG (f x G) (own.map (·.2)) = G := by intro _; rfl) (hs : ∀ x, foldedSetIterable iter X.env x = pure x := by intro _; rfl) :
    OJ X (.ListComp elt [⟨tg, iter, [], 0⟩] scope pos) (tLc w g tYes te (own.map (·.2))) G (m1.bind fun xs => mapO xs me) := by
  have h := oj_lc0 (pos := pos) hcalm hN hi ok hg (fun x s H C cl fp => ts_nil) he x0 hids hw0 hw hs
  have e : (fun xs => mapO xs me) = fun xs => colO xs fun x => (some true : Option Bool).bind fun b => if b = true then (me x).bind fun y => some [y] else some [] := funext fun xs => mapO_col xs
  rw [e]
  exact h
theorem oj_lcT [Rq α] [Rq β] {C} {m1 : Option (List α)} {f : α → List SV → List SV} {ids : List Nat} {mc : α → Option Bool} {me : α → Option β} (x0 : α) (hcalm : X.calm = true) (hN : X.N.Nodup) (hi : IJ C X tg iter w G m1) (ok : BlkOk X.N X.env.scope scope own)
    (hg : ∀ (s : Shared) (H : Hp) (C : Addr) (cl : List (Str × Addr)) (fp : List Addr), GJ (X.blk s H scope (compEnvC scope cl C X.env) fp) tg g f ids)
    (ht : ∀ (x : α) (s : Shared) (H : Hp) (C : Addr) (cl : List (Str × Addr)) (fp : List Addr), TJ (X.blk s H scope (compEnvC scope cl C X.env) fp) c tt (f x G) (mc x))
    (he : ∀ (x : α) (s : Shared) (H : Hp) (C : Addr) (cl : List (Str × Addr)) (fp : List Addr), EJ (X.blk s H scope (compEnvC scope cl C X.env) fp) elt te (f x G) (me x))
    (hids : ∀ i ∈ ids, i ∈ own.map (·.2) := by decide) (hw0 : wipeG G (own.map (·.2)) = G := by rfl) (hw : ∀ x, wipeG (f x G) (own.map (·.2)) = G := by intro _; rfl) (hs : ∀ x, foldedSetIterable iter X.env x = pure x := by intro _; rfl) :
    OJ X (.ListComp elt [⟨tg, iter, [c], 0⟩] scope pos) (tLc w g tt te (own.map (·.2))) G (m1.bind fun xs => filO xs mc me) := by
  have h := oj_lc0 (pos := pos) hcalm hN hi ok hg (fun x s H C cl fp => ts_one (ht x s H C cl fp)) he x0 hids hw0 hw hs
  have e : (fun xs => filO xs mc me) = fun xs => colO xs fun x => (mc x).bind fun b => if b = true then (me x).bind fun y => some [y] else some [] := funext fun xs => filO_col xs
  rw [e]
  exact h
end
end GM
namespace GM
open PySem PySem.Spec PyProof.Rows L2
abbrev Post (O : Type) := O → Bk → List SV → L2.St → Ends → Prop
structure BJ {O : Type} (X : Cx) (ss : List Stmt) (t : TS) (G : List SV) (m : Option O) (P : Post O) : Prop where
  ps : PSs X ss t
  ev : ∀ (B : Bk) (Hi : Hp) (T : List SV) (tv s : L2.St) (H : Hp) (D : Ends) (o : O), m = some o → tv.length = T.length → SatG B Hi (T ++ G) (tv ++ s) H → P o B T tv D → t D s H
inductive Fl (S R : Type) where
  | go (s : S)
  | stop (s : S)
  | ret (r : R)
/-- handed back: what stands still -/
def PR {ρ : Type} [Rq ρ] : Post ρ := fun r B _ _ D => ∀ v Hi H', SatG B Hi [] [] H' → rq Hi r v → D.rt v H'
/-- handed back: a new list -/
def PO {ρ : Type} [Rq ρ] : Post (List ρ) := fun r B _ _ D => ∀ p Hi H', SatG B Hi [ol r] [some (.ref p)] H' → D.rt (.ref p) H'
/-- nothing is handed back -/
def PU : Post Unit := fun _ B _ _ D => (∀ Hi H', SatG B Hi [] [] H' → D.rt .non H') ∧ ∀ s Hi H', SatG B Hi [] [] H' → D.nx s H'
/-- goes on -/
def PN {S : Type} (N : S → List SV) : Post S := fun o B T tv D => ∀ s Hi H', SatG B Hi (T ++ N o) (tv ++ s) H' → D.nx s H'
/-- a loop's turn -/
def PP {S : Type} (N : S → List SV) : Post S := fun o B T tv D => ∀ s Hi H', SatG B Hi (T ++ N o) (tv ++ s) H' → D.nx s H' ∧ D.ct s H'
def PPx {S : Type} (N : S → List SV) : Post S := fun o B T tv D => ∀ s Hi H', SatG B Hi (T ++ N o) (tv ++ s) H' → D.ct s H'
def PL {S R : Type} (N : S → List SV) (Pr : Post R) : Post (Fl S R) := fun o B T tv D => match o with
  | .go st => ∀ s Hi H', SatG B Hi (T ++ N st) (tv ++ s) H' → D.nx s H' ∧ D.ct s H'
  | .stop st => ∀ s Hi H', SatG B Hi (T ++ N st) (tv ++ s) H' → D.bk s H'
  | .ret r => Pr r B T tv D
def PLx {S R : Type} (N : S → List SV) (Pr : Post R) : Post (Fl S R) := fun o B T tv D => match o with
  | .go st => ∀ s Hi H', SatG B Hi (T ++ N st) (tv ++ s) H' → D.ct s H'
  | .stop st => ∀ s Hi H', SatG B Hi (T ++ N st) (tv ++ s) H' → D.bk s H'
  | .ret r => Pr r B T tv D
/-- what the ways out ask does not hang on what follows -/
class Out {O : Type} (P : Post O) (Px : outParam (Post O)) : Prop where
  out : ∀ (o : O) (B : Bk) (T : List SV) (tv : L2.St) (D : Ends) (u : L2.St → Hp → Prop), P o B T tv D → Px o B T tv { D with nx := u }
instance {ρ : Type} [Rq ρ] : Out (PR (ρ := ρ)) PR := ⟨fun _ _ _ _ _ _ h => h⟩
instance {ρ : Type} [Rq ρ] : Out (PO (ρ := ρ)) PO := ⟨fun _ _ _ _ _ _ h => h⟩
instance {S : Type} {N : S → List SV} : Out (PP N) (PPx N) := ⟨fun _ _ _ _ _ _ h s Hi H' q => (h s Hi H' q).2⟩
instance {S : Type} {N : S → List SV} : Out (PPx N) (PPx N) := ⟨fun _ _ _ _ _ _ h => h⟩
instance {S R : Type} {N : S → List SV} {Pr : Post R} [Out Pr Pr] : Out (PL N Pr) (PLx N Pr) := ⟨fun o _ _ _ _ _ h => by
  cases o with
  | go st => exact fun s Hi H' q => (h s Hi H' q).2
  | stop st => exact h
  | ret r => exact Out.out (P := Pr) _ _ _ _ _ _ h⟩
instance {S R : Type} {N : S → List SV} {Pr : Post R} [Out Pr Pr] : Out (PLx N Pr) (PLx N Pr) := ⟨fun o _ _ _ _ _ h => by
  cases o with
  | go st => exact h
  | stop st => exact h
  | ret r => exact Out.out (P := Pr) _ _ _ _ _ _ h⟩
/-- handing back r is one of the ways -/
class Rt {O ρ : Type} (P : Post O) (Pr : Post ρ) (inj : ρ → O) : Prop where
  rt : ∀ (r : ρ) (B : Bk) (T : List SV) (tv : L2.St) (D : Ends), P (inj r) B T tv D → Pr r B T tv D
instance {ρ : Type} {P : Post ρ} : Rt P P id := ⟨fun _ _ _ _ _ h => h⟩
instance {S R : Type} {N : S → List SV} {Pr : Post R} : Rt (PL N Pr) Pr Fl.ret := ⟨fun _ _ _ _ _ h => h⟩
instance {S R : Type} {N : S → List SV} {Pr : Post R} : Rt (PLx N Pr) Pr Fl.ret := ⟨fun _ _ _ _ _ h => h⟩
/-- ways that hang on the returned value alone -/
class RtOnly {R : Type} (Pr : Post R) : Prop where
  mv : ∀ (r : R) (B : Bk) (T T' : List SV) (tv tv' : L2.St) (D D' : Ends), D'.rt = D.rt → Pr r B T tv D → Pr r B T' tv' D'
instance {ρ : Type} [Rq ρ] : RtOnly (PR (ρ := ρ)) := ⟨fun r B T T' tv tv' D D' e h v Hi H' q1 q2 => by rw [e]; exact h v Hi H' q1 q2⟩
instance {ρ : Type} [Rq ρ] : RtOnly (PO (ρ := ρ)) := ⟨fun r B T T' tv tv' D D' e h p Hi H' q1 => by rw [e]; exact h p Hi H' q1⟩
section
variable {X : Cx} {e a b c : Expr} {es : List Expr} {t ta tb tc te : TE} {tr : TA} {G : List SV} {α β γ τ ρ O S R : Type} {pos p : Pos} {n : Str} {rest : List Stmt} {u ts : TS} {P Px : Post O}
/-- nothing more: it goes on with st -/
theorem bj_nilN {N : S → List SV} (st : S) (w : Wk G (N st)) : BJ X [] tNext G (some st) (PN N) := ⟨pss_nil, fun B Hi T tv s H D o hx hl hs k => by cases hx; exact k s Hi H (hs.wkT hl w)⟩
theorem bj_nilP {N : S → List SV} (st : S) (w : Wk G (N st)) : BJ X [] tNext G (some st) (PP N) := ⟨pss_nil, fun B Hi T tv s H D o hx hl hs k => by cases hx; exact (k s Hi H (hs.wkT hl w)).1⟩
theorem bj_nilL {N : S → List SV} {Pr : Post R} (st : S) (w : Wk G (N st)) : BJ X [] tNext G (some (.go st)) (PL N Pr) := ⟨pss_nil, fun B Hi T tv s H D o hx hl hs k => by cases hx; exact (k s Hi H (hs.wkT hl w)).1⟩
theorem bj_nilU : BJ X [] tNext G (some ()) PU := ⟨pss_nil, fun B Hi T tv s H D o hx hl hs k => k.2 s Hi H hs.bare⟩
/-- a step of the proof alone: our own list is let go -/
theorem bj_thaw [Rq α] {xs : List α} (i : Nat) {m : Option O} (h : BJ X rest u (G.set i (fz xs)) m P) (hi : G[i]? = some (ol xs) := by rfl) : BJ X rest u G m P := ⟨h.ps, fun B Hi T tv s H D o hx hl hs k => by
  obtain ⟨q, w, h1, h2, ⟨vs, h3, h4, h5⟩, h6, up⟩ := hs.ownT hl hi
  subst h3
  have s1 := up (.lst vs) (isL xs) (fun _ _ _ e ⟨vs, h1, h2, h3⟩ => ⟨vs, h1, h2, Paired.mono h3 fun _ _ => Rq.mono e⟩) ⟨vs, rfl, h4, h5⟩
  have z := hs.front (i := T.length + i) (by rw [get_app]; exact hi)
  rw [set_app, ← hl, get_app, h1] at z
  obtain ⟨Hi', s2, r⟩ := sat_thawL z
  have s3 : SatG B Hi' (fz xs :: (T ++ G.set i .un)) (some (.ref q) :: (tv ++ s)) H := ⟨⟨_, rfl, r⟩, s2⟩
  have s4 := s3.putT hl (i := i)
  rw [List.set_set] at s4
  have hsi : s.set i (some (.ref q)) = s := set_get_self _ _ _ h1
  rw [hsi] at s4
  exact h.ev B Hi' T tv s H D o hx hl s4 k⟩
/-- never reached -/
theorem bj_never {ss : List Stmt} : BJ X ss tNever G (none : Option O) P := ⟨pss_never, fun B Hi T tv s H D o hx => by cases hx⟩
/-- return e -/
theorem bj_ret [Rq ρ] {inj : ρ → O} [Rt P (PR (ρ := ρ)) inj] {m : Option ρ} (h : EJ X e t G m) : BJ X (.Return (some e) pos :: []) (tSeq (tRet t) tNext) G (m.bind fun r => some (inj r)) P := ⟨pss_cons (ps_ret h.pe) pss_nil, fun B Hi T tv s H D o hx hl hs k => by
  obtain ⟨r, e1, e2⟩ := bind_some hx
  cases e2
  exact h.ev B Hi T tv s H _ r e1 hl hs fun v Hi' H' s' rr => Rt.rt (P := P) (Pr := PR (ρ := ρ)) (inj := inj) r B T tv D k v Hi' H' s'.bare rr⟩
/-- return of our own list by its name -/
theorem bj_retV [Rq ρ] {xs : List ρ} {inj : List ρ → O} [Rt P (PO (ρ := ρ)) inj] (i : Nat) (hi : G[i]? = some (ol xs) := by rfl) (hN : X.N[i]? = some n := by rfl) (hv : Vis X.env.scope n := by first | exact Or.inl rfl | exact Or.inr (Or.inl rfl) | exact Or.inr (Or.inr rfl))
    (hd : (n == ("__debug__" : Str)) = false := by decide) (hcd : (n == ("__classdict__" : Str)) = false := by decide) {p2 : Pos} : BJ X (.Return (some (.Name n p2)) pos :: []) (tSeq (tRet (tVar i)) tNext) G (some (inj xs)) P := ⟨pss_cons (ps_ret (pe_var hN hv hd hcd)) pss_nil, fun B Hi T tv s H D o hx hl hs k => by
  cases hx
  obtain ⟨q, w, h1, h2, h3, h6, up⟩ := hs.ownT hl hi
  have z := hs.front (i := T.length + i) (by rw [get_app]; exact hi)
  rw [set_app, ← hl, get_app, h1] at z
  exact ⟨.ref q, h1, Rt.rt (P := P) (Pr := PO (ρ := ρ)) (inj := inj) xs B T tv D k q Hi H z.bare1⟩⟩
/-- return e, e a list that stands still or that is new, into a list that is wanted still -/
theorem bj_retU {j p2} {inj : Unit → O} [Rt P PU inj] : BJ X (.Return (some (.Constant .none j p2)) pos :: []) (tSeq (tRet (tC .non)) tNext) G (some (inj ())) P := ⟨pss_cons (ps_ret pe_non) pss_nil, fun B Hi T tv s H D o hx hl hs k => by
  cases hx
  exact (Rt.rt (P := P) (Pr := PU) (inj := inj) () B T tv D k).1 Hi H hs.bare⟩
/-- target = e -/
theorem bj_asgG [Rq α] {tg : Expr} {g : TG} {f : α → List SV → List SV} {ids : List Nat} {m1 : Option α} {m2 : α → Option O} (hg : GJ X tg g f ids) (h : EJ X e t G m1) (hr : ∀ x, BJ X rest u (f x G) (m2 x) P)
    (hs : swapsWithSole [tg] e pos.line X.env = pure false := by rfl) (hw : swappedStores [tg] e X.env = pure none := by rfl) (h1 : (assignEach [tg] X.env).map (·.2) = [assign tg X.env] := by rfl) (x0 : α) :
    BJ X (.Assign [tg] e pos :: rest) (tSeq (tAsg t g) u) G (m1.bind m2) P := ⟨pss_cons (ps_asg h.pe hg.pg hs hw h1) (hr x0).ps, fun B Hi T tv s H D o hx hl hs k => by
  obtain ⟨x, e1, e2⟩ := bind_some hx
  refine h.ev B Hi T tv s H _ x e1 hl hs fun v Hi1 H1 s1 r1 => ?_
  refine hg.ev B Hi1 T tv s H1 G v x _ hl s1 r1 fun s' s2 _ => ?_
  exact (hr x).ev B Hi1 T tv s' H1 D o e2 hl s2 k⟩
/-- name = e -/
theorem bj_asg [Rq α] {m1 : Option α} {m2 : α → Option O} (hN : X.N.Nodup) (i : Nat) (h : EJ X e t G m1) (x0 : α) (hr : ∀ x, BJ X rest u (G.set i (fz x)) (m2 x) P) {p2 : Pos}
    (hi : X.N[i]? = some n := by rfl) (hx : Loc X.env.scope n := by first | exact Or.inl rfl | exact Or.inr rfl) (hs : swapsWith e (some (.Name n p2)) pos.line X.env = pure false := by rfl) (hf : X.fn n = true ∨ X.env.scope.names.lookup n = some .local := by first | exact .inl rfl | exact .inr rfl | assumption) :
    BJ X (.Assign [.Name n p2] e pos :: rest) (tSeq (tAsg t (gName i)) u) G (m1.bind m2) P := ⟨pss_cons (ps_set hN hi hx h.pe hs hf) (hr x0).ps, fun B Hi T tv s H D o hx hl hs k => by
  obtain ⟨x, e1, e2⟩ := bind_some hx
  refine h.ev B Hi T tv s H _ x e1 hl hs fun v Hi1 H1 s1 r1 => ?_
  have s2 : SatG B Hi1 (fz x :: (T ++ G)) (some v :: (tv ++ s)) H1 := ⟨⟨v, rfl, r1⟩, s1⟩
  exact (hr x).ev B Hi1 T tv _ H1 D o e2 hl (s2.putT hl) k⟩
theorem bj_asgO [Rq α] {m1 : Option (List α)} {m2 : List α → Option O} (hN : X.N.Nodup) (i : Nat) (h : OJ X e t G m1) (hr : ∀ x, BJ X rest u (G.set i (ol x)) (m2 x) P) {p2 : Pos}
    (hi : X.N[i]? = some n := by rfl) (hx : Loc X.env.scope n := by first | exact Or.inl rfl | exact Or.inr rfl) (hs : swapsWith e (some (.Name n p2)) pos.line X.env = pure false := by rfl) (hf : X.fn n = true ∨ X.env.scope.names.lookup n = some .local := by first | exact .inl rfl | exact .inr rfl | assumption) :
    BJ X (.Assign [.Name n p2] e pos :: rest) (tSeq (tAsg t (gName i)) u) G (m1.bind m2) P := ⟨pss_cons (ps_set hN hi hx h.pe hs hf) (hr []).ps, fun B Hi T tv s H D o hx hl hs k => by
  obtain ⟨x, e1, e2⟩ := bind_some hx
  refine h.ev B Hi T tv s H _ x e1 hl hs fun q Hi1 H1 s1 => ?_
  exact (hr x).ev B Hi1 T tv _ H1 D o e2 hl (s1.putT hl) k⟩
/-- name = [..] -/
structure LCJ [Rq β] (X : Cx) (i : Nat) (y : Str) (py : Pos) (e : Expr) (spos : Pos) (t : TE) (G : List SV) (m : Option (List β)) : Prop where
  ps : PS X (.Assign [.Name y py] e spos) (tAsg t (gName i))
  ev : OvJ t G m
theorem bj_asgLc [Rq α] {m1 : Option (List α)} {m2 : List α → Option O} {i : Nat} {p2 : Pos} (h : LCJ X i n p2 e pos t G m1) (hr : ∀ x, BJ X rest u (G.set i (ol x)) (m2 x) P) :
    BJ X (.Assign [.Name n p2] e pos :: rest) (tSeq (tAsg t (gName i)) u) G (m1.bind m2) P := ⟨pss_cons h.ps (hr []).ps, fun B Hi T tv s H D o hx hl hs k => by
  obtain ⟨x, e1, e2⟩ := bind_some hx
  refine h.ev B Hi T tv s H _ x e1 hl hs fun q Hi1 H1 s1 => ?_
  exact (hr x).ev B Hi1 T tv _ H1 D o e2 hl (s1.putT hl) k⟩
variable {elt tg iter : Expr} {ifs : List Expr} {scope : Scope} {own : List (Str × Nat)} {w : TI} {g : TG} {tt : TT}
theorem lcj [Rq α] [Rq β] {C} {m1 : Option (List α)} {f : α → List SV → List SV} {ids : List Nat} {me : α → Option β} {i : Nat} {y : Str} {py spos : Pos} (x0 : α) (hcalm : X.calm = true) (hN : X.N.Nodup) (hy : X.N[i]? = some y) (hyl : X.env.scope.names.lookup y = some .local) (hsw : swapsWith (.ListComp elt [⟨tg, iter, [], 0⟩] scope pos) (some (.Name y py)) spos.line X.env = pure true)
    (hi : IJ C X tg iter w G m1) (ok : BlkOk X.N X.env.scope scope own)
    (hg : ∀ (s : Shared) (H : Hp) (C : Addr) (cl : List (Str × Addr)) (fp : List Addr), GJ (X.blk s H scope (compEnvC scope cl C X.env) fp) tg g f ids)
    (he : ∀ (x : α) (s : Shared) (H : Hp) (C : Addr) (cl : List (Str × Addr)) (fp : List Addr), EJ (X.blk s H scope (compEnvC scope cl C X.env) fp) elt te (f x G) (me x))
    (hids : ∀ i ∈ ids, i ∈ own.map (·.2) := by decide) (hw0 : wipeG G (own.map (·.2)) = G := by rfl) (hw : ∀ x, wipeG (f x G) (own.map (·.2)) = G := by intro _; rfl) (hs : ∀ x, foldedSetIterable iter X.env x = pure x := by intro _; rfl) :
    LCJ X i y py (.ListComp elt [⟨tg, iter, [], 0⟩] scope pos) spos (tLc w g tYes te (own.map (·.2))) G (m1.bind fun xs => mapO xs me) :=
  ⟨ps_setLc hcalm hN hy hyl hsw hi.pi ok (fun s H C cl fp => (hg s H C cl fp).pg) (fun s H C cl fp => pts_nil) (fun s H C cl fp => (he x0 s H C cl fp).pe) hs, (oj_lc (pos := pos) x0 hcalm hN hi ok hg he hids hw0 hw hs).ev⟩
theorem lcjT [Rq α] [Rq β] {C} {m1 : Option (List α)} {f : α → List SV → List SV} {ids : List Nat} {mc : α → Option Bool} {me : α → Option β} {i : Nat} {y : Str} {py spos : Pos} (x0 : α) (hcalm : X.calm = true) (hN : X.N.Nodup) (hy : X.N[i]? = some y) (hyl : X.env.scope.names.lookup y = some .local) (hsw : swapsWith (.ListComp elt [⟨tg, iter, [c], 0⟩] scope pos) (some (.Name y py)) spos.line X.env = pure true)
    (hi : IJ C X tg iter w G m1) (ok : BlkOk X.N X.env.scope scope own)
    (hg : ∀ (s : Shared) (H : Hp) (C : Addr) (cl : List (Str × Addr)) (fp : List Addr), GJ (X.blk s H scope (compEnvC scope cl C X.env) fp) tg g f ids)
    (ht : ∀ (x : α) (s : Shared) (H : Hp) (C : Addr) (cl : List (Str × Addr)) (fp : List Addr), TJ (X.blk s H scope (compEnvC scope cl C X.env) fp) c tt (f x G) (mc x))
    (he : ∀ (x : α) (s : Shared) (H : Hp) (C : Addr) (cl : List (Str × Addr)) (fp : List Addr), EJ (X.blk s H scope (compEnvC scope cl C X.env) fp) elt te (f x G) (me x))
    (hids : ∀ i ∈ ids, i ∈ own.map (·.2) := by decide) (hw0 : wipeG G (own.map (·.2)) = G := by rfl) (hw : ∀ x, wipeG (f x G) (own.map (·.2)) = G := by intro _; rfl) (hs : ∀ x, foldedSetIterable iter X.env x = pure x := by intro _; rfl) :
    LCJ X i y py (.ListComp elt [⟨tg, iter, [c], 0⟩] scope pos) spos (tLc w g tt te (own.map (·.2))) G (m1.bind fun xs => filO xs mc me) :=
  ⟨ps_setLc hcalm hN hy hyl hsw hi.pi ok (fun s H C cl fp => (hg s H C cl fp).pg) (fun s H C cl fp => pts_one (ht x0 s H C cl fp).pt) (fun s H C cl fp => (he x0 s H C cl fp).pe) hs, (oj_lcT (pos := pos) x0 hcalm hN hi ok hg ht he hids hw0 hw hs).ev⟩
/-- a, b = e1, e2 -/
theorem bj_par [Rq α] [Rq β] {m : Option (α × β × Unit)} {m2 : α × β × Unit → Option O} (hc : X.calm = true) (hN : X.N.Nodup) (i j : Nat) {x y : Str} {px py pt : Pos} {kt k2 pt2} (ha : AJ X [a, b] tr G m) (x0 : α × β × Unit) (hr : ∀ z, BJ X rest u ((G.set i (fz z.1)).set j (fz z.2.1)) (m2 z) P)
    (hi : X.N[i]? = some x := by rfl) (hj : X.N[j]? = some y := by rfl) (hij : i ≠ j := by decide) (hx : X.env.scope.names.lookup x = some .local := by rfl) (hy : X.env.scope.names.lookup y = some .local := by rfl)
    (hw : swappedStores [.Tuple [.Name x px, .Name y py] kt pt] (.Tuple [a, b] k2 pt2) X.env = pure (some [x, y]) := by rfl) (hs : swapsWithSole [.Tuple [.Name x px, .Name y py] kt pt] (.Tuple [a, b] k2 pt2) pos.line X.env = pure false := by rfl) :
    BJ X (.Assign [.Tuple [.Name x px, .Name y py] kt pt] (.Tuple [a, b] k2 pt2) pos :: rest) (tSeq (tPar i j tr) u) G (m.bind m2) P := ⟨pss_cons (ps_par hc hN hi hj hij hx hy ha.pa hw hs) (hr x0).ps, fun B Hi T tv s H D o hx hl hs k => by
  obtain ⟨z, e1, e2⟩ := bind_some hx
  refine ha.ev B Hi T tv s H _ z e1 hl hs fun vs Hi1 H1 s1 r1 => ?_
  obtain ⟨v1, us, rfl, h1, v2, us2, rfl, h2, h3⟩ := r1
  cases h3
  refine ⟨v1, v2, rfl, ?_⟩
  have s2 : SatG B Hi1 (fz z.1 :: (T ++ G)) (some v1 :: (tv ++ s)) H1 := ⟨⟨v1, rfl, h1⟩, s1⟩
  have s3 : SatG B Hi1 (fz z.2.1 :: (T ++ G.set i (fz z.1))) (some v2 :: (tv ++ s.set i (some v1))) H1 := ⟨⟨v2, rfl, h2⟩, s2.putT hl⟩
  exact (hr z).ev B Hi1 T tv _ H1 D o e2 hl (s3.putT hl) k⟩
/-- xs[i] = e, xs our own -/
def setC (xs : List α) (i : Int) (x : α) : Option (List α) := (ixN xs.length i).bind fun j => some (xs.set j x)
theorem setC_is {xs : List α} {i : Int} {x : α} {ys : List α} (h : setC xs i x = some ys) : ∃ j, ixN xs.length i = some j ∧ ys = xs.set j x := by
  obtain ⟨j, h1, h2⟩ := bind_some h
  cases h2
  exact ⟨j, h1, rfl⟩
/-- xs.append(e) -/
def appC (xs : List α) (x : α) : Option (List α) := if xs.length < sizeLine then some (xs ++ [x]) else none
theorem appC_is {xs ys : List α} {x : α} (h : appC xs x = some ys) : xs.length < sizeLine ∧ ys = xs ++ [x] := by
  unfold appC at h
  by_cases q : xs.length < sizeLine
  · rw [if_pos q] at h; cases h; exact ⟨q, rfl⟩
  · rw [if_neg q] at h; cases h
/-- a method of our own list that changes it: by its rule -/
theorem bj_meth1 [Rq α] [Rq β] {xs : List α} {m1 : Option β} {m3 : List α → Option O} {f : List α → β → Option (List α)} {name : Str} {id : String} {r : V → List V → Hp → VK → Prop} (l : Nat) (slot : Slot "list" name id) (hty : typeOf (.builtin id) = pure (.type "method_descriptor")) (hm : MtR X id r)
    (hf : ∀ q Hi H xs y vs v ys (Q : VK), Same Hi H → H q = some (.lst vs) → vs.length ≤ sizeLine → Paired (rq Hi) xs vs → rq Hi y v → f xs y = some ys → (∀ us w, us.length ≤ sizeLine → Paired (rq Hi) ys us → Q w (upd H q (.lst us))) → r (.ref q) [v] H Q)
    (h : EJ X e t G m1) (hr : ∀ ys, BJ X rest u (G.set l (ol ys)) (m3 ys) P) {p2 apos cpos : Pos} (hg : G[l]? = some (ol xs) := by rfl)
    (hN : X.N[l]? = some n := by rfl) (hv : Vis X.env.scope n := by first | exact Or.inl rfl | exact Or.inr (Or.inl rfl) | exact Or.inr (Or.inr rfl)) (hd : (n == ("__debug__" : Str)) = false := by decide) (hcd : (n == ("__classdict__" : Str)) = false := by decide)
    (hbase : attributeBase (.Name n p2) name X.env (eval (.Name n p2) X.env) = eval (.Name n p2) X.env := by rfl)
    (hfew : ((backTo cpos (starEach [e] X.env)).all (fun x => !x.1) && (backToKw cpos (keywordEach [] X.env)).all (fun x => x.1.isSome) && decide ([e].length + ([] : List Keyword).length + (if ([] : List Keyword).isEmpty then 0 else 1) < 30)) = true := by rfl)
    (hline : (apos.endLine == cpos.line) = true := by rfl) (hst : starEach [e] X.env = (false, eval e X.env) :: starEach [] X.env := by rfl) (hplain : (backTo cpos (starEach [] X.env)).any (·.1) = false := by rfl) (hsw : swapsWith (.Call (.Attribute (.Name n p2) name apos) [e] [] cpos) none pos.line X.env = pure false := by rfl) :
    BJ X (.Expr (.Call (.Attribute (.Name n p2) name apos) [e] [] cpos) pos :: rest) (tSeq (tDrop (tBM X.K "list" r (tVar l) (tCons t tNil))) u) G (m1.bind fun y => (f xs y).bind m3) P :=
  ⟨pss_cons (ps_expr (pe_bm PySem.F.plainAttrs_list slot hty hm (pe_var hN hv hd hcd) (pa_cons h.pe pa_nil hst) hbase hfew hline hst hplain) hsw) (hr []).ps, fun B Hi T tv s H D o hx hl hs k => by
  obtain ⟨y, e1, hx⟩ := bind_some hx
  obtain ⟨ys, e3, e4⟩ := bind_some hx
  obtain ⟨q, w, h1, h2, ⟨vs, h3, h4, h5⟩, h6, up⟩ := hs.ownT hl hg
  subst h3
  refine ⟨.ref q, h1, .inl ⟨rfl, _, SqL.of h2⟩, ?_⟩
  refine h.ev B Hi T tv s H _ y e1 hl hs fun v Hi2 H2 s2 r2 => ?_
  obtain ⟨q', w', g1, g2, ⟨us, g3, g4, g5⟩, g6, up⟩ := s2.ownT hl hg
  rw [h1] at g1
  cases g1
  subst g3
  refine hf q Hi2 H2 xs y us v ys _ s2.sub g2 g4 g5 r2 e3 fun ws z z1 z2 => ?_
  have s3 := up (.lst ws) (isL ys) (fun _ _ _ e ⟨vs, h1, h2, h3⟩ => ⟨vs, h1, h2, Paired.mono h3 fun _ _ => Rq.mono e⟩) ⟨_, rfl, z1, z2⟩
  exact (hr _).ev B Hi2 T tv s _ D o e4 hl s3 k⟩
theorem app_ok [Rq α] (q : Addr) (Hi H : Hp) (xs : List α) (y : α) (vs : List V) (v : V) (ys : List α) (Q : VK) (sm : Same Hi H) (h : H q = some (.lst vs)) (hz : vs.length ≤ sizeLine) (hp : Paired (rq Hi) xs vs) (r : rq Hi y v) (hf : appC xs y = some ys)
    (k : ∀ us w, us.length ≤ sizeLine → Paired (rq Hi) ys us → Q w (upd H q (.lst us))) : rAppend (.ref q) [v] H Q := by
  obtain ⟨h1, h2⟩ := appC_is hf
  subst h2
  rw [Paired.length hp] at h1
  exact ⟨q, vs, v, rfl, rfl, h, h1, k _ _ (by rw [List.length_append]; exact h1) (Paired.snoc hp r)⟩
/-- xs.extend(ys) -/
theorem ext_ok {xs ys zs : List α} (h : catC xs ys = some zs) : xs.length + ys.length ≤ sizeLine ∧ zs = xs ++ ys := by
  unfold catC at h
  by_cases q : xs.length + ys.length ≤ sizeLine
  · rw [if_pos q] at h; cases h; exact ⟨q, rfl⟩
  · rw [if_neg q] at h; cases h
theorem bj_extend [Rq α] {xs : List α} {m1 : Option (List α)} {m3 : List α → Option O} (l : Nat) (h : EJ X e t G m1) (hr : ∀ ys, BJ X rest u (G.set l (ol ys)) (m3 ys) P) {p2 apos cpos : Pos} (hg : G[l]? = some (ol xs) := by rfl)
    (hN : X.N[l]? = some n := by rfl) (hv : Vis X.env.scope n := by first | exact Or.inl rfl | exact Or.inr (Or.inl rfl) | exact Or.inr (Or.inr rfl)) (hd : (n == ("__debug__" : Str)) = false := by decide) (hcd : (n == ("__classdict__" : Str)) = false := by decide)
    (hbase : attributeBase (.Name n p2) "extend" X.env (eval (.Name n p2) X.env) = eval (.Name n p2) X.env := by rfl)
    (hfew : ((backTo cpos (starEach [e] X.env)).all (fun x => !x.1) && (backToKw cpos (keywordEach [] X.env)).all (fun x => x.1.isSome) && decide ([e].length + ([] : List Keyword).length + (if ([] : List Keyword).isEmpty then 0 else 1) < 30)) = true := by rfl)
    (hline : (apos.endLine == cpos.line) = true := by rfl) (hst : starEach [e] X.env = (false, eval e X.env) :: starEach [] X.env := by rfl) (hplain : (backTo cpos (starEach [] X.env)).any (·.1) = false := by rfl) (hsw : swapsWith (.Call (.Attribute (.Name n p2) "extend" apos) [e] [] cpos) none pos.line X.env = pure false := by rfl) :
    BJ X (.Expr (.Call (.Attribute (.Name n p2) "extend" apos) [e] [] cpos) pos :: rest) (tSeq (tDrop (tBM X.K "list" rExtend (tVar l) (tCons t tNil))) u) G (m1.bind fun y => (catC xs y).bind m3) P :=
  bj_meth1 (f := catC) l PySem.F.slot_list_extend PySem.F.type_list_extend mt_extend (fun q Hi H xs y vs v ys Q sm h1 h2 h3 h4 h5 k => by
    obtain ⟨hz, e5⟩ := ext_ok h5
    subst e5
    obtain ⟨b, us, g1, g2, g3, g4⟩ := h4
    rw [Paired.length h3, Paired.length g4] at hz
    exact ⟨q, b, vs, us, rfl, by rw [g1], h1, sm _ _ g2, hz, k _ _ (by rw [List.length_append]; exact hz) (Paired.append h3 g4)⟩) h hr hg hN hv hd hcd hbase hfew hline hst hplain hsw
/-- if -/
theorem bj_if {tc' : TT} {tA tB : TS} {aS bS : List Stmt} {mc : Option Bool} {ma mb : Option O} (hc : TJ X c tc' G mc) (ha : BJ X aS tA G ma P) (hb : BJ X bS tB G mb P) : BJ X (.If c aS bS pos :: []) (tSeq (tIfS tc' tA tB) tNext) G (mc.bind fun x => if x = true then ma else mb) P :=
  ⟨by
    have h := pss_cons (ps_if (pos := pos) hc.pt ha.ps hb.ps) (pss_nil (X := X))
    exact h, fun B Hi T tv s H D o hx hl hs k => by
    obtain ⟨x, e1, e2⟩ := bind_some hx
    refine hc.ev B Hi T tv s H _ x e1 hl hs fun Hi1 H1 s1 => ?_
    cases x with
    | true =>
      rw [if_pos rfl] at e2 ⊢
      exact ha.ev B Hi1 T tv s H1 D o e2 hl s1 k
    | false =>
      rw [if_neg Bool.false_ne_true] at e2 ⊢
      exact hb.ev B Hi1 T tv s H1 D o e2 hl s1 k⟩
/-- if, the first way never goes on -/
theorem bj_ifX {tc' : TT} {tA : TS} {aS : List Stmt} {mc : Option Bool} {ma mr : Option O} [Out P Px] (hc : TJ X c tc' G mc) (ha : BJ X aS tA G ma Px) (hr : BJ X rest u G mr P) : BJ X (.If c aS [] pos :: rest) (tSeq (tIfS tc' tA tNext) u) G (mc.bind fun x => if x = true then ma else mr) P :=
  ⟨pss_cons (ps_if hc.pt ha.ps pss_nil) hr.ps, fun B Hi T tv s H D o hx hl hs k => by
    obtain ⟨x, e1, e2⟩ := bind_some hx
    refine hc.ev B Hi T tv s H _ x e1 hl hs fun Hi1 H1 s1 => ?_
    cases x with
    | true =>
      rw [if_pos rfl] at e2 ⊢
      exact ha.ev B Hi1 T tv s H1 _ o e2 hl s1 (Out.out (P := P) (Px := Px) o B T tv D _ k)
    | false =>
      rw [if_neg Bool.false_ne_true] at e2 ⊢
      exact hr.ev B Hi1 T tv s H1 D o e2 hl s1 k⟩
/-- if, both ways meet -/
theorem bj_ifJ {tc' : TT} {tA tB : TS} {aS bS : List Stmt} {N : S → List SV} {mc : Option Bool} {ma mb : Option S} {mr : S → Option O} (hc : TJ X c tc' G mc) (ha : BJ X aS tA G ma (PN N)) (hb : BJ X bS tB G mb (PN N)) (s0 : S) (hr : ∀ st, BJ X rest u (N st) (mr st) P) :
    BJ X (.If c aS bS pos :: rest) (tSeq (tIfS tc' tA tB) u) G ((mc.bind fun x => if x = true then ma else mb).bind mr) P :=
  ⟨pss_cons (ps_if hc.pt ha.ps hb.ps) (hr s0).ps, fun B Hi T tv s H D o hx hl hs k => by
    obtain ⟨st, hx, e3⟩ := bind_some hx
    obtain ⟨x, e1, e2⟩ := bind_some hx
    refine hc.ev B Hi T tv s H _ x e1 hl hs fun Hi1 H1 s1 => ?_
    cases x with
    | true =>
      rw [if_pos rfl] at e2 ⊢
      exact ha.ev B Hi1 T tv s H1 _ st e2 hl s1 fun s' Hi' H' q => (hr st).ev B Hi' T tv s' H' D o e3 hl q k
    | false =>
      rw [if_neg Bool.false_ne_true] at e2 ⊢
      exact hb.ev B Hi1 T tv s H1 _ st e2 hl s1 fun s' Hi' H' q => (hr st).ev B Hi' T tv s' H' D o e3 hl q k⟩
def forF (xs : List α) (s : S) (f : α → S → Option (Fl S R)) : Option (Fl S R) := match xs with
  | [] => some (.go s)
  | x :: xs => (f x s).bind fun r => match r with
    | .go s' => forF xs s' f
    | .stop s' => some (.stop s')
    | .ret r => some (.ret r)
def forS (xs : List α) (s : S) (f : α → S → Option S) : Option S := match xs with
  | [] => some s
  | x :: xs => (f x s).bind fun s' => forS xs s' f
/-- behind a loop -/
def flR (A : S → Option O) (inj : R → O) : Fl S R → Option O
  | .go s => A s
  | .stop s => A s
  | .ret r => some (inj r)
theorem bj_forF {C} {tB : TS} {body : List Stmt} [Rq α] {f : α → List SV → List SV} {ids : List Nat} {N : S → List SV} {Pr : Post R} [RtOnly Pr] {m1 : Option (List α)} {mb : α → S → Option (Fl S R)} {mr : S → Option O} {inj : R → O} [Rt P Pr inj] (hc : X.calm = true) (s0 : S) (x0 : α)
    (hi : IJ C X tg iter w G m1) (hC : ∀ L s s', C L s s') (hg : GJ X tg g f ids) (w0 : Wk G (N s0)) (hb : ∀ x st, BJ X body tB (f x (N st)) (mb x st) (PL N Pr)) (hr : ∀ st, BJ X rest u (N st) (mr st) P)
    (hp : PassesOwn (model X.prog X.w) X.A X.env X.xe) (hs : ∀ x, foldedSetIterable iter X.env x = pure x := by intro _; rfl) :
    BJ X (.For tg iter body [] pos :: rest) (tSeq (tFor w g tB) u) G (m1.bind fun xs => (forF xs s0 mb).bind (flR mr inj)) P :=
  ⟨pss_cons (ps_for hp hc hi.pi hg.pg (hb x0 s0).ps hs) (hr s0).ps, fun B Hi T tv s H D o hx hl hs k => by
    obtain ⟨xs, e1, hx⟩ := bind_some hx
    obtain ⟨fr, e2, e3⟩ := bind_some hx
    refine hi.ev B Hi T tv s H _ xs e1 hl hs fun J T' tv' Hi1 H1 l1 s1 hz hT hwalk => ?_
    -- a state from which what is left of the loop gives fr
    refine ⟨fun i m σ H2 => m = xs.length - i ∧ i ≤ xs.length ∧ ∃ Hi2 st, SatG B Hi2 (T' ++ N st) (tv' ++ σ) H2 ∧ forF (xs.drop i) st mb = some fr, ⟨xs.length, by simp, Nat.zero_le _, Hi1, s0, s1.wkT l1 w0, by simpa using e2⟩, ?_⟩
    rintro i m σ H2 ⟨rfl, hi2, Hi2, st, s2, e4⟩
    obtain ⟨stp, go⟩ := hwalk [] [] (N st) σ Hi2 H2 rfl (hC _ _ _) s2
    have after : ∀ {Hi3 H3 : Hp} {σ3 : L2.St} {st3 : S}, SatG B Hi3 (T' ++ N st3) (tv' ++ σ3) H3 → mr st3 = some o → u D σ3 H3 := fun {Hi3 H3 σ3 st3} q eq => (hr st3).ev B Hi3 T tv σ3 H3 D o eq hl (hT _ _ _ _ q) k
    by_cases hlt : i < xs.length
    · refine .inr ?_
      have hxi : xs[i]? = some xs[i] := by simp [hlt]
      obtain ⟨go1, go2⟩ := go i xs[i] hxi
      have hdr : xs.drop i = xs[i] :: xs.drop (i + 1) := by rw [List.drop_eq_getElem_cons hlt]
      rw [hdr] at e4
      obtain ⟨r, e5, e6⟩ := bind_some e4
      refine ⟨go1, fun σ3 H3 => ∃ Hi3 st3, SatG B Hi3 (T' ++ N st3) (tv' ++ σ3) H3 ∧ forF (xs.drop (i + 1)) st3 mb = some fr, fun σ3 H3 ⟨Hi3, st3, q1, q2⟩ => ⟨xs.length - (i + 1), by omega, rfl, hlt, Hi3, st3, q1, q2⟩, fun v H3 hy => ?_⟩
      obtain ⟨Hi3, s3, r3⟩ := go2 v H3 hy
      refine hg.ev B Hi3 T' tv' σ H3 (N st) v xs[i] _ l1 s3 r3 fun s' s4 _ => ?_
      refine (hb xs[i] st).ev B Hi3 T' tv' s' H3 _ r e5 l1 s4 ?_
      cases r with
      | go st3 => exact fun s5 Hi5 H5 q => ⟨⟨Hi5, st3, q, e6⟩, ⟨Hi5, st3, q, e6⟩⟩
      | stop st3 =>
        cases e6
        exact fun s5 Hi5 H5 q => after q e3
      | ret rr =>
        cases e6
        cases e3
        exact RtOnly.mv (Pr := Pr) rr B T T' tv tv' D _ rfl (Rt.rt (P := P) (Pr := Pr) (inj := inj) rr B T tv D k)
    · have e : i = xs.length := by omega
      subst e
      rw [List.drop_length] at e4
      cases e4
      exact .inl ⟨stp, after s2 e3⟩⟩
theorem bj_for {C} {tB : TS} {body : List Stmt} [Rq α] {f : α → List SV → List SV} {ids : List Nat} {N : S → List SV} {m1 : Option (List α)} {mb : α → S → Option S} {mr : S → Option O} (hc : X.calm = true) (s0 : S) (x0 : α)
    (hi : IJ C X tg iter w G m1) (hC : ∀ L s s', C L s s') (hg : GJ X tg g f ids) (w0 : Wk G (N s0)) (hb : ∀ x st, BJ X body tB (f x (N st)) (mb x st) (PP N)) (hr : ∀ st, BJ X rest u (N st) (mr st) P)
    (hp : PassesOwn (model X.prog X.w) X.A X.env X.xe) (hs : ∀ x, foldedSetIterable iter X.env x = pure x := by intro _; rfl) :
    BJ X (.For tg iter body [] pos :: rest) (tSeq (tFor w g tB) u) G (m1.bind fun xs => (forS xs s0 mb).bind mr) P :=
  ⟨pss_cons (ps_for hp hc hi.pi hg.pg (hb x0 s0).ps hs) (hr s0).ps, fun B Hi T tv s H D o hx hl hs k => by
    obtain ⟨xs, e1, hx⟩ := bind_some hx
    obtain ⟨fr, e2, e3⟩ := bind_some hx
    refine hi.ev B Hi T tv s H _ xs e1 hl hs fun J T' tv' Hi1 H1 l1 s1 hz hT hwalk => ?_
    refine ⟨fun i m σ H2 => m = xs.length - i ∧ i ≤ xs.length ∧ ∃ Hi2 st, SatG B Hi2 (T' ++ N st) (tv' ++ σ) H2 ∧ forS (xs.drop i) st mb = some fr, ⟨xs.length, by simp, Nat.zero_le _, Hi1, s0, s1.wkT l1 w0, by simpa using e2⟩, ?_⟩
    rintro i m σ H2 ⟨rfl, hi2, Hi2, st, s2, e4⟩
    obtain ⟨stp, go⟩ := hwalk [] [] (N st) σ Hi2 H2 rfl (hC _ _ _) s2
    by_cases hlt : i < xs.length
    · refine .inr ?_
      have hxi : xs[i]? = some xs[i] := by simp [hlt]
      obtain ⟨go1, go2⟩ := go i xs[i] hxi
      have hdr : xs.drop i = xs[i] :: xs.drop (i + 1) := by rw [List.drop_eq_getElem_cons hlt]
      rw [hdr] at e4
      obtain ⟨r, e5, e6⟩ := bind_some e4
      refine ⟨go1, fun σ3 H3 => ∃ Hi3 st3, SatG B Hi3 (T' ++ N st3) (tv' ++ σ3) H3 ∧ forS (xs.drop (i + 1)) st3 mb = some fr, fun σ3 H3 ⟨Hi3, st3, q1, q2⟩ => ⟨xs.length - (i + 1), by omega, rfl, hlt, Hi3, st3, q1, q2⟩, fun v H3 hy => ?_⟩
      obtain ⟨Hi3, s3, r3⟩ := go2 v H3 hy
      refine hg.ev B Hi3 T' tv' σ H3 (N st) v xs[i] _ l1 s3 r3 fun s' s4 _ => ?_
      exact (hb xs[i] st).ev B Hi3 T' tv' s' H3 _ r e5 l1 s4 fun s5 Hi5 H5 q => ⟨⟨Hi5, r, q, e6⟩, ⟨Hi5, r, q, e6⟩⟩
    · have e : i = xs.length := by omega
      subst e
      rw [List.drop_length] at e4
      cases e4
      exact .inl ⟨stp, (hr fr).ev B Hi2 T tv σ H2 D o e3 hl (hT _ _ _ _ s2) k⟩⟩
def whileS (n : Nat) (s : S) (c : S → Option Bool) (f : S → Option S) : Option S := match n with
  | 0 => none
  | n + 1 => (c s).bind fun b => if b = true then (f s).bind fun s' => whileS n s' c f else some s
theorem bj_while {tc' : TT} {tB : TS} {body : List Stmt} {N : S → List SV} {mc : S → Option Bool} {mb : S → Option S} {mr : S → Option O} (n : Nat) (s0 : S)
    (w0 : Wk G (N s0)) (hc : ∀ st, TJ X c tc' (N st) (mc st)) (hb : ∀ st, BJ X body tB (N st) (mb st) (PP N)) (hr : ∀ st, BJ X rest u (N st) (mr st) P) (hp : PassesOwn (model X.prog X.w) X.A X.env X.xe) :
    BJ X (.While c body [] pos :: rest) (tSeq (tWhile tc' tB) u) G ((whileS n s0 mc mb).bind mr) P :=
  ⟨pss_cons (ps_while hp (hc s0).pt (hb s0).ps) (hr s0).ps, fun B Hi T tv s H D o hx hl hs k => by
    obtain ⟨fr, e2, e3⟩ := bind_some hx
    refine ⟨fun m σ H2 => ∃ Hi2 st, SatG B Hi2 (T ++ N st) (tv ++ σ) H2 ∧ whileS m st mc mb = some fr, ⟨n, Hi, s0, hs.wkT hl w0, e2⟩, ?_⟩
    rintro m σ H2 ⟨Hi2, st, s2, e4⟩
    cases m with
    | zero => cases e4
    | succ m =>
      obtain ⟨bb, e5, e6⟩ := bind_some e4
      refine (hc st).ev B Hi2 T tv σ H2 _ bb e5 hl s2 fun Hi3 H3 s3 => ?_
      cases bb with
      | true =>
        rw [if_pos rfl] at e6 ⊢
        obtain ⟨r, e7, e8⟩ := bind_some e6
        refine ⟨fun σ4 H4 => ∃ Hi4 st4, SatG B Hi4 (T ++ N st4) (tv ++ σ4) H4 ∧ whileS m st4 mc mb = some fr, fun σ4 H4 ⟨Hi4, st4, q1, q2⟩ => ⟨m, Nat.lt_succ_self _, Hi4, st4, q1, q2⟩, ?_⟩
        exact (hb st).ev B Hi3 T tv σ H3 _ r e7 hl s3 fun s5 Hi5 H5 q => ⟨⟨Hi5, r, q, e8⟩, ⟨Hi5, r, q, e8⟩⟩
      | false =>
        rw [if_neg Bool.false_ne_true] at e6 ⊢
        cases e6
        exact (hr _).ev B Hi3 T tv σ H3 D o e3 hl s3 k⟩
end
end GM
namespace GM
open PySem PySem.Spec PyProof.Rows L2
structure CalB (P : Program) (w : World) (K : PySem.W.Frag) (mg : Str → Option Value) (base : Heap) (k : Nat) (x : Str) (sp : Sp) : Prop where
  ok : ∃ (f : Addr) (fd : FuncData) (ps : List Str), FnOk P w K mg base CX0 k f fd ps sp ∧ mg x = some (.ref f) ∧ PySem.W.keepIn K (.ref f) = true ∧ Binds K fd ps []
theorem CalB.at {X : Cx} {k : Nat} {x : Str} {sp : Sp} (C : CalB X.prog X.w X.K X.mg X.base k x sp) (hr : Room k X.A) : Cal X x sp := by
  obtain ⟨f, fd, ps, h1, h2, h3, h4⟩ := C.ok
  exact ⟨k, f, fd, ps, h1, hr, h2, h3, h4⟩
theorem CalB.mono {P : Program} {w : World} {K : PySem.W.Frag} {mg : Str → Option Value} {base : Heap} {j k : Nat} {x : Str} {sp : Sp} (C : CalB P w K mg base j x sp) (h : j ≤ k) : CalB P w K mg base k x sp := by
  obtain ⟨f, fd, ps, h1, h2, h3, h4⟩ := C.ok
  exact ⟨f, fd, ps, h1.mono h, h2, h3, h4⟩
theorem sat_uns {B : Bk} {Hi H : Hp} (h : SatG B Hi [] [] H) : ∀ n : Nat, SatG B Hi (List.replicate n .un) (List.replicate n none) H
  | 0 => h
  | n + 1 => sat_uns h n
section
variable {P : Program} {w : World} {K : PySem.W.Frag} {mg : Str → Option Value} {base : Heap} {x qual : Str} {st : Stmt} {f : Addr} {fd : FuncData} {N ps : List Str} {k : Nat} {τ ρ : Type}
/-- the slots at the entry -/
def gam [RpL τ] (N : List Str) (x : τ) : List SV := RpL.svs x ++ List.replicate (N.length - RpL.n τ) .un
theorem sat_start [RpL τ] {H Ha : Hp} {x : τ} {vs : List V} (e : Same Ha H) (h : RpL.reps Ha x vs) : SatG ⟨H, Ha⟩ Ha (gam N x) (start N vs) H := by
  unfold gam L2.start
  rw [RpL.len h]
  exact RpL.sat h (sat_uns ⟨e, Same.refl H, Same.refl Ha, fun _ _ _ => rfl⟩ _)
theorem fun_R [RpL τ] [Rq ρ] {F : τ → Option ρ} (Fn : Fun K x qual st f fd) (S : FnScope N ps (defScope st)) (hn : RpL.n τ = ps.length)
    (body : ∀ (cdv : Value) (A : Around) (outer : List Env) (s : Shared) (H : Hp) (E : XK), Room k (A.deeper (envOfC qual (defScope st) s.heap.objs.size f cdv)) →
      ∀ z : τ, ∃ t m, BJ (cxOf CX0 P w K mg base N qual (defScope st) f cdv A outer s H E).nox (defBody st) t (gam N z) m PR ∧ m = F z)
    (hm : mg x = some (.ref f)) (hb : Binds K fd ps []) : CalB P w K mg base (k + 1) x (SpR F) := by
  refine ⟨f, fd, ps, Fn.ok S (fun vs H Q E h => ?_) (fun cdv A outer s H vs Q E hr h => ?_), hm, Fn.kp, hb⟩
  · obtain ⟨Ha, z, r, h1, h2, _⟩ := h
    rw [RpL.len h2, hn]
  · obtain ⟨Ha, z, r, h1, h2, h3, h4⟩ := h
    obtain ⟨t, m, b, e⟩ := body cdv A outer s H E hr z
    subst e
    refine ⟨t, b.ps, b.ev ⟨H, Ha⟩ Ha [] [] (start N vs) H _ r h3 rfl (sat_start h1 h2) fun v Hi H' q1 q2 => ?_⟩
    obtain ⟨g1, g2, g3, g4⟩ := q1
    refine h4 v H' g2 (Rq.mono (fun a o e => ?_) q2)
    cases q : H a with
    | none => rw [join_none q]; exact g1 _ _ e
    | some u => rw [join_some q]; exact (g4 _ _ q).symm.trans e
theorem fun_O [RpL τ] [Rq ρ] {F : τ → Option (List ρ)} (Fn : Fun K x qual st f fd) (S : FnScope N ps (defScope st)) (hn : RpL.n τ = ps.length)
    (body : ∀ (cdv : Value) (A : Around) (outer : List Env) (s : Shared) (H : Hp) (E : XK), Room k (A.deeper (envOfC qual (defScope st) s.heap.objs.size f cdv)) →
      ∀ z : τ, ∃ t m, BJ (cxOf CX0 P w K mg base N qual (defScope st) f cdv A outer s H E).nox (defBody st) t (gam N z) m PO ∧ m = F z)
    (hm : mg x = some (.ref f)) (hb : Binds K fd ps []) : CalB P w K mg base (k + 1) x (SpO F) := by
  refine ⟨f, fd, ps, Fn.ok S (fun vs H Q E h => ?_) (fun cdv A outer s H vs Q E hr h => ?_), hm, Fn.kp, hb⟩
  · obtain ⟨Ha, z, r, h1, h2, _⟩ := h
    rw [RpL.len h2, hn]
  · obtain ⟨Ha, z, r, h1, h2, h3, h4⟩ := h
    obtain ⟨t, m, b, e⟩ := body cdv A outer s H E hr z
    subst e
    refine ⟨t, b.ps, b.ev ⟨H, Ha⟩ Ha [] [] (start N vs) H _ r h3 rfl (sat_start h1 h2) fun p Hi H' q1 => ?_⟩
    obtain ⟨p', F', e1, e2, ⟨_, rfl, us, rfl, e4, e5⟩, g1, g2, g3, g4⟩ := q1
    cases e1
    have e2 := e2 _ _ one_same
    rw [minus_one] at g1 g2
    have g2' : Same H (del H' p) := g2
    have hp : H p = none := same_none g2' del_same
    refine h4 p us H' (g2'.trans del_sub) hp e2 e4 (Paired.mono e5 fun _ _ => Rq.mono fun a o e => ?_)
    have ne : a ≠ p := fun z => by have := g1 _ _ e; rw [z, del_same] at this; cases this
    rw [del_ne ne]
    cases q : H a with
    | none => rw [join_none q]; exact del_sub _ _ (g1 _ _ e)
    | some u => rw [join_some q]; exact (g4 _ _ q).symm.trans e
/-- the law itself -/
def spLaw (K : PySem.W.Frag) : Sp := fun vs H Q _ => ∃ (a : Addr) (ns : List Int), vs = [.ref a] ∧ SqL K H a (ns.map V.int) ∧ ns.length ≤ 63 ∧ ∀ H', Q (.bl true) H'
theorem fun_law {F : List Int → Option Bool} (Fn : Fun K x qual st f fd) (S : FnScope N ps (defScope st)) (hn : 1 = ps.length)
    (body : ∀ (cdv : Value) (A : Around) (outer : List Env) (s : Shared) (H : Hp) (E : XK), Room k (A.deeper (envOfC qual (defScope st) s.heap.objs.size f cdv)) →
      ∀ z : Scr K × Unit, ∃ t m, BJ (cxOf CX0 P w K mg base N qual (defScope st) f cdv A outer s H E).nox (defBody st) t (gam N z) m PR ∧ m = F z.1.l)
    (holds : ∀ ns : List Int, ns.length ≤ 63 → F ns = some true) : FnOk P w K mg base CX0 (k + 1) f fd ps (spLaw K) := by
  refine Fn.ok S (fun vs H Q E h => ?_) (fun cdv A outer s H vs Q E hr h => ?_)
  · obtain ⟨a, ns, rfl, _⟩ := h
    exact hn
  · obtain ⟨a, ns, rfl, h1, h2, h3⟩ := h
    obtain ⟨t, m, b, e⟩ := body cdv A outer s H E hr (⟨ns⟩, ())
    have hz := holds ns h2
    refine ⟨t, b.ps, b.ev ⟨H, H⟩ H [] [] (start N [.ref a]) H _ true (e.trans hz) rfl (sat_start (x := ((⟨ns⟩ : Scr K), ())) (Same.refl H) ⟨.ref a, [], rfl, ⟨a, rfl, h1, h2⟩, rfl⟩) fun v Hi H' q1 q2 => ?_⟩
    cases q2
    exact h3 H'
end
end GM
namespace GM
open PySem PySem.Spec PyProof.Rows L2
instance {α β γ : Type} [Inhabited α] [Inhabited β] [Inhabited γ] : Inhabited (T3 α β γ) := ⟨⟨default, default, default⟩⟩
instance {α : Type} : Inhabited (Tp α) := ⟨⟨[]⟩⟩
instance {K : PySem.W.Frag} : Inhabited (Scr K) := ⟨⟨[]⟩⟩
instance {α β γ : Type} [DecidableEq α] [DecidableEq β] [DecidableEq γ] : DecidableEq (T3 α β γ) := fun x y =>
  if h : x.a = y.a ∧ x.b = y.b ∧ x.c = y.c then isTrue (by cases x; cases y; obtain ⟨h1, h2, h3⟩ := h; cases h1; cases h2; cases h3; rfl) else isFalse (fun e => h (by rw [e]; exact ⟨rfl, rfl, rfl⟩))
instance {α : Type} [DecidableEq α] : DecidableEq (Tp α) := fun x y => if h : x.l = y.l then isTrue (by cases x; cases y; cases h; rfl) else isFalse (fun e => h (by rw [e]))
def FU : Nat := 10 ^ 1000
class Da (α : Type) [Rq α] [DecidableEq α] where
  dat : α → PyData
  dep : Nat
  dp : ∀ {K : PySem.W.Frag} {H : Hp} {x : α} {v : V}, rq H x v → Dp K H v (dat x)
  hd : ∀ x : α, (dat x).depth ≤ dep
  lay : ∀ x : α, (dat x).canLay0 = true
  eqv : ∀ x y : α, PyData.eqv (dat x) (dat y) = decide (x = y)
instance : Da Int := ⟨.int, 0, fun h => by cases h; exact .int _, fun _ => Nat.le_refl _, fun _ => rfl, fun x y => Bool.beq_eq_decide_eq _ _⟩
instance : Da Bool := ⟨.bool, 0, fun h => by cases h; exact .bl _, fun _ => Nat.le_refl _, fun _ => rfl, fun x y => Bool.beq_eq_decide_eq _ _⟩
theorem da_all {α : Type} [Rq α] [DecidableEq α] [Da α] {K : PySem.W.Frag} {H : Hp} : ∀ {xs : List α} {vs : List V}, Paired (rq H) xs vs → DpAll K H vs (xs.map Da.dat)
  | _, _, .nil => .nil
  | _, _, .cons r t => .cons (Da.dp r) (da_all t)
theorem da_dep {α : Type} [Rq α] [DecidableEq α] [Da α] : ∀ xs : List α, PyData.depthAll (xs.map Da.dat) ≤ Da.dep α
  | [] => Nat.zero_le _
  | x :: xs => by
    show max (PyData.depth (Da.dat x)) (PyData.depthAll (xs.map Da.dat)) ≤ _
    exact Nat.max_le.mpr ⟨Da.hd x, da_dep xs⟩
theorem da_lay {α : Type} [Rq α] [DecidableEq α] [Da α] : ∀ xs : List α, PyData.canLayAll0 (xs.map Da.dat) = true
  | [] => rfl
  | x :: xs => by
    show (PyData.canLay0 (Da.dat x) && PyData.canLayAll0 (xs.map Da.dat)) = true
    rw [Da.lay, da_lay xs]; rfl
theorem da_eqv {α : Type} [Rq α] [DecidableEq α] [Da α] : ∀ xs ys : List α, PyData.eqvAll (xs.map Da.dat) (ys.map Da.dat) = decide (xs = ys)
  | [], [] => rfl
  | [], y :: ys => by rw [decide_eq_false (by intro h; cases h)]; rfl
  | x :: xs, [] => by rw [decide_eq_false (by intro h; cases h)]; rfl
  | x :: xs, y :: ys => by
    show (PyData.eqv (Da.dat x) (Da.dat y) && PyData.eqvAll (xs.map Da.dat) (ys.map Da.dat)) = _
    rw [Da.eqv, da_eqv xs ys, ← Bool.decide_and]
    exact dec_iff (by rw [List.cons.injEq])
instance {α : Type} [Rq α] [DecidableEq α] [Da α] : Da (List α) := ⟨fun xs => .list (xs.map Da.dat), Da.dep α + 1, fun h => by
    obtain ⟨a, vs, h1, h2, h3, h4⟩ := h
    subst h1
    exact .lst (SqL.of h2) (da_all h4), fun xs => by
    show PyData.depthAll (xs.map Da.dat) + 1 ≤ _
    exact Nat.succ_le_succ (da_dep xs), da_lay, fun xs ys => (da_eqv xs ys).trans rfl⟩
instance {α : Type} [Rq α] [DecidableEq α] [Da α] : Da (Tp α) := ⟨fun xs => .tuple (xs.l.map Da.dat), Da.dep α + 1, fun h => by
    obtain ⟨a, vs, h1, h2, h3, h4⟩ := h
    subst h1
    exact .tup (SqT.of h2) (da_all h4), fun xs => by
    show PyData.depthAll (xs.l.map Da.dat) + 1 ≤ _
    exact Nat.succ_le_succ (da_dep xs.l), fun xs => da_lay xs.l, fun xs ys => (da_eqv xs.l ys.l).trans (dec_iff ⟨fun h => by cases xs; cases ys; cases h; rfl, fun h => by rw [h]⟩)⟩
instance {α β : Type} [Rq α] [Rq β] [DecidableEq α] [DecidableEq β] [Da α] [Da β] : Da (α × β) := ⟨fun x => .tuple [Da.dat x.1, Da.dat x.2], max (Da.dep α) (Da.dep β) + 1, fun h => by
    obtain ⟨a, v1, v2, h1, h2, h3, h4⟩ := h
    subst h1
    exact .tup (SqT.of h2) (.cons (Da.dp h3) (.cons (Da.dp h4) .nil)), fun x => by
    show max (PyData.depth (Da.dat x.1)) (max (PyData.depth (Da.dat x.2)) 0) + 1 ≤ _
    have := Da.hd x.1
    have := Da.hd x.2
    omega, fun x => by
    show (PyData.canLay0 (Da.dat x.1) && (PyData.canLay0 (Da.dat x.2) && true)) = true
    rw [Da.lay, Da.lay]; rfl, fun x y => by
    show (PyData.eqv (Da.dat x.1) (Da.dat y.1) && (PyData.eqv (Da.dat x.2) (Da.dat y.2) && true)) = _
    rw [Da.eqv, Da.eqv, Bool.and_true, ← Bool.decide_and]
    exact dec_iff (by rw [Prod.ext_iff])⟩
section
variable {X : Cx} {e a b c : Expr} {es : List Expr} {t ta tb tc te : TE} {tr : TA} {G : List SV} {α β γ τ ρ O S R : Type} {pos p : Pos} {n : Str} {rest : List Stmt} {u ts : TS} {P Px : Post O}
theorem ev_eqD [Rq α] [DecidableEq α] [Da α] {K : PySem.W.Frag} {r : R2} {g : Bool → Bool} (hr : ∀ x y H Q, (∃ d e, Dp K H x d ∧ Dp K H y e ∧ SeqAt.shaped d = true ∧ SeqAt.shaped e = true ∧ Q (.bl (g (PyData.eqv d e))) H) → r x y H Q) (hd : Da.dep α ≤ 64) {m1 m2 : Option α} (ha : StJ wideU ta G m1) (hb : StJ wideU tb G m2) :
    EvJ (tOp r ta tb) G (m1.bind fun x => m2.bind fun y => some (g (decide (x = y)))) := fun B Hi T tv s H Q z hx hl hs k => by
  obtain ⟨x, e1, hx⟩ := bind_some hx
  obtain ⟨y, e2, e3⟩ := bind_some hx
  cases e3
  refine ha B Hi T tv s H _ x e1 hl hs fun vx T' tv' Hi1 H1 l1 s1 r1 => ?_
  refine hb B Hi1 T' tv' s H1 _ y e2 l1 s1 fun vy T'' tv'' Hi2 H2 l2 s2 r2 => ?_
  obtain ⟨s3, r3⟩ := r2 Hi2 H2 s2
  obtain ⟨s4, r4⟩ := r1 Hi2 H2 s3
  have w := wide_sub s4.sub
  have sh : ∀ x : α, SeqAt.shaped (Da.dat x) = true := fun x => by
    unfold SeqAt.shaped
    rw [Da.lay, decide_eq_true (Nat.le_trans (Da.hd x) hd)]; rfl
  exact hr _ _ _ _ ⟨Da.dat x, Da.dat y, Da.dp (Rq.mono w r4), Da.dp (Rq.mono w r3), sh x, sh y, k _ Hi2 H2 s4 (by rw [Da.eqv]; rfl)⟩
theorem ej_eqD [Rq α] [DecidableEq α] [Da α] {m1 m2 : Option α} (hu : X.A.units + 64 < cLine) (ha : WJ X a ta G m1) (hb : WJ X b tb G m2) (hd : Da.dep α ≤ 64 := by decide) : EJ X (.Compare a [.Eq] [b] pos) (tOp (rEqD X.K) ta tb) G (m1.bind fun x => m2.bind fun y => some (decide (x = y))) :=
  ⟨pe_cmpR (op_eqD hu) ha.pe hb.pe (nomark _), ev_eqD (g := id) (fun _ _ _ _ h => h) hd ha.ev hb.ev⟩
theorem tj_eqD [Rq α] [DecidableEq α] [Da α] {m1 m2 : Option α} (hu : X.A.units + 64 < cLine) (ha : WJ X a ta G m1) (hb : WJ X b tb G m2) (hd : Da.dep α ≤ 64 := by decide) : TJ X (.Compare a [.Eq] [b] pos) (tTest (tOp (rEqD X.K) ta tb)) G (m1.bind fun x => m2.bind fun y => some (decide (x = y))) :=
  ⟨pt_cmpR (op_eqD hu) ha.pe hb.pe (nomark _), tv_test (ej_eqD (pos := pos) hu ha hb hd).ev⟩
theorem ej_modP {k : Int} (hk : 0 < k) {m1 : Option Int} (ha : EJ X a ta G m1) (hb : EJ X b tb G (some k)) : EJ X (.BinOp a .Mod b pos) (tOp (rI (fun _ j => 0 < j) fun i j => .int (i % j)) ta tb) G (m1.bind fun x => some (x % k)) :=
  ⟨pe_op op_mod ha.pe hb.pe, fun B Hi T tv s H Q z hx hl hs kk => by
    obtain ⟨x, e1, e2⟩ := bind_some hx
    cases e2
    refine (ej_op (pos := pos) op_mod o2_mod ha hb).ev B Hi T tv s H Q _ ?_ hl hs kk
    rw [e1]
    show modC x k = _
    unfold modC
    rw [if_pos hk]⟩
/-- range(len(xs)) -/
theorem ev_len [Rq α] {K : PySem.W.Frag} {m1 : Option (List α)} (ha : StJ (lstK K) ta G m1) : ∀ (B : Bk) (Hi : Hp) (T : List SV) (tv s : L2.St) (H : Hp) (Q : VK) (x : List α), m1 = some x → tv.length = T.length → SatG B Hi (T ++ G) (tv ++ s) H →
    (x.length ≤ sizeLine → ∀ Hi' H', SatG B Hi' (T ++ G) (tv ++ s) H' → Q (.int (x.length : Int)) H') → tCB (fun xs H Q => ∃ p ys, xs = [.ref p] ∧ (SqL K H p ys ∨ SqT K H p ys) ∧ Q (.int ys.length) H) (tCons ta tNil) s H Q := fun B Hi T tv s H Q x hx hl hs k => by
  refine ha B Hi T tv s H _ x hx hl hs fun vx T' tv' Hi1 H1 l1 s1 r1 => ?_
  obtain ⟨s3, q, vs, h1, h2, h3, h4⟩ := r1 Hi1 H1 s1
  have e := Paired.length h4
  exact ⟨q, vs, by rw [h1], .inl h2, by rw [← e]; exact k (by omega) Hi1 H1 s3⟩
theorem pe_len {m1 : Option (List α)} [Rq α] (ha : LK X a ta G m1) (hm : X.mg "len" = none) (hg : Gl X "len" := by rfl) (he : starEach [a] X.env = (false, eval a X.env) :: starEach [] X.env := by rfl) :
    PE X (.Call (.Name "len" p) [a] [] pos) (tCB (fun xs H Q => ∃ p ys, xs = [.ref p] ∧ (SqL X.K H p ys ∨ SqT X.K H p ys) ∧ Q (.int ys.length) H) (tCons ta tNil)) := pe_callB call_len_seq hg hm PySem.boot_len (pa_cons ha.pe pa_nil he) (by decide) (by decide) he rfl
theorem ij_rngL [Rq α] {m : Option (List α)} {tg : Expr} {p1 p2 p3 : Pos} (ha : LK X a ta G m) (hm : X.mg "range" = none) (hml : X.mg "len" = none) (hg : Gl X "range" := by rfl) (hgl : Gl X "len" := by rfl) (hel : starEach [a] X.env = (false, eval a X.env) :: starEach [] X.env := by rfl)
    (na : starEach [.Call (.Name "len" p2) [a] [] p3] X.env = (false, eval (.Call (.Name "len" p2) [a] [] p3) X.env) :: starEach [] X.env := by rfl) (hs : starEach [.Call (.Name "len" p2) [a] [] p3] X.env = [(false, eval (.Call (.Name "len" p2) [a] [] p3) X.env)] := by rfl) :
    IJ C0 X tg (.Call (.Name "range" p1) [.Call (.Name "len" p2) [a] [] p3] [] pos) (iRng1 (tCons (tCB (fun xs H Q => ∃ p ys, xs = [.ref p] ∧ (SqL X.K H p ys ∨ SqT X.K H p ys) ∧ Q (.int ys.length) H) (tCons ta tNil)) tNil)) G (m.bind fun x => some (irange 0 x.length)) :=
  ⟨pi_range1 hg hm (pa_cons (pe_len ha hml hgl hel) pa_nil na) hs, fun B Hi T tv s H R xs hx hl hs k => by
  obtain ⟨x, e1, e2⟩ := bind_some hx
  cases e2
  refine ev_len ha.ev B Hi T tv s H (fun v H1 => iRng1 (fun _ H Q => Q [v] H) s H1 R) x e1 hl hs fun hz Hi1 H1 s1 => ?_
  rw [sizeLine_eq] at hz
  refine ⟨(x.length : Int), rfl, by omega, by omega, ?_⟩
  have e3 : ((x.length : Int)).toNat = ((x.length : Int) - 0).toNat := by omega
  rw [e3]
  exact k _ T tv Hi1 H1 hl s1 (by rw [irange_len, sizeLine_eq]; omega) (fun G2 s2 Hi2 H2 z => z) iv_rng, fun _ => trivial⟩
theorem ij_rngL2 [Rq α] {m : Option (List α)} {tg : Expr} {p1 p2 p3 p4 : Pos} {lo : Int} {j} (hlo : 0 ≤ lo ∧ lo < 1000) (ha : LK X a ta G m) (hm : X.mg "range" = none) (hml : X.mg "len" = none) (hg : Gl X "range" := by rfl) (hgl : Gl X "len" := by rfl) (hel : starEach [a] X.env = (false, eval a X.env) :: starEach [] X.env := by rfl)
    (na : starEach [.Constant (.int lo) j p4, .Call (.Name "len" p2) [a] [] p3] X.env = (false, eval (.Constant (.int lo) j p4) X.env) :: starEach [.Call (.Name "len" p2) [a] [] p3] X.env := by rfl) (nb : starEach [.Call (.Name "len" p2) [a] [] p3] X.env = (false, eval (.Call (.Name "len" p2) [a] [] p3) X.env) :: starEach [] X.env := by rfl)
    (hs : starEach [.Constant (.int lo) j p4, .Call (.Name "len" p2) [a] [] p3] X.env = [(false, eval (.Constant (.int lo) j p4) X.env), (false, eval (.Call (.Name "len" p2) [a] [] p3) X.env)] := by rfl) (hs2 : starEach [.Call (.Name "len" p2) [a] [] p3] X.env = [(false, eval (.Call (.Name "len" p2) [a] [] p3) X.env)] := by rfl) :
    IJ C0 X tg (.Call (.Name "range" p1) [.Constant (.int lo) j p4, .Call (.Name "len" p2) [a] [] p3] [] pos) (iRng2 (tCons (tC (.int lo)) (tCons (tCB (fun xs H Q => ∃ p ys, xs = [.ref p] ∧ (SqL X.K H p ys ∨ SqT X.K H p ys) ∧ Q (.int ys.length) H) (tCons ta tNil)) tNil))) G (m.bind fun x => some (irange lo x.length)) :=
  ⟨pi_range2 hg hm (pa_cons pe_int (pa_cons (pe_len ha hml hgl hel) pa_nil nb) na) hs hs2, fun B Hi T tv s H R xs hx hl hs k => by
  obtain ⟨x, e1, e2⟩ := bind_some hx
  cases e2
  refine ev_len ha.ev B Hi T tv s H (fun v H1 => iRng2 (fun _ H Q => Q [.int lo, v] H) s H1 R) x e1 hl hs fun hz Hi1 H1 s1 => ?_
  rw [sizeLine_eq] at hz
  refine ⟨lo, (x.length : Int), rfl, ⟨by omega, by omega, by omega, by omega⟩, ?_⟩
  exact k _ T tv Hi1 H1 hl s1 (by rw [irange_len, sizeLine_eq]; omega) (fun G2 s2 Hi2 H2 z => z) iv_rng, fun _ => trivial⟩
theorem mapO_some {f : α → β} : ∀ xs : List α, mapO xs (fun x => some (f x)) = some (xs.map f)
  | [] => rfl
  | x :: xs => by
    show (mapO xs fun x => some (f x)).bind _ = _
    rw [mapO_some xs]; rfl
theorem filO_some {c : α → Bool} {f : α → β} : ∀ xs : List α, filO xs (fun x => some (c x)) (fun x => some (f x)) = some ((xs.filter c).map f)
  | [] => rfl
  | x :: xs => by
    show (if c x = true then (filO xs _ _).bind _ else filO xs _ _) = _
    rw [filO_some xs]
    cases h : c x with
    | true => rw [if_pos rfl, List.filter_cons_of_pos h]; rfl
    | false => rw [if_neg Bool.false_ne_true, List.filter_cons_of_neg (by rw [h]; exact Bool.false_ne_true)]
variable {elt tg iter : Expr} {ifs : List Expr} {scope : Scope} {own : List (Str × Nat)} {w : TI} {g : TG} {tt : TT}
theorem oj_lcP [Rq α] [Rq β] {C} {m1 : Option (List α)} {f : α → List SV → List SV} {ids : List Nat} {me : α → β} (x0 : α) (hcalm : X.calm = true) (hN : X.N.Nodup) (hi : IJ C X tg iter w G m1) (ok : BlkOk X.N X.env.scope scope own)
    (hg : ∀ (s : Shared) (H : Hp) (C : Addr) (cl : List (Str × Addr)) (fp : List Addr), GJ (X.blk s H scope (compEnvC scope cl C X.env) fp) tg g f ids)
    (he : ∀ (x : α) (s : Shared) (H : Hp) (C : Addr) (cl : List (Str × Addr)) (fp : List Addr), EJ (X.blk s H scope (compEnvC scope cl C X.env) fp) elt te (f x G) (some (me x)))
    (hids : ∀ i ∈ ids, i ∈ own.map (·.2) := by decide) (hw0 : wipeG G (own.map (·.2)) = G := by rfl) (hw : ∀ x, wipeG (f x G) (own.map (·.2)) = G := by intro _; rfl) (hs : ∀ x, foldedSetIterable iter X.env x = pure x := by intro _; rfl) :
    OJ X (.ListComp elt [⟨tg, iter, [], 0⟩] scope pos) (tLc w g tYes te (own.map (·.2))) G (m1.bind fun xs => some (xs.map me)) := by
  have h := oj_lc (pos := pos) x0 hcalm hN hi ok hg he hids hw0 hw hs
  have e : (fun xs => some (xs.map me)) = fun xs => mapO xs fun x => some (me x) := funext fun xs => (mapO_some xs).symm
  rw [e]; exact h
theorem oj_lcTP [Rq α] [Rq β] {C} {m1 : Option (List α)} {f : α → List SV → List SV} {ids : List Nat} {mc : α → Bool} {me : α → β} (x0 : α) (hcalm : X.calm = true) (hN : X.N.Nodup) (hi : IJ C X tg iter w G m1) (ok : BlkOk X.N X.env.scope scope own)
    (hg : ∀ (s : Shared) (H : Hp) (C : Addr) (cl : List (Str × Addr)) (fp : List Addr), GJ (X.blk s H scope (compEnvC scope cl C X.env) fp) tg g f ids)
    (ht : ∀ (x : α) (s : Shared) (H : Hp) (C : Addr) (cl : List (Str × Addr)) (fp : List Addr), TJ (X.blk s H scope (compEnvC scope cl C X.env) fp) c tt (f x G) (some (mc x)))
    (he : ∀ (x : α) (s : Shared) (H : Hp) (C : Addr) (cl : List (Str × Addr)) (fp : List Addr), EJ (X.blk s H scope (compEnvC scope cl C X.env) fp) elt te (f x G) (some (me x)))
    (hids : ∀ i ∈ ids, i ∈ own.map (·.2) := by decide) (hw0 : wipeG G (own.map (·.2)) = G := by rfl) (hw : ∀ x, wipeG (f x G) (own.map (·.2)) = G := by intro _; rfl) (hs : ∀ x, foldedSetIterable iter X.env x = pure x := by intro _; rfl) :
    OJ X (.ListComp elt [⟨tg, iter, [c], 0⟩] scope pos) (tLc w g tt te (own.map (·.2))) G (m1.bind fun xs => some ((xs.filter mc).map me)) := by
  have h := oj_lcT (pos := pos) x0 hcalm hN hi ok hg ht he hids hw0 hw hs
  have e : (fun xs => some ((xs.filter mc).map me)) = fun xs => filO xs (fun x => some (mc x)) fun x => some (me x) := funext fun xs => (filO_some xs).symm
  rw [e]; exact h
theorem lcjP [Rq α] [Rq β] {C} {m1 : Option (List α)} {f : α → List SV → List SV} {ids : List Nat} {me : α → β} {i : Nat} {y : Str} {py spos : Pos} (x0 : α) (hcalm : X.calm = true) (hN : X.N.Nodup) (hy : X.N[i]? = some y) (hyl : X.env.scope.names.lookup y = some .local) (hsw : swapsWith (.ListComp elt [⟨tg, iter, [], 0⟩] scope pos) (some (.Name y py)) spos.line X.env = pure true)
    (hi : IJ C X tg iter w G m1) (ok : BlkOk X.N X.env.scope scope own)
    (hg : ∀ (s : Shared) (H : Hp) (C : Addr) (cl : List (Str × Addr)) (fp : List Addr), GJ (X.blk s H scope (compEnvC scope cl C X.env) fp) tg g f ids)
    (he : ∀ (x : α) (s : Shared) (H : Hp) (C : Addr) (cl : List (Str × Addr)) (fp : List Addr), EJ (X.blk s H scope (compEnvC scope cl C X.env) fp) elt te (f x G) (some (me x)))
    (hids : ∀ i ∈ ids, i ∈ own.map (·.2) := by decide) (hw0 : wipeG G (own.map (·.2)) = G := by rfl) (hw : ∀ x, wipeG (f x G) (own.map (·.2)) = G := by intro _; rfl) (hs : ∀ x, foldedSetIterable iter X.env x = pure x := by intro _; rfl) :
    LCJ X i y py (.ListComp elt [⟨tg, iter, [], 0⟩] scope pos) spos (tLc w g tYes te (own.map (·.2))) G (m1.bind fun xs => some (xs.map me)) := by
  have h := lcj (pos := pos) x0 hcalm hN hy hyl hsw hi ok hg he hids hw0 hw hs
  have e : (fun xs => some (xs.map me)) = fun xs => mapO xs fun x => some (me x) := funext fun xs => (mapO_some xs).symm
  rw [e]; exact h
theorem bj_retI [Rq ρ] {m : Option ρ} (h : EJ X e t G m) : BJ X (.Return (some e) pos :: []) (tSeq (tRet t) tNext) G m PR := ⟨pss_cons (ps_ret h.pe) pss_nil, fun B Hi T tv s H D o hx hl hs k =>
  h.ev B Hi T tv s H _ o hx hl hs fun v Hi' H' s' rr => k v Hi' H' s'.bare rr⟩
theorem bj_retOI [Rq ρ] {m : Option (List ρ)} (h : OJ X e t G m) : BJ X (.Return (some e) pos :: []) (tSeq (tRet t) tNext) G m PO := ⟨pss_cons (ps_ret h.pe) pss_nil, fun B Hi T tv s H D o hx hl hs k =>
  h.ev B Hi T tv s H _ o hx hl hs fun q Hi' H' s' => k q Hi' H' s'.bare1⟩
theorem bj_append [Rq α] {xs : List α} {m1 : Option α} {m3 : List α → Option O} (l : Nat) (h : EJ X e t G m1) (hr : ∀ ys, BJ X rest u (G.set l (ol ys)) (m3 ys) P) {p2 apos cpos : Pos} (hg : G[l]? = some (ol xs) := by rfl)
    (hN : X.N[l]? = some n := by rfl) (hv : Vis X.env.scope n := by first | exact Or.inl rfl | exact Or.inr (Or.inl rfl) | exact Or.inr (Or.inr rfl)) (hd : (n == ("__debug__" : Str)) = false := by decide) (hcd : (n == ("__classdict__" : Str)) = false := by decide)
    (hbase : attributeBase (.Name n p2) "append" X.env (eval (.Name n p2) X.env) = eval (.Name n p2) X.env := by rfl)
    (hfew : ((backTo cpos (starEach [e] X.env)).all (fun x => !x.1) && (backToKw cpos (keywordEach [] X.env)).all (fun x => x.1.isSome) && decide ([e].length + ([] : List Keyword).length + (if ([] : List Keyword).isEmpty then 0 else 1) < 30)) = true := by rfl)
    (hline : (apos.endLine == cpos.line) = true := by rfl) (hst : starEach [e] X.env = (false, eval e X.env) :: starEach [] X.env := by rfl) (hplain : (backTo cpos (starEach [] X.env)).any (·.1) = false := by rfl) (hsw : swapsWith (.Call (.Attribute (.Name n p2) "append" apos) [e] [] cpos) none pos.line X.env = pure false := by rfl) :
    BJ X (.Expr (.Call (.Attribute (.Name n p2) "append" apos) [e] [] cpos) pos :: rest) (tSeq (tDrop (tBM X.K "list" rAppend (tVar l) (tCons t tNil))) u) G (m1.bind fun y => (appC xs y).bind m3) P :=
  bj_meth1 (f := appC) l PySem.F.slot_list_append PySem.F.type_list_append mt_append (fun q Hi H xs y vs v ys Q sm h1 h2 h3 h4 h5 k => app_ok q Hi H xs y vs v ys Q sm h1 h2 h3 h4 h5 k) h hr hg hN hv hd hcd hbase hfew hline hst hplain hsw
end
end GM
namespace GM
open PySem PySem.Spec PyProof.Rows L2
end GM
namespace GM
open PySem PySem.Spec PyProof.Rows L2
section
variable {X : Cx} {e a b c : Expr} {es : List Expr} {t ta tb tc te : TE} {tr : TA} {G : List SV} {α β γ τ ρ O S R : Type} {pos p : Pos} {n : Str} {rest : List Stmt} {u ts : TS} {P Px : Post O}
variable {elt tg iter : Expr} {ifs : List Expr} {scope : Scope} {own : List (Str × Nat)} {w : TI} {g : TG} {tt : TT}
theorem oj_lq [Rq α] [Rq β] {C} {m1 : Option (List α)} {f : α → List SV → List SV} {g2 : Shared → Hp → Addr → List (Str × Addr) → List Addr → TG} {ids : List Nat} {me : α → Option β} {me2 : α → Shared → Hp → Addr → List (Str × Addr) → List Addr → Option β} {te2 : α → Shared → Hp → Addr → List (Str × Addr) → List Addr → TE} (x0 : α) (hcalm : X.calm = true) (hN : X.N.Nodup) (hi : IJ C X tg iter w G m1) (ok : BlkOk X.N X.env.scope scope own)
    (hg : ∀ (s : Shared) (H : Hp) (C : Addr) (cl : List (Str × Addr)) (fp : List Addr), GJ (X.blk s H scope (compEnvC scope cl C X.env) fp) tg (g2 s H C cl fp) f ids)
    (he : ∀ (x : α) (s : Shared) (H : Hp) (C : Addr) (cl : List (Str × Addr)) (fp : List Addr), EJ (X.blk s H scope (compEnvC scope cl C X.env) fp) elt (te2 x s H C cl fp) (f x G) (me2 x s H C cl fp))
    (hme : ∀ x s H C cl fp, me2 x s H C cl fp = me x := by intros; rfl) (hte : ∀ x s H C cl fp, te2 x s H C cl fp = te := by intros; first | rfl | (dsimp only [Cx.blk]; done) | (dsimp only [Cx.blk]; rfl)) (hgg : ∀ s H C cl fp, g2 s H C cl fp = g := by intros; first | rfl | (dsimp only [Cx.blk]; done) | (dsimp only [Cx.blk]; rfl)) (hids : ∀ i ∈ ids, i ∈ own.map (·.2) := by decide) (hw0 : wipeG G (own.map (·.2)) = G := by rfl) (hw : ∀ x, wipeG (f x G) (own.map (·.2)) = G := by intro _; rfl) (hs : ∀ x, foldedSetIterable iter X.env x = pure x := by intro _; rfl) :
    OJ X (.ListComp elt [⟨tg, iter, [], 0⟩] scope pos) (tLc w g tYes te (own.map (·.2))) G (m1.bind fun xs => mapO xs me) :=
  oj_lc (pos := pos) x0 hcalm hN hi ok (fun s H C cl fp => by have h := hg s H C cl fp; rw [hgg] at h; exact h) (fun x s H C cl fp => by have h := he x s H C cl fp; rw [hme, hte] at h; exact h) hids hw0 hw hs
theorem lqj [Rq α] [Rq β] {C} {m1 : Option (List α)} {f : α → List SV → List SV} {g2 : Shared → Hp → Addr → List (Str × Addr) → List Addr → TG} {ids : List Nat} {me : α → Option β} {me2 : α → Shared → Hp → Addr → List (Str × Addr) → List Addr → Option β} {te2 : α → Shared → Hp → Addr → List (Str × Addr) → List Addr → TE} {i : Nat} {y : Str} {py spos : Pos} (x0 : α) (hcalm : X.calm = true) (hN : X.N.Nodup) (hy : X.N[i]? = some y) (hyl : X.env.scope.names.lookup y = some .local) (hsw : swapsWith (.ListComp elt [⟨tg, iter, [], 0⟩] scope pos) (some (.Name y py)) spos.line X.env = pure true)
    (hi : IJ C X tg iter w G m1) (ok : BlkOk X.N X.env.scope scope own)
    (hg : ∀ (s : Shared) (H : Hp) (C : Addr) (cl : List (Str × Addr)) (fp : List Addr), GJ (X.blk s H scope (compEnvC scope cl C X.env) fp) tg (g2 s H C cl fp) f ids)
    (he : ∀ (x : α) (s : Shared) (H : Hp) (C : Addr) (cl : List (Str × Addr)) (fp : List Addr), EJ (X.blk s H scope (compEnvC scope cl C X.env) fp) elt (te2 x s H C cl fp) (f x G) (me2 x s H C cl fp))
    (hme : ∀ x s H C cl fp, me2 x s H C cl fp = me x := by intros; rfl) (hte : ∀ x s H C cl fp, te2 x s H C cl fp = te := by intros; first | rfl | (dsimp only [Cx.blk]; done) | (dsimp only [Cx.blk]; rfl)) (hgg : ∀ s H C cl fp, g2 s H C cl fp = g := by intros; first | rfl | (dsimp only [Cx.blk]; done) | (dsimp only [Cx.blk]; rfl)) (hids : ∀ i ∈ ids, i ∈ own.map (·.2) := by decide) (hw0 : wipeG G (own.map (·.2)) = G := by rfl) (hw : ∀ x, wipeG (f x G) (own.map (·.2)) = G := by intro _; rfl) (hs : ∀ x, foldedSetIterable iter X.env x = pure x := by intro _; rfl) :
    LCJ X i y py (.ListComp elt [⟨tg, iter, [], 0⟩] scope pos) spos (tLc w g tYes te (own.map (·.2))) G (m1.bind fun xs => mapO xs me) :=
  lcj (pos := pos) x0 hcalm hN hy hyl hsw hi ok (fun s H C cl fp => by have h := hg s H C cl fp; rw [hgg] at h; exact h) (fun x s H C cl fp => by have h := he x s H C cl fp; rw [hme, hte] at h; exact h) hids hw0 hw hs
theorem lqjT [Rq α] [Rq β] {C} {m1 : Option (List α)} {f : α → List SV → List SV} {g2 : Shared → Hp → Addr → List (Str × Addr) → List Addr → TG} {ids : List Nat} {mc : α → Option Bool} {mc2 : α → Shared → Hp → Addr → List (Str × Addr) → List Addr → Option Bool} {tt2 : α → Shared → Hp → Addr → List (Str × Addr) → List Addr → TT} {me : α → Option β} {me2 : α → Shared → Hp → Addr → List (Str × Addr) → List Addr → Option β} {te2 : α → Shared → Hp → Addr → List (Str × Addr) → List Addr → TE} {i : Nat} {y : Str} {py spos : Pos} (x0 : α) (hcalm : X.calm = true) (hN : X.N.Nodup) (hy : X.N[i]? = some y) (hyl : X.env.scope.names.lookup y = some .local) (hsw : swapsWith (.ListComp elt [⟨tg, iter, [c], 0⟩] scope pos) (some (.Name y py)) spos.line X.env = pure true)
    (hi : IJ C X tg iter w G m1) (ok : BlkOk X.N X.env.scope scope own)
    (hg : ∀ (s : Shared) (H : Hp) (C : Addr) (cl : List (Str × Addr)) (fp : List Addr), GJ (X.blk s H scope (compEnvC scope cl C X.env) fp) tg (g2 s H C cl fp) f ids)
    (ht : ∀ (x : α) (s : Shared) (H : Hp) (C : Addr) (cl : List (Str × Addr)) (fp : List Addr), TJ (X.blk s H scope (compEnvC scope cl C X.env) fp) c (tt2 x s H C cl fp) (f x G) (mc2 x s H C cl fp))
    (he : ∀ (x : α) (s : Shared) (H : Hp) (C : Addr) (cl : List (Str × Addr)) (fp : List Addr), EJ (X.blk s H scope (compEnvC scope cl C X.env) fp) elt (te2 x s H C cl fp) (f x G) (me2 x s H C cl fp))
    (hmc : ∀ x s H C cl fp, mc2 x s H C cl fp = mc x := by intros; rfl) (htt : ∀ x s H C cl fp, tt2 x s H C cl fp = tt := by intros; first | rfl | (dsimp only [Cx.blk]; done) | (dsimp only [Cx.blk]; rfl)) (hme : ∀ x s H C cl fp, me2 x s H C cl fp = me x := by intros; rfl) (hte : ∀ x s H C cl fp, te2 x s H C cl fp = te := by intros; first | rfl | (dsimp only [Cx.blk]; done) | (dsimp only [Cx.blk]; rfl)) (hgg : ∀ s H C cl fp, g2 s H C cl fp = g := by intros; first | rfl | (dsimp only [Cx.blk]; done) | (dsimp only [Cx.blk]; rfl)) (hids : ∀ i ∈ ids, i ∈ own.map (·.2) := by decide) (hw0 : wipeG G (own.map (·.2)) = G := by rfl) (hw : ∀ x, wipeG (f x G) (own.map (·.2)) = G := by intro _; rfl) (hs : ∀ x, foldedSetIterable iter X.env x = pure x := by intro _; rfl) :
    LCJ X i y py (.ListComp elt [⟨tg, iter, [c], 0⟩] scope pos) spos (tLc w g tt te (own.map (·.2))) G (m1.bind fun xs => filO xs mc me) :=
  lcjT (pos := pos) x0 hcalm hN hy hyl hsw hi ok (fun s H C cl fp => by have h := hg s H C cl fp; rw [hgg] at h; exact h) (fun x s H C cl fp => by have h := ht x s H C cl fp; rw [hmc, htt] at h; exact h) (fun x s H C cl fp => by have h := he x s H C cl fp; rw [hme, hte] at h; exact h) hids hw0 hw hs
theorem oj_lqP [Rq α] [Rq β] {C} {m1 : Option (List α)} {f : α → List SV → List SV} {g2 : Shared → Hp → Addr → List (Str × Addr) → List Addr → TG} {ids : List Nat} {me : α → β} {me2 : α → Shared → Hp → Addr → List (Str × Addr) → List Addr → Option β} {te2 : α → Shared → Hp → Addr → List (Str × Addr) → List Addr → TE} (x0 : α) (hcalm : X.calm = true) (hN : X.N.Nodup) (hi : IJ C X tg iter w G m1) (ok : BlkOk X.N X.env.scope scope own)
    (hg : ∀ (s : Shared) (H : Hp) (C : Addr) (cl : List (Str × Addr)) (fp : List Addr), GJ (X.blk s H scope (compEnvC scope cl C X.env) fp) tg (g2 s H C cl fp) f ids)
    (he : ∀ (x : α) (s : Shared) (H : Hp) (C : Addr) (cl : List (Str × Addr)) (fp : List Addr), EJ (X.blk s H scope (compEnvC scope cl C X.env) fp) elt (te2 x s H C cl fp) (f x G) (me2 x s H C cl fp))
    (hme : ∀ x s H C cl fp, me2 x s H C cl fp = some (me x) := by intros; rfl) (hte : ∀ x s H C cl fp, te2 x s H C cl fp = te := by intros; first | rfl | (dsimp only [Cx.blk]; done) | (dsimp only [Cx.blk]; rfl)) (hgg : ∀ s H C cl fp, g2 s H C cl fp = g := by intros; first | rfl | (dsimp only [Cx.blk]; done) | (dsimp only [Cx.blk]; rfl)) (hids : ∀ i ∈ ids, i ∈ own.map (·.2) := by decide) (hw0 : wipeG G (own.map (·.2)) = G := by rfl) (hw : ∀ x, wipeG (f x G) (own.map (·.2)) = G := by intro _; rfl) (hs : ∀ x, foldedSetIterable iter X.env x = pure x := by intro _; rfl) :
    OJ X (.ListComp elt [⟨tg, iter, [], 0⟩] scope pos) (tLc w g tYes te (own.map (·.2))) G (m1.bind fun xs => some (xs.map me)) :=
  oj_lcP (pos := pos) x0 hcalm hN hi ok (fun s H C cl fp => by have h := hg s H C cl fp; rw [hgg] at h; exact h) (fun x s H C cl fp => by have h := he x s H C cl fp; rw [hme, hte] at h; exact h) hids hw0 hw hs
theorem oj_lqTP [Rq α] [Rq β] {C} {m1 : Option (List α)} {f : α → List SV → List SV} {g2 : Shared → Hp → Addr → List (Str × Addr) → List Addr → TG} {ids : List Nat} {mc : α → Bool} {mc2 : α → Shared → Hp → Addr → List (Str × Addr) → List Addr → Option Bool} {tt2 : α → Shared → Hp → Addr → List (Str × Addr) → List Addr → TT} {me : α → β} {me2 : α → Shared → Hp → Addr → List (Str × Addr) → List Addr → Option β} {te2 : α → Shared → Hp → Addr → List (Str × Addr) → List Addr → TE} (x0 : α) (hcalm : X.calm = true) (hN : X.N.Nodup) (hi : IJ C X tg iter w G m1) (ok : BlkOk X.N X.env.scope scope own)
    (hg : ∀ (s : Shared) (H : Hp) (C : Addr) (cl : List (Str × Addr)) (fp : List Addr), GJ (X.blk s H scope (compEnvC scope cl C X.env) fp) tg (g2 s H C cl fp) f ids)
    (ht : ∀ (x : α) (s : Shared) (H : Hp) (C : Addr) (cl : List (Str × Addr)) (fp : List Addr), TJ (X.blk s H scope (compEnvC scope cl C X.env) fp) c (tt2 x s H C cl fp) (f x G) (mc2 x s H C cl fp))
    (he : ∀ (x : α) (s : Shared) (H : Hp) (C : Addr) (cl : List (Str × Addr)) (fp : List Addr), EJ (X.blk s H scope (compEnvC scope cl C X.env) fp) elt (te2 x s H C cl fp) (f x G) (me2 x s H C cl fp))
    (hmc : ∀ x s H C cl fp, mc2 x s H C cl fp = some (mc x) := by intros; rfl) (htt : ∀ x s H C cl fp, tt2 x s H C cl fp = tt := by intros; first | rfl | (dsimp only [Cx.blk]; done) | (dsimp only [Cx.blk]; rfl)) (hme : ∀ x s H C cl fp, me2 x s H C cl fp = some (me x) := by intros; rfl) (hte : ∀ x s H C cl fp, te2 x s H C cl fp = te := by intros; first | rfl | (dsimp only [Cx.blk]; done) | (dsimp only [Cx.blk]; rfl)) (hgg : ∀ s H C cl fp, g2 s H C cl fp = g := by intros; first | rfl | (dsimp only [Cx.blk]; done) | (dsimp only [Cx.blk]; rfl)) (hids : ∀ i ∈ ids, i ∈ own.map (·.2) := by decide) (hw0 : wipeG G (own.map (·.2)) = G := by rfl) (hw : ∀ x, wipeG (f x G) (own.map (·.2)) = G := by intro _; rfl) (hs : ∀ x, foldedSetIterable iter X.env x = pure x := by intro _; rfl) :
    OJ X (.ListComp elt [⟨tg, iter, [c], 0⟩] scope pos) (tLc w g tt te (own.map (·.2))) G (m1.bind fun xs => some ((xs.filter mc).map me)) :=
  oj_lcTP (pos := pos) x0 hcalm hN hi ok (fun s H C cl fp => by have h := hg s H C cl fp; rw [hgg] at h; exact h) (fun x s H C cl fp => by have h := ht x s H C cl fp; rw [hmc, htt] at h; exact h) (fun x s H C cl fp => by have h := he x s H C cl fp; rw [hme, hte] at h; exact h) hids hw0 hw hs
theorem lqjP [Rq α] [Rq β] {C} {m1 : Option (List α)} {f : α → List SV → List SV} {g2 : Shared → Hp → Addr → List (Str × Addr) → List Addr → TG} {ids : List Nat} {me : α → β} {me2 : α → Shared → Hp → Addr → List (Str × Addr) → List Addr → Option β} {te2 : α → Shared → Hp → Addr → List (Str × Addr) → List Addr → TE} {i : Nat} {y : Str} {py spos : Pos} (x0 : α) (hcalm : X.calm = true) (hN : X.N.Nodup) (hy : X.N[i]? = some y) (hyl : X.env.scope.names.lookup y = some .local) (hsw : swapsWith (.ListComp elt [⟨tg, iter, [], 0⟩] scope pos) (some (.Name y py)) spos.line X.env = pure true)
    (hi : IJ C X tg iter w G m1) (ok : BlkOk X.N X.env.scope scope own)
    (hg : ∀ (s : Shared) (H : Hp) (C : Addr) (cl : List (Str × Addr)) (fp : List Addr), GJ (X.blk s H scope (compEnvC scope cl C X.env) fp) tg (g2 s H C cl fp) f ids)
    (he : ∀ (x : α) (s : Shared) (H : Hp) (C : Addr) (cl : List (Str × Addr)) (fp : List Addr), EJ (X.blk s H scope (compEnvC scope cl C X.env) fp) elt (te2 x s H C cl fp) (f x G) (me2 x s H C cl fp))
    (hme : ∀ x s H C cl fp, me2 x s H C cl fp = some (me x) := by intros; rfl) (hte : ∀ x s H C cl fp, te2 x s H C cl fp = te := by intros; first | rfl | (dsimp only [Cx.blk]; done) | (dsimp only [Cx.blk]; rfl)) (hgg : ∀ s H C cl fp, g2 s H C cl fp = g := by intros; first | rfl | (dsimp only [Cx.blk]; done) | (dsimp only [Cx.blk]; rfl)) (hids : ∀ i ∈ ids, i ∈ own.map (·.2) := by decide) (hw0 : wipeG G (own.map (·.2)) = G := by rfl) (hw : ∀ x, wipeG (f x G) (own.map (·.2)) = G := by intro _; rfl) (hs : ∀ x, foldedSetIterable iter X.env x = pure x := by intro _; rfl) :
    LCJ X i y py (.ListComp elt [⟨tg, iter, [], 0⟩] scope pos) spos (tLc w g tYes te (own.map (·.2))) G (m1.bind fun xs => some (xs.map me)) :=
  lcjP (pos := pos) x0 hcalm hN hy hyl hsw hi ok (fun s H C cl fp => by have h := hg s H C cl fp; rw [hgg] at h; exact h) (fun x s H C cl fp => by have h := he x s H C cl fp; rw [hme, hte] at h; exact h) hids hw0 hw hs
end
end GM
namespace GM
open PySem PySem.Spec PyProof.Rows L2
structure Ll (α β : Type) where
  a : α
  b : β
def repLl {α β : Type} [Rq α] [Rq β] (H : Hp) (x : Ll α β) (v : V) : Prop := ∃ q v1 v2, v = .ref q ∧ H q = some (.lst [v1, v2]) ∧ rq H x.a v1 ∧ rq H x.b v2
instance {α β : Type} [Rq α] [Rq β] : Rp (Ll α β) := ⟨repLl, fun {H H' x v} e h => by
  obtain ⟨a, v1, v2, h1, h2, h3, h4⟩ := h
  exact ⟨a, v1, v2, h1, e _ _ h2, Rq.mono e h3, Rq.mono e h4⟩, fun h => by
  obtain ⟨a, v1, v2, h1, h2, h3, h4⟩ := h
  rw [h1]; exact fun z => by cases z⟩
instance {α β : Type} [Inhabited α] [Inhabited β] : Inhabited (Ll α β) := ⟨⟨default, default⟩⟩
instance {α β : Type} [Rq α] [Rq β] : TyN (Ll α β) := ⟨"list", fun h => by obtain ⟨a, v1, v2, h1, h2, _⟩ := h; subst h1; exact .base (.lst h2)⟩
section
variable {X : Cx} {e a b c : Expr} {es : List Expr} {t ta tb tc te : TE} {tr : TA} {G : List SV} {α β γ τ ρ O S R : Type} {pos p : Pos} {n : Str} {rest : List Stmt} {u ts : TS} {P Px : Post O}
theorem sat_lst {B : Bk} {Hi H : Hp} {L : List SV} {s : L2.St} {p : Addr} {vs : List V} (h : SatG B Hi L s H) (hp : H p = none) : SatG B (upd Hi p (.lst vs)) L s (upd H p (.lst vs)) ∧ Same Hi (upd Hi p (.lst vs)) :=
  ⟨h.newF hp, same_new (same_none h.sub hp)⟩
end
end GM
namespace GM
open PySem PySem.Spec PyProof.Rows L2
section
variable {X : Cx} {e a b c : Expr} {es : List Expr} {t ta tb tc te : TE} {tr : TA} {G : List SV} {α β γ τ ρ O S R : Type} {pos p : Pos} {n : Str} {rest : List Stmt} {u ts : TS} {P Px : Post O} {tg : Expr}
theorem bj_drop [Rq α] {m1 : Option α} {m2 : Option O} (h : EJ X e t G m1) (hr : BJ X rest u G m2 P) (hsw : swapsWith e none pos.line X.env = pure false := by rfl) :
    BJ X (.Expr e pos :: rest) (tSeq (tDrop t) u) G (m1.bind fun _ => m2) P :=
  ⟨pss_cons (ps_expr h.pe hsw) hr.ps, fun B Hi T tv s H D o hx hl hs k => by
    obtain ⟨y, e1, hx⟩ := bind_some hx
    exact h.ev B Hi T tv s H _ y e1 hl hs fun v Hi1 H1 s1 _ => hr.ev B Hi1 T tv s H1 D o hx hl s1 k⟩
end
section
variable {P : Program} {w : World} {K : PySem.W.Frag} {mg : Str → Option Value} {base : Heap} {x qual : Str} {st : Stmt} {f : Addr} {fd : FuncData} {N ps : List Str} {k : Nat} {τ : Type}
/-- a def that hands nothing back -/
theorem fun_U [RpL τ] {F : τ → Option Unit} (Fn : Fun K x qual st f fd) (S : FnScope N ps (defScope st)) (hn : RpL.n τ = ps.length)
    (body : ∀ (cdv : Value) (A : Around) (outer : List Env) (s : Shared) (H : Hp) (E : XK), Room k (A.deeper (envOfC qual (defScope st) s.heap.objs.size f cdv)) →
      ∀ z : τ, ∃ t m, BJ (cxOf CX0 P w K mg base N qual (defScope st) f cdv A outer s H E).nox (defBody st) t (gam N z) m PU ∧ m = F z)
    (hm : mg x = some (.ref f)) (hb : Binds K fd ps []) : CalB P w K mg base (k + 1) x (SpR F) := by
  refine ⟨f, fd, ps, Fn.ok S (fun vs H Q E h => ?_) (fun cdv A outer s H vs Q E hr h => ?_), hm, Fn.kp, hb⟩
  · obtain ⟨Ha, z, r, h1, h2, _⟩ := h
    rw [RpL.len h2, hn]
  · obtain ⟨Ha, z, r, h1, h2, h3, h4⟩ := h
    obtain ⟨t, m, b, e⟩ := body cdv A outer s H E hr z
    subst e
    have key : ∀ Hi H', SatG ⟨H, Ha⟩ Hi [] [] H' → Q .non H' := fun Hi H' q1 => by
      obtain ⟨g1, g2, g3, g4⟩ := q1
      exact h4 .non H' g2 rfl
    exact ⟨t, b.ps, b.ev ⟨H, Ha⟩ Ha [] [] (start N vs) H _ r h3 rfl (sat_start h1 h2) ⟨fun Hi H' q => key Hi H' q, fun s Hi H' q => key Hi H' q⟩⟩
end
end GM
namespace GM.Mx
open PySem PySem.Spec PyProof.Rows
end GM.Mx
namespace GM
open PySem PySem.Spec PyProof.Rows L2
end GM
namespace GM
open PySem PySem.Spec PyProof.Rows L2
structure Dc (α : Type) where
  l : List (Int × α)
instance {α : Type} : Inhabited (Dc α) := ⟨⟨[]⟩⟩
instance {α : Type} [DecidableEq α] : DecidableEq (Dc α) := fun x y => if h : x.l = y.l then isTrue (by cases x; cases y; cases h; rfl) else isFalse (fun e => h (by rw [e]))
def prD {α : Type} [Rq α] (H : Hp) (a : Int × α) (b : L2.Key × V) : Prop := b.1 = .inl a.1 ∧ rq H a.2 b.2
theorem prD_mono {α : Type} [Rq α] {H H' : Hp} (e : Same H H') : ∀ (a : Int × α) (b : L2.Key × V), prD H a b → prD H' a b := fun _ _ h => ⟨h.1, Rq.mono e h.2⟩
def isDc {α : Type} [Rq α] (d : Dc α) (H : Hp) (o : HO) : Prop := ∃ kvs, o = .dK kvs ∧ kvs.length ≤ sizeLine ∧ Paired (prD H) d.l kvs
theorem isDc_mono {α : Type} [Rq α] (d : Dc α) : ∀ H H' o, Same H H' → isDc d H o → isDc d H' o := fun _ _ _ e ⟨vs, h1, h2, h3⟩ => ⟨vs, h1, h2, Paired.mono h3 (prD_mono e)⟩
def repDc {α : Type} [Rq α] (H : Hp) (d : Dc α) (v : V) : Prop := ∃ a kvs, v = .ref a ∧ H a = some (.dK kvs) ∧ kvs.length ≤ sizeLine ∧ Paired (prD H) d.l kvs
instance {α : Type} [Rq α] : Rp (Dc α) := ⟨repDc, fun {H H' x v} e h => by
  obtain ⟨a, vs, h1, h2, h3, h4⟩ := h
  exact ⟨a, vs, h1, e _ _ h2, h3, Paired.mono h4 (prD_mono e)⟩, fun h => by
  obtain ⟨a, vs, h1, h2, h3, h4⟩ := h
  rw [h1]; exact fun z => by cases z⟩
instance {α : Type} [Rq α] : TyN (Dc α) := ⟨"dict", fun h => by obtain ⟨a, vs, h1, h2, _⟩ := h; subst h1; exact .base (.dK h2)⟩
end GM
namespace GM
open PySem PySem.Spec PyProof.Rows L2
structure OT (α : Type) where
  φ : Hp → α → Addr → Hp → Prop
  m : ∀ H H' x p F, Same H H' → φ H x p F → φ H' x p F
def oo {α : Type} (d : OT α) (x : α) : SV := .ow (fun H p F => d.φ H x p F) (fun H H' p F => d.m H H' x p F)
/-- what it stands for when it is let go -/
class Th {α : Type} [Rq α] (d : OT α) : Prop where
  th : ∀ {H : Hp} {x : α} {p : Addr} {F : Hp}, (∀ a u, F a = some u → H a = none) → d.φ H x p F → rq (plus H F) x (.ref p)
/-- read as it stands: lists and dicts alone -/
class Wd {α : Type} [Rq α] (d : OT α) : Prop where
  wd : ∀ {Hi H : Hp} {x : α} {p : Addr} {F : Hp}, Same Hi H → Same F H → d.φ Hi x p F → rq (wide Hi H) x (.ref p)
theorem same_plus {H F : Hp} (n : ∀ a u, F a = some u → H a = none) : Same H (plus H F) := fun a o e => by
  cases z : F a with
  | none => rw [plus_none z]; exact e
  | some u => rw [n a u z] at e; cases e
def oL {α : Type} [Rq α] : OT (List α) := ⟨fun H xs p F => ∃ u, F = one p u ∧ isL xs H u, fun H H' x p F e ⟨u, h1, h2⟩ => ⟨u, h1, isL_mono x H H' u e h2⟩⟩
def oD {α : Type} [Rq α] : OT (Dc α) := ⟨fun H xs p F => ∃ u, F = one p u ∧ isDc xs H u, fun H H' x p F e ⟨u, h1, h2⟩ => ⟨u, h1, isDc_mono x H H' u e h2⟩⟩
instance {α : Type} [Rq α] : Th (oL (α := α)) := ⟨fun {H x p F} n ⟨u, h1, vs, h2, h3, h4⟩ => by
  subst h1 h2
  exact ⟨p, vs, rfl, plus_some one_same, h3, Paired.mono h4 fun _ _ => Rq.mono (same_plus n)⟩⟩
instance {α : Type} [Rq α] : Th (oD (α := α)) := ⟨fun {H x p F} n ⟨u, h1, vs, h2, h3, h4⟩ => by
  subst h1 h2
  exact ⟨p, vs, rfl, plus_some one_same, h3, Paired.mono h4 (prD_mono (same_plus n))⟩⟩
theorem wide_dk {Hi H : Hp} {a : Addr} {vs : List (L2.Key × V)} (e : Same Hi H) (h : H a = some (.dK vs)) : wide Hi H a = some (.dK vs) := by
  cases q : Hi a with
  | some o => rw [wide_some q, ← e _ _ q, h]
  | none => unfold wide; rw [q, h]
instance {α : Type} [Rq α] : Wd (oL (α := α)) := ⟨fun {Hi H x p F} sm sf ⟨u, h1, vs, h2, h3, h4⟩ => by
  subst h1 h2
  exact ⟨p, vs, rfl, wide_lst sm (sf _ _ one_same), h3, Paired.mono h4 fun _ _ => Rq.mono wide_of⟩⟩
instance {α : Type} [Rq α] : Wd (oD (α := α)) := ⟨fun {Hi H x p F} sm sf ⟨u, h1, vs, h2, h3, h4⟩ => by
  subst h1 h2
  exact ⟨p, vs, rfl, wide_dk sm (sf _ _ one_same), h3, Paired.mono h4 (prD_mono wide_of)⟩⟩
def sepL {α : Type} (d : OT α) (H : Hp) : List α → List V → Hp → Prop
  | [], [], F => ∀ a, F a = none
  | x :: xs, v :: vs, F => ∃ p F1, v = .ref p ∧ Same F1 F ∧ d.φ H x p F1 ∧ sepL d H xs vs (minus F F1)
  | [], _ :: _, _ => False
  | _ :: _, [], _ => False
section
variable {α β : Type} {d : OT α} {H H' : Hp}
theorem sepL.len : ∀ {xs : List α} {vs : List V} {F : Hp}, sepL d H xs vs F → xs.length = vs.length
  | [], [], _, _ => rfl
  | x :: xs, v :: vs, F, ⟨p, F1, _, _, _, k⟩ => by rw [List.length_cons, List.length_cons, sepL.len k]
theorem sepL.mono (e : Same H H') : ∀ {xs : List α} {vs : List V} {F : Hp}, sepL d H xs vs F → sepL d H' xs vs F
  | [], [], _, h => h
  | x :: xs, v :: vs, F, ⟨p, F1, h1, h2, h3, k⟩ => ⟨p, F1, h1, h2, d.m _ _ _ _ _ e h3, sepL.mono e k⟩
theorem sepL.snoc {x : α} {p : Addr} {F1 : Hp} : ∀ {xs : List α} {vs : List V} {F : Hp}, sepL d H xs vs (minus F F1) → Same F1 F → d.φ H x p F1 → sepL d H (xs ++ [x]) (vs ++ [.ref p]) F
  | [], [], F, h, sf, hx => ⟨p, F1, rfl, sf, hx, h⟩
  | y :: xs, v :: vs, F, ⟨q, G1, h1, h2, h3, k⟩, sf, hx => by
    refine ⟨q, G1, h1, h2.trans minus_sub, h3, sepL.snoc (F := minus F G1) ?_ (fun a u e => ?_) hx⟩
    · rw [minus_comm]; exact k
    · cases z : G1 a with
      | none => rw [minus_none z]; exact sf _ _ e
      | some w => have := h2 _ _ z; rw [minus_some e] at this; cases this
/-- the item at place i, and what may be put there -/
theorem sepL.at : ∀ {xs : List α} {vs : List V} {F : Hp} {i : Nat} {x : α}, sepL d H xs vs F → xs[i]? = some x → ∃ p Fi, vs[i]? = some (.ref p) ∧ Same Fi F ∧ d.φ H x p Fi ∧
    ∀ x' p' Fi' F', d.φ H x' p' Fi' → Same Fi' F' → minus F' Fi' = minus F Fi → sepL d H (xs.set i x') (vs.set i (.ref p')) F'
  | [], [], _, _, _, _, e => by simp at e
  | y :: xs, v :: vs, F, 0, x, ⟨q, G1, h1, h2, h3, k⟩, e => by
    simp at e; subst e
    subst h1
    exact ⟨q, G1, rfl, h2, h3, fun x' p' Fi' F' hx hs hm => ⟨p', Fi', rfl, hs, hx, by rw [hm]; exact k⟩⟩
  | y :: xs, v :: vs, F, i + 1, x, ⟨q, G1, h1, h2, h3, k⟩, e => by
    obtain ⟨p, Fi, g1, g2, g3, g4⟩ := sepL.at k (by simpa using e)
    refine ⟨p, Fi, by simpa using g1, g2.trans minus_sub, g3, fun x' p' Fi' F' hx hs hm => ?_⟩
    have dj : ∀ a w, G1 a = some w → Fi' a = none ∧ F' a = some w := fun a w z => by
      have n1 : Fi a = none := by
        cases y : Fi a with
        | none => rfl
        | some x => have := g2 _ _ y; rw [minus_some z] at this; cases this
      have n2 : minus F Fi a = some w := by rw [minus_none n1]; exact h2 _ _ z
      rw [← hm] at n2
      exact minus_is n2
    refine ⟨q, G1, h1, fun a w z => (dj a w z).2, h3, g4 x' p' Fi' (minus F' G1) hx (fun a u z => ?_) ?_⟩
    · cases y : G1 a with
      | none => rw [minus_none y]; exact hs _ _ z
      | some x => have := (dj a x y).1; rw [z] at this; cases this
    · rw [minus_comm, hm, minus_comm]
theorem sepL.paired {α : Type} [Rq α] {d : OT α} {Hw : Hp} : ∀ {xs : List α} {vs : List V} {F F0 : Hp}, sepL d H xs vs F → Same F F0 → (∀ x p Fi, Same Fi F0 → d.φ H x p Fi → rq Hw x (.ref p)) → Paired (rq Hw) xs vs
  | [], [], _, _, _, _, _ => .nil
  | x :: xs, v :: vs, F, F0, ⟨p, F1, h1, h2, h3, k⟩, sf, f => by
    subst h1
    exact .cons (f x p F1 (h2.trans sf) h3) (sepL.paired k (minus_sub.trans sf) f)
end
/-- our own list of our own things -/
def oLL {α : Type} (d : OT α) : OT (List α) := ⟨fun H xs p F => ∃ vs, F p = some (.lst vs) ∧ vs.length ≤ sizeLine ∧ sepL d H xs vs (del F p),
  fun H H' x p F e ⟨vs, h1, h2, h3⟩ => ⟨vs, h1, h2, sepL.mono e h3⟩⟩
theorem same_plus2 {H F F1 : Hp} (n : ∀ a u, F a = some u → H a = none) (s : Same F1 F) : Same (plus H F1) (plus H F) := fun a o e => by
  cases z : F1 a with
  | some u => rw [plus_some z] at e; cases e; exact plus_some (s _ _ z)
  | none =>
    rw [plus_none z] at e
    cases w : F a with
    | none => rw [plus_none w]; exact e
    | some y => rw [n a y w] at e; cases e
instance {α : Type} [Rq α] {d : OT α} [Th d] : Th (oLL d) := ⟨fun {H x p F} n ⟨vs, h1, h2, h3⟩ => by
  refine ⟨p, vs, rfl, plus_some h1, h2, h3.paired del_sub fun y q Fi sf hy => ?_⟩
  exact Rq.mono (same_plus2 n sf) (Th.th (fun a u e => n a u (sf _ _ e)) hy)⟩
instance {α : Type} [Rq α] {d : OT α} [Wd d] : Wd (oLL d) := ⟨fun {Hi H x p F} sm sf ⟨vs, h1, h2, h3⟩ => by
  refine ⟨p, vs, rfl, wide_lst sm (sf _ _ h1), h2, h3.paired (del_sub.trans sf) fun y q Fi sf' hy => ?_⟩
  exact Wd.wd sm sf' hy⟩
/-- our own list of just two of our own things -/
def oll2 {α β : Type} (d : OT α) (d' : OT β) : OT (Ll α β) := ⟨fun H x p F => ∃ q q' F1 F2, F p = some (.lst [.ref q, .ref q']) ∧ Same F1 (del F p) ∧ d.φ H x.a q F1 ∧ F2 = minus (del F p) F1 ∧ d'.φ H x.b q' F2,
  fun H H' x p F e ⟨q, q', F1, F2, h1, h2, h3, h4, h5⟩ => ⟨q, q', F1, F2, h1, h2, d.m _ _ _ _ _ e h3, h4, d'.m _ _ _ _ _ e h5⟩⟩
instance {α β : Type} [Rq α] [Rq β] {d : OT α} {d' : OT β} [Th d] [Th d'] : Th (oll2 d d') := ⟨fun {H x p F} n ⟨q, q', F1, F2, h1, h2, h3, h4, h5⟩ => by
  have s1 : Same F1 F := h2.trans del_sub
  have s2 : Same F2 F := by rw [h4]; exact minus_sub.trans del_sub
  exact ⟨p, _, _, rfl, plus_some h1, Rq.mono (same_plus2 n s1) (Th.th (fun a u e => n a u (s1 _ _ e)) h3), Rq.mono (same_plus2 n s2) (Th.th (fun a u e => n a u (s2 _ _ e)) h5)⟩⟩
instance {α β : Type} [Rq α] [Rq β] {d : OT α} {d' : OT β} [Wd d] [Wd d'] : Wd (oll2 d d') := ⟨fun {Hi H x p F} sm sf ⟨q, q', F1, F2, h1, h2, h3, h4, h5⟩ => by
  have s1 : Same F1 F := h2.trans del_sub
  have s2 : Same F2 F := by rw [h4]; exact minus_sub.trans del_sub
  exact ⟨p, _, _, rfl, wide_lst sm (sf _ _ h1), Wd.wd sm (s1.trans sf) h3, Wd.wd sm (s2.trans sf) h5⟩⟩
/-- a tuple of two of our own things -/
def ot2 {α β : Type} (d : OT α) (d' : OT β) : OT (α × β) := ⟨fun H x p F => ∃ q q' F1 F2, F p = some (.tup [.ref q, .ref q']) ∧ Same F1 (del F p) ∧ d.φ H x.1 q F1 ∧ F2 = minus (del F p) F1 ∧ d'.φ H x.2 q' F2,
  fun H H' x p F e ⟨q, q', F1, F2, h1, h2, h3, h4, h5⟩ => ⟨q, q', F1, F2, h1, h2, d.m _ _ _ _ _ e h3, h4, d'.m _ _ _ _ _ e h5⟩⟩
instance {α β : Type} [Rq α] [Rq β] {d : OT α} {d' : OT β} [Th d] [Th d'] : Th (ot2 d d') := ⟨fun {H x p F} n ⟨q, q', F1, F2, h1, h2, h3, h4, h5⟩ => by
  have s1 : Same F1 F := h2.trans del_sub
  have s2 : Same F2 F := by rw [h4]; exact minus_sub.trans del_sub
  exact ⟨p, _, _, rfl, plus_some h1, Rq.mono (same_plus2 n s1) (Th.th (fun a u e => n a u (s1 _ _ e)) h3), Rq.mono (same_plus2 n s2) (Th.th (fun a u e => n a u (s2 _ _ e)) h5)⟩⟩
def QvJ {α : Type} (d : OT α) (t : TE) (G : List SV) (m : Option α) : Prop :=
  ∀ (B : Bk) (Hi : Hp) (T : List SV) (tv s : L2.St) (H : Hp) (Q : VK) (x : α), m = some x → tv.length = T.length → SatG B Hi (T ++ G) (tv ++ s) H →
    (∀ p Hi' H', SatG B Hi' (oo d x :: (T ++ G)) (some (.ref p) :: (tv ++ s)) H' → Q (.ref p) H') → t s H Q
structure QJ {α : Type} (d : OT α) (X : Cx) (e : Expr) (t : TE) (G : List SV) (m : Option α) : Prop where
  pe : PE X e t
  ev : QvJ d t G m
section
variable {X : Cx} {e a b c : Expr} {es : List Expr} {t ta tb tc td ty te : TE} {tr : TA} {G : List SV} {α β γ τ ρ O S R : Type} {pos p : Pos} {n : Str} {rest : List Stmt} {u ts : TS} {P Px : Post O} {d : OT α}
theorem qj_o [Rq α] {m : Option (List α)} (h : OJ X e t G m) : QJ oL X e t G m := ⟨h.pe, h.ev⟩
theorem oj_q [Rq α] {m : Option (List α)} (h : QJ oL X e t G m) : OJ X e t G m := ⟨h.pe, h.ev⟩
theorem sat_thawQ [Rq α] [Th d] {B : Bk} {Hi H : Hp} {L : List SV} {s : L2.St} {p : Addr} {x : α} (h : SatG B Hi (oo d x :: L) (some (.ref p) :: s) H) : ∃ Hi', SatG B Hi' L s H ∧ rq Hi' x (.ref p) := by
  obtain ⟨F, h1, h2, h3, h4⟩ := h.thawF
  exact ⟨_, h4, Th.th h3 h2⟩
theorem bj_thawQ [Rq α] [Th d] {x : α} (i : Nat) {m : Option O} (h : BJ X rest u (G.set i (fz x)) m P) (hi : G[i]? = some (oo d x) := by rfl) : BJ X rest u G m P := ⟨h.ps, fun B Hi T tv s H D o hx hl hs k => by
  obtain ⟨q, F, h1, h2, h3, h6, up⟩ := hs.ownFT hl hi
  have z := hs.front (i := T.length + i) (by rw [get_app]; exact hi)
  rw [set_app, ← hl, get_app, h1] at z
  obtain ⟨Hi', s2, r⟩ := sat_thawQ z
  have s3 : SatG B Hi' (fz x :: (T ++ G.set i .un)) (some (.ref q) :: (tv ++ s)) H := ⟨⟨_, rfl, r⟩, s2⟩
  have s4 := s3.putT hl (i := i)
  rw [List.set_set] at s4
  have hsi : s.set i (some (.ref q)) = s := set_get_self _ _ _ h1
  rw [hsi] at s4
  exact h.ev B Hi' T tv s H D o hx hl s4 k⟩
/-- name = something new of our own -/
theorem bj_asgQ {m1 : Option α} {m2 : α → Option O} (hN : X.N.Nodup) (i : Nat) (h : QJ d X e t G m1) (x0 : α) (hr : ∀ x, BJ X rest u (G.set i (oo d x)) (m2 x) P) {p2 : Pos}
    (hi : X.N[i]? = some n := by rfl) (hx : Loc X.env.scope n := by first | exact Or.inl rfl | exact Or.inr rfl) (hs : swapsWith e (some (.Name n p2)) pos.line X.env = pure false := by rfl) (hf : X.fn n = true ∨ X.env.scope.names.lookup n = some .local := by first | exact .inl rfl | exact .inr rfl | assumption) :
    BJ X (.Assign [.Name n p2] e pos :: rest) (tSeq (tAsg t (gName i)) u) G (m1.bind m2) P := ⟨pss_cons (ps_set hN hi hx h.pe hs hf) (hr x0).ps, fun B Hi T tv s H D o hx hl hs k => by
  obtain ⟨x, e1, e2⟩ := bind_some hx
  refine h.ev B Hi T tv s H _ x e1 hl hs fun q Hi1 H1 s1 => ?_
  exact (hr x).ev B Hi1 T tv _ H1 D o e2 hl (s1.putT hl) k⟩
end
/-- the same, at a place and with parts that are told -/
def ex {α : Type} (d : OT α) (x : α) (p : Addr) (F : Hp) : SV := .ow (fun H q F' => q = p ∧ F' = F ∧ d.φ H x p F) (fun H H' q F' e ⟨h1, h2, h3⟩ => ⟨h1, h2, d.m _ _ _ _ _ e h3⟩)
section
variable {X : Cx} {e a b c : Expr} {es : List Expr} {t ta tb tc td ty te : TE} {tr : TA} {G : List SV} {α β γ τ ρ O S R : Type} {pos p : Pos} {n : Str} {rest : List Stmt} {u ts : TS} {P Px : Post O} {d : OT α} {d' : OT β} {F : Hp}
theorem bj_pinZ {x : α} (i : Nat) {m : Option O} (h : ∀ (q : Addr) (F : Hp), BJ X rest u (G.set i (ex d x q F)) m P) (hi : G[i]? = some (oo d x) := by rfl) : BJ X rest u G m P := ⟨(h 0 (fun _ => none)).ps, fun B Hi T tv s H D o hx hl hs k => by
  obtain ⟨q, F, h1, h2, h3, h4, up⟩ := hs.ownFT hl hi
  exact (h q F).ev B Hi T tv s H D o hx hl (up F (fun H q' F' => q' = q ∧ F' = F ∧ d.φ H x q F) (fun H H' q' F' e ⟨h1, h2, h3⟩ => ⟨h1, h2, d.m _ _ _ _ _ e h3⟩) H ⟨rfl, rfl, h3⟩ h2 rfl) k⟩
/-- whatever it holds: for its length alone -/
structure Any where
instance : Inhabited Any := ⟨⟨⟩⟩
instance : Rq Any := ⟨fun _ _ _ => True, fun _ _ => trivial⟩
end
end GM
namespace GM
open PySem PySem.Spec PyProof.Rows L2
section
variable {X : Cx} {e a b c : Expr} {es : List Expr} {t ta tb tc td ty te : TE} {tr : TA} {G : List SV} {α β γ τ ρ O S R : Type} {pos p : Pos} {n : Str} {rest : List Stmt} {u ts : TS} {P Px : Post O} {d : OT α} {d' : OT β} {F : Hp}
variable {elt tg iter : Expr} {ifs : List Expr} {scope : Scope} {own : List (Str × Nat)} {w : TI} {g : TG} {tt : TT}
theorem sat_snoc {B : Bk} {Hi H : Hp} {L : List SV} {s : L2.St} {pq D : Addr} {y : α} {done : List α} {acc : List V} (h : SatG B Hi (oo d y :: oo (oLL d) done :: L) (some (.ref pq) :: some (.ref D) :: s) H) (hD : H D = some (.lst acc)) (hlen : acc.length < sizeLine) :
    SatG B Hi (oo (oLL d) (done ++ [y]) :: L) (some (.ref D) :: s) (upd H D (.lst (acc ++ [.ref pq]))) := by
  obtain ⟨p1, Fy, e1, sy, hy, p2, FD, e2, sD, ⟨vs, g1, g2, g3⟩, k⟩ := h
  cases e1; cases e2
  have nD : Fy D = none := (minus_is (sD _ _ g1)).1
  have ev : vs = acc := by
    have := minus_sub _ _ (sD _ _ g1)
    rw [hD] at this
    cases this; rfl
  subst ev
  have dj : ∀ a w, Fy a = some w → FD a = none := fun a w z => by
    cases y : FD a with
    | none => rfl
    | some v => have := (minus_is (sD _ _ y)).1; rw [z] at this; cases this
  refine ⟨D, plus (upd FD D (.lst (vs ++ [.ref pq]))) Fy, rfl, fun a o e => ?_, ⟨vs ++ [.ref pq], ?_, by rw [List.length_append]; exact hlen, ?_⟩, ?_⟩
  · cases z : Fy a with
    | some v =>
      rw [plus_some z] at e
      cases e
      have ne : a ≠ D := fun q => by rw [q, nD] at z; cases z
      rw [upd_ne ne]; exact sy _ _ z
    | none =>
      rw [plus_none z] at e
      by_cases ne : a = D
      · rw [ne, upd_same] at e; rw [ne, upd_same]; exact e
      · rw [upd_ne ne] at e; rw [upd_ne ne]; exact minus_sub _ _ (sD _ _ e)
  · rw [plus_none nD, upd_same]
  · refine sepL.snoc (F1 := Fy) ?_ (fun a o e => ?_) hy
    · have : minus (del (plus (upd FD D (.lst (vs ++ [.ref pq]))) Fy) D) Fy = del FD D := by
        funext a
        cases z : Fy a with
        | some v =>
          rw [minus_some z]
          by_cases ne : a = D
          · rw [ne, del_same]
          · rw [del_ne ne, dj a v z]
        | none =>
          rw [minus_none z]
          by_cases ne : a = D
          · rw [ne, del_same, del_same]
          · rw [del_ne ne, del_ne ne, plus_none z, upd_ne ne]
      rw [this]; exact g3
    · have ne : a ≠ D := fun q => by rw [q, nD] at e; cases e
      rw [del_ne ne, plus_some e]
  · have : minus (upd H D (.lst (vs ++ [.ref pq]))) (plus (upd FD D (.lst (vs ++ [.ref pq]))) Fy) = minus (minus H Fy) FD := by
      funext a
      cases z : Fy a with
      | some v =>
        rw [minus_some (o := v) (plus_some z), minus_none (dj a v z), minus_some z]
      | none =>
        by_cases ne : a = D
        · rw [ne, minus_some (o := .lst (vs ++ [.ref pq])) (by rw [plus_none nD, upd_same]), minus_some (o := .lst vs) g1]
        · cases y : FD a with
          | some v => rw [minus_some (o := v) (by rw [plus_none z, upd_ne ne]; exact y), minus_some y]
          | none => rw [minus_none (by rw [plus_none z, upd_ne ne]; exact y), upd_ne ne, minus_none y, minus_none z]
    rw [this]; exact k
end
end GM
namespace GM
open PySem PySem.Spec PyProof.Rows L2
class NoLD {α : Type} (d : OT α) : Prop where
  tr : ∀ {H H' : Hp} {x : α} {p : Addr} {F : Hp}, (∀ a xs, H a = some (.tup xs) → H' a = some (.tup xs)) → d.φ H x p F → d.φ H' x p F
instance {α : Type} [Rq α] [NoL α] : NoLD (oL (α := α)) := ⟨fun e ⟨u, h1, vs, h2, h3, h4⟩ => ⟨u, h1, vs, h2, h3, Paired.mono h4 fun _ _ => NoL.tr e⟩⟩
theorem sepL.trD {α : Type} {d : OT α} [NoLD d] {H H' : Hp} (e : ∀ a xs, H a = some (.tup xs) → H' a = some (.tup xs)) : ∀ {xs : List α} {vs : List V} {F : Hp}, sepL d H xs vs F → sepL d H' xs vs F
  | [], [], _, h => h
  | _ :: _, _ :: _, _, ⟨p, F1, h1, h2, h3, k⟩ => ⟨p, F1, h1, h2, NoLD.tr e h3, sepL.trD e k⟩
instance {α : Type} {d : OT α} [NoLD d] : NoLD (oLL d) := ⟨fun e ⟨vs, h1, h2, h3⟩ => ⟨vs, h1, h2, h3.trD e⟩⟩
instance {α β : Type} {d : OT α} {d' : OT β} [NoLD d] [NoLD d'] : NoLD (ot2 d d') := ⟨fun e ⟨q, q', F1, F2, h1, h2, h3, h4, h5⟩ => ⟨q, q', F1, F2, h1, h2, NoLD.tr e h3, h4, NoLD.tr e h5⟩⟩
instance {α β : Type} {d : OT α} {d' : OT β} [NoLD d] [NoLD d'] : NoLD (oll2 d d') := ⟨fun e ⟨q, q', F1, F2, h1, h2, h3, h4, h5⟩ => ⟨q, q', F1, F2, h1, h2, NoLD.tr e h3, h4, NoLD.tr e h5⟩⟩
/-- handed back: something of our own -/
def PW {ρ : Type} (d : OT ρ) : Post ρ := fun r B _ _ D => ∀ p Hi H', SatG B Hi [oo d r] [some (.ref p)] H' → D.rt (.ref p) H'
instance {ρ : Type} {d : OT ρ} : Out (PW d) (PW d) := ⟨fun _ _ _ _ _ _ h => h⟩
instance {ρ : Type} {d : OT ρ} : RtOnly (PW d) := ⟨fun r B T T' tv tv' D D' e h p Hi H' q1 => by rw [e]; exact h p Hi H' q1⟩
end GM
namespace GM
open PySem PySem.Spec PyProof.Rows L2
instance {α β : Type} [DecidableEq α] [DecidableEq β] : DecidableEq (Ll α β) := fun x y =>
  if h : x.a = y.a ∧ x.b = y.b then isTrue (by cases x; cases y; obtain ⟨h1, h2⟩ := h; cases h1; cases h2; rfl) else isFalse (fun e => h (by rw [e]; exact ⟨rfl, rfl⟩))
instance {α β : Type} [Rq α] [Rq β] [DecidableEq α] [DecidableEq β] [Da α] [Da β] : Da (Ll α β) := ⟨fun x => .list [Da.dat x.a, Da.dat x.b], max (Da.dep α) (Da.dep β) + 1, fun h => by
    obtain ⟨a, v1, v2, h1, h2, h3, h4⟩ := h
    subst h1
    exact .lst (SqL.of h2) (.cons (Da.dp h3) (.cons (Da.dp h4) .nil)), fun x => by
    show max (PyData.depth (Da.dat x.a)) (max (PyData.depth (Da.dat x.b)) 0) + 1 ≤ _
    have := Da.hd x.a
    have := Da.hd x.b
    omega, fun x => by
    show (PyData.canLay0 (Da.dat x.a) && (PyData.canLay0 (Da.dat x.b) && true)) = true
    rw [Da.lay, Da.lay]; rfl, fun x y => by
    show (PyData.eqv (Da.dat x.a) (Da.dat y.a) && (PyData.eqv (Da.dat x.b) (Da.dat y.b) && true)) = _
    rw [Da.eqv, Da.eqv, Bool.and_true, ← Bool.decide_and]
    exact dec_iff ⟨fun ⟨h1, h2⟩ => by cases x; cases y; cases h1; cases h2; rfl, fun h => by rw [h]; exact ⟨rfl, rfl⟩⟩⟩
end GM
namespace GM
open PySem PySem.Spec PyProof.Rows L2
instance {α β : Type} [Rq α] [Rq β] [DecidableEq α] [DecidableEq β] [Da α] [Da β] : Da (Option (α × β)) := ⟨fun x => match x with | none => .none | some y => Da.dat y, Da.dep (α × β), fun {K H x v} h => by
    cases x with
    | none => cases (show v = .non from h); exact .non
    | some y => exact Da.dp (show rq H y v from h), fun x => by
    cases x with
    | none => exact Nat.zero_le _
    | some y => exact Da.hd y, fun x => by
    cases x with
    | none => rfl
    | some y => exact Da.lay y, fun x y => by
    cases x with
    | none => cases y with
      | none => rfl
      | some y => rw [decide_eq_false (by intro h; cases h)]; rfl
    | some x => cases y with
      | none => rw [decide_eq_false (by intro h; cases h)]; rfl
      | some y =>
        show PyData.eqv (Da.dat x) (Da.dat y) = _
        rw [Da.eqv]
        exact dec_iff (by rw [Option.some.injEq])⟩
end GM
namespace GM
open PySem PySem.Spec PyProof.Rows L2
end GM
namespace GM
open PySem L2
end GM
namespace GM
open PySem PySem.Spec PyProof.Rows L2
/-- our own list of two, what it holds stands still -/
def oLf {α β : Type} [Rq α] [Rq β] : OT (Ll α β) := ⟨fun H x p F => ∃ v1 v2, F = one p (.lst [v1, v2]) ∧ rq H x.a v1 ∧ rq H x.b v2, fun H H' x p F e ⟨v1, v2, h1, h2, h3⟩ => ⟨v1, v2, h1, Rq.mono e h2, Rq.mono e h3⟩⟩
instance {α β : Type} [Rq α] [Rq β] : Th (oLf (α := α) (β := β)) := ⟨fun {H x p F} n ⟨v1, v2, h1, h2, h3⟩ => by
  subst h1
  exact ⟨p, v1, v2, rfl, plus_some one_same, Rq.mono (same_plus n) h2, Rq.mono (same_plus n) h3⟩⟩
instance {α β : Type} [Rq α] [Rq β] [NoL α] [NoL β] : NoLD (oLf (α := α) (β := β)) := ⟨fun e ⟨v1, v2, h1, h2, h3⟩ => ⟨v1, v2, h1, NoL.tr e h2, NoL.tr e h3⟩⟩
end GM
namespace GM
open PySem PySem.Spec PyProof.Rows L2
end GM
namespace GM
open PySem PySem.Spec PyProof.Rows L2
/-- data with an order, alike in kind -/
class DaO (α : Type) [Rq α] [DecidableEq α] extends Da α where
  lt : α → α → Bool
  alike : ∀ a b : α, PySem.W.alike (dat a) (dat b) = true
  notNone : ∀ a : α, dat a ≠ .none
  lt_eq : ∀ a b : α, PySem.W.dataLt (dat a) (dat b) = lt a b
instance : DaO Int where
  lt a b := decide (a < b)
  alike a b := by show PySem.W.alike (.int a) (.int b) = true; simp only [PySem.W.alike]
  notNone a := fun e => by cases e
  lt_eq a b := PySem.W.dataLt_int a b
section
variable {α β γ : Type} [Rq α] [Rq β] [Rq γ] [DecidableEq α] [DecidableEq β] [DecidableEq γ] [DaO α] [DaO β] [DaO γ]
theorem dataLt_same (d : PyData) : PySem.W.dataLt d d = false := lex_irrefl _
theorem lt_all {a b : α} {xs ys : List PyData} : PyProof.Rows.lexLt itemOrd (PySem.W.keyToksAll (Da.dat a :: xs)) (PySem.W.keyToksAll (Da.dat b :: ys)) = if a = b then PyProof.Rows.lexLt itemOrd (PySem.W.keyToksAll xs) (PySem.W.keyToksAll ys) else DaO.lt a b := by
  by_cases h : a = b
  · rw [if_pos h, PySem.W.dataLt_all_yes (DaO.alike a b) (by rw [Da.eqv, decide_eq_true_eq]; exact h)]
  · rw [if_neg h, PySem.W.dataLt_all_no (DaO.alike a b) (by rw [Da.eqv, decide_eq_false_iff_not]; exact h)]
    exact DaO.lt_eq a b
theorem lt_last {a b : α} : PyProof.Rows.lexLt itemOrd (PySem.W.keyToksAll [Da.dat a]) (PySem.W.keyToksAll [Da.dat b]) = DaO.lt a b := by
  rw [lt_all]
  by_cases h : a = b
  · rw [if_pos h, lex_irrefl, h]
    exact ((dataLt_same _).symm.trans (DaO.lt_eq b b))
  · rw [if_neg h]
instance : DaO (α × β) where
  lt p q := if p.1 = q.1 then DaO.lt p.2 q.2 else DaO.lt p.1 q.1
  alike p q := by
    show PySem.W.alike (.tuple [_, _]) (.tuple [_, _]) = true
    simp only [PySem.W.alike, PySem.W.alikeAll, DaO.alike, Bool.and_self]
  notNone a := fun e => by cases e
  lt_eq p q := by
    refine (PySem.W.dataLt_tuple _ _).trans ?_
    rw [lt_all, lt_last]
instance {α β γ : Type} [DecidableEq α] [DecidableEq β] [DecidableEq γ] : DecidableEq (T3 α β γ) := fun x y =>
  if h : x.a = y.a ∧ x.b = y.b ∧ x.c = y.c then isTrue (by cases x; cases y; obtain ⟨h1, h2, h3⟩ := h; cases h1; cases h2; cases h3; rfl) else isFalse (fun e => h (by rw [e]; exact ⟨rfl, rfl, rfl⟩))
instance instDaT3 {α β γ : Type} [Rq α] [Rq β] [Rq γ] [DecidableEq α] [DecidableEq β] [DecidableEq γ] [Da α] [Da β] [Da γ] : Da (T3 α β γ) := ⟨fun x => .tuple [Da.dat x.a, Da.dat x.b, Da.dat x.c], max (Da.dep α) (max (Da.dep β) (Da.dep γ)) + 1, fun h => by
    obtain ⟨a, v1, v2, v3, h1, h2, h3, h4, h5⟩ := h
    subst h1
    exact .tup (SqT.of h2) (.cons (Da.dp h3) (.cons (Da.dp h4) (.cons (Da.dp h5) .nil))), fun x => by
    show max (PyData.depth (Da.dat x.a)) (max (PyData.depth (Da.dat x.b)) (max (PyData.depth (Da.dat x.c)) 0)) + 1 ≤ _
    have := Da.hd x.a
    have := Da.hd x.b
    have := Da.hd x.c
    omega, fun x => by
    show (PyData.canLay0 (Da.dat x.a) && (PyData.canLay0 (Da.dat x.b) && (PyData.canLay0 (Da.dat x.c) && true))) = true
    rw [Da.lay, Da.lay, Da.lay]; rfl, fun x y => by
    show (PyData.eqv (Da.dat x.a) (Da.dat y.a) && (PyData.eqv (Da.dat x.b) (Da.dat y.b) && (PyData.eqv (Da.dat x.c) (Da.dat y.c) && true))) = _
    rw [Da.eqv, Da.eqv, Da.eqv, Bool.and_true, ← Bool.decide_and, ← Bool.decide_and]
    exact dec_iff ⟨fun h => by cases x; cases y; obtain ⟨h1, h2, h3⟩ := h; cases h1; cases h2; cases h3; rfl, fun h => by rw [h]; exact ⟨rfl, rfl, rfl⟩⟩⟩
instance : DaO (T3 α β γ) where
  lt p q := if p.a = q.a then if p.b = q.b then DaO.lt p.c q.c else DaO.lt p.b q.b else DaO.lt p.a q.a
  alike p q := by
    show PySem.W.alike (.tuple [_, _, _]) (.tuple [_, _, _]) = true
    simp only [PySem.W.alike, PySem.W.alikeAll, DaO.alike, Bool.and_self]
  notNone a := fun e => by cases e
  lt_eq p q := by
    refine (PySem.W.dataLt_tuple _ _).trans ?_
    rw [lt_all, lt_all, lt_last]
end
section
variable {X : Cx}
variable {G : List SV} {α : Type} {pos p : Pos} {a : Expr} {ta : TE}
/-- of little depth -/
class DaS (α : Type) [Rq α] [DecidableEq α] [DaO α] : Prop where
  h : Da.dep α ≤ 60
instance : DaS (T3 Int Int Int) := ⟨by decide⟩
instance : DaS (Int × Int) := ⟨by decide⟩
end
end GM
namespace GM
open PySem PySem.Spec PyProof.Rows L2
/-- a caught one, of class cls, with its dict d -/
def ExQ (cls : Value) (d : Option Addr) (a : Addr) : HO := .ext fun h => ∃ (oe : Obj) (vs : Array Value), h.get? a = some oe ∧ Zc cls d oe ∧ oe.data = .fields vs
/-- what is wished where it is raised -/
def PX0 (cls : Value) (E : XK) : Post Unit := fun _ B _ _ _ => ∀ Hi H', SatG B Hi [] [] H' → E cls none H'
instance {cls : Value} {E : XK} : Out (PX0 cls E) (PX0 cls E) := ⟨fun _ _ _ _ _ _ h => h⟩
instance {cls : Value} {E : XK} : RtOnly (PX0 cls E) := ⟨fun _ _ _ _ _ _ _ _ _ h => h⟩
structure CalX (X : Cx) (x : Str) (sp : Sp) : Prop where
  ok : ∃ (k : Nat) (f : Addr) (fd : FuncData) (ps : List Str), FnOk X.prog X.w X.K X.mg X.base (L2.CX X.prog X.w) k f fd ps sp ∧ Room k X.A ∧ X.mg x = some (.ref f) ∧ PySem.W.keepIn X.K (.ref f) = true ∧ Binds X.K fd ps []
structure CalBX (P : Program) (w : World) (K : PySem.W.Frag) (mg : Str → Option Value) (base : Heap) (k : Nat) (x : Str) (sp : Sp) : Prop where
  ok : ∃ (f : Addr) (fd : FuncData) (ps : List Str), FnOk P w K mg base (L2.CX P w) k f fd ps sp ∧ mg x = some (.ref f) ∧ PySem.W.keepIn K (.ref f) = true ∧ Binds K fd ps []
theorem CalBX.at {X : Cx} {k : Nat} {x : Str} {sp : Sp} (C : CalBX X.prog X.w X.K X.mg X.base k x sp) (hr : Room k X.A) : CalX X x sp := by
  obtain ⟨f, fd, ps, h1, h2, h3, h4⟩ := C.ok
  exact ⟨k, f, fd, ps, h1, hr, h2, h3, h4⟩
end GM
namespace GM
open PySem PySem.Spec PyProof.Rows L2
def PX1 (cls : Value) (f : Str) (E : XK) : Post Int := fun r B _ _ _ => ∀ d Hi H', SatG B Hi [] [] H' → B.h0 d = none → H' d = some (.xd [(f, .int r)]) → E cls (some d) H'
instance {cls : Value} {f : Str} {E : XK} : Out (PX1 cls f E) (PX1 cls f E) := ⟨fun _ _ _ _ _ _ h => h⟩
instance {cls : Value} {f : Str} {E : XK} : RtOnly (PX1 cls f E) := ⟨fun _ _ _ _ _ _ _ _ _ h => h⟩
end GM
namespace GM
open PySem PySem.Spec PyProof.Rows L2
structure Ll3 (α β γ : Type) where
  a : α
  b : β
  c : γ
def repLl3 {α β γ : Type} [Rq α] [Rq β] [Rq γ] (H : Hp) (x : Ll3 α β γ) (v : V) : Prop := ∃ q v1 v2 v3, v = .ref q ∧ H q = some (.lst [v1, v2, v3]) ∧ rq H x.a v1 ∧ rq H x.b v2 ∧ rq H x.c v3
instance {α β γ : Type} [Rq α] [Rq β] [Rq γ] : Rp (Ll3 α β γ) := ⟨repLl3, fun {H H' x v} e h => by
  obtain ⟨a, v1, v2, v3, h1, h2, h3, h4, h5⟩ := h
  exact ⟨a, v1, v2, v3, h1, e _ _ h2, Rq.mono e h3, Rq.mono e h4, Rq.mono e h5⟩, fun h => by
  obtain ⟨a, v1, v2, v3, h1, h2, h3, h4, h5⟩ := h
  rw [h1]; exact fun z => by cases z⟩
instance {α β γ : Type} [Inhabited α] [Inhabited β] [Inhabited γ] : Inhabited (Ll3 α β γ) := ⟨⟨default, default, default⟩⟩
instance {α β γ : Type} [Rq α] [Rq β] [Rq γ] : TyN (Ll3 α β γ) := ⟨"list", fun h => by obtain ⟨a, v1, v2, v3, h1, h2, _⟩ := h; subst h1; exact .base (.lst h2)⟩
section
variable {X : Cx} {e a b c d : Expr} {es : List Expr} {t ta tb tc te : TE} {tr : TA} {G : List SV} {α β γ τ ρ O S R : Type} {pos p : Pos} {n : Str} {rest : List Stmt} {u ts : TS} {P Px : Post O}
theorem ej_ll3 [Rq α] [Rq β] [Rq γ] {m : Option (α × β × γ × Unit)} (h : AJ X [a, b, c] tr G m) : EJ X (.List [a, b, c] pos) (tLst tr) G (m.bind fun x => some (Ll3.mk x.1 x.2.1 x.2.2.1)) := ⟨pe_lst h.pa, fun B Hi T tv s H Q z hx hl hs k => by
  obtain ⟨x, e1, e2⟩ := bind_some hx
  cases e2
  refine h.ev B Hi T tv s H _ x e1 hl hs fun vs Hi1 H1 s1 r1 => ?_
  obtain ⟨v1, us, rfl, h1, v2, us2, rfl, h2, v3, us3, rfl, h3, h4⟩ := r1
  cases h4
  refine ⟨by show 3 ≤ sizeLine; decide, fun p hp => ?_⟩
  obtain ⟨s2, sm⟩ := sat_lst (vs := [v1, v2, v3]) s1 hp
  exact k _ _ _ s2 ⟨p, v1, v2, v3, rfl, upd_same, Rq.mono sm h1, Rq.mono sm h2, Rq.mono sm h3⟩⟩
theorem gj_ll3 [Rq α] [Rq β] [Rq γ] {g1 g2 g3 : TG} {f1 : α → List SV → List SV} {f2 : β → List SV → List SV} {f3 : γ → List SV → List SV} {i1 i2 i3 : List Nat} {k : Nat} (hc : X.calm = true) (h1 : GJ X a g1 f1 i1) (h2 : GJ X b g2 f2 i2) (h3 : GJ X c g3 f3 i3)
    (hs1 : (assignEach [a, b, c] X.env).map (·.2) = assign a X.env :: (assignEach [b, c] X.env).map (·.2) := by rfl) (hs2 : (assignEach [b, c] X.env).map (·.2) = assign b X.env :: (assignEach [c] X.env).map (·.2) := by rfl) (hs3 : (assignEach [c] X.env).map (·.2) = assign c X.env :: (assignEach [] X.env).map (·.2) := by rfl)
    (hn : (assignEach [a, b, c] X.env).length = 3 := by rfl) (hst : (assignEach [a, b, c] X.env).findIdx? (·.1) = none := by rfl) :
    GJ (α := Ll3 α β γ) X (.Tuple [a, b, c] k pos) (gLst X.K 3 (gCons g1 (gCons g2 (gCons g3 gNil)))) (fun x G => f3 x.c (f2 x.b (f1 x.a G))) (i1 ++ (i2 ++ i3)) := ⟨pg_lst hc (pgs_cons h1.pg (pgs_cons h2.pg (pgs_cons h3.pg pgs_nil hs3) hs2) hs1) hn hst, fun B Hi T tv s H G v x Q hl hs r kk => by
  obtain ⟨q, v1, v2, v3, e1, e2, r1, r2, r3⟩ := r
  refine ⟨q, [v1, v2, v3], e1, SqL.of (hs.sub _ _ e2), rfl, v1, [v2, v3], rfl, ?_⟩
  refine h1.ev B Hi T tv s H G v1 x.a _ hl hs r1 fun s' s2 w1 => ⟨v2, [v3], rfl, ?_⟩
  refine h2.ev B Hi T tv s' H _ v2 x.b _ hl s2 r2 fun s'' s3 w2 => ⟨v3, [], rfl, ?_⟩
  refine h3.ev B Hi T tv s'' H _ v3 x.c _ hl s3 r3 fun s3' s4 w3 => ⟨rfl, kk s3' s4 fun vs hv => ?_⟩
  rw [w3 vs fun i hi => hv i (List.mem_append_right _ (List.mem_append_right _ hi)), w2 vs fun i hi => hv i (List.mem_append_right _ (List.mem_append_left _ hi)), w1 vs fun i hi => hv i (List.mem_append_left _ hi)]⟩
variable {cls : Value} {E : XK} {tg : Expr} {body : List Stmt}
end
end GM
namespace GM
open PySem PySem.Spec PyProof.Rows L2
def odk {α : Type} [Rq α] (q : Addr) (o : Obj) (kvs : List (L2.Key × V)) (d : Dc α) : SV := .ow (fun H q' F => q' = q ∧ F = one q (.frz o (.dK kvs)) ∧ kvs.length ≤ sizeLine ∧ Paired (prD H) d.l kvs) (fun _ _ _ _ e ⟨h1, h2, h3, h4⟩ => ⟨h1, h2, h3, Paired.mono h4 (prD_mono e)⟩)
section
variable {X : Cx} {e a b c : Expr} {es : List Expr} {t ta tb tc te : TE} {tr : TA} {G : List SV} {α β γ τ ρ O S R : Type} {pos p apos cpos tpos : Pos} {n : Str} {rest : List Stmt} {u ts : TS} {P Px : Post O}
def PJ {S O : Type} (N : S → List SV) (Px : Post O) : Post (Fl S O) := fun o B T tv D => match o with
  | .go st => ∀ s Hi H', SatG B Hi (T ++ N st) (tv ++ s) H' → D.nx s H'
  | .stop _ => True
  | .ret r => Px r B T tv D
def PJx {O : Type} (S : Type) (Px : Post O) : Post (Fl S O) := fun o B T tv D => match o with
  | .go _ => True
  | .stop _ => True
  | .ret r => Px r B T tv D
instance {S O : Type} {N : S → List SV} {Px : Post O} [Out Px Px] : Out (PJ N Px) (PJx S Px) := ⟨fun o _ _ _ _ _ h => by
  cases o with
  | go st => trivial
  | stop st => trivial
  | ret r => exact Out.out (P := Px) _ _ _ _ _ _ h⟩
instance {S O : Type} {Px : Post O} [Out Px Px] : Out (PJx S Px) (PJx S Px) := ⟨fun o _ _ _ _ _ h => by
  cases o with
  | go st => trivial
  | stop st => trivial
  | ret r => exact Out.out (P := Px) _ _ _ _ _ _ h⟩
variable {ss : List Stmt}
theorem bj_nilJ {N : S → List SV} {Px : Post R} (st : S) (w : Wk G (N st)) : BJ X [] tNext G (some (.go st)) (PJ N Px) := ⟨pss_nil, fun B Hi T tv s H D o hx hl hs k => by cases hx; exact k s Hi H (hs.wkT hl w)⟩
theorem bj_inJ {N : S → List SV} {Px : Post R} {m : Option R} (h : BJ X ss u G m Px) : BJ X ss u G (m.bind fun o => some (Fl.ret o)) (PJ N Px) := ⟨h.ps, fun B Hi T tv s H D o hx hl hs k => by
  obtain ⟨r, e1, e2⟩ := bind_some hx
  cases e2
  exact h.ev B Hi T tv s H D r e1 hl hs k⟩
theorem bj_ifJF {tc' : TT} {tA tB : TS} {aS bS : List Stmt} {N : S → List SV} {mc : Option Bool} {ma mb : Option (Fl S O)} {mr : S → Option O} [Out P Px] (hc : TJ X c tc' G mc) (ha : BJ X aS tA G ma (PJ N Px)) (hb : BJ X bS tB G mb (PJ N Px)) (s0 : S) (hr : ∀ st, BJ X rest u (N st) (mr st) P) :
    BJ X (.If c aS bS pos :: rest) (tSeq (tIfS tc' tA tB) u) G ((mc.bind fun x => if x = true then ma else mb).bind (flR mr id)) P :=
  ⟨pss_cons (ps_if hc.pt ha.ps hb.ps) (hr s0).ps, fun B Hi T tv s H D o hx hl hs k => by
    obtain ⟨st, hx, e3⟩ := bind_some hx
    obtain ⟨x, e1, e2⟩ := bind_some hx
    refine hc.ev B Hi T tv s H _ x e1 hl hs fun Hi1 H1 s1 => ?_
    have fin : PJ N Px st B T tv { D with nx := u D } := by
      cases st with
      | go st => exact fun s' Hi' H' q => (hr st).ev B Hi' T tv s' H' D o e3 hl q k
      | stop st => trivial
      | ret r =>
        cases e3
        exact Out.out (P := P) (Px := Px) _ _ _ _ _ _ k
    cases x with
    | true =>
      rw [if_pos rfl] at e2 ⊢
      exact ha.ev B Hi1 T tv s H1 _ st e2 hl s1 fin
    | false =>
      rw [if_neg Bool.false_ne_true] at e2 ⊢
      exact hb.ev B Hi1 T tv s H1 _ st e2 hl s1 fin⟩
end
end GM
namespace GM
open PySem PySem.Spec PyProof.Rows L2
end GM
namespace GM
open PySem PySem.Spec PyProof.Rows L2
instance {α β γ : Type} [DecidableEq α] [DecidableEq β] [DecidableEq γ] : DecidableEq (Ll3 α β γ) := fun x y =>
  if h : x.a = y.a ∧ x.b = y.b ∧ x.c = y.c then isTrue (by cases x; cases y; obtain ⟨h1, h2, h3⟩ := h; cases h1; cases h2; cases h3; rfl) else isFalse (fun e => h (by rw [e]; exact ⟨rfl, rfl, rfl⟩))
instance {α β γ : Type} [Rq α] [Rq β] [Rq γ] [DecidableEq α] [DecidableEq β] [DecidableEq γ] [Da α] [Da β] [Da γ] : Da (Ll3 α β γ) := ⟨fun x => .list [Da.dat x.a, Da.dat x.b, Da.dat x.c], max (Da.dep α) (max (Da.dep β) (Da.dep γ)) + 1, fun h => by
    obtain ⟨a, v1, v2, v3, h1, h2, h3, h4, h5⟩ := h
    subst h1
    exact .lst (SqL.of h2) (.cons (Da.dp h3) (.cons (Da.dp h4) (.cons (Da.dp h5) .nil))), fun x => by
    show max (PyData.depth (Da.dat x.a)) (max (PyData.depth (Da.dat x.b)) (max (PyData.depth (Da.dat x.c)) 0)) + 1 ≤ _
    have := Da.hd x.a
    have := Da.hd x.b
    have := Da.hd x.c
    omega, fun x => by
    show (PyData.canLay0 (Da.dat x.a) && (PyData.canLay0 (Da.dat x.b) && (PyData.canLay0 (Da.dat x.c) && true))) = true
    rw [Da.lay, Da.lay, Da.lay]; rfl, fun x y => by
    show (PyData.eqv (Da.dat x.a) (Da.dat y.a) && (PyData.eqv (Da.dat x.b) (Da.dat y.b) && (PyData.eqv (Da.dat x.c) (Da.dat y.c) && true))) = _
    rw [Da.eqv, Da.eqv, Da.eqv, Bool.and_true, ← Bool.decide_and, ← Bool.decide_and]
    exact dec_iff ⟨fun h => by cases x; cases y; obtain ⟨h1, h2, h3⟩ := h; cases h1; cases h2; cases h3; rfl, fun h => by rw [h]; exact ⟨rfl, rfl, rfl⟩⟩⟩
end GM
namespace GM
open PySem PySem.Spec PyProof.Rows L2
end GM
namespace GM
open PySem PySem.Spec PyProof.Rows L2
/-- handed back from within the walk over the dict at q -/
def PRk {α ρ : Type} [Rq α] [Rq ρ] (q : Addr) (o : Obj) (kvs : List (L2.Key × V)) (d : Dc α) : Post ρ := fun r B _ _ D => ∀ v Hi H', SatG B Hi [odk q o kvs d] [some (.ref q)] H' → rq Hi r v → D.rt v H'
instance {α ρ : Type} [Rq α] [Rq ρ] {q : Addr} {o : Obj} {kvs : List (L2.Key × V)} {d : Dc α} : RtOnly (PRk (ρ := ρ) q o kvs d) := ⟨fun r B T T' tv tv' D D' e h v Hi H' q1 q2 => by rw [e]; exact h v Hi H' q1 q2⟩
instance {α ρ : Type} [Rq α] [Rq ρ] {q : Addr} {o : Obj} {kvs : List (L2.Key × V)} {d : Dc α} : Out (PRk (ρ := ρ) q o kvs d) (PRk q o kvs d) := ⟨fun _ _ _ _ _ _ h => h⟩
end GM
namespace GM
open PySem PySem.Spec PyProof.Rows L2
/-- what a field holds: φ while it is ours, with its part; ψ when it is let go -/
structure FV where
  φ : Hp → V → Hp → Prop
  m : ∀ H H' v F, Same H H' → φ H v F → φ H' v F
  ψ : Hp → V → Prop
  mψ : ∀ H H' v, Same H H' → ψ H v → ψ H' v
  th : ∀ H v F, (∀ a u, F a = some u → H a = none) → φ H v F → ψ (plus H F) v
def NoLF (f : FV) : Prop := ∀ {H H' : Hp} {v : V} {F : Hp}, (∀ a xs, H a = some (.tup xs) → H' a = some (.tup xs)) → f.φ H v F → f.φ H' v F
def FldsO (H : Hp) : List (Str × FV) → List (Str × V) → Hp → Prop
  | [], [], F => ∀ a, F a = none
  | n :: L, v :: fs, F => n.1 = v.1 ∧ ∃ F1, Same F1 F ∧ n.2.φ H v.2 F1 ∧ FldsO H L fs (minus F F1)
  | [], _ :: _, _ => False
  | _ :: _, [], _ => False
def FldsR (H : Hp) : List (Str × FV) → List (Str × V) → Prop
  | [], [] => True
  | n :: L, v :: fs => n.1 = v.1 ∧ n.2.ψ H v.2 ∧ FldsR H L fs
  | [], _ :: _ => False
  | _ :: _, [] => False
def NoLFs : List (Str × FV) → Prop
  | [] => True
  | p :: L => NoLF p.2 ∧ NoLFs L
section
variable {H H' : Hp}
theorem FldsO.mono (e : Same H H') : ∀ {L : List (Str × FV)} {fs : List (Str × V)} {F : Hp}, FldsO H L fs F → FldsO H' L fs F
  | [], [], _, h => h
  | n :: L, v :: fs, F, ⟨h1, F1, h2, h3, k⟩ => ⟨h1, F1, h2, n.2.m _ _ _ _ e h3, FldsO.mono e k⟩
theorem FldsR.mono (e : Same H H') : ∀ {L : List (Str × FV)} {fs : List (Str × V)}, FldsR H L fs → FldsR H' L fs
  | [], [], h => h
  | n :: L, v :: fs, ⟨h1, h2, k⟩ => ⟨h1, n.2.mψ _ _ _ e h2, FldsR.mono e k⟩
theorem FldsO.tr (e : ∀ a xs, H a = some (.tup xs) → H' a = some (.tup xs)) : ∀ {L : List (Str × FV)} {fs : List (Str × V)} {F : Hp}, NoLFs L → FldsO H L fs F → FldsO H' L fs F
  | [], [], _, _, h => h
  | n :: L, v :: fs, F, ⟨q, qs⟩, ⟨h1, F1, h2, h3, k⟩ => ⟨h1, F1, h2, q e h3, FldsO.tr e qs k⟩
theorem FldsO.len : ∀ {L : List (Str × FV)} {fs : List (Str × V)} {F : Hp}, FldsO H L fs F → fs.length = L.length
  | [], [], _, _ => rfl
  | n :: L, v :: fs, F, ⟨_, F1, _, _, k⟩ => by rw [List.length_cons, List.length_cons, FldsO.len k]
theorem FldsO.snoc {n : Str × FV} {v : V} {F1 : Hp} : ∀ {L : List (Str × FV)} {fs : List (Str × V)} {F : Hp}, FldsO H L fs (minus F F1) → Same F1 F → n.2.φ H v F1 → FldsO H (L ++ [n]) (fs ++ [(n.1, v)]) F
  | [], [], F, h, sf, hx => ⟨rfl, F1, sf, hx, h⟩
  | m :: L, w :: fs, F, ⟨h0, G1, h2, h3, k⟩, sf, hx => by
    refine ⟨h0, G1, h2.trans minus_sub, h3, FldsO.snoc (F := minus F G1) ?_ (fun a u e => ?_) hx⟩
    · rw [minus_comm]; exact k
    · cases z : G1 a with
      | none => rw [minus_none z]; exact sf _ _ e
      | some w => have := h2 _ _ z; rw [minus_some e] at this; cases this
theorem FldsO.thaw {H : Hp} : ∀ {L : List (Str × FV)} {fs : List (Str × V)} {F F0 : Hp}, FldsO H L fs F → Same F F0 → (∀ a u, F0 a = some u → H a = none) → FldsR (plus H F0) L fs
  | [], [], _, _, _, _, _ => trivial
  | n :: L, v :: fs, F, F0, ⟨h1, F1, h2, h3, k⟩, sf, nn => ⟨h1, n.2.mψ _ _ _ (same_plus2 nn (h2.trans sf)) (n.2.th _ _ _ (fun a u e => nn a u (sf _ _ (h2 _ _ e))) h3), FldsO.thaw k (minus_sub.trans sf) nn⟩
theorem FldsR.get {f : Str} {y : FV} : ∀ {L : List (Str × FV)} {fs : List (Str × V)}, FldsR H L fs → L.lookup f = some y → ∃ v, fs.lookup f = some v ∧ y.ψ H v
  | [], [], _, hl => by cases hl
  | n :: L, w :: fs, ⟨h1, h2, k⟩, hl => by
    rw [List.lookup_cons] at hl ⊢
    rw [← h1]
    cases q : f == n.1 with
    | true => rw [q] at hl; cases hl; exact ⟨w.2, rfl, h2⟩
    | false => rw [q] at hl; exact FldsR.get k hl
end
/-- an instance that stands still -/
def repIns (C : Addr) (L : List (Str × FV)) (H : Hp) (v : V) : Prop := ∃ a dx fs, v = .ref a ∧ H a = some (.ins C dx fs) ∧ FldsR H L fs
theorem repIns.mono {C : Addr} {L : List (Str × FV)} {H H' : Hp} {v : V} (e : Same H H') (h : repIns C L H v) : repIns C L H' v := by
  obtain ⟨a, dx, fs, h1, h2, h3⟩ := h
  exact ⟨a, dx, fs, h1, e _ _ h2, h3.mono e⟩
/-- a method as it is called -/
structure Met (X : Cx) (C : Addr) (m : Str) (sp : Sp) : Prop where
  ok : ∃ (k : Nat) (f : Addr) (fd : FuncData) (ps : List Str), FnOk X.prog X.w X.K X.mg X.base CX0 k f fd ps sp ∧ Room k X.A ∧ Meth X.K C m f ∧ Binds X.K fd ps []
structure CalM (P : Program) (w : World) (K : PySem.W.Frag) (mg : Str → Option Value) (base : Heap) (k : Nat) (C : Addr) (m : Str) (sp : Sp) : Prop where
  ok : ∃ (f : Addr) (fd : FuncData) (ps : List Str), FnOk P w K mg base CX0 k f fd ps sp ∧ Meth K C m f ∧ Binds K fd ps []
theorem CalM.at {X : Cx} {k : Nat} {C : Addr} {m : Str} {sp : Sp} (M : CalM X.prog X.w X.K X.mg X.base k C m sp) (hr : Room k X.A) : Met X C m sp := by
  obtain ⟨f, fd, ps, h1, h2, h3⟩ := M.ok
  exact ⟨k, f, fd, ps, h1, hr, h2, h3⟩
/-- __init__ as C(..) calls it -/
structure MakX (X : Cx) (C : Addr) (sp : Sp) : Prop where
  ok : ∃ (k : Nat) (f : Addr) (fd : FuncData) (ps : List Str), FnOk X.prog X.w X.K X.mg X.base CX0 k f fd ps sp ∧ Room (k + 1) X.A ∧ Mk X.K C f ∧ Binds X.K fd ps []
structure CalN (P : Program) (w : World) (K : PySem.W.Frag) (mg : Str → Option Value) (base : Heap) (k : Nat) (C : Addr) (sp : Sp) : Prop where
  ok : ∃ (f : Addr) (fd : FuncData) (ps : List Str), FnOk P w K mg base CX0 k f fd ps sp ∧ Mk K C f ∧ Binds K fd ps []
theorem CalN.at {X : Cx} {k : Nat} {C : Addr} {sp : Sp} (M : CalN X.prog X.w X.K X.mg X.base k C sp) (hr : Room (k + 1) X.A) : MakX X C sp := by
  obtain ⟨f, fd, ps, h1, h2, h3⟩ := M.ok
  exact ⟨k, f, fd, ps, h1, hr, h2, h3⟩
end GM
namespace GM
open PySem PySem.Spec PyProof.Rows L2
end GM
namespace PySem
open Sem (wp)
open AutoSeq1 (wpAny_loadPart')
end PySem
namespace GM
open PySem PySem.Spec PyProof.Rows L2
def SqK (t : Bool) (K : PySem.W.Frag) (H : Hp) (a : Addr) (xs : List V) : Prop := match t with
  | true => SqT K H a xs
  | false => SqL K H a xs
def IsSq (t : Bool) (h : Heap) (a : Addr) (its : Array Value) : Prop := match t with
  | true => h.IsTuple a its
  | false => h.IsList a its
def IsIt (t : Bool) (h : Heap) (it a : Addr) (i : Nat) : Prop := match t with
  | true => h.IsTupleIter it a i
  | false => h.IsListIter it a i
def itO (t : Bool) (a : Addr) : Obj := match t with
  | true => { cls := .type "tuple_iterator", data := .fields #[.ref a, .int 0 0] }
  | false => { cls := .type "list_iterator", data := .fields #[.ref a, .int 0 0] }
theorem sq_at {X : Cx} {t : Bool} {pins : List (Addr × Obj)} {σ : L2.St} {H : Hp} {s : Shared} {a : Addr} {xs : List V} (I : L2.Inv X pins σ H s) (h : SqK t X.K H a xs) : ∃ its : List Value, Vals xs its ∧ IsSq t s.heap a its.toArray ∧ a < s.heap.objs.size := by
  cases t with
  | true =>
    obtain ⟨its, rv, p, _⟩ := I.tuple h
    obtain ⟨o, ho, _⟩ := id p
    exact ⟨its, rv, p, Heap.lt_size ho⟩
  | false =>
    obtain ⟨its, rv, p, _⟩ := I.list h
    exact ⟨its, rv, p.isList, p.lt⟩
theorem sq_inj {X : Cx} {t : Bool} {pins : List (Addr × Obj)} {σ : L2.St} {H : Hp} {s : Shared} {a : Addr} {xs ys : List V} (I : L2.Inv X pins σ H s) (h : SqK t X.K H a xs) (h' : SqK t X.K H a ys) : xs = ys := by
  cases t with
  | true => exact I.tuple_inj h h'
  | false => exact I.list_inj h h'
theorem draws_k (t : Bool) {prog : Program} {w : World} {A : Around} (hh : A.handled = none) (it l : Addr) (hne : l ≠ it) (items : Array Value) :
    Draws prog w A it [it, l] items.size (fun i v => items[i]? = some v) (fun i h => IsIt t h it l i ∧ IsSq t h l items) := by
  cases t with
  | true => exact Draws.tuple hh it l hne items
  | false => exact Draws.list hh it l hne items
theorem begins_k (t : Bool) (l : Addr) (items : Array Value) : Begins (.ref l) (itO t l) fun h => IsSq t h l items := by
  cases t with
  | true => exact begins_tuple l items
  | false => exact begins_list l items
theorem it_0 {t : Bool} {h : Heap} {it a : Addr} (e : h.get? it = some (itO t a)) : IsIt t h it a 0 := by
  cases t with
  | true => exact ⟨_, e, rfl, rfl⟩
  | false => exact ⟨_, e, rfl, rfl⟩
theorem it_at {t : Bool} {h h' : Heap} {it a : Addr} {i : Nat} (x : IsIt t h it a i) (e : ∀ o, h.get? it = some o → h'.get? it = some o) : IsIt t h' it a i := by
  cases t with
  | true => exact Heap.IsTupleIter.at x e
  | false => exact Heap.IsListIter.at x e
theorem it_obj {t : Bool} {h : Heap} {it a : Addr} {i : Nat} (x : IsIt t h it a i) : ∃ o fs, h.get? it = some o ∧ o.data = .fields fs := by
  cases t with
  | true => obtain ⟨o, e, _, d⟩ := x; exact ⟨o, _, e, d⟩
  | false => obtain ⟨o, e, _, d⟩ := x; exact ⟨o, _, e, d⟩
def Itzk (t1 t2 : Bool) (K : PySem.W.Frag) (a b : Addr) : It :=
  ⟨fun i H => ∃ (xs ys : List V) (x y : V), SqK t1 K H a xs ∧ SqK t2 K H b ys ∧ xs[i]? = some x ∧ ys[i]? = some y,
    fun i H v H' => ∃ T x y, v = .ref T ∧ H T = none ∧ H' = upd H T (.tup [x, y]) ∧ (∀ xs, SqK t1 K H a xs → xs[i]? = some x) ∧ ∀ ys, SqK t2 K H b ys → ys[i]? = some y,
    fun i H => ∃ xs ys : List V, SqK t1 K H a xs ∧ SqK t2 K H b ys ∧ i = min xs.length ys.length⟩
theorem sep2 {N a b : Nat} (ha : a < N) (hb : b < N) : ZipSep2 (N + 4) (N + 2) (N + 3) N (N + 1) [N, a] [N + 1, b] := by
  constructor <;> first | (simp; done) | (intro h; simp at h; revert h; exact Nat.ne_of_gt (by omega)) | (intro h; simp at h; revert h; exact Nat.ne_of_lt (by omega)) | (intro h; simp at h)
theorem turn_zipk {t1 t2 : Bool} {P : Program} {w : World} {K : PySem.W.Frag} {elts : List Expr} {kk : Nat} {tpos : Pos} {a b z TI TO i1 i2 : Addr} (D : ZipSep2 z TI TO i1 i2 [i1, a] [i2, b]) (n1 : a ≠ i1) (n2 : b ≠ i2) :
    Turn P w K (.Tuple elts kk tpos) (Itzk t1 t2 K a b) [z, TI, TO, i1, i2] z (fun i h => IsZip h z TI TO .none ∧ IsTupOf2 h TI (.ref i1) (.ref i2) ∧ (∃ x y, IsTupOf2 h TO x y) ∧ IsIt t1 h i1 a i ∧ IsIt t2 h i2 b i) where
  mem := by simp
  obj := fun i h st d hd => by
    obtain ⟨hz, hTI, ⟨x, y, hTO⟩, h1, h2⟩ := st
    obtain ⟨o1, f1, e1, d1⟩ := it_obj h1
    obtain ⟨o2, f2, e2, d2⟩ := it_obj h2
    have e' : d = z ∨ d = TI ∨ d = TO ∨ d = i1 ∨ d = i2 := by simpa using hd
    rcases e' with q | q | q | q | q
    · rw [q]; exact ⟨_, hz, fun v q => nomatch q⟩
    · rw [q]; exact ⟨_, hTI, fun v q => nomatch q⟩
    · rw [q]; exact ⟨_, hTO, fun v q => nomatch q⟩
    · rw [q]; exact ⟨o1, e1, fun v q => by rw [d1] at q; cases q⟩
    · rw [q]; exact ⟨o2, e2, fun v q => by rw [d2] at q; cases q⟩
  keep := fun i h h' st k => by
    obtain ⟨hz, hTI, ⟨x, y, hTO⟩, h1, h2⟩ := st
    exact ⟨k z (by simp) _ hz, k TI (by simp) _ hTI, ⟨x, y, k TO (by simp) _ hTO⟩, it_at h1 fun o q => k i1 (by simp) o q, it_at h2 fun o q => k i2 (by simp) o q⟩
  item := by
    intro X hP hw hK hc i pins s σ H E I hf st hg
    subst hP hw hK
    obtain ⟨hz, hTI, ⟨x0, y0, hTO⟩, h1, h2⟩ := st
    obtain ⟨xs, ys, x, y, hqx, hqy, hx, hy⟩ := hg
    obtain ⟨its, rv, p, _⟩ := sq_at I hqx
    obtain ⟨its2, rv2, p2, _⟩ := sq_at I hqy
    obtain ⟨u, hu, ru⟩ := rv.get hx
    obtain ⟨u2, hu2, ru2⟩ := rv2.get hy
    have l1 : i < its.length := (List.getElem?_eq_some_iff.mp hu).1
    have l2 : i < its2.length := (List.getElem?_eq_some_iff.mp hu2).1
    have hzl : z < s.heap.objs.size := Heap.lt_size hz
    have hh : X.A.in1.handled = none := I.ok.hd hc
    have D1 := draws_k t1 (prog := X.prog) (w := X.w) (A := X.A.in1) hh i1 a n1 its.toArray
    have D2 := draws_k t2 (prog := X.prog) (w := X.w) (A := X.A.in1) hh i2 b n2 its2.toArray
    refine wpAny_pyNext_zipD2_item D D1 D2 hz hTI hTO ⟨h1, p⟩ ⟨h2, p2⟩ (by simpa using l1) (by simpa using l2) fun x1 x2 h' tk q1 q2 z' TO' st1' st2' hT hsz hk => ?_
    have e1 : x1 = u := by rw [show its.toArray[i]? = some u by simpa using hu] at q1; exact (Option.some.inj q1).symm
    have e2 : x2 = u2 := by rw [show its2.toArray[i]? = some u2 by simpa using hu2] at q2; exact (Option.some.inj q2).symm
    subst e1 e2
    refine ⟨_, rfl, wpAny_letOwnedTupleGo_zip (s := { s with heap := h', toks := tk }) z' fun h'' z'' sb => ?_⟩
    have hT2 : h''.get? s.heap.objs.size = some { cls := .type "tuple", data := .seq #[x1, x2] } := (sb.2 _ (Nat.ne_of_gt hzl)).trans hT
    have new : ObjOk X.prog X.w (upd H s.heap.objs.size (.tup [x, y])) h'' s.heap.objs.size (.tup [x, y]) :=
      ⟨by show 2 ≤ sizeLine; decide, [x1, x2], .cons ru (.cons ru2 .nil), ⟨_, hT2, rfl, _, rfl⟩⟩
    have I1 : Inv X pins σ (upd H s.heap.objs.size (.tup [x, y])) { s with heap := h'', toks := tk } :=
      I.turnedNew (t' := tk) (ch := [z, TI, TO, i1, i2]) (fun d o hb q => (sb.2 d (fun q' => hb (by simp [q']))).trans (hk d o (fun q' => hb (by simp [q'])) (fun q' => hb (by simp [q'])) (fun q' => hb (by simp [q'])) (fun q' => hb (by simp [q'])) q)) hf (Nat.le_refl _) new
    refine ⟨.ref s.heap.objs.size, _, I1, rfl, ⟨_, x, y, rfl, I.hok.fresh (Nat.le_refl _), rfl, fun l hl => by rw [sq_inj I hl hqx]; exact hx, fun l hl => by rw [sq_inj I hl hqy]; exact hy⟩, ⟨z'', ?_, ⟨x1, x2, ?_⟩, ?_, ?_⟩, fun d hdm => ?_⟩
    · exact (sb.2 _ D.TIz).trans (hk _ _ D.TIz D.TITO D.TIi1 D.TIi2 hTI)
    · exact (sb.2 _ D.TOz).trans TO'
    · exact it_at st1'.1 fun o q => (sb.2 _ (Ne.symm D.zi1)).trans q
    · exact it_at st2'.1 fun o q => (sb.2 _ (Ne.symm D.zi2)).trans q
    · have hlt : d < s.heap.objs.size := by
        have e' : d = z ∨ d = TI ∨ d = TO ∨ d = i1 ∨ d = i2 := by simpa using hdm
        rcases e' with q | q | q | q | q
        · rw [q]; exact hzl
        · rw [q]; exact Heap.lt_size hTI
        · rw [q]; exact Heap.lt_size hTO
        · rw [q]; obtain ⟨_, _, e1, _⟩ := it_obj h1; exact Heap.lt_size e1
        · rw [q]; obtain ⟨_, _, e2, _⟩ := it_obj h2; exact Heap.lt_size e2
      rw [upd_ne (Nat.ne_of_lt hlt)]
      exact (hf d hdm).1
  done := by
    intro X hP hw hK hc i pins s σ H E I hf st hg
    subst hP hw hK
    obtain ⟨hz, hTI, ⟨x0, y0, hTO⟩, h1, h2⟩ := st
    obtain ⟨xs, ys, hqx, hqy, hend⟩ := hg
    obtain ⟨its, rv, p, _⟩ := sq_at I hqx
    obtain ⟨its2, rv2, p2, _⟩ := sq_at I hqy
    have l1 := rv.length
    have l2 := rv2.length
    have hh : X.A.in1.handled = none := I.ok.hd hc
    have D1 := draws_k t1 (prog := X.prog) (w := X.w) (A := X.A.in1) hh i1 a n1 its.toArray
    have D2 := draws_k t2 (prog := X.prog) (w := X.w) (A := X.A.in1) hh i2 b n2 its2.toArray
    exact wpAny_pyNext_zipD2_end D D1 D2 hz hTI hTO ⟨h1, p⟩ ⟨h2, p2⟩ (by rw [List.size_toArray]; omega) (by rw [List.size_toArray]; omega) (by rw [List.size_toArray, List.size_toArray]; omega) fun h' tk hk => ⟨rfl, I.turnedL (t' := tk) (ch := [z, TI, TO, i1, i2]) (fun d o hb q =>
      hk d o (fun q' => hb (by simp [q'])) (fun q' => hb (by simp [q'])) (fun q' => hb (by simp [q'])) (fun q' => hb (by simp [q'])) q) hf⟩
  self := fun A i s Q E st h => wpAny_pyIter_zip st.1 h
def iZipk (t1 t2 : Bool) (K : PySem.W.Frag) (ta : TA) : TI := fun σ H R => ta σ H fun vs H1 => ∃ a b xs ys, vs = [.ref a, .ref b] ∧ SqK t1 K H1 a xs ∧ SqK t2 K H1 b ys ∧ R (Itzk t1 t2 K a b) H1
theorem pi_zipk (t1 t2 : Bool) {X : Cx} {e e2 : Expr} {ta : TA} {p pos tpos : Pos} {elts : List Expr} {kk : Nat} (hg : Gl X "zip") (hm : X.mg "zip" = none) (ha : PA X [e, e2] ta)
    (hs : starEach [e, e2] X.env = (false, eval e X.env) :: starEach [e2] X.env := by rfl) (hpl : (backTo pos (starEach [e2] X.env)).any (·.1) = false := by rfl) :
    PI X (.Tuple elts kk tpos) (.Call (.Name "zip" p) [e, e2] [] pos) (iZipk t1 t2 X.K ta) := by
  refine ⟨fun pins s σ H R I h => ?_⟩
  refine Call_ (ld_blt I hg hm PyProof.Rows.boot_zip (PyProof.Rows.callWith_type1 (thn (ha.run pos pins s σ H _ I h) fun us s1 ⟨vs, H1, I1, r1, q1⟩ => ?_) hs hpl))
  obtain ⟨a, b, xs, ys, ex, hqx, hqy, q⟩ := q1
  subst ex
  cases r1 with
  | cons r rr =>
    cases rr with
    | cons r' rr =>
      cases rr
      cases r
      cases r'
      obtain ⟨its, rv, p1, la⟩ := sq_at I1 hqx
      obtain ⟨its2, rv2, p2, lb⟩ := sq_at I1 hqy
      refine zip_begins2 (begins_k t1 a its.toArray) (begins_k t2 b its2.toArray) p1 p2 fun h' hz hTI hTO h1 h2 hsz hk => wpAny_pyIter_zip hz ?_
      have I2 : Inv X pins σ H1 { s1 with heap := h' } := I1.kept (t' := s1.toks) hk
      refine ⟨s1.heap.objs.size + 4, [s1.heap.objs.size + 4, s1.heap.objs.size + 2, s1.heap.objs.size + 3, s1.heap.objs.size, s1.heap.objs.size + 1], _, _, H1, rfl, I2, turn_zipk (t1 := t1) (t2 := t2) (sep2 la lb) (Nat.ne_of_lt la) (by show b ≠ s1.heap.objs.size + 1; exact Nat.ne_of_lt (Nat.lt_succ_of_lt lb)), ⟨hz, hTI, ⟨_, _, hTO⟩, it_0 h1, it_0 h2⟩, fun d hdm => ?_, q⟩
      have e' : d = s1.heap.objs.size + 4 ∨ d = s1.heap.objs.size + 2 ∨ d = s1.heap.objs.size + 3 ∨ d = s1.heap.objs.size ∨ d = s1.heap.objs.size + 1 := by simpa using hdm
      have hle : s1.heap.objs.size ≤ d := by
        rcases e' with z | z | z | z | z
        · rw [z]; exact Nat.le_add_right _ _
        · rw [z]; exact Nat.le_add_right _ _
        · rw [z]; exact Nat.le_add_right _ _
        · rw [z]; exact Nat.le_refl _
        · rw [z]; exact Nat.le_add_right _ _
      exact I1.fpOk hle (I1.hok.fresh hle)
section
variable {X : Cx} {e a b c : Expr} {es : List Expr} {t ta tb tc te : TE} {tr : TA} {G : List SV} {α β γ τ ρ O S R : Type} {pos p : Pos} {n : Str} {tg : Expr}
/-- what is walked at each turn, a list or a tuple -/
def rdK [Rq α] (k : Bool) (K : PySem.W.Frag) (C : List SV → L2.St → L2.St → Prop) (t : TE) (G : List SV) (m : Option (List α)) : Prop :=
  ∀ (B : Bk) (Hi : Hp) (T : List SV) (tv s : L2.St) (H : Hp) (Q : VK) (xs : List α), m = some xs → tv.length = T.length → SatG B Hi (T ++ G) (tv ++ s) H →
    (∀ a T' tv' Hi' H', tv'.length = T'.length → SatG B Hi' (T' ++ G) (tv' ++ s) H' → xs.length ≤ sizeLine →
      (∀ G2 s2 Hi2 H2, SatG B Hi2 (T' ++ G2) (tv' ++ s2) H2 → SatG B Hi2 (T ++ G2) (tv ++ s2) H2) →
      (∀ G2 s2 Hi2 H2, C G2 s s2 → SatG B Hi2 (T' ++ G2) (tv' ++ s2) H2 → ∃ vs, SqK k K H2 a vs ∧ Paired (rq Hi2) xs vs) → Q (.ref a) H') → t s H Q
structure KJ [Rq α] (k : Bool) (C : List SV → L2.St → L2.St → Prop) (X : Cx) (e : Expr) (t : TE) (G : List SV) (m : Option (List α)) : Prop where
  pe : PE X e t
  ev : rdK k X.K C t G m
  c : ∀ s, C G s s
theorem kj_t [Rq α] {m : Option (Tp α)} (h : EJ X e t G m) : KJ true C0 X e t G (m.bind fun x => some x.l) := ⟨h.pe, fun B Hi T tv s H Q xs hx hl hs k => by
  obtain ⟨x, e1, e2⟩ := bind_some hx
  cases e2
  refine h.ev B Hi T tv s H _ x e1 hl hs fun v Hi1 H1 s1 r1 => ?_
  obtain ⟨a, vs, h1, h2, h3, h4⟩ := id r1
  subst h1
  refine k a (fz x :: T) (some (.ref a) :: tv) Hi1 H1 (by simp [hl]) ⟨⟨_, rfl, r1⟩, s1⟩ (by rw [Paired.length h4]; exact h3) (fun G2 s2 Hi2 H2 z => z.2) (fun G2 s2 Hi2 H2 _ z => ?_)
  obtain ⟨⟨v', e1, a', us, g1, g2, g3, g4⟩, z2⟩ := z
  cases e1; cases g1
  exact ⟨us, SqT.of (z2.sub _ _ g2), g4⟩, fun _ => trivial⟩
theorem ij_zipk [Rq α] [Rq β] {k1 k2 : Bool} {C C'} {m1 : Option (List α)} {m2 : Option (List β)} {p1 tpos : Pos} {elts : List Expr} {kk : Nat} {e2 : Expr} {t2 : TE} (h : KJ k1 C X e t G m1) (h' : KJ k2 C' X e2 t2 G m2) (hm : X.mg "zip" = none) (hg : Gl X "zip" := by rfl) (na : starEach [e, e2] X.env = (false, eval e X.env) :: starEach [e2] X.env := by rfl) (nb : starEach [e2] X.env = (false, eval e2 X.env) :: starEach [] X.env := by rfl)
    (hpl : (backTo pos (starEach [e2] X.env)).any (·.1) = false := by rfl) :
    IJ (fun G2 s s2 => C G2 s s2 ∧ C' G2 s s2) X (.Tuple elts kk tpos) (.Call (.Name "zip" p1) [e, e2] [] pos) (iZipk k1 k2 X.K (tCons t (tCons t2 tNil))) G (m1.bind fun x => m2.bind fun y => some (x.zip y)) := ⟨pi_zipk k1 k2 hg hm (pa_cons h.pe (pa_cons h'.pe pa_nil nb) na) na hpl, fun B Hi T tv s H R zs hx hl hs k => by
  obtain ⟨xs, e1, hx⟩ := bind_some hx
  obtain ⟨ys, e2, e3⟩ := bind_some hx
  cases e3
  refine h.ev B Hi T tv s H _ xs e1 hl hs fun a T' tv' Hi1 H1 l1 s1 hz hT hw => ?_
  refine h'.ev B Hi1 T' tv' s H1 _ ys e2 l1 s1 fun b T'' tv'' Hi2 H2 l2 s2 hz2 hT2 hw2 => ?_
  obtain ⟨us, gq2, pr2⟩ := hw2 G s Hi2 H2 (h'.c s) s2
  obtain ⟨vs, gq, pr⟩ := hw G s Hi2 H2 (h.c s) (hT2 G s Hi2 H2 s2)
  refine ⟨a, b, vs, us, rfl, gq, gq2, k _ T'' tv'' Hi2 H2 l2 s2 (by rw [List.length_zip]; omega) (fun G2 s2 Hi2 H2 z => hT _ _ _ _ (hT2 _ _ _ _ z)) fun F fv G3 s3 Hi3 H3 lf c z => ?_⟩
  obtain ⟨us, gq2, pr2⟩ := hw2 G3 s3 Hi3 H3 c.2 (z.dropF lf)
  obtain ⟨vs, gq, pr⟩ := hw G3 s3 Hi3 H3 c.1 (hT2 _ _ _ _ (z.dropF lf))
  refine ⟨⟨vs, us, gq, gq2, by rw [List.length_zip, Paired.length pr, Paired.length pr2]⟩, fun i x hi => ?_⟩
  obtain ⟨f1, f2⟩ := zip_get hi
  obtain ⟨u, hu, ru⟩ := Paired.get pr f1
  obtain ⟨w, hw', rw'⟩ := Paired.get pr2 f2
  refine ⟨⟨vs, us, u, w, gq, gq2, hu, hw'⟩, fun v H4 y => ?_⟩
  obtain ⟨q, u', w', y1, y2, y3, y4, y5⟩ := y
  have e3 := y4 vs gq
  rw [hu] at e3
  cases e3
  have e4 := y5 us gq2
  rw [hw'] at e4
  cases e4
  subst y1 y3
  exact sat_pair z y2 ru rw', fun s => ⟨h.c s, h'.c s⟩⟩
end
end GM
namespace GM
open PySem PySem.Spec PyProof.Rows L2
section
variable {X : Cx} {e : Expr} {t u : TE} {G : List SV} {α β : Type}
theorem ej_inU [Rq α] [Rq β] {f : α → β} {m : Option α} (h : ∀ {H x v}, rq H x v → rq H (f x) v) (he : EJ X e t G m) : EJ X e t G (m.bind fun x => some (f x)) := ⟨he.pe, fun B Hi T tv s H Q x hx hl hs k => by
  obtain ⟨y, e1, e2⟩ := bind_some hx
  cases e2
  exact he.ev B Hi T tv s H Q y e1 hl hs fun v Hi1 H1 s1 r1 => k v Hi1 H1 s1 (h r1)⟩
theorem ej_as [Rq α] [Rq β] {g : α → Option β} {m : Option α} (h : ∀ {x y H v}, g x = some y → rq H x v → rq H y v) (he : EJ X e t G m) : EJ X e t G (m.bind g) := ⟨he.pe, fun B Hi T tv s H Q x hx hl hs k => by
  obtain ⟨y, e1, e2⟩ := bind_some hx
  exact he.ev B Hi T tv s H Q y e1 hl hs fun v Hi1 H1 s1 r1 => k v Hi1 H1 s1 (h e2 r1)⟩
end
structure MakXX (X : Cx) (C : Addr) (sp : Sp) : Prop where
  ok : ∃ (k : Nat) (f : Addr) (fd : FuncData) (ps : List Str), FnOk X.prog X.w X.K X.mg X.base (L2.CX X.prog X.w) k f fd ps sp ∧ Room (k + 1) X.A ∧ Mk X.K C f ∧ Binds X.K fd ps []
structure CalNX (P : Program) (w : World) (K : PySem.W.Frag) (mg : Str → Option Value) (base : Heap) (k : Nat) (C : Addr) (sp : Sp) : Prop where
  ok : ∃ (f : Addr) (fd : FuncData) (ps : List Str), FnOk P w K mg base (L2.CX P w) k f fd ps sp ∧ Mk K C f ∧ Binds K fd ps []
theorem CalNX.at {X : Cx} {k : Nat} {C : Addr} {sp : Sp} (M : CalNX X.prog X.w X.K X.mg X.base k C sp) (hr : Room (k + 1) X.A) : MakXX X C sp := by
  obtain ⟨f, fd, ps, h1, h2, h3⟩ := M.ok
  exact ⟨k, f, fd, ps, h1, hr, h2, h3⟩
end GM
namespace GM
open PySem PySem.Spec PyProof.Rows L2
end GM
namespace ZL
open PySem PySem.Spec PyProof.Rows PySem.Calls PySem.W
end ZL
namespace GM
open PySem PySem.Spec PyProof.Rows L2 ZL
end GM
namespace GM
open PySem PySem.Spec PyProof.Rows L2
class Flt (α : Type) [Rq α] : Prop where
  fl : ∀ {H H' : Hp} {x : α} {v : V}, rq H x v → rq H' x v
instance : Flt Int := ⟨fun h => h⟩
instance : Flt Bool := ⟨fun h => h⟩
instance : Flt Str := ⟨fun h => h⟩
instance : Flt Unit := ⟨fun h => h⟩
instance {α : Type} [Rp α] [Flt α] : Flt (Option α) := ⟨fun {H H' x v} h => by
  cases x with
  | none => exact h
  | some y => exact Flt.fl (α := α) (x := y) (H := H) (H' := H') h⟩
class FltD {α : Type} (d : OT α) : Prop where
  fl : ∀ {H H' : Hp} {x : α} {p : Addr} {F : Hp}, d.φ H x p F → d.φ H' x p F
instance {α : Type} [Rq α] [Flt α] : FltD (oL (α := α)) := ⟨fun ⟨u, h1, vs, h2, h3, h4⟩ => ⟨u, h1, vs, h2, h3, Paired.mono h4 fun _ _ => Flt.fl⟩⟩
theorem sepL.flD {α : Type} {d : OT α} [FltD d] {H H' : Hp} : ∀ {xs : List α} {vs : List V} {F : Hp}, sepL d H xs vs F → sepL d H' xs vs F
  | [], [], _, h => h
  | _ :: _, _ :: _, _, ⟨p, F1, h1, h2, h3, k⟩ => ⟨p, F1, h1, h2, FltD.fl h3, sepL.flD k⟩
instance {α : Type} {d : OT α} [FltD d] : FltD (oLL d) := ⟨fun ⟨vs, h1, h2, h3⟩ => ⟨vs, h1, h2, h3.flD⟩⟩
instance {α β : Type} {d : OT α} {d' : OT β} [FltD d] [FltD d'] : FltD (ot2 d d') := ⟨fun ⟨q, q', F1, F2, h1, h2, h3, h4, h5⟩ => ⟨q, q', F1, F2, h1, h2, FltD.fl h3, h4, FltD.fl h5⟩⟩
instance {α β : Type} {d : OT α} {d' : OT β} [FltD d] [FltD d'] : FltD (oll2 d d') := ⟨fun ⟨q, q', F1, F2, h1, h2, h3, h4, h5⟩ => ⟨q, q', F1, F2, h1, h2, FltD.fl h3, h4, FltD.fl h5⟩⟩
instance {α β : Type} [Rq α] [Rq β] [Flt α] [Flt β] : FltD (oLf (α := α) (β := β)) := ⟨fun ⟨v1, v2, h1, h2, h3⟩ => ⟨v1, v2, h1, Flt.fl h2, Flt.fl h3⟩⟩
def FltF (f : FV) : Prop := ∀ {H H' : Hp} {v : V} {F : Hp}, f.φ H v F → f.φ H' v F
def FltFs : List (Str × FV) → Prop
  | [] => True
  | p :: L => FltF p.2 ∧ FltFs L
theorem FldsO.fl {H H' : Hp} : ∀ {L : List (Str × FV)} {fs : List (Str × V)} {F : Hp}, FltFs L → FldsO H L fs F → FldsO H' L fs F
  | [], [], _, _, h => h
  | n :: L, v :: fs, F, ⟨q, qs⟩, ⟨h1, F1, h2, h3, k⟩ => ⟨h1, F1, h2, q h3, FldsO.fl qs k⟩
def otF {α β : Type} [Rq α] (d' : OT β) : OT (α × β) := ⟨fun H x p F => ∃ v q, F p = some (.tup [v, .ref q]) ∧ rq H x.1 v ∧ d'.φ H x.2 q (del F p),
  fun H H' x p F e ⟨v, q, h1, h2, h3⟩ => ⟨v, q, h1, Rq.mono e h2, d'.m _ _ _ _ _ e h3⟩⟩
instance {α β : Type} [Rq α] [Rq β] {d' : OT β} [Th d'] : Th (otF (α := α) d') := ⟨fun {H x p F} n ⟨v, q, h1, h2, h3⟩ =>
  ⟨p, v, .ref q, rfl, plus_some h1, Rq.mono (same_plus n) h2, Rq.mono (same_plus2 n del_sub) (Th.th (fun a u e => n a u (del_sub _ _ e)) h3)⟩⟩
instance {α β : Type} [Rq α] {d' : OT β} [NoL α] [NoLD d'] : NoLD (otF (α := α) d') := ⟨fun e ⟨v, q, h1, h2, h3⟩ => ⟨v, q, h1, NoL.tr e h2, NoLD.tr e h3⟩⟩
instance {α β : Type} [Rq α] {d' : OT β} [Flt α] [FltD d'] : FltD (otF (α := α) d') := ⟨fun ⟨v, q, h1, h2, h3⟩ => ⟨v, q, h1, Flt.fl h2, FltD.fl h3⟩⟩
theorem plus_in {Hi H F : Hp} (h1 : Same Hi H) (h2 : Same F H) : Same (plus Hi F) H := fun a o e => by
  cases z : F a with
  | some u => rw [plus_some z] at e; cases e; exact h2 _ _ z
  | none => rw [plus_none z] at e; exact h1 _ _ e
theorem full_q {α : Type} [Rq α] {d : OT α} [Th d] {Hi H F : Hp} {x : α} {p : Addr} (h1 : Same Hi H) (h2 : Same F H) (n : ∀ a u, F a = some u → Hi a = none) (h : d.φ Hi x p F) : rq H x (.ref p) := Rq.mono (plus_in h1 h2) (Th.th n h)
inductive Vk : List SV → List SV → Prop
  | nil : Vk [] []
  | fv {φ m} {L L' : List SV} : Vk L L' → Vk (.fv φ m :: L) (.fv φ m :: L')
  | drop {c : SV} {L L' : List SV} : Vk L L' → Vk (c :: L) (.un :: L')
  | see {α : Type} [Rq α] {d : OT α} [Th d] {x : α} {L L' : List SV} : Vk L L' → Vk (oo d x :: L) (fz x :: L')
  | seeA {α : Type} [Rq α] {xs : List α} {q : Addr} {L L' : List SV} : Vk L L' → Vk (olA q xs :: L) (fz xs :: L')
  | seeX {α : Type} [Rq α] {d : OT α} [Th d] {x : α} {q : Addr} {F : Hp} {L L' : List SV} : Vk L L' → Vk (ex d x q F :: L) (fz x :: L')
def Seen (H : Hp) : List SV → L2.St → Prop
  | [], [] => True
  | c :: L, o :: s => (match c with | .un => True | .fv φ _ => ∃ v, o = some v ∧ φ H v | .ow _ _ => False) ∧ Seen H L s
  | [], _ :: _ => False
  | _ :: _, [] => False
theorem Seen.sat {H : Hp} : ∀ {L : List SV} {s : L2.St}, Seen H L s → SatG ⟨H, H⟩ H L s H
  | [], [], _ => ⟨Same.refl _, Same.refl _, Same.refl _, fun _ _ h => rfl⟩
  | c :: L, o :: s, ⟨h, k⟩ => by
    cases c with
    | un => exact Seen.sat (L := L) (s := s) k
    | fv φ m => exact ⟨h, Seen.sat (L := L) (s := s) k⟩
    | ow φ m => exact h.elim
theorem SatG.seen {B : Bk} {Hi H0 : Hp} : ∀ {L L' : List SV} {s : L2.St} {H : Hp}, Vk L L' → Same H H0 → (∀ a u, Hi a = some u → H a = some u) → SatG B Hi L s H → Seen H0 L' s
  | [], [], [], _, .nil, _, _, _ => trivial
  | _ :: _, _ :: _, [], _, _, _, _, h => h.elim
  | _, _, o :: s, H, @Vk.fv φ m L L' w, e, i, h => by
    obtain ⟨⟨v, h1, h2⟩, k⟩ := h
    exact ⟨⟨v, h1, m _ _ _ (Same.trans (fun a u z => i a u z) e) h2⟩, SatG.seen (L := L) w e i k⟩
  | _, _, o :: s, H, .drop (c := c) (L := L) w, e, i, h => by
    refine ⟨trivial, ?_⟩
    cases c with
    | un => exact SatG.seen (L := L) w e i h
    | fv φ m => exact SatG.seen (L := L) w e i h.2
    | ow φ m =>
      obtain ⟨p, F, _, _, _, k⟩ := h
      exact SatG.seen (L := L) w (minus_sub.trans e) (SatG.sub (L := L) (s := s) k) k
  | _, _, o :: s, H, @Vk.see α _ d _ x L L' w, e, i, h => by
    obtain ⟨p, F, h1, h2, h3, k⟩ := h
    have ks := SatG.sub (L := L) (s := s) k
    exact ⟨⟨.ref p, h1, full_q (d := d) (Same.trans (fun a u z => i a u z) e) (h2.trans e) (fun a u z => same_none ks (minus_some z)) h3⟩, SatG.seen (L := L) w (minus_sub.trans e) ks k⟩
  | _, _, o :: s, H, @Vk.seeA α _ xs q0 L L' w, e, i, h => by
    obtain ⟨p, F, h1, h2, ⟨h4, h3⟩, k⟩ := h
    have ks := SatG.sub (L := L) (s := s) k
    exact ⟨⟨.ref p, h1, full_q (d := oL (α := α)) (Same.trans (fun a u z => i a u z) e) (h2.trans e) (fun a u z => same_none ks (minus_some z)) h3⟩, SatG.seen (L := L) w (minus_sub.trans e) ks k⟩
  | _, _, o :: s, H, @Vk.seeX α _ d _ x q0 F0 L L' w, e, i, h => by
    obtain ⟨p, F, h1, h2, ⟨h4, h5, h3⟩, k⟩ := h
    subst h4 h5
    have ks := SatG.sub (L := L) (s := s) k
    exact ⟨⟨.ref _, h1, full_q (d := d) (Same.trans (fun a u z => i a u z) e) (h2.trans e) (fun a u z => same_none ks (minus_some z)) h3⟩, SatG.seen (L := L) w (minus_sub.trans e) ks k⟩
theorem vk_app : ∀ (T : List SV) {G G1 : List SV}, Vk G G1 → Vk (T ++ G) (T.map (fun _ => SV.un) ++ G1)
  | [], _, _, w => w
  | c :: T, _, _, w => .drop (vk_app T w)
section
variable {X : Cx} {e a b c : Expr} {es : List Expr} {t ta tb tc td ty te : TE} {tt : TT} {tr : TA} {G G1 : List SV} {α β γ τ ρ O S R : Type} {pos p : Pos} {n : Str} {rest : List Stmt} {u ts : TS} {P Px : Post O} {d : OT α} {d' : OT β} {F : Hp}
theorem ej_peek [Rq α] [Flt α] {m : Option α} (w : Vk G G1) (h : EJ X e t G1 m) : EJ X e t G m := ⟨h.pe, fun B Hi T tv s H Q x hx hl hs k => by
  have hs1 := (SatG.seen (vk_app T w) (Same.refl H) hs.sub hs).sat
  refine h.ev ⟨H, H⟩ H (T.map fun _ => .un) tv s H Q x hx (by rw [List.length_map]; exact hl) hs1 fun v Hi' H' s' r => ?_
  exact k v _ H' (hs.grow s'.sub0) (Flt.fl r)⟩
theorem tj_peek {m : Option Bool} (w : Vk G G1) (h : TJ X c tt G1 m) : TJ X c tt G m := ⟨h.pt, fun B Hi T tv s H Q x hx hl hs k => by
  have hs1 := (SatG.seen (vk_app T w) (Same.refl H) hs.sub hs).sat
  refine h.ev ⟨H, H⟩ H (T.map fun _ => .un) tv s H Q x hx (by rw [List.length_map]; exact hl) hs1 fun Hi' H' s' => ?_
  exact k _ H' (hs.grow s'.sub0)⟩
theorem qj_peek [FltD d] {m : Option α} (w : Vk G G1) (h : QJ d X e t G1 m) : QJ d X e t G m := ⟨h.pe, fun B Hi T tv s H Q x hx hl hs k => by
  have hs1 := (SatG.seen (vk_app T w) (Same.refl H) hs.sub hs).sat
  refine h.ev ⟨H, H⟩ H (T.map fun _ => .un) tv s H Q x hx (by rw [List.length_map]; exact hl) hs1 fun q Hi' H' s' => ?_
  obtain ⟨q', F, e1, h1, h2, k2⟩ := s'
  cases e1
  exact k q _ H' ⟨q, F, rfl, h1, FltD.fl h2, hs.grow (SatG.sub0 (L := T.map (fun _ => SV.un) ++ G1) (s := tv ++ s) k2)⟩⟩
theorem oj_peek [Rq α] [Flt α] {m : Option (List α)} (w : Vk G G1) (h : OJ X e t G1 m) : OJ X e t G m := oj_q (qj_peek w (qj_o h))
end
theorem sepL.atH {α : Type} {d : OT α} {H : Hp} : ∀ {xs : List α} {vs : List V} {F : Hp} {i : Nat} {x : α}, sepL d H xs vs F → xs[i]? = some x → ∃ p Fi, vs[i]? = some (.ref p) ∧ Same Fi F ∧ d.φ H x p Fi ∧
    ∀ H2, Same H H2 → ∀ x' p' Fi' F', d.φ H2 x' p' Fi' → Same Fi' F' → minus F' Fi' = minus F Fi → sepL d H2 (xs.set i x') (vs.set i (.ref p')) F'
  | [], [], _, _, _, _, e => by simp at e
  | y :: xs, v :: vs, F, 0, x, ⟨q, G1, h1, h2, h3, k⟩, e => by
    simp at e; subst e
    subst h1
    exact ⟨q, G1, rfl, h2, h3, fun H2 s2 x' p' Fi' F' hx hs hm => ⟨p', Fi', rfl, hs, hx, by rw [hm]; exact sepL.mono s2 k⟩⟩
  | y :: xs, v :: vs, F, i + 1, x, ⟨q, G1, h1, h2, h3, k⟩, e => by
    obtain ⟨p, Fi, g1, g2, g3, g4⟩ := sepL.atH k (by simpa using e)
    refine ⟨p, Fi, by simpa using g1, g2.trans minus_sub, g3, fun H2 s2 x' p' Fi' F' hx hs hm => ?_⟩
    have dj : ∀ a w, G1 a = some w → Fi' a = none ∧ F' a = some w := fun a w z => by
      have n1 : Fi a = none := by
        cases y : Fi a with
        | none => rfl
        | some x => have := g2 _ _ y; rw [minus_some z] at this; cases this
      have n2 : minus F Fi a = some w := by rw [minus_none n1]; exact h2 _ _ z
      rw [← hm] at n2
      exact minus_is n2
    refine ⟨q, G1, h1, fun a w z => (dj a w z).2, d.m _ _ _ _ _ s2 h3, g4 H2 s2 x' p' Fi' (minus F' G1) hx (fun a u z => ?_) ?_⟩
    · cases y : G1 a with
      | none => rw [minus_none y]; exact hs _ _ z
      | some x => have := (dj a x y).1; rw [z] at this; cases this
    · rw [minus_comm, hm, minus_comm]
theorem del_minus {F Fi : Hp} {a : Addr} : minus (del F a) Fi = del (minus F Fi) a := by
  funext b
  by_cases z : b = a
  · rw [z, del_same]
    cases y : Fi a with
    | none => rw [minus_none y, del_same]
    | some w => rw [minus_some y]
  · rw [del_ne z]
    cases y : Fi b with
    | none => rw [minus_none y, minus_none y, del_ne z]
    | some w => rw [minus_some y, minus_some y]
theorem oLL_open {α : Type} {d : OT α} {H : Hp} {ys : List α} {a : Addr} {F : Hp} {i : Nat} {x : α} (h : (oLL d).φ H ys a F) (hx : ys[i]? = some x) : ∃ vs q Fi, F a = some (.lst vs) ∧ ys.length = vs.length ∧ vs[i]? = some (.ref q) ∧ Same Fi F ∧ d.φ H x q Fi ∧
    ∀ H2, Same H H2 → ∀ y Fi' F', d.φ H2 y q Fi' → Same Fi' F' → minus F' Fi' = minus F Fi → (oLL d).φ H2 (ys.set i y) a F' := by
  obtain ⟨vs, h1, h2, h3⟩ := h
  obtain ⟨q, Fi, g1, g2, g3, g4⟩ := h3.atH hx
  have na : Fi a = none := by
    cases z : Fi a with
    | none => rfl
    | some w => have := g2 _ _ z; rw [del_same] at this; cases this
  refine ⟨vs, q, Fi, h1, h3.len, g1, g2.trans del_sub, g3, fun H2 s2 y Fi' F' hy sf hm => ?_⟩
  have fa : minus F' Fi' a = some (.lst vs) := by rw [hm, minus_none na]; exact h1
  obtain ⟨n1, n2⟩ := minus_is fa
  have ev : vs.set i (.ref q) = vs := set_get_self _ _ _ g1
  have := g4 H2 s2 y q Fi' (del F' a) hy (fun b o e => by
    have nb : b ≠ a := fun z => by rw [z, n1] at e; cases e
    rw [del_ne nb]; exact sf _ _ e) (by rw [del_minus, hm, del_minus])
  rw [ev] at this
  exact ⟨vs, n2, h2, this⟩
theorem otF_open {α β : Type} [Rq α] {d' : OT β} {H : Hp} {x : α × β} {p : Addr} {F : Hp} (h : (otF d').φ H x p F) : ∃ v q, F p = some (.tup [v, .ref q]) ∧ rq H x.1 v ∧ Same (del F p) F ∧ d'.φ H x.2 q (del F p) ∧
    ∀ H2, Same H H2 → ∀ y Fi' F', d'.φ H2 y q Fi' → Same Fi' F' → minus F' Fi' = minus F (del F p) → (otF d').φ H2 (x.1, y) p F' := by
  obtain ⟨v, q, h1, h2, h3⟩ := h
  refine ⟨v, q, h1, h2, del_sub, h3, fun H2 s2 y Fi' F' hy sf hm => ?_⟩
  have fp : minus F' Fi' p = some (.tup [v, .ref q]) := by rw [hm, minus_none del_same]; exact h1
  obtain ⟨n1, n2⟩ := minus_is fp
  have ed : del F' p = Fi' := by
    funext b
    by_cases z : b = p
    · rw [z, del_same, n1]
    · rw [del_ne z]
      cases y : Fi' b with
      | some w => exact sf _ _ y
      | none =>
        have e1 : minus F' Fi' b = none := by
          rw [hm]
          cases y2 : F b with
          | none => cases y3 : del F p b with
            | none => rw [minus_none y3]; exact y2
            | some w => rw [minus_some y3]
          | some w => rw [minus_some (o := w) (by rw [del_ne z]; exact y2)]
        rw [minus_none y] at e1
        exact e1
  exact ⟨v, q, n2, Rq.mono s2 h2, by rw [ed]; exact hy⟩
/-- something of our own without a part -/
def ohole {α β : Type} (D : OT α) (d : OT β) (a q : Addr) (put : β → α) : SV := .ow (fun H p F => p = a ∧ ∀ H2, Same H H2 → ∀ y Fi F', d.φ H2 y q Fi → Same Fi F' → minus F' Fi = F → D.φ H2 (put y) a F')
  (fun _ _ _ _ e ⟨h1, h2⟩ => ⟨h1, fun H2 s2 => h2 H2 (e.trans s2)⟩)
/-- our own thing at a place that is told -/
def ooA {α : Type} (d : OT α) (x : α) (a : Addr) : SV := .ow (fun H p F => p = a ∧ d.φ H x p F) (fun H H' p F e ⟨h1, h2⟩ => ⟨h1, d.m _ _ _ _ _ e h2⟩)
/-- a name of what is elsewhere ours -/
def al (a : Addr) : SV := .fv (fun _ v => v = .ref a) (fun _ _ _ _ h => h)
theorem minus2 {H F Fi : Hp} (s : Same Fi F) : minus (minus H Fi) (minus F Fi) = minus H F := by
  funext b
  cases y : Fi b with
  | some w => rw [minus_none (by rw [minus_some y] : minus F Fi b = none), minus_some y, minus_some (s _ _ y)]
  | none =>
    cases z : F b with
    | some w => rw [minus_some (o := w) (by rw [minus_none y]; exact z), minus_some z]
    | none => rw [minus_none (by rw [minus_none y]; exact z), minus_none y, minus_none z]
section
variable {α β : Type} {D : OT α} {d : OT β} {B : Bk} {Hi H : Hp} {L : List SV} {s : L2.St} {a q : Addr} {put : β → α} {x : α} {y : β}
theorem sat_open {F Fi : Hp} (k : SatG B Hi L s (minus H F)) (sF : Same F H) (si : Same Fi F) (hy : d.φ Hi y q Fi) (hole : ∀ H2, Same Hi H2 → ∀ y Fi' F', d.φ H2 y q Fi' → Same Fi' F' → minus F' Fi' = minus F Fi → D.φ H2 (put y) a F') :
    SatG B Hi (ooA d y q :: ohole D d a q put :: L) (some (.ref q) :: some (.ref a) :: s) H := by
  refine ⟨q, Fi, rfl, si.trans sF, ⟨rfl, hy⟩, a, minus F Fi, rfl, fun b o e => ?_, ⟨rfl, fun H2 s2 y Fi' F' h1 h2 h3 => hole H2 s2 y Fi' F' h1 h2 h3⟩, ?_⟩
  · obtain ⟨n1, n2⟩ := minus_is e
    rw [minus_none n1]; exact sF _ _ n2
  · rw [minus2 si]; exact k
theorem sat_close (h : SatG B Hi (ooA d y q :: ohole D d a q put :: L) (some (.ref q) :: some (.ref a) :: s) H) : SatG B Hi (ooA D (put y) a :: L) (some (.ref a) :: s) H := by
  obtain ⟨q', Fi, e1, s1, ⟨h0, h1⟩, a', F0, e2, s2, ⟨h2, h3⟩, k⟩ := h
  cases e1; cases e2
  have dj : ∀ b w, F0 b = some w → Fi b = none := fun b w z => (minus_is (s2 _ _ z)).1
  have em : minus (plus F0 Fi) Fi = F0 := by
    funext b
    cases y : Fi b with
    | some w =>
      rw [minus_some y]
      cases z : F0 b with
      | none => rfl
      | some u => rw [dj b u z] at y; cases y
    | none => rw [minus_none y, plus_none y]
  refine ⟨a, plus F0 Fi, rfl, fun b o e => ?_, ⟨rfl, h3 Hi (Same.refl _) y Fi _ h1 (fun b o e => plus_some e) em⟩, ?_⟩
  · cases y : Fi b with
    | some w => rw [plus_some y] at e; cases e; exact s1 _ _ y
    | none => rw [plus_none y] at e; exact minus_sub _ _ (s2 _ _ e)
  · have : minus H (plus F0 Fi) = minus (minus H Fi) F0 := by
      funext b
      cases y : Fi b with
      | some w =>
        rw [minus_some (o := w) (plus_some y)]
        cases z : F0 b with
        | none => rw [minus_none z, minus_some y]
        | some u => rw [minus_some z]
      | none =>
        cases z : F0 b with
        | some u => rw [minus_some (o := u) (by rw [plus_none y]; exact z), minus_some z]
        | none => rw [minus_none (by rw [plus_none y]; exact z), minus_none z, minus_none y]
    rw [this]; exact k
theorem SatG.ooA_oo (h : SatG B Hi (ooA D x a :: L) (some (.ref a) :: s) H) : SatG B Hi (oo D x :: L) (some (.ref a) :: s) H := by
  obtain ⟨p, F, e1, s1, ⟨_, h1⟩, k⟩ := h
  cases e1
  exact ⟨a, F, rfl, s1, h1, k⟩
end
theorem SatG.replT {B : Bk} {Hi H : Hp} {T L : List SV} {tv s : L2.St} {i : Nat} {φ m} (e : tv.length = T.length) (h : SatG B Hi (T ++ L) (tv ++ s) H) (hi : L[i]? = some (.ow φ m)) : ∃ p F, s[i]? = some (some (.ref p)) ∧ Same F H ∧ φ Hi p F ∧ SatG B Hi (T ++ L.set i .un) (tv ++ s) (minus H F) ∧
    ∀ Hi' H' c, SatG B Hi' (c :: (T ++ L.set i .un)) (some (.ref p) :: (tv ++ s)) H' → SatG B Hi' (T ++ L.set i c) (tv ++ s) H' := by
  obtain ⟨q, F0, h1, _, _, _, _⟩ := h.ownFT e hi
  have z := h.front (i := T.length + i) (by rw [get_app]; exact hi)
  rw [set_app, ← e, get_app, h1] at z
  obtain ⟨p, F, e1, h2, h3, k⟩ := z
  cases e1
  refine ⟨q, F, h1, h2, h3, k, fun Hi' H' c hc => ?_⟩
  have y := hc.putT e (i := i)
  rw [List.set_set, set_get_self _ _ _ h1] at y
  exact y
section
variable {X : Cx} {e a b c iter : Expr} {es : List Expr} {t ta tb tc td ty te : TE} {tt : TT} {tr : TA} {G G1 : List SV} {α β γ τ ρ O S R : Type} {pos p : Pos} {n n1 n2 : Str} {rest : List Stmt} {u ts : TS} {P Px : Post O} {d : OT α} {d' : OT β} {F : Hp}
/-- name.append(something new of our own) -/
theorem bj_appQ {xs : List α} {m1 : Option α} {m3 : List α → Option O} (l : Nat) (h : QJ d X e t G m1) (hr : ∀ ys, BJ X rest u (G.set l (oo (oLL d) ys)) (m3 ys) P) {p2 apos cpos : Pos} (hg : G[l]? = some (oo (oLL d) xs) := by rfl)
    (hN : X.N[l]? = some n := by rfl) (hv : Vis X.env.scope n := by first | exact Or.inl rfl | exact Or.inr (Or.inl rfl) | exact Or.inr (Or.inr rfl)) (hd : (n == ("__debug__" : Str)) = false := by decide) (hcd : (n == ("__classdict__" : Str)) = false := by decide)
    (hbase : attributeBase (.Name n p2) "append" X.env (eval (.Name n p2) X.env) = eval (.Name n p2) X.env := by rfl)
    (hfew : ((backTo cpos (starEach [e] X.env)).all (fun x => !x.1) && (backToKw cpos (keywordEach [] X.env)).all (fun x => x.1.isSome) && decide ([e].length + ([] : List Keyword).length + (if ([] : List Keyword).isEmpty then 0 else 1) < 30)) = true := by rfl)
    (hline : (apos.endLine == cpos.line) = true := by rfl) (hst : starEach [e] X.env = (false, eval e X.env) :: starEach [] X.env := by rfl) (hplain : (backTo cpos (starEach [] X.env)).any (·.1) = false := by rfl) (hsw : swapsWith (.Call (.Attribute (.Name n p2) "append" apos) [e] [] cpos) none pos.line X.env = pure false := by rfl) :
    BJ X (.Expr (.Call (.Attribute (.Name n p2) "append" apos) [e] [] cpos) pos :: rest) (tSeq (tDrop (tBM X.K "list" rAppend (tVar l) (tCons t tNil))) u) G (m1.bind fun y => (appC xs y).bind m3) P :=
  ⟨pss_cons (ps_expr (pe_bm PySem.F.plainAttrs_list PySem.F.slot_list_append PySem.F.type_list_append mt_append (pe_var hN hv hd hcd) (pa_cons h.pe pa_nil hst) hbase hfew hline hst hplain) hsw) (hr []).ps, fun B Hi T tv s H D o hx hl hs k => by
  obtain ⟨y, e1, hx⟩ := bind_some hx
  obtain ⟨ys, e2, e3⟩ := bind_some hx
  obtain ⟨p, F, h1, h2, ⟨vs0, h3, _, _⟩, _, _⟩ := hs.replT hl hg
  refine ⟨.ref p, h1, .inl ⟨rfl, _, SqL.of (h2 _ _ h3)⟩, ?_⟩
  refine h.ev B Hi T tv s H _ y e1 hl hs fun q Hi1 H1 s1 => ?_
  have l1 : (some (V.ref q) :: tv).length = (oo d y :: T).length := by simp [hl]
  obtain ⟨p', F', g1, g2, g3, g4, up⟩ := SatG.replT (T := oo d y :: T) (tv := some (.ref q) :: tv) l1 s1 hg
  rw [h1] at g1
  cases g1
  have g3' := g3
  obtain ⟨vs, f1, f2, f3⟩ := g3'
  obtain ⟨hz, rfl⟩ := appC_is e2
  have hH : H1 p = some (.lst vs) := g2 _ _ f1
  refine ⟨p, vs, .ref q, rfl, rfl, hH, by rw [← f3.len]; exact hz, ?_⟩
  -- item first, then the list
  have st : SatG B Hi1 (oo d y :: oo (oLL d) xs :: (T ++ G.set l .un)) (some (.ref q) :: some (.ref p) :: (tv ++ s)) H1 := by
    obtain ⟨q', Fq, e4, q1, q2, q3⟩ := g4
    cases e4
    refine ⟨q, Fq, rfl, q1.trans minus_sub, q2, p, F', rfl, fun b o e => ?_, g3, ?_⟩
    · rw [minus_none]
      · exact g2 _ _ e
      · cases z : Fq b with
        | none => rfl
        | some w => have := (minus_is (q1 _ _ z)).1; rw [e] at this; cases this
    · rw [minus_comm]; exact q3
  have s3 := sat_snoc (L := T ++ G.set l .un) (s := tv ++ s) st hH (by rw [← f3.len]; exact hz)
  have s4 := s3.putT hl (i := l)
  rw [List.set_set, set_get_self _ _ _ h1] at s4
  exact (hr _).ev B Hi1 T tv s _ D o e3 hl s4 k⟩
/-- (a, b) with b our own -/
theorem qj_tF [Rq α] {d' : OT β} {m1 : Option α} {m2 : Option β} {x1} (ha : EJ X a ta G m1) (hb : QJ d' X b tb G m2) (he : starEach [a, b] X.env = (false, eval a X.env) :: starEach [b] X.env := by rfl) (he2 : starEach [b] X.env = (false, eval b X.env) :: starEach [] X.env := by rfl) :
    QJ (otF (α := α) d') X (.Tuple [a, b] x1 pos) (tTup (tCons ta (tCons tb tNil))) G (m1.bind fun x => m2.bind fun y => some (x, y)) :=
  ⟨pe_tup (pa_cons ha.pe (pa_cons hb.pe pa_nil he2) he), fun B Hi T tv s H Q z hx hl hs k => by
  obtain ⟨x, e1, hx⟩ := bind_some hx
  obtain ⟨y, e2, e3⟩ := bind_some hx
  cases e3
  refine ha.ev B Hi T tv s H _ x e1 hl hs fun v Hi1 H1 s1 r1 => ?_
  refine hb.ev B Hi1 (fz x :: T) (some v :: tv) s H1 _ y e2 (by simp [hl]) ⟨⟨v, rfl, r1⟩, s1⟩ fun p2 Hi2 H2 s2 => ?_
  refine ⟨by show 2 ≤ sizeLine; decide, fun q hq => ?_⟩
  obtain ⟨p2', F, e4, sF, hy, ⟨v', e5, r1'⟩, kk⟩ := s2
  cases e4; cases e5
  have nF : F q = none := by
    cases z : F q with
    | none => rfl
    | some w => rw [sF _ _ z] at hq; cases hq
  refine k q Hi2 _ ⟨q, upd F q (.tup [v, .ref p2]), rfl, fun b o e => ?_, ⟨v, p2, upd_same, r1', ?_⟩, ?_⟩
  · by_cases z : b = q
    · rw [z, upd_same] at e; rw [z, upd_same]; exact e
    · rw [upd_ne z] at e; rw [upd_ne z]; exact sF _ _ e
  · rw [del_upd, del_new nF]; exact hy
  · have : minus (upd H2 q (.tup [v, .ref p2])) (upd F q (.tup [v, .ref p2])) = minus H2 F := by
      funext b
      by_cases z : b = q
      · rw [z, minus_some (o := .tup [v, .ref p2]) upd_same, minus_none nF, hq]
      · cases w : F b with
        | some o => rw [minus_some (o := o) (by rw [upd_ne z]; exact w), minus_some w]
        | none => rw [minus_none (by rw [upd_ne z]; exact w), minus_none w, upd_ne z]
    rw [this]; exact kk⟩
theorem qj_nilL {d : OT α} : QJ (oLL d) X (.List [] pos) (tLst tNil) G (some []) := ⟨pe_lst pa_nil, fun B Hi T tv s H Q z hx hl hs k => by
  cases hx
  refine ⟨Nat.zero_le _, fun q hq => ?_⟩
  refine k q Hi _ ⟨q, one q (.lst []), rfl, same_one upd_same, ⟨[], one_same, Nat.zero_le _, fun b => ?_⟩, by rw [minus_one, del_upd, del_new hq]; exact hs⟩
  by_cases z : b = q
  · rw [z, del_same]
  · rw [del_ne z, one_ne z]⟩
end
section
variable {X : Cx} {e a b c iter : Expr} {es : List Expr} {t ta tb tc td ty te : TE} {tt : TT} {tr : TA} {G G1 : List SV} {α β γ τ ρ O S R : Type} {pos p : Pos} {n n1 n2 : Str} {rest : List Stmt} {u ts tB : TS} {P Px : Post O} {d : OT α} {d' : OT β} {F : Hp} {body : List Stmt}
theorem sat_tF {B : Bk} {Hi H : Hp} {L : List SV} {s : L2.St} [Rq α] {d' : OT β} {x : α} {y : β} {v : V} {p2 q : Addr} (h : SatG B Hi (oo d' y :: fz x :: L) (some (.ref p2) :: some v :: s) H) (hq : H q = none) :
    SatG B Hi (oo (otF (α := α) d') (x, y) :: L) (some (.ref q) :: s) (upd H q (.tup [v, .ref p2])) := by
  obtain ⟨p2', F, e4, sF, hy, ⟨v', e5, r1'⟩, kk⟩ := h
  cases e4; cases e5
  have nF : F q = none := by
    cases z : F q with
    | none => rfl
    | some w => rw [sF _ _ z] at hq; cases hq
  refine ⟨q, upd F q (.tup [v, .ref p2]), rfl, fun b o e => ?_, ⟨v, p2, upd_same, r1', ?_⟩, ?_⟩
  · by_cases z : b = q
    · rw [z, upd_same] at e; rw [z, upd_same]; exact e
    · rw [upd_ne z] at e; rw [upd_ne z]; exact sF _ _ e
  · rw [del_upd, del_new nF]; exact hy
  · have : minus (upd H q (.tup [v, .ref p2])) (upd F q (.tup [v, .ref p2])) = minus H F := by
      funext b
      by_cases z : b = q
      · rw [z, minus_some (o := .tup [v, .ref p2]) upd_same, minus_none nF, hq]
      · cases w : F b with
        | some o => rw [minus_some (o := o) (by rw [upd_ne z]; exact w), minus_some w]
        | none => rw [minus_none (by rw [upd_ne z]; exact w), minus_none w, upd_ne z]
    rw [this]; exact kk
theorem sat_appQ {B : Bk} {Hi H1 : Hp} {T G : List SV} {tv s : L2.St} {xs : List α} {y : α} {q : Addr} {l : Nat} (hl : tv.length = T.length) (s1 : SatG B Hi (oo d y :: (T ++ G)) (some (.ref q) :: (tv ++ s)) H1) (hg : G[l]? = some (oo (oLL d) xs)) (hz : xs.length < sizeLine) :
    ∃ p vs, s[l]? = some (some (.ref p)) ∧ H1 p = some (.lst vs) ∧ vs.length < sizeLine ∧ SatG B Hi (T ++ G.set l (oo (oLL d) (xs ++ [y]))) (tv ++ s) (upd H1 p (.lst (vs ++ [.ref q]))) := by
  have l1 : (some (V.ref q) :: tv).length = (oo d y :: T).length := by simp [hl]
  obtain ⟨p, F', g1, g2, g3, g4, up⟩ := SatG.replT (T := oo d y :: T) (tv := some (.ref q) :: tv) l1 s1 hg
  have g3' := g3
  obtain ⟨vs, f1, f2, f3⟩ := g3'
  have hH : H1 p = some (.lst vs) := g2 _ _ f1
  have st : SatG B Hi (oo d y :: oo (oLL d) xs :: (T ++ G.set l .un)) (some (.ref q) :: some (.ref p) :: (tv ++ s)) H1 := by
    obtain ⟨q', Fq, e4, q1, q2, q3⟩ := g4
    cases e4
    refine ⟨q, Fq, rfl, q1.trans minus_sub, q2, p, F', rfl, fun b o e => ?_, g3, ?_⟩
    · rw [minus_none]
      · exact g2 _ _ e
      · cases z : Fq b with
        | none => rfl
        | some w => have := (minus_is (q1 _ _ z)).1; rw [e] at this; cases this
    · rw [minus_comm]; exact q3
  have s3 := sat_snoc (L := T ++ G.set l .un) (s := tv ++ s) st hH (by rw [← f3.len]; exact hz)
  have s4 := s3.putT hl (i := l)
  rw [List.set_set, set_get_self _ _ _ g1] at s4
  exact ⟨p, vs, g1, hH, by rw [← f3.len]; exact hz, s4⟩
/-- name.append((a, m)), where m is our own and goes in -/
theorem bj_appMove [Rq α] {xs : List (α × β)} {d' : OT β} {y : β} {m1 : Option α} {m3 : List (α × β) → Option O} {x1 : Nat} {p5 p6 : Pos} (l j : Nat) (h : EJ X a ta G m1) (hr : ∀ ys, BJ X rest u ((G.set j .un).set l (oo (oLL (otF (α := α) d')) ys)) (m3 ys) P) {p2 apos cpos : Pos} (hlj : j ≠ l) (hg : G[l]? = some (oo (oLL (otF (α := α) d')) xs) := by rfl) (hgj : G[j]? = some (oo d' y) := by rfl)
    (hN : X.N[l]? = some n := by rfl) (hv : Vis X.env.scope n := by first | exact Or.inl rfl | exact Or.inr (Or.inl rfl) | exact Or.inr (Or.inr rfl)) (hd : (n == ("__debug__" : Str)) = false := by decide) (hcd : (n == ("__classdict__" : Str)) = false := by decide)
    (hNj : X.N[j]? = some n1 := by rfl) (hvj : Vis X.env.scope n1 := by first | exact Or.inl rfl | exact Or.inr (Or.inl rfl) | exact Or.inr (Or.inr rfl)) (hdj : (n1 == ("__debug__" : Str)) = false := by decide) (hcdj : (n1 == ("__classdict__" : Str)) = false := by decide)
    (he : starEach [a, .Name n1 p5] X.env = (false, eval a X.env) :: starEach [.Name n1 p5] X.env := by rfl) (he2 : starEach [.Name n1 p5] X.env = (false, eval (.Name n1 p5) X.env) :: starEach [] X.env := by rfl)
    (hbase : attributeBase (.Name n p2) "append" X.env (eval (.Name n p2) X.env) = eval (.Name n p2) X.env := by rfl)
    (hfew : ((backTo cpos (starEach [.Tuple [a, .Name n1 p5] x1 p6] X.env)).all (fun x => !x.1) && (backToKw cpos (keywordEach [] X.env)).all (fun x => x.1.isSome) && decide ([Expr.Tuple [a, .Name n1 p5] x1 p6].length + ([] : List Keyword).length + (if ([] : List Keyword).isEmpty then 0 else 1) < 30)) = true := by rfl)
    (hline : (apos.endLine == cpos.line) = true := by rfl) (hst : starEach [.Tuple [a, .Name n1 p5] x1 p6] X.env = (false, eval (.Tuple [a, .Name n1 p5] x1 p6) X.env) :: starEach [] X.env := by rfl) (hplain : (backTo cpos (starEach [] X.env)).any (·.1) = false := by rfl) (hsw : swapsWith (.Call (.Attribute (.Name n p2) "append" apos) [.Tuple [a, .Name n1 p5] x1 p6] [] cpos) none pos.line X.env = pure false := by rfl) :
    BJ X (.Expr (.Call (.Attribute (.Name n p2) "append" apos) [.Tuple [a, .Name n1 p5] x1 p6] [] cpos) pos :: rest) (tSeq (tDrop (tBM X.K "list" rAppend (tVar l) (tCons (tTup (tCons ta (tCons (tVar j) tNil))) tNil))) u) G (m1.bind fun x => (appC xs (x, y)).bind m3) P :=
  ⟨pss_cons (ps_expr (pe_bm PySem.F.plainAttrs_list PySem.F.slot_list_append PySem.F.type_list_append mt_append (pe_var hN hv hd hcd) (pa_cons (pe_tup (pa_cons h.pe (pa_cons (pe_var hNj hvj hdj hcdj) pa_nil he2) he)) pa_nil hst) hbase hfew hline hst hplain) hsw) (hr []).ps, fun B Hi T tv s H D o hx hl hs k => by
  obtain ⟨x, e1, hx⟩ := bind_some hx
  obtain ⟨ys, e2, e3⟩ := bind_some hx
  obtain ⟨p, F, h1, h2, ⟨vs0, h3, _, _⟩, _, _⟩ := hs.replT hl hg
  refine ⟨.ref p, h1, .inl ⟨rfl, _, SqL.of (h2 _ _ h3)⟩, ?_⟩
  refine h.ev B Hi T tv s H _ x e1 hl hs fun v Hi1 H1 s1 r1 => ?_
  have s1' : SatG B Hi1 ((fz x :: T) ++ G) ((some v :: tv) ++ s) H1 := ⟨⟨v, rfl, r1⟩, s1⟩
  obtain ⟨pj, Fj, j1, j2, j3, j4, _⟩ := s1'.replT (by simp [hl]) hgj
  refine ⟨.ref pj, j1, by show 2 ≤ sizeLine; decide, fun q hq => ?_⟩
  obtain ⟨hz, rfl⟩ := appC_is e2
  have s2 := sat_tF (q := q) (L := T ++ G.set j .un) (s := tv ++ s) (x := x) (y := y) (v := v) (p2 := pj) (H := H1) ⟨pj, Fj, rfl, j2, j3, j4⟩ hq
  obtain ⟨p', vs, g1, g2, g3, g4⟩ := sat_appQ (T := T) (G := G.set j .un) (tv := tv) (s := s) (l := l) hl s2 (by rw [List.getElem?_set_ne hlj]; exact hg) hz
  rw [h1] at g1
  cases g1
  refine ⟨p, vs, .ref q, rfl, rfl, g2, g3, ?_⟩
  exact (hr _).ev B Hi1 T tv s _ D o e3 hl g4 k⟩
/-- name[i][1].append(e) -/
def appAt {α β : Type} (xs : List (α × List β)) (i : Int) (y : β) : Option (List (α × List β)) := (atI xs i).bind fun it => (appC it.2 y).bind fun ys => setC xs i (it.1, ys)
theorem bj_appLT [Rq α] [Rq β] {xs : List (α × List β)} {m1 : Option Int} {m2 : Option β} {m3 : List (α × List β) → Option O} {jj} {p4 p5 p6 : Pos} (l : Nat) (hix : EJ X a ta G m1) (h : EJ X e t G m2) (hr : ∀ ys, BJ X rest u (G.set l (oo (oLL (otF (α := α) (oL (α := β)))) ys)) (m3 ys) P) {p2 apos cpos : Pos} {q0 : Addr} (hg : G[l]? = some (ex (oLL (otF (α := α) (oL (α := β)))) xs q0 F) := by rfl) (hpl : PlainIx a := by exact fun _ _ => rfl)
    (hN : X.N[l]? = some n := by rfl) (hv : Vis X.env.scope n := by first | exact Or.inl rfl | exact Or.inr (Or.inl rfl) | exact Or.inr (Or.inr rfl)) (hd : (n == ("__debug__" : Str)) = false := by decide) (hcd : (n == ("__classdict__" : Str)) = false := by decide)
    (hbase : attributeBase (.Subscript (.Subscript (.Name n p2) a p4) (.Constant (.int 1) jj p5) p6) "append" X.env (eval (.Subscript (.Subscript (.Name n p2) a p4) (.Constant (.int 1) jj p5) p6) X.env) = eval (.Subscript (.Subscript (.Name n p2) a p4) (.Constant (.int 1) jj p5) p6) X.env := by rfl)
    (hfew : ((backTo cpos (starEach [e] X.env)).all (fun x => !x.1) && (backToKw cpos (keywordEach [] X.env)).all (fun x => x.1.isSome) && decide ([e].length + ([] : List Keyword).length + (if ([] : List Keyword).isEmpty then 0 else 1) < 30)) = true := by rfl)
    (hline : (apos.endLine == cpos.line) = true := by rfl) (hst : starEach [e] X.env = (false, eval e X.env) :: starEach [] X.env := by rfl) (hplain : (backTo cpos (starEach [] X.env)).any (·.1) = false := by rfl) (hsw : swapsWith (.Call (.Attribute (.Subscript (.Subscript (.Name n p2) a p4) (.Constant (.int 1) jj p5) p6) "append" apos) [e] [] cpos) none pos.line X.env = pure false := by rfl) :
    BJ X (.Expr (.Call (.Attribute (.Subscript (.Subscript (.Name n p2) a p4) (.Constant (.int 1) jj p5) p6) "append" apos) [e] [] cpos) pos :: rest) (tSeq (tDrop (tBM X.K "list" rAppend (tOp (rIxT X.K) (tOp (rIxL X.K) (tVar l) ta) (tC (.int 1))) (tCons t tNil))) u) G (m1.bind fun i => m2.bind fun y => (appAt xs i y).bind m3) P :=
  ⟨pss_cons (ps_expr (pe_bm PySem.F.plainAttrs_list PySem.F.slot_list_append PySem.F.type_list_append mt_append (pe_ix ix_tup (pe_ix ix_list (pe_var hN hv hd hcd) hix.pe hpl) pe_int (fun _ _ => rfl)) (pa_cons h.pe pa_nil hst) hbase hfew hline hst hplain) hsw) (hr []).ps, fun B Hi T tv s H D o hx hl hs k => by
  obtain ⟨i, e1, hx⟩ := bind_some hx
  obtain ⟨y, e2, hx⟩ := bind_some hx
  obtain ⟨ys, e3, e4⟩ := bind_some hx
  obtain ⟨it, c1, e3⟩ := bind_some e3
  obtain ⟨us', c2, c3⟩ := bind_some e3
  obtain ⟨p, F0, h1, h2, ⟨rfl, rfl, h3⟩, _, _⟩ := hs.ownFT hl hg
  refine ⟨.ref p, h1, ?_⟩
  refine hix.ev B Hi T tv s H _ i e1 hl hs fun iv Hi1 H1 s1 r1 => ?_
  cases r1
  obtain ⟨p', F', g1, g2, ⟨rfl, rfl, g3⟩, _, _⟩ := s1.ownFT hl hg
  obtain ⟨jx, c4⟩ : ∃ jx, ixN xs.length i = some jx ∧ xs[jx]? = some it := by
    unfold atI at c1
    cases hj : ixN xs.length i with
    | none => rw [hj] at c1; cases c1
    | some jx => rw [hj] at c1; exact ⟨jx, rfl, c1⟩
  obtain ⟨c4, c5⟩ := c4
  obtain ⟨vs, q, Fi, f1, f2, f3, f4, f5, f6⟩ := oLL_open g3 c5
  obtain ⟨v1, qb, t1, t2, t3, t4, t5⟩ := otF_open f5
  have hv1 : atI vs i = some (.ref q) := by
    unfold atI
    rw [← f2, c4]; exact f3
  refine ⟨p', vs, i, .ref q, rfl, rfl, SqL.of (g2 _ _ f1), hv1, ?_⟩
  refine ⟨q, [v1, .ref qb], 1, .ref qb, rfl, rfl, SqT.of (g2 _ _ (f4 _ _ t1)), atI_nat (j := 1) rfl, ?_⟩
  have hqb : ∃ us0, F' qb = some (.lst us0) := by
    obtain ⟨u0, k1, us0, k2, _⟩ := t4
    refine ⟨us0, f4 _ _ (t3 _ _ (by rw [k1, one_same, k2]))⟩
  obtain ⟨us0, hqb⟩ := hqb
  refine .inl ⟨rfl, _, SqL.of (g2 _ _ hqb)⟩ |> fun z => ⟨z, ?_⟩
  refine h.ev B Hi1 T tv s H1 _ y e2 hl s1 fun v Hi3 H3 s3 r3 => ?_
  obtain ⟨p2', F2, w1, w2, ⟨w0, w00, w3⟩, w4, up⟩ := s3.replT hl hg
  subst w0 w00
  obtain ⟨vs', q', Fi', y1, y2, y3, y4, y5, y6⟩ := oLL_open w3 c5
  rw [f1] at y1
  cases y1
  rw [f3] at y3
  cases y3
  obtain ⟨v1', qb', z1, z2, z3, z4, z5⟩ := otF_open y5
  have eq1 : v1' = v1 ∧ qb' = qb := by
    have a1 := f4 _ _ t1
    have a2 := y4 _ _ z1
    rw [a1] at a2
    cases a2; exact ⟨rfl, rfl⟩
  obtain ⟨rfl, rfl⟩ := eq1
  have so1 := sat_open (L := T ++ G.set l .un) (s := tv ++ s) (D := oLL (otF (α := α) (oL (α := β)))) (d := otF (α := α) (oL (α := β))) (put := fun y => xs.set jx y) w4 w2 y4 y5 y6
  have so1' := so1
  obtain ⟨_, Fi2, e11, u1, ⟨_, u2⟩, u3⟩ := so1'
  cases e11
  obtain ⟨v1'', qb'', b1, b2, b3, b4, b5⟩ := otF_open u2
  have eq2 : v1'' = v1' ∧ qb'' = qb' := by
    have a1 := u1 _ _ b1
    have a2 := w2 _ _ (y4 _ _ z1)
    rw [a1] at a2
    cases a2; exact ⟨rfl, rfl⟩
  obtain ⟨rfl, rfl⟩ := eq2
  have so2 := sat_open (L := ohole (oLL (otF (α := α) (oL (α := β)))) (otF (α := α) (oL (α := β))) p2' q (fun y => xs.set jx y) :: (T ++ G.set l .un)) (s := some (.ref p2') :: (tv ++ s)) (D := otF (α := α) (oL (α := β))) (d := oL (α := β)) (put := fun y => (it.1, y)) u3 u1 b3 b4 b5
  obtain ⟨_, Fq, e12, k1, ⟨_, uo, k2, us, k3, k4, k5⟩, k6⟩ := so2
  cases e12
  subst k2 k3
  have hH3 : H3 qb'' = some (.lst us) := k1 _ _ one_same
  obtain ⟨hz, rfl⟩ := appC_is c2
  refine ⟨qb'', us, v, rfl, rfl, hH3, by rw [← Paired.length k5]; exact hz, ?_⟩
  have so3 : SatG B Hi3 (ooA (oL (α := β)) (it.2 ++ [y]) qb'' :: ohole (otF (α := α) (oL (α := β))) (oL (α := β)) q qb'' (fun y => (it.1, y)) :: ohole (oLL (otF (α := α) (oL (α := β)))) (otF (α := α) (oL (α := β))) p2' q (fun y => xs.set jx y) :: (T ++ G.set l .un)) (some (.ref qb'') :: some (.ref q) :: some (.ref p2') :: (tv ++ s)) (upd H3 qb'' (.lst (us ++ [v]))) := by
    refine ⟨qb'', one qb'' (.lst (us ++ [v])), rfl, same_one upd_same, ⟨rfl, _, rfl, _, rfl, by rw [List.length_append, ← Paired.length k5]; exact hz, Paired.append k5 (.cons r3 .nil)⟩, ?_⟩
    rw [minus_one, del_upd]
    rw [minus_one] at k6
    exact k6
  have so4 := sat_close so3
  have so5 := sat_close so4
  obtain ⟨jx', c6, c7⟩ := setC_is c3
  rw [c4] at c6
  cases c6
  subst c7
  exact (hr _).ev B Hi3 T tv s _ D o e4 hl (up _ _ _ so5.ooA_oo) k⟩
end
end GM
namespace GM
open PySem PySem.Spec PyProof.Rows L2 PySem.W
end GM
namespace GM
open PySem PySem.Spec PyProof.Rows L2
end GM
namespace ZL
open PySem PySem.Spec PyProof.Rows PySem.Calls PySem.W RT
end ZL
namespace GM
open PySem PySem.Spec PyProof.Rows L2 ZL RT
section
variable {X : Cx}
/-- a list of ints, short, as the script -/
def scrL (xs : List Int) : Option (List Int) := if xs.length ≤ 63 then some xs else none
theorem ej_scr {K : PySem.W.Frag} {e : Expr} {te : TE} {G : List SV} {m : Option (List Int)} (h : EJ X e te G m) : EJ X e te G (m.bind fun x => (scrL x).bind fun y => some (⟨y⟩ : Scr K)) := ⟨h.pe, fun B Hi T tv s H Q x hx hl hs k => by
  obtain ⟨y, e1, hx⟩ := bind_some hx
  obtain ⟨y', e2, e3⟩ := bind_some hx
  cases e3
  unfold scrL at e2
  split at e2
  · cases e2
    refine h.ev B Hi T tv s H Q y e1 hl hs fun v Hi1 H1 s1 r1 => k v Hi1 H1 s1 ?_
    obtain ⟨a, vs, g1, g2, g3, g4⟩ := r1
    refine ⟨a, g1, ?_, by assumption⟩
    have : ∀ {xs : List Int} {vs : List V}, Paired (rq Hi1) xs vs → vs = xs.map V.int := fun {xs vs} h => by
      induction h with
      | nil => rfl
      | cons r t ih => rw [List.map_cons, ← ih]; congr 1
    rw [this g4] at g2
    exact SqL.of g2
  · cases e2⟩
end
end GM
namespace GM
open PySem PySem.Spec PyProof.Rows L2
end GM
namespace GM
open PySem PySem.Spec PyProof.Rows L2
structure T4 (α β γ δ : Type) where
  a : α
  b : β
  c : γ
  d : δ
def repT4 {α β γ δ : Type} [Rq α] [Rq β] [Rq γ] [Rq δ] (H : Hp) (x : T4 α β γ δ) (v : V) : Prop := ∃ a v1 v2 v3 v4, v = .ref a ∧ H a = some (.tup [v1, v2, v3, v4]) ∧ rq H x.a v1 ∧ rq H x.b v2 ∧ rq H x.c v3 ∧ rq H x.d v4
instance {α β γ δ : Type} [Rq α] [Rq β] [Rq γ] [Rq δ] : Rp (T4 α β γ δ) := ⟨repT4, fun {H H' x v} e h => by
  obtain ⟨a, v1, v2, v3, v4, h1, h2, h3, h4, h5, h6⟩ := h
  exact ⟨a, v1, v2, v3, v4, h1, e _ _ h2, Rq.mono e h3, Rq.mono e h4, Rq.mono e h5, Rq.mono e h6⟩, fun h => by
  obtain ⟨a, v1, v2, v3, v4, h1, h2, h3, h4, h5, h6⟩ := h
  rw [h1]; exact fun z => by cases z⟩
instance {α β γ δ : Type} [Rq α] [Rq β] [Rq γ] [Rq δ] [NoL α] [NoL β] [NoL γ] [NoL δ] : NoL (T4 α β γ δ) := ⟨fun e h => by
  obtain ⟨a, v1, v2, v3, v4, h1, h2, h3, h4, h5, h6⟩ := h
  exact ⟨a, v1, v2, v3, v4, h1, e _ _ h2, NoL.tr e h3, NoL.tr e h4, NoL.tr e h5, NoL.tr e h6⟩⟩
instance {α β γ δ : Type} [Rq α] [Rq β] [Rq γ] [Rq δ] : TyN (T4 α β γ δ) := ⟨"tuple", fun h => by obtain ⟨a, v1, v2, v3, v4, h1, h2, _⟩ := h; subst h1; exact .base (.tup h2)⟩
instance {α β γ δ : Type} [Inhabited α] [Inhabited β] [Inhabited γ] [Inhabited δ] : Inhabited (T4 α β γ δ) := ⟨⟨default, default, default, default⟩⟩
instance {α β γ δ : Type} [DecidableEq α] [DecidableEq β] [DecidableEq γ] [DecidableEq δ] : DecidableEq (T4 α β γ δ) := fun x y =>
  if h : x.a = y.a ∧ x.b = y.b ∧ x.c = y.c ∧ x.d = y.d then isTrue (by cases x; cases y; obtain ⟨h1, h2, h3, h4⟩ := h; cases h1; cases h2; cases h3; cases h4; rfl) else isFalse (fun e => h (by rw [e]; exact ⟨rfl, rfl, rfl, rfl⟩))
instance instDaT4 {α β γ δ : Type} [Rq α] [Rq β] [Rq γ] [Rq δ] [DecidableEq α] [DecidableEq β] [DecidableEq γ] [DecidableEq δ] [Da α] [Da β] [Da γ] [Da δ] : Da (T4 α β γ δ) := ⟨fun x => .tuple [Da.dat x.a, Da.dat x.b, Da.dat x.c, Da.dat x.d], max (Da.dep α) (max (Da.dep β) (max (Da.dep γ) (Da.dep δ))) + 1, fun h => by
    obtain ⟨a, v1, v2, v3, v4, h1, h2, h3, h4, h5, h6⟩ := h
    subst h1
    exact .tup (SqT.of h2) (.cons (Da.dp h3) (.cons (Da.dp h4) (.cons (Da.dp h5) (.cons (Da.dp h6) .nil)))), fun x => by
    show max (PyData.depth (Da.dat x.a)) (max (PyData.depth (Da.dat x.b)) (max (PyData.depth (Da.dat x.c)) (max (PyData.depth (Da.dat x.d)) 0))) + 1 ≤ _
    have := Da.hd x.a
    have := Da.hd x.b
    have := Da.hd x.c
    have := Da.hd x.d
    omega, fun x => by
    show (PyData.canLay0 (Da.dat x.a) && (PyData.canLay0 (Da.dat x.b) && (PyData.canLay0 (Da.dat x.c) && (PyData.canLay0 (Da.dat x.d) && true)))) = true
    rw [Da.lay, Da.lay, Da.lay, Da.lay]; rfl, fun x y => by
    show (PyData.eqv (Da.dat x.a) (Da.dat y.a) && (PyData.eqv (Da.dat x.b) (Da.dat y.b) && (PyData.eqv (Da.dat x.c) (Da.dat y.c) && (PyData.eqv (Da.dat x.d) (Da.dat y.d) && true)))) = _
    rw [Da.eqv, Da.eqv, Da.eqv, Da.eqv, Bool.and_true, ← Bool.decide_and, ← Bool.decide_and, ← Bool.decide_and]
    exact dec_iff ⟨fun h => by cases x; cases y; obtain ⟨h1, h2, h3, h4⟩ := h; cases h1; cases h2; cases h3; cases h4; rfl, fun h => by rw [h]; exact ⟨rfl, rfl, rfl, rfl⟩⟩⟩
end GM
namespace GM.Mn
open PySem PySem.Spec PyProof.Rows
end GM.Mn
namespace GM
open PySem PySem.Spec PyProof.Rows L2
end GM
namespace GM
open PySem PySem.Spec PyProof.Rows L2 LiI
end GM
namespace ZL
open PySem PySem.Spec PyProof.Rows PySem.Calls PySem.W L2
end ZL
namespace GM
open PySem PySem.Spec PyProof.Rows L2 ZL
end GM
namespace GM
open PySem PySem.Spec PyProof.Rows L2
structure CalBD (P : Program) (w : World) (K : PySem.W.Frag) (mg : Str → Option Value) (base : Heap) (k : Nat) (x : Str) (sp : Sp) (dvs : List V) : Prop where
  ok : ∃ (f : Addr) (fd : FuncData) (ps : List Str) (ds : List Value), FnOk P w K mg base CX0 k f fd ps sp ∧ mg x = some (.ref f) ∧ PySem.W.keepIn K (.ref f) = true ∧ Binds K fd ps ds ∧ Vals dvs ds
structure CalD (X : Cx) (x : Str) (sp : Sp) (dvs : List V) : Prop where
  ok : ∃ (k : Nat) (f : Addr) (fd : FuncData) (ps : List Str) (ds : List Value), FnOk X.prog X.w X.K X.mg X.base CX0 k f fd ps sp ∧ Room k X.A ∧ X.mg x = some (.ref f) ∧ PySem.W.keepIn X.K (.ref f) = true ∧ Binds X.K fd ps ds ∧ Vals dvs ds
theorem CalBD.at {X : Cx} {k : Nat} {x : Str} {sp : Sp} {dvs : List V} (C : CalBD X.prog X.w X.K X.mg X.base k x sp dvs) (hr : Room k X.A) : CalD X x sp dvs := by
  obtain ⟨f, fd, ps, ds, h1, h2, h3, h4, h5⟩ := C.ok
  exact ⟨k, f, fd, ps, ds, h1, hr, h2, h3, h4, h5⟩
theorem CalBD.mono {P : Program} {w : World} {K : PySem.W.Frag} {mg : Str → Option Value} {base : Heap} {j k : Nat} {x : Str} {sp : Sp} {dvs : List V} (C : CalBD P w K mg base j x sp dvs) (h : j ≤ k) : CalBD P w K mg base k x sp dvs := by
  obtain ⟨f, fd, ps, ds, h1, h2, h3, h4, h5⟩ := C.ok
  exact ⟨f, fd, ps, ds, h1.mono h, h2, h3, h4, h5⟩
end GM
namespace GM
open PySem PySem.Spec PyProof.Rows L2
def splitC (a b : Str) : Option (List Str) := if (b.length == 0) = false ∧ a.length + 2 ≤ sizeLine ∧ (Txt.split a b).length ≤ sizeLine then some (Txt.split a b) else none
def partC (a b : Str) : Option (T3 Str Str Str) := if (b.length == 0) = false ∧ a.length ≤ sizeLine then some ⟨(Txt.partition a b).1, (Txt.partition a b).2.1, (Txt.partition a b).2.2⟩ else none
def joinC (a : Str) (ys : List Str) : Option Str := if (ys.map (·.length)).sum + ys.length * a.length ≤ 16777216 then some (Txt.join a ys) else none
def strI (i : Int) : Option Str := if i.natAbs.log2 < 1920 then some (toString i) else none
def intS (a : Str) : Option Int := if a.length ≤ 640 then PySem.intText? a else none
theorem strs_paired (H : Hp) : ∀ xs : List Str, Paired (rq H) xs (xs.map V.str)
  | [] => .nil
  | x :: xs => .cons rfl (strs_paired H xs)
theorem paired_strs {H : Hp} {xs : List Str} {vs : List V} (h : Paired (rq H) xs vs) : vs = xs.map V.str := by
  induction h with
  | nil => rfl
  | cons r t ih => rw [List.map_cons, ← ih]; congr 1
section
variable {X : Cx} {o e a b : Expr} {t te to ta tb : TE} {G : List SV} {apos pos p : Pos}
theorem oj_split {m1 m2 : Option Str} (ho : EJ X o to G m1) (he : EJ X e te G m2) (hs : starEach [e] X.env = [(false, eval e X.env)] := by rfl) (hbase : attributeBase o "split" X.env (eval o X.env) = eval o X.env := by rfl) (hline : (apos.endLine == pos.line) = true := by rfl) :
    OJ X (.Call (.Attribute o "split" apos) [e] [] pos) (tM1 (fun x xs H Q => ∃ a b, x = .str a ∧ xs = [.str b] ∧ (b.length == 0) = false ∧ a.length + 2 ≤ sizeLine ∧ rNewStrs (Txt.split a b) H Q) to te) G (m1.bind fun x => m2.bind fun y => splitC x y) :=
  ⟨pe_split ho.pe he.pe hs hbase hline, fun B Hi T tv s H Q z hx hl hsat k => by
    obtain ⟨x, e1, hx⟩ := bind_some hx
    obtain ⟨y, e2, e3⟩ := bind_some hx
    unfold splitC at e3
    split at e3
    · rename_i c
      cases e3
      refine ho.ev B Hi T tv s H _ x e1 hl hsat fun vx Hi1 H1 s1 r1 => ?_
      cases r1
      refine ⟨⟨x, rfl⟩, ?_⟩
      refine he.ev B Hi1 T tv s H1 _ y e2 hl s1 fun vy Hi2 H2 s2 r2 => ?_
      cases r2
      refine ⟨x, y, rfl, rfl, c.1, c.2.1, ?_⟩
      exact fun q hq => k q Hi2 _ (s2.newO (φ := isL (Txt.split x y)) hq ⟨_, rfl, by rw [List.length_map]; exact c.2.2, strs_paired Hi2 _⟩)
    · cases e3⟩
theorem ej_part {m1 m2 : Option Str} (ho : EJ X o to G m1) (he : EJ X e te G m2) (hs : starEach [e] X.env = [(false, eval e X.env)] := by rfl) (hbase : attributeBase o "partition" X.env (eval o X.env) = eval o X.env := by rfl) (hline : (apos.endLine == pos.line) = true := by rfl) :
    EJ X (.Call (.Attribute o "partition" apos) [e] [] pos) (tM1 (fun x xs H Q => ∃ a b, x = .str a ∧ xs = [.str b] ∧ (b.length == 0) = false ∧ a.length ≤ sizeLine ∧
      ∀ p, H p = none → Q (.ref p) (upd H p (.tup [.str (Txt.partition a b).1, .str (Txt.partition a b).2.1, .str (Txt.partition a b).2.2]))) to te) G (m1.bind fun x => m2.bind fun y => partC x y) :=
  ⟨pe_partition ho.pe he.pe hs hbase hline, fun B Hi T tv s H Q z hx hl hsat k => by
    obtain ⟨x, e1, hx⟩ := bind_some hx
    obtain ⟨y, e2, e3⟩ := bind_some hx
    unfold partC at e3
    split at e3
    · rename_i c
      cases e3
      refine ho.ev B Hi T tv s H _ x e1 hl hsat fun vx Hi1 H1 s1 r1 => ?_
      cases r1
      refine ⟨⟨x, rfl⟩, ?_⟩
      refine he.ev B Hi1 T tv s H1 _ y e2 hl s1 fun vy Hi2 H2 s2 r2 => ?_
      cases r2
      refine ⟨x, y, rfl, rfl, c.1, c.2, fun q hq => ?_⟩
      obtain ⟨s3, sm⟩ := sat_tup (vs := [.str (Txt.partition x y).1, .str (Txt.partition x y).2.1, .str (Txt.partition x y).2.2]) s2 hq
      exact k _ _ _ s3 ⟨q, _, _, _, rfl, upd_same, rfl, rfl, rfl⟩
    · cases e3⟩
theorem ej_join {m1 : Option Str} {m2 : Option (List Str)} (ho : EJ X o to G m1) (he : LK X e te G m2) (hs : starEach [e] X.env = [(false, eval e X.env)] := by rfl) (hbase : attributeBase o "join" X.env (eval o X.env) = eval o X.env := by rfl) (hline : (apos.endLine == pos.line) = true := by rfl) :
    EJ X (.Call (.Attribute o "join" apos) [e] [] pos) (tM1 (fun x xs H Q => ∃ a p, ∃ ys : List Str, x = .str a ∧ xs = [.ref p] ∧ (SqL X.K H p (ys.map V.str) ∨ SqT X.K H p (ys.map V.str)) ∧
      (ys.map (·.length)).sum + ys.length * a.length ≤ 16777216 ∧ Q (.str (Txt.join a ys)) H) to te) G (m1.bind fun x => m2.bind fun y => joinC x y) :=
  ⟨pe_join ho.pe he.pe hs hbase hline, fun B Hi T tv s H Q z hx hl hsat k => by
    obtain ⟨x, e1, hx⟩ := bind_some hx
    obtain ⟨y, e2, e3⟩ := bind_some hx
    unfold joinC at e3
    split at e3
    · rename_i c
      cases e3
      refine ho.ev B Hi T tv s H _ x e1 hl hsat fun vx Hi1 H1 s1 r1 => ?_
      cases r1
      refine ⟨⟨x, rfl⟩, ?_⟩
      refine he.ev B Hi1 T tv s H1 _ y e2 hl s1 fun vy T' tv' Hi2 H2 l2 s2 r2 => ?_
      obtain ⟨s3, q, vs, g1, g2, g3, g4⟩ := r2 Hi2 H2 s2
      subst g1
      rw [paired_strs g4] at g2
      exact ⟨x, q, y, rfl, rfl, .inl g2, c, k _ Hi2 H2 s3 rfl⟩
    · cases e3⟩
/-- texts one behind the other -/
def catS (a b : Str) : Option Str := if a.length + b.length ≤ sizeLine then some (a ++ b) else none
theorem ej_catS {m1 m2 : Option Str} (ha : EJ X a ta G m1) (hb : EJ X b tb G m2) : EJ X (.BinOp a .Add b pos) (tOp (fun x y H Q => ∃ i j, x = .str i ∧ y = .str j ∧ i.length + j.length ≤ sizeLine ∧ Q (.str (i ++ j)) H) ta tb) G (m1.bind fun x => m2.bind fun y => catS x y) := ⟨pe_op op_add_str ha.pe hb.pe, fun B Hi T tv s H Q z hx hl hs k => by
  obtain ⟨x, e1, hx⟩ := bind_some hx
  obtain ⟨y, e2, e3⟩ := bind_some hx
  unfold catS at e3
  split at e3
  · rename_i c
    cases e3
    refine ha.ev B Hi T tv s H _ x e1 hl hs fun v Hi1 H1 s1 r1 => ?_
    refine hb.ev B Hi1 (fz x :: T) (some v :: tv) s H1 _ y e2 (by simp [hl]) ⟨⟨v, rfl, r1⟩, s1⟩ fun v2 Hi2 H2 s2 r2 => ?_
    obtain ⟨⟨v', e4, r1'⟩, s2⟩ := s2
    cases e4
    cases r1'
    cases r2
    exact ⟨x, y, rfl, rfl, c, k _ Hi2 H2 s2 rfl⟩
  · cases e3⟩
/-- str(int) -/
theorem ej_strI {m1 : Option Int} (ha : EJ X a ta G m1) (hm : X.mg "str" = none) (hg : Gl X "str" := by rfl) (he : starEach [a] X.env = (false, eval a X.env) :: starEach [] X.env := by rfl) :
    EJ X (.Call (.Name "str" p) [a] [] pos) (tCB (fun xs H Q => ∃ i, xs = [.int i] ∧ i.natAbs.log2 < 1920 ∧ Q (.str (toString i)) H) (tCons ta tNil)) G (m1.bind strI) :=
  ⟨pe_callTy call_str_int hg hm (by decide +kernel) (pa_cons ha.pe pa_nil he) (by decide) (by decide) he rfl, ev_b1 (f := strI) (fun Hi H x v z Q sm h e k => by
    cases h
    unfold strI at e
    split at e
    · rename_i c
      cases e
      exact ⟨x, rfl, c, k _ rfl⟩
    · cases e) ha.ev⟩
/-- int(text) -/
theorem ej_intS {m1 : Option Str} (ha : EJ X a ta G m1) (hm : X.mg "int" = none) (hg : Gl X "int" := by rfl) (he : starEach [a] X.env = (false, eval a X.env) :: starEach [] X.env := by rfl) :
    EJ X (.Call (.Name "int" p) [a] [] pos) (tCB (fun xs H Q => ∃ a n, xs = [.str a] ∧ PySem.intText? a = some n ∧ a.length ≤ 640 ∧ Q (.int n) H) (tCons ta tNil)) G (m1.bind intS) :=
  ⟨pe_callTy call_int_str hg hm (by decide +kernel) (pa_cons ha.pe pa_nil he) (by decide) (by decide) he rfl, ev_b1 (f := intS) (fun Hi H x v z Q sm h e k => by
    cases h
    unfold intS at e
    split at e
    · rename_i c
      exact ⟨x, z, rfl, e, c, k _ rfl⟩
    · cases e) ha.ev⟩
/-- len(text) -/
def lenS (a : Str) : Option Int := if a.length ≤ sizeLine then some (a.length : Int) else none
theorem ej_lenS {m1 : Option Str} (ha : EJ X a ta G m1) (hm : X.mg "len" = none) (hg : Gl X "len" := by rfl) (he : starEach [a] X.env = (false, eval a X.env) :: starEach [] X.env := by rfl) :
    EJ X (.Call (.Name "len" p) [a] [] pos) (tCB (fun xs H Q => ∃ z, xs = [.str z] ∧ z.length ≤ sizeLine ∧ Q (.int z.length) H) (tCons ta tNil)) G (m1.bind lenS) :=
  ⟨pe_callB call_len_str hg hm (by decide +kernel) (pa_cons ha.pe pa_nil he) (by decide) (by decide) he rfl, ev_b1 (f := lenS) (fun Hi H x v z Q sm h e k => by
    cases h
    unfold lenS at e
    split at e
    · rename_i c
      cases e
      exact ⟨x, rfl, c, k _ rfl⟩
    · cases e) ha.ev⟩
/-- a text within a text -/
def inS (a b : Str) : Bool := !(Builtin.Str.occurrences b a 0 b.length 1).isEmpty
def rInS (g : Bool → Bool) : R2 := fun x y H Q => ∃ i j, x = .str i ∧ y = .str j ∧ Q (.bl (g (inS i j))) H
theorem ev_inS {g : Bool → Bool} {m1 m2 : Option Str} (ha : EvJ ta G m1) (hb : EvJ tb G m2) : EvJ (tOp (rInS g) ta tb) G (m1.bind fun x => m2.bind fun y => some (g (inS x y))) := fun B Hi T tv s H Q z hx hl hs k => by
  obtain ⟨x, e1, hx⟩ := bind_some hx
  obtain ⟨y, e2, e3⟩ := bind_some hx
  cases e3
  refine ha B Hi T tv s H _ x e1 hl hs fun v Hi1 H1 s1 r1 => ?_
  refine hb B Hi1 (fz x :: T) (some v :: tv) s H1 _ y e2 (by simp [hl]) ⟨⟨v, rfl, r1⟩, s1⟩ fun v2 Hi2 H2 s2 r2 => ?_
  obtain ⟨⟨v', e4, r1'⟩, s2⟩ := s2
  cases e4
  cases r1'
  cases r2
  exact ⟨x, y, rfl, rfl, k _ Hi2 H2 s2 rfl⟩
theorem tj_notinS {m1 m2 : Option Str} (ha : EJ X a ta G m1) (hb : EJ X b tb G m2) (hm : behindInMarks .NotIn b = false := by with_unfolding_all rfl) :
    TJ X (.Compare a [.NotIn] [b] pos) (tTest (tOp (rInS not) ta tb)) G (m1.bind fun x => m2.bind fun y => some (!inS x y)) := ⟨pt_cmpR op_notin_str ha.pe hb.pe hm, tv_test (ev_inS (g := not) ha.ev hb.ev)⟩
/-- text[i] -/
def ixS (a : Str) (i : Int) : Option Str := if a.length ≤ sizeLine then (atI a.cps.toList i).map fun c => ⟨#[c]⟩ else none
theorem ej_ixS {m1 : Option Str} {m2 : Option Int} (ha : EJ X a ta G m1) (hb : EJ X b tb G m2) (hs : PlainIx b := by exact fun _ _ => rfl) :
    EJ X (.Subscript a b pos) (tOp rIxS ta tb) G (m1.bind fun x => m2.bind fun y => ixS x y) := ⟨pe_ix ix_str ha.pe hb.pe hs, fun B Hi T tv s H Q z hx hl hs k => by
  obtain ⟨x, e1, hx⟩ := bind_some hx
  obtain ⟨y, e2, e3⟩ := bind_some hx
  unfold ixS at e3
  split at e3
  · rename_i c
    obtain ⟨ch, e5, e6⟩ := Option.map_eq_some_iff.1 e3
    subst e6
    refine ha.ev B Hi T tv s H _ x e1 hl hs fun v Hi1 H1 s1 r1 => ?_
    refine hb.ev B Hi1 (fz x :: T) (some v :: tv) s H1 _ y e2 (by simp [hl]) ⟨⟨v, rfl, r1⟩, s1⟩ fun v2 Hi2 H2 s2 r2 => ?_
    obtain ⟨⟨v', e4, r1'⟩, s2⟩ := s2
    cases e4
    cases r1'
    cases r2
    exact ⟨x, y, ch, rfl, rfl, c, e5, k _ Hi2 H2 s2 rfl⟩
  · cases e3⟩
/-- a text's signs, one by one -/
def signsC (a : Str) : Option (List Str) := if a.cps.size ≤ sizeLine then some (a.cps.toList.map fun c => ⟨#[c]⟩) else none
theorem ij_str {tg : Expr} {m : Option Str} (h : EJ X e te G m) : IJ C0 X tg e (iStr te) G (m.bind signsC) := ⟨pi_str h.pe, fun B Hi T tv s H R xs hx hl hs k => by
  obtain ⟨x, e1, e2⟩ := bind_some hx
  unfold signsC at e2
  split at e2
  · rename_i c
    cases e2
    refine h.ev B Hi T tv s H _ x e1 hl hs fun v Hi1 H1 s1 r1 => ?_
    cases r1
    refine ⟨x, rfl, k _ T tv Hi1 H1 hl s1 (by simpa using c) (fun G2 s2 Hi2 H2 z => z) fun F fv G2 s2 Hi2 H2 lf c z => ?_⟩
    refine ⟨?_, fun i y hi => ?_⟩
    · show x.cps.size ≤ _
      simp
    · rw [List.getElem?_map] at hi
      obtain ⟨ch, e5, e6⟩ := Option.map_eq_some_iff.1 hi
      subst e6
      rw [Array.getElem?_toList] at e5
      refine ⟨?_, fun v H3 hy => ?_⟩
      · show i < x.cps.size
        exact (Array.getElem?_eq_some_iff.1 e5).1
      · obtain ⟨rfl, c2, g1, rfl⟩ := hy
        rw [e5] at g1
        cases g1
        exact ⟨Hi2, z, rfl⟩
  · exact (nomatch e2), fun _ => trivial⟩
end
end GM
namespace GM
open PySem PySem.Spec PyProof.Rows L2
section
variable {X : Cx} {a e : Expr} {t te ta : TE} {G : List SV} {pos p : Pos} {α β γ : Type}
theorem ej_globI {i : Int} {n : Str} (hm : ∃ t, X.mg n = some (.int i t)) (hg : Gl X n := by rfl) (hd : (n == ("__debug__" : Str)) = false := by decide) : EJ X (.Name n pos) (tC (.int i)) G (some i) := by
  obtain ⟨t, hm⟩ := hm
  exact ej_c (pe_glob hg hm ⟨t, rfl⟩ hd) fun _ => rfl
theorem ej_globS {i : Str} {n : Str} (hm : ∃ t, X.mg n = some (.str i t)) (hg : Gl X n := by rfl) (hd : (n == ("__debug__" : Str)) = false := by decide) : EJ X (.Name n pos) (tC (.str i)) G (some i) := by
  obtain ⟨t, hm⟩ := hm
  exact ej_c (pe_glob hg hm ⟨t, rfl⟩ hd) fun _ => rfl
theorem ej_tupOf [Rq α] {m : Option (List α)} (h : LJ X a ta G m) (hm : X.mg "tuple" = none) (hg : Gl X "tuple" := by rfl) (he : starEach [a] X.env = (false, eval a X.env) :: starEach [] X.env := by rfl) :
    EJ X (.Call (.Name "tuple" p) [a] [] pos) (tThen ta (kTup X.K)) G (m.bind fun x => some (Tp.mk x)) := ⟨pe_tupleOf hg hm h.pe he, fun B Hi T tv s H Q z hx hl hs k => by
  obtain ⟨x, e1, e2⟩ := bind_some hx
  cases e2
  refine h.ev B Hi T tv s H _ x e1 hl hs fun v T' tv' Hi2 H2 l2 s2 r2 => ?_
  obtain ⟨s3, q, vs, g1, g2, g3, g4⟩ := r2 Hi2 H2 s2
  refine .inl ⟨q, vs, g1, SqL.of g2, fun r hr => ?_⟩
  obtain ⟨s4, sm⟩ := sat_tup (vs := vs) s3 hr
  exact k _ _ _ s4 ⟨r, vs, rfl, upd_same, g3, Paired.mono g4 fun _ _ => Rq.mono sm⟩⟩
end
end GM
namespace GM
open PySem PySem.Spec PyProof.Rows L2
def atA {α : Type} (d : OT α) (a : Addr) : OT α := ⟨fun H x p F => p = a ∧ d.φ H x p F, fun H H' x p F e ⟨h1, h2⟩ => ⟨h1, d.m _ _ _ _ _ e h2⟩⟩
/-- D is d, its place perhaps told -/
class Pn {α : Type} (D : OT α) (d : outParam (OT α)) : Prop where
  is : ∃ C : Addr → Prop, ∀ H x p F, D.φ H x p F ↔ C p ∧ d.φ H x p F
instance {α : Type} {d : OT α} {a : Addr} : Pn (atA d a) d := ⟨fun p => p = a, fun _ _ _ _ => Iff.rfl⟩
theorem Pn.self {α : Type} (d : OT α) : Pn d d := ⟨fun _ => True, fun _ _ _ _ => ⟨fun h => ⟨trivial, h⟩, fun h => h.2⟩⟩
theorem Pn.to {α : Type} {D d : OT α} (i : Pn D d) {H : Hp} {x : α} {p : Addr} {F : Hp} (h : D.φ H x p F) : d.φ H x p F := by
  obtain ⟨C, hC⟩ := i.is
  exact ((hC _ _ _ _).mp h).2
def tk (k : Tp Int) : List L2.Key := k.l.map .inl
end GM
namespace GM
open PySem PySem.Spec PyProof.Rows L2
instance (priority := low) pn_self {α : Type} {d : OT α} : Pn d d := Pn.self d
def PS {α ρ : Type} [Rq ρ] (d : OT α) (a : Addr) : Post (ρ × α) := fun r B _ _ D => ∀ v Hi H', SatG B Hi [oo (atA d a) r.2] [some (.ref a)] H' → rq Hi r.1 v → D.rt v H'
instance {α ρ : Type} [Rq ρ] {d : OT α} {a : Addr} : Out (PS (ρ := ρ) d a) (PS d a) := ⟨fun _ _ _ _ _ _ h => h⟩
instance {α ρ : Type} [Rq ρ] {d : OT α} {a : Addr} : RtOnly (PS (ρ := ρ) d a) := ⟨fun r B T T' tv tv' D D' e h v Hi H' q1 q2 => by rw [e]; exact h v Hi H' q1 q2⟩
def PSU {α : Type} (d : OT α) (a : Addr) : Post (Unit × α) := fun r B _ _ D => (∀ Hi H', SatG B Hi [oo (atA d a) r.2] [some (.ref a)] H' → D.rt .non H') ∧ ∀ s Hi H', SatG B Hi [oo (atA d a) r.2] [some (.ref a)] H' → D.nx s H'
end GM
namespace GM
open PySem PySem.Spec PyProof.Rows L2
end GM
namespace GM
open PySem PySem.Spec PyProof.Rows L2
class DaU (α : Type) [Rq α] [DecidableEq α] [DaO α] : Prop where
  s : ∀ x : α, ∃ y r, Da.dat x = .tuple (y :: r)
instance : DaU (T3 Int Int Int) := ⟨fun x => ⟨_, _, rfl⟩⟩
end GM
namespace GM
open PySem PySem.Spec PyProof.Rows L2
def oRow3 {α β γ : Type} [Rq α] [Rq β] (d : OT γ) : OT (Ll3 α β γ) := ⟨fun H x p F => ∃ v0 v1 q, F p = some (.lst [v0, v1, .ref q]) ∧ rq H x.a v0 ∧ rq H x.b v1 ∧ d.φ H x.c q (del F p),
  fun H H' x p F e ⟨v0, v1, q, h1, h2, h3, h4⟩ => ⟨v0, v1, q, h1, Rq.mono e h2, Rq.mono e h3, d.m _ _ _ _ _ e h4⟩⟩
instance {α β γ : Type} [Rq α] [Rq β] [Rq γ] {d : OT γ} [Th d] : Th (oRow3 (α := α) (β := β) d) := ⟨fun {H x p F} nn ⟨v0, v1, q, h1, h2, h3, h4⟩ => by
  have s1 := same_plus (H := H) (F := F) nn
  refine ⟨p, v0, v1, .ref q, rfl, plus_some h1, Rq.mono s1 h2, Rq.mono s1 h3, ?_⟩
  have h5 := Th.th (H := H) (F := del F p) (fun a u e => nn a u (del_sub _ _ e)) h4
  exact Rq.mono (same_plus2 nn del_sub) h5⟩
end GM
namespace GM
open PySem PySem.Spec PyProof.Rows L2
instance : Da (Option Int) := ⟨fun x => match x with | none => .none | some y => Da.dat y, Da.dep Int, fun {K H x v} h => by
    cases x with
    | none => cases (show v = .non from h); exact .non
    | some y => exact Da.dp (show rq H y v from h), fun x => by
    cases x with
    | none => exact Nat.zero_le _
    | some y => exact Da.hd y, fun x => by
    cases x with
    | none => rfl
    | some y => exact Da.lay y, fun x y => by
    cases x with
    | none => cases y with
      | none => rfl
      | some y => rw [decide_eq_false (by intro h; cases h)]; rfl
    | some x => cases y with
      | none => rw [decide_eq_false (by intro h; cases h)]; rfl
      | some y =>
        show PyData.eqv (Da.dat x) (Da.dat y) = _
        rw [Da.eqv]
        exact dec_iff ⟨fun h => by rw [h], fun h => by cases h; rfl⟩⟩
instance {α : Type} [Rq α] [DecidableEq α] [Da α] : Da (Option (Tp α)) := ⟨fun x => match x with | none => .none | some y => Da.dat y, Da.dep (Tp α), fun {K H x v} h => by
    cases x with
    | none => cases (show v = .non from h); exact .non
    | some y => exact Da.dp (show rq H y v from h), fun x => by
    cases x with
    | none => exact Nat.zero_le _
    | some y => exact Da.hd y, fun x => by
    cases x with
    | none => rfl
    | some y => exact Da.lay y, fun x y => by
    cases x with
    | none => cases y with
      | none => rfl
      | some y => rw [decide_eq_false (by intro h; cases h)]; rfl
    | some x => cases y with
      | none => rw [decide_eq_false (by intro h; cases h)]; rfl
      | some y =>
        show PyData.eqv (Da.dat x) (Da.dat y) = _
        rw [Da.eqv]
        exact dec_iff ⟨fun h => by rw [h], fun h => by cases h; rfl⟩⟩
end GM
namespace GM
open PySem PySem.Spec PyProof.Rows L2
/-- the ways out of a def that changes something it is handed -/
def PSUx {α : Type} (d : OT α) (a : Addr) : Post (Unit × α) := fun r B _ _ D => ∀ Hi H', SatG B Hi [oo (atA d a) r.2] [some (.ref a)] H' → D.rt .non H'
instance {α : Type} {d : OT α} {a : Addr} : Out (PSU d a) (PSUx d a) := ⟨fun _ _ _ _ _ _ h => h.1⟩
instance {α : Type} {d : OT α} {a : Addr} : Out (PSUx d a) (PSUx d a) := ⟨fun _ _ _ _ _ _ h => h⟩
end GM
namespace GM
open PySem PySem.Spec PyProof.Rows L2
def PSX {α : Type} (d : OT α) (a : Addr) (cls : Value) (E : XK) : Post (Option α) := fun r B _ _ D => (∀ y, r = some y → (∀ Hi H', SatG B Hi [oo (atA d a) y] [some (.ref a)] H' → D.rt .non H') ∧ ∀ s Hi H', SatG B Hi [oo (atA d a) y] [some (.ref a)] H' → D.nx s H') ∧ (r = none → ∀ Hi H', SatG B Hi [] [] H' → E cls none H')
def PSXx {α : Type} (d : OT α) (a : Addr) (cls : Value) (E : XK) : Post (Option α) := fun r B _ _ D => (∀ y, r = some y → ∀ Hi H', SatG B Hi [oo (atA d a) y] [some (.ref a)] H' → D.rt .non H') ∧ (r = none → ∀ Hi H', SatG B Hi [] [] H' → E cls none H')
section
variable {α : Type} {d : OT α} {a : Addr} {cls : Value} {E : XK}
instance : Out (PSX d a cls E) (PSXx d a cls E) := ⟨fun _ _ _ _ _ _ h => ⟨fun y e => (h.1 y e).1, h.2⟩⟩
instance : Out (PSXx d a cls E) (PSXx d a cls E) := ⟨fun _ _ _ _ _ _ h => h⟩
instance : RtOnly (PSXx d a cls E) := ⟨fun r B T T' tv tv' D D' e h => ⟨fun y e2 Hi H' q => by rw [e]; exact h.1 y e2 Hi H' q, h.2⟩⟩
instance : Rt (PSX d a cls E) (PSXx d a cls E) id := ⟨fun _ _ _ _ _ h => ⟨fun y e => (h.1 y e).1, h.2⟩⟩
instance : Rt (PSX d a cls E) (PX0 cls E) (fun _ : Unit => (none : Option α)) := ⟨fun _ _ _ _ _ h => h.2 rfl⟩
instance : Rt (PSXx d a cls E) (PX0 cls E) (fun _ : Unit => (none : Option α)) := ⟨fun _ _ _ _ _ h => h.2 rfl⟩
instance {S : Type} {N : S → List SV} : Rt (PL N (PSXx d a cls E)) (PX0 cls E) (fun _ : Unit => Fl.ret (none : Option α)) := ⟨fun _ _ _ _ _ h => h.2 rfl⟩
instance {S : Type} {N : S → List SV} : Rt (PLx N (PSXx d a cls E)) (PX0 cls E) (fun _ : Unit => Fl.ret (none : Option α)) := ⟨fun _ _ _ _ _ h => h.2 rfl⟩
end
structure MetX (X : Cx) (C : Addr) (m : Str) (sp : Sp) : Prop where
  ok : ∃ (k : Nat) (f : Addr) (fd : FuncData) (ps : List Str), FnOk X.prog X.w X.K X.mg X.base (L2.CX X.prog X.w) k f fd ps sp ∧ Room k X.A ∧ Meth X.K C m f ∧ Binds X.K fd ps []
structure CalMX (P : Program) (w : World) (K : PySem.W.Frag) (mg : Str → Option Value) (base : Heap) (k : Nat) (C : Addr) (m : Str) (sp : Sp) : Prop where
  ok : ∃ (f : Addr) (fd : FuncData) (ps : List Str), FnOk P w K mg base (L2.CX P w) k f fd ps sp ∧ Meth K C m f ∧ Binds K fd ps []
theorem CalMX.at {X : Cx} {k : Nat} {C : Addr} {m : Str} {sp : Sp} (M : CalMX X.prog X.w X.K X.mg X.base k C m sp) (hr : Room k X.A) : MetX X C m sp := by
  obtain ⟨f, fd, ps, h1, h2, h3⟩ := M.ok
  exact ⟨k, f, fd, ps, h1, hr, h2, h3⟩
end GM
namespace GM
open PySem PySem.Spec PyProof.Rows L2
structure CalBDX (P : Program) (w : World) (K : PySem.W.Frag) (mg : Str → Option Value) (base : Heap) (k : Nat) (x : Str) (sp : Sp) (dvs : List V) : Prop where
  ok : ∃ (f : Addr) (fd : FuncData) (ps : List Str) (ds : List Value), FnOk P w K mg base (L2.CX P w) k f fd ps sp ∧ mg x = some (.ref f) ∧ PySem.W.keepIn K (.ref f) = true ∧ Binds K fd ps ds ∧ Vals dvs ds
structure CalDX (X : Cx) (x : Str) (sp : Sp) (dvs : List V) : Prop where
  ok : ∃ (k : Nat) (f : Addr) (fd : FuncData) (ps : List Str) (ds : List Value), FnOk X.prog X.w X.K X.mg X.base (L2.CX X.prog X.w) k f fd ps sp ∧ Room k X.A ∧ X.mg x = some (.ref f) ∧ PySem.W.keepIn X.K (.ref f) = true ∧ Binds X.K fd ps ds ∧ Vals dvs ds
theorem CalBDX.at {X : Cx} {k : Nat} {x : Str} {sp : Sp} {dvs : List V} (C : CalBDX X.prog X.w X.K X.mg X.base k x sp dvs) (hr : Room k X.A) : CalDX X x sp dvs := by
  obtain ⟨f, fd, ps, ds, h1, h2, h3, h4, h5⟩ := C.ok
  exact ⟨k, f, fd, ps, ds, h1, hr, h2, h3, h4, h5⟩
end GM
namespace GM
open PySem PySem.Spec PyProof.Rows L2
instance {α β : Type} [Rq α] [Rq β] : Rq (α ⊕ β) := ⟨fun H x v => match x with | .inl y => rq H y v | .inr y => rq H y v, fun {H H' x v} e h => by
  cases x with
  | inl y => exact Rq.mono e (show rq H y v from h)
  | inr y => exact Rq.mono e (show rq H y v from h)⟩
instance {α β : Type} [Inhabited α] : Inhabited (α ⊕ β) := ⟨.inl default⟩
instance {α : Type} [Rq α] [NoL α] : NoLD (oD (α := α)) := ⟨fun e ⟨u, h1, kvs, h2, h3, h4⟩ => ⟨u, h1, kvs, h2, h3, Paired.mono h4 fun _ _ h => ⟨h.1, NoL.tr e h.2⟩⟩⟩
end GM
namespace GM
open PySem PySem.Spec PyProof.Rows L2
def tp2 {α : Type} (x : Tp α) : Option (α × α) := match x.l with | [a, b] => some (a, b) | _ => none
theorem as_tp2 {α : Type} [Rq α] {x : Tp α} {y : α × α} {H : Hp} {v : V} (e : tp2 x = some y) (h : rq H x v) : rq H y v := by
  obtain ⟨l⟩ := x
  unfold tp2 at e
  dsimp only at e
  split at e
  · next a b =>
    cases e
    obtain ⟨p, vs, h1, h2, _, h4⟩ := h
    cases h4 with
    | cons r1 h4 => cases h4 with
      | cons r2 h4 => cases h4; exact ⟨p, _, _, h1, h2, r1, r2⟩
  · cases e
structure T5 (α β γ δ ε : Type) where
  a : α
  b : β
  c : γ
  d : δ
  e : ε
def repT5 {α β γ δ ε : Type} [Rq α] [Rq β] [Rq γ] [Rq δ] [Rq ε] (H : Hp) (x : T5 α β γ δ ε) (v : V) : Prop := ∃ a v1 v2 v3 v4 v5, v = .ref a ∧ H a = some (.tup [v1, v2, v3, v4, v5]) ∧ rq H x.a v1 ∧ rq H x.b v2 ∧ rq H x.c v3 ∧ rq H x.d v4 ∧ rq H x.e v5
instance {α β γ δ ε : Type} [Rq α] [Rq β] [Rq γ] [Rq δ] [Rq ε] : Rp (T5 α β γ δ ε) := ⟨repT5, fun {H H' x v} e h => by
  obtain ⟨a, v1, v2, v3, v4, v5, h1, h2, h3, h4, h5, h6, h7⟩ := h
  exact ⟨a, v1, v2, v3, v4, v5, h1, e _ _ h2, Rq.mono e h3, Rq.mono e h4, Rq.mono e h5, Rq.mono e h6, Rq.mono e h7⟩, fun h => by
  obtain ⟨a, v1, v2, v3, v4, v5, h1, h2, _⟩ := h
  rw [h1]; exact fun z => by cases z⟩
instance {α β γ δ ε : Type} [Inhabited α] [Inhabited β] [Inhabited γ] [Inhabited δ] [Inhabited ε] : Inhabited (T5 α β γ δ ε) := ⟨⟨default, default, default, default, default⟩⟩
end GM
namespace GM
open PySem PySem.Spec PyProof.Rows L2
def n2 (a b : Int) : Nat := (if a < b then (b - a - 1) / 2 + 1 else 0).toNat
def irange2 (a b : Int) : List Int := (List.range (n2 a b)).map fun i => a + (i : Nat) * 2
def rng2C (a b : Int) : Option (List Int) := if 0 ≤ a ∧ a ≤ 1000000 ∧ 0 ≤ b ∧ b ≤ 1000000 then some (irange2 a b) else none
theorem irange2_len (a b : Int) : (irange2 a b).length = n2 a b := by unfold irange2; rw [List.length_map, List.length_range]
theorem n2_le {a b : Int} (h : 0 ≤ a ∧ a ≤ 1000000 ∧ 0 ≤ b ∧ b ≤ 1000000) : n2 a b ≤ 1000000 := by
  unfold n2
  split <;> omega
theorem rgc2 {a b : Int} (h : 0 ≤ a ∧ a ≤ 1000000 ∧ 0 ≤ b ∧ b ≤ 1000000) : RgC a b 2 (n2 a b) := by
  refine ⟨by decide, by decide, ?_, ?_⟩
  · unfold Builtin.Range.small
    have hn := n2_le h
    unfold Builtin.Range.rangeSize
    simp only [Builtin.Range.rangeFitsLong, Bool.and_eq_true, Bool.or_eq_true, decide_eq_true_eq, beq_iff_eq, show (2 : Int) > 0 from by decide, if_true]
    split <;> omega
  · unfold Builtin.Range.rangeSize n2
    simp only [show (2 : Int) > 0 from by decide, if_true]
    split <;> omega
theorem irange2_get {a b : Int} {i : Nat} {x : Int} (h : (irange2 a b)[i]? = some x) : x = a + (i : Nat) * 2 ∧ i < n2 a b := by
  unfold irange2 at h
  rw [List.getElem?_map] at h
  cases q : (List.range (n2 a b))[i]? with
  | none => rw [q] at h; cases h
  | some j =>
    rw [q] at h
    obtain ⟨h1, h2⟩ := List.getElem?_eq_some_iff.mp q
    rw [List.getElem_range] at h2
    rw [List.length_range] at h1
    subst h2
    exact ⟨(Option.some.inj h).symm, h1⟩
section
variable {X : Cx} {a b tg : Expr} {ta tb : TE} {G : List SV} {pos p : Pos}
theorem ij_rng3 {m m2 : Option Int} {p1 p2 : Pos} {j} (ha : EJ X a ta G m) (hb : EJ X b tb G m2) (hm : X.mg "range" = none) (hg : Gl X "range" := by rfl) (na : starEach [a, b, .Constant (.int 2) j p2] X.env = (false, eval a X.env) :: starEach [b, .Constant (.int 2) j p2] X.env := by rfl) (nb : starEach [b, .Constant (.int 2) j p2] X.env = (false, eval b X.env) :: starEach [.Constant (.int 2) j p2] X.env := by rfl)
    (nc : starEach [.Constant (.int 2) j p2] X.env = (false, eval (.Constant (.int 2) j p2) X.env) :: starEach [] X.env := by rfl) (hpl : (backTo pos (starEach [b, .Constant (.int 2) j p2] X.env)).any (·.1) = false := by rfl) :
    IJ C0 X tg (.Call (.Name "range" p1) [a, b, .Constant (.int 2) j p2] [] pos) (iRng3 (tCons ta (tCons tb (tCons (tC (.int 2)) tNil)))) G (m.bind fun x => m2.bind fun y => rng2C x y) := ⟨pi_range3 hg hm (pa_cons ha.pe (pa_cons hb.pe (pa_cons pe_int pa_nil nc) nb) na) na hpl, fun B Hi T tv s H R xs hx hl hs k => by
  obtain ⟨x, e1, hx⟩ := bind_some hx
  obtain ⟨y, e2, e3⟩ := bind_some hx
  unfold rng2C at e3
  by_cases q : 0 ≤ x ∧ x ≤ 1000000 ∧ 0 ≤ y ∧ y ≤ 1000000
  · rw [if_pos q] at e3
    cases e3
    have hz := n2_le q
    refine ha.ev B Hi T tv s H _ x e1 hl hs fun v Hi1 H1 s1 r1 => ?_
    cases r1
    refine hb.ev B Hi1 T tv s H1 _ y e2 hl s1 fun u Hi2 H2 s2 r2 => ?_
    cases r2
    refine ⟨x, y, 2, n2 x y, rfl, rgc2 q, k _ T tv Hi2 H2 hl s2 (by rw [irange2_len, sizeLine_eq]; omega) (fun G2 s2 Hi2 H2 z => z) ?_⟩
    intro F fv G2 s3 Hi3 H3 _ _ z
    refine ⟨Nat.le_of_eq (irange2_len x y).symm, fun i x' hi => ?_⟩
    obtain ⟨e1, e2⟩ := irange2_get hi
    refine ⟨e2, fun v H3 y => ?_⟩
    obtain ⟨y1, y2⟩ := y
    subst y1 e1
    exact ⟨Hi3, z, y2⟩
  · rw [if_neg q] at e3; exact absurd e3 (fun z => nomatch z), fun _ => trivial⟩
end
end GM
namespace GM
open PySem PySem.Spec PyProof.Rows L2
inductive An where
  | i (n : Int)
  | s (x : Str)
  | l (xs : List An)
  | t (xs : List An)
  | o
instance : Inhabited An := ⟨.o⟩
mutual
def repAn (H : Hp) : An → V → Prop
  | .i n, v => v = .int n
  | .s x, v => v = .str x
  | .l xs, v => ∃ a vs, v = .ref a ∧ H a = some (.lst vs) ∧ vs.length ≤ sizeLine ∧ repAns H xs vs
  | .t xs, v => ∃ a vs, v = .ref a ∧ H a = some (.tup vs) ∧ vs.length ≤ sizeLine ∧ repAns H xs vs
  | .o, _ => True
def repAns (H : Hp) : List An → List V → Prop
  | [], vs => vs = []
  | x :: xs, vs => ∃ v us, vs = v :: us ∧ repAn H x v ∧ repAns H xs us
end
mutual
theorem repAn_mono {H H' : Hp} (e : Same H H') : ∀ (x : An) (v : V), repAn H x v → repAn H' x v
  | .i n, v, h => by unfold repAn at *; exact h
  | .s x, v, h => by unfold repAn at *; exact h
  | .l xs, v, h => by
    unfold repAn at *
    obtain ⟨a, vs, h1, h2, h3, h4⟩ := h
    exact ⟨a, vs, h1, e _ _ h2, h3, repAns_mono e xs vs h4⟩
  | .t xs, v, h => by
    unfold repAn at *
    obtain ⟨a, vs, h1, h2, h3, h4⟩ := h
    exact ⟨a, vs, h1, e _ _ h2, h3, repAns_mono e xs vs h4⟩
  | .o, v, h => by unfold repAn at *; exact h
theorem repAns_mono {H H' : Hp} (e : Same H H') : ∀ (xs : List An) (vs : List V), repAns H xs vs → repAns H' xs vs
  | [], vs, h => by unfold repAns at *; exact h
  | x :: xs, vs, h => by
    unfold repAns at *
    obtain ⟨v, us, h1, h2, h3⟩ := h
    exact ⟨v, us, h1, repAn_mono e x v h2, repAns_mono e xs us h3⟩
end
instance : Rq An := ⟨repAn, fun e h => repAn_mono e _ _ h⟩
theorem repAns_iff {H : Hp} : ∀ {xs : List An} {vs : List V}, repAns H xs vs ↔ Paired (rq H) xs vs
  | [], vs => by
    unfold repAns
    constructor
    · rintro rfl; exact .nil
    · intro h; cases h; rfl
  | x :: xs, vs => by
    unfold repAns
    constructor
    · rintro ⟨v, us, rfl, h2, h3⟩; exact .cons h2 (repAns_iff.mp h3)
    · intro h
      cases h with
      | cons r t => exact ⟨_, _, rfl, r, repAns_iff.mpr t⟩
theorem an_i {H : Hp} {n : Int} {v : V} : rq H (An.i n) v ↔ v = .int n := by show repAn H (.i n) v ↔ _; unfold repAn; exact Iff.rfl
theorem an_s {H : Hp} {x : Str} {v : V} : rq H (An.s x) v ↔ v = .str x := by show repAn H (.s x) v ↔ _; unfold repAn; exact Iff.rfl
theorem an_l {H : Hp} {xs : List An} {v : V} : rq H (An.l xs) v ↔ rq H xs v := by
  show repAn H (.l xs) v ↔ repL H xs v
  unfold repAn repL
  constructor
  · rintro ⟨a, vs, h1, h2, h3, h4⟩; exact ⟨a, vs, h1, h2, h3, repAns_iff.mp h4⟩
  · rintro ⟨a, vs, h1, h2, h3, h4⟩; exact ⟨a, vs, h1, h2, h3, repAns_iff.mpr h4⟩
theorem an_t {H : Hp} {xs : List An} {v : V} : rq H (An.t xs) v ↔ rq H (Tp.mk xs) v := by
  show repAn H (.t xs) v ↔ repTp H ⟨xs⟩ v
  unfold repAn repTp
  constructor
  · rintro ⟨a, vs, h1, h2, h3, h4⟩; exact ⟨a, vs, h1, h2, h3, repAns_iff.mp h4⟩
  · rintro ⟨a, vs, h1, h2, h3, h4⟩; exact ⟨a, vs, h1, h2, h3, repAns_iff.mpr h4⟩
/-- something as anything -/
class ToAn (α : Type) [Rq α] where
  to : α → An
  ok : ∀ {H x v}, rq H x v → rq H (to x) v
instance : ToAn Int := ⟨.i, fun h => an_i.mpr h⟩
instance : ToAn Str := ⟨.s, fun h => an_s.mpr h⟩
theorem paired_to {α : Type} [Rq α] [ToAn α] {H : Hp} : ∀ {xs : List α} {vs : List V}, Paired (rq H) xs vs → Paired (rq H) (xs.map ToAn.to) vs
  | _, _, .nil => .nil
  | _, _, .cons r t => .cons (ToAn.ok r) (paired_to t)
instance {α : Type} [Rq α] [ToAn α] : ToAn (List α) := ⟨fun xs => .l (xs.map ToAn.to), fun h => by
  obtain ⟨a, vs, h1, h2, h3, h4⟩ := h
  exact an_l.mpr ⟨a, vs, h1, h2, h3, paired_to h4⟩⟩
instance {α : Type} [Rq α] [ToAn α] : ToAn (Tp α) := ⟨fun xs => .t (xs.l.map ToAn.to), fun h => by
  obtain ⟨a, vs, h1, h2, h3, h4⟩ := h
  exact an_t.mpr ⟨a, vs, h1, h2, h3, paired_to h4⟩⟩
instance {α β : Type} [Rq α] [Rq β] [ToAn α] [ToAn β] : ToAn (α × β) := ⟨fun x => .t [ToAn.to x.1, ToAn.to x.2], fun h => by
  obtain ⟨a, v1, v2, h1, h2, h3, h4⟩ := h
  exact an_t.mpr ⟨a, [v1, v2], h1, h2, by rw [sizeLine_eq]; show 2 ≤ _; omega, .cons (ToAn.ok h3) (.cons (ToAn.ok h4) .nil)⟩⟩
instance {α β γ : Type} [Rq α] [Rq β] [Rq γ] [ToAn α] [ToAn β] [ToAn γ] : ToAn (T3 α β γ) := ⟨fun x => .t [ToAn.to x.a, ToAn.to x.b, ToAn.to x.c], fun h => by
  obtain ⟨a, v1, v2, v3, h1, h2, h3, h4, h5⟩ := h
  exact an_t.mpr ⟨a, [v1, v2, v3], h1, h2, by rw [sizeLine_eq]; show 3 ≤ _; omega, .cons (ToAn.ok h3) (.cons (ToAn.ok h4) (.cons (ToAn.ok h5) .nil))⟩⟩
instance {α β : Type} [Rq α] [Rq β] [ToAn α] [ToAn β] : ToAn (α ⊕ β) := ⟨fun x => match x with | .inl y => ToAn.to y | .inr y => ToAn.to y, fun {H x v} h => by
  cases x with
  | inl y => exact ToAn.ok (show rq H y v from h)
  | inr y => exact ToAn.ok (show rq H y v from h)⟩
/-- a whole number, a tuple, out of anything -/
def asI (x : An) : Option Int := match x with | .i n => some n | _ => none
def asT (x : An) : Option (Tp An) := match x with | .t xs => some ⟨xs⟩ | _ => none
def asLs (x : An) : Option (List An) := match x with | .l xs => some xs | _ => none
theorem as_ls {x : An} {y : List An} {H : Hp} {v : V} (e : asLs x = some y) (h : rq H x v) : rq H y v := by
  cases x <;> first | (cases e; exact an_l.mp h) | cases e
theorem as_i {x : An} {n : Int} {H : Hp} {v : V} (e : asI x = some n) (h : rq H x v) : rq H n v := by
  cases x <;> first | (cases e; exact an_i.mp h) | cases e
theorem as_t {x : An} {y : Tp An} {H : Hp} {v : V} (e : asT x = some y) (h : rq H x v) : rq H y v := by
  cases x <;> first | (cases e; exact an_t.mp h) | cases e
end GM
namespace GM
open PySem PySem.Spec PyProof.Rows L2
end GM
namespace GM
open PySem PySem.Spec PyProof.Rows L2
section
variable {X : Cx} {ss rest body : List Stmt} {t t1 t2 tb u : TS} {te : TE} {G : List SV} {α O : Type} {P : Post O} {e : Expr} {pos pos2 : Pos} {h₀ : ExceptHandler} {hs : List ExceptHandler}
theorem pss_or (h1 : PSs X ss t1) (h2 : PSs X ss t2) : PSs X ss (fun D σ H => t1 D σ H ∨ t2 D σ H) :=
  ⟨fun pins s σ H D I h => h.elim (h1.run pins s σ H D I) (h2.run pins s σ H D I)⟩
theorem bj_or {m1 m2 : Option O} (h1 : BJ X ss t1 G m1 P) (h2 : BJ X ss t2 G m2 P) : BJ X ss (fun D σ H => t1 D σ H ∨ t2 D σ H) G (m1.or m2) P :=
  ⟨pss_or h1.ps h2.ps, fun B Hi T tv s H D o hx hl hs k => by
    cases m1 with
    | some r => exact .inl (h1.ev B Hi T tv s H D o hx hl hs k)
    | none => exact .inr (h2.ev B Hi T tv s H D o hx hl hs k)⟩
end
structure Exn (c : Addr) (fl : Str) where
  r : Int
instance {c : Addr} {fl : Str} : Inhabited (Exn c fl) := ⟨⟨0⟩⟩
instance {c : Addr} {fl : Str} : Rp (Exn c fl) := ⟨fun H x v => ∃ a d, v = .ref a ∧ H a = some (ExQ (.ref c) (some d) a) ∧ H d = some (.xd [(fl, .int x.r)]), fun {H H' x v} e h => by
  obtain ⟨a, d, h1, h2, h3⟩ := h
  exact ⟨a, d, h1, e _ _ h2, e _ _ h3⟩, fun h => by
  obtain ⟨a, d, h1, _⟩ := h
  rw [h1]
  exact fun z => nomatch z⟩
end GM
namespace GM
open PySem PySem.Spec PyProof.Rows L2
def isA (bi bs bl bt : Bool) (x : An) : Option Bool := match x with
  | .i _ => some bi
  | .s _ => some bs
  | .l _ => some bl
  | .t _ => some bt
  | .o => none
def asS (x : An) : Option Str := match x with | .s n => some n | _ => none
theorem as_s {x : An} {n : Str} {H : Hp} {v : V} (e : asS x = some n) (h : rq H x v) : rq H n v := by
  cases x <;> first | (cases e; exact an_s.mp h) | cases e
section
variable {X : Cx} {a : Expr} {ta : TE} {G : List SV} {α : Type} {p pos : Pos}
theorem ej_isA {m1 : Option An} {tn : Str} {cn : String} {bi bs bl bt : Bool} (ha : WJ X a ta G m1) (h1 : kitB "int" cn = some bi) (h2 : kitB "str" cn = some bs) (h3 : kitB "list" cn = some bl) (h4 : kitB "tuple" cn = some bt) (hv : bootBuiltins tn = some (.type cn)) (hm : X.mg "isinstance" = none) (hmt : X.mg tn = none) (hg : Gl X "isinstance" := by rfl) (hgt : Gl X tn := by rfl)
    (hn : tn ≠ "__name__" := by decide) (hdb : (tn == ("__debug__" : Str)) = false := by decide) {p2 : Pos}
    (he : starEach [a, .Name tn p2] X.env = (false, eval a X.env) :: starEach [.Name tn p2] X.env := by rfl) (he2 : starEach [.Name tn p2] X.env = (false, eval (.Name tn p2) X.env) :: starEach [] X.env := by rfl) (hpl : (backTo pos (starEach [.Name tn p2] X.env)).any (·.1) = false := by rfl) :
    EJ X (.Call (.Name "isinstance" p) [a, .Name tn p2] [] pos) (tCB (rIsi X.K) (tCons ta (tCons (tC (.ty cn)) tNil))) G (m1.bind fun x => isA bi bs bl bt x) :=
  ⟨pe_callB call_isi hg hm (by decide +kernel) (pa_cons ha.pe (pa_cons (pe_bltn (v := .ty cn) hgt hmt hv rfl hn hdb) pa_nil he2) he) (by decide) (by decide) he hpl, fun B Hi T tv s H Q z hx hl hs k => by
    obtain ⟨x, e1, e2⟩ := bind_some hx
    refine ha.ev B Hi T tv s H _ x e1 hl hs fun v T' tv' Hi1 H1 l1 s1 r1 => ?_
    obtain ⟨s3, r3⟩ := r1 Hi1 H1 s1
    have r4 : rq H1 x v := Rq.mono (wide_sub s3.sub) r3
    cases x with
    | i n => cases e2; exact ⟨v, .ty cn, .type (TyN.n Int), .type cn, _, rfl, .ty cn, TyN.ty (an_i.mp r4 : rq H1 n v), kit_ty h1, k _ Hi1 H1 s3 rfl⟩
    | s n => cases e2; exact ⟨v, .ty cn, .type (TyN.n Str), .type cn, _, rfl, .ty cn, TyN.ty (an_s.mp r4 : rq H1 n v), kit_ty h2, k _ Hi1 H1 s3 rfl⟩
    | l n => cases e2; exact ⟨v, .ty cn, .type (TyN.n (List An)), .type cn, _, rfl, .ty cn, TyN.ty (an_l.mp r4), kit_ty h3, k _ Hi1 H1 s3 rfl⟩
    | t n => cases e2; exact ⟨v, .ty cn, .type (TyN.n (Tp An)), .type cn, _, rfl, .ty cn, TyN.ty (an_t.mp r4), kit_ty h4, k _ Hi1 H1 s3 rfl⟩
    | o => cases e2⟩
end
def oDeep {α : Type} [Rq α] : OT α := ⟨fun _ x p F => rq F x (.ref p), fun _ _ _ _ _ _ h => h⟩
instance {α : Type} [Rq α] : Th (oDeep (α := α)) := ⟨fun {H x p F} n h => Rq.mono (fun a o e => plus_some e) h⟩
/-- it stands at a place -/
class RefV (ρ : Type) [Rq ρ] : Prop where
  ref : ∀ {H : Hp} {x : ρ} {v : V}, rq H x v → ∃ p, v = .ref p
instance {α β γ : Type} [Rq α] [Rq β] [Rq γ] : RefV (T3 α β γ) := ⟨fun ⟨a, _, _, _, h, _⟩ => ⟨a, h⟩⟩
/-- nothing of it stands in the heap -/
class FltL (τ : Type) [RpL τ] : Prop where
  tr : ∀ {H H' : Hp} {x : τ} {vs : List V}, RpL.reps H x vs → RpL.reps H' x vs
class FltV (α : Type) [Rq α] : Prop where
  tr : ∀ {H H' : Hp} {x : α} {v : V}, rq H x v → rq H' x v
instance : FltV Int := ⟨fun h => h⟩
instance : FltV Str := ⟨fun h => h⟩
instance : FltV Bool := ⟨fun h => h⟩
instance : FltL Unit := ⟨fun h => h⟩
instance {α τ : Type} [Rq α] [RpL τ] [FltV α] [FltL τ] : FltL (α × τ) := ⟨fun ⟨v, us, h1, h2, h3⟩ => ⟨v, us, h1, FltV.tr h2, FltL.tr h3⟩⟩
section
variable {X : Cx} {e a b c : Expr} {es : List Expr} {t ta tb tc te : TE} {tr : TA} {G : List SV} {α β γ τ ρ O S R : Type} {pos p : Pos} {n : Str} {rest : List Stmt} {u ts : TS} {P : Post O}
theorem qj_deep [RpL τ] [FltL τ] [Rq ρ] [RefV ρ] {F : τ → Option ρ} {m : Option τ} (C : Cal X n (SpR F)) (ha : AJ X (e :: es) tr G m) (hg : Gl X n := by rfl) (hdb : (n == ("__debug__" : Str)) = false := by decide) (he : starEach (e :: es) X.env = (false, eval e X.env) :: starEach es X.env := by rfl)
    (hpl : (backTo pos (starEach es X.env)).any (·.1) = false := by rfl) : QJ oDeep X (.Call (.Name n p) (e :: es) [] pos) (tCall (SpR F) [] E0 tr) G (m.bind F) := ⟨cal_pe C hg ha.pa hdb he hpl, fun B Hi T tv s H Q z hx hl hs k => by
  obtain ⟨x, e1, e2⟩ := bind_some hx
  refine ha.ev B Hi T tv s H _ x e1 hl hs fun vs Hi1 H1 s1 r1 => ?_
  refine ⟨fun _ => none, x, z, (fun a o q => by cases q), by rw [List.append_nil]; exact FltL.tr r1, e2, fun v H' sm r => ?_⟩
  obtain ⟨q, rfl⟩ := RefV.ref r
  have hF : ∀ a o, join (fun _ => none) H1 H' a = some o → H1 a = none ∧ H' a = some o := fun a o w => by
    cases y : H1 a with
    | none => rw [join_none y] at w; exact ⟨rfl, w⟩
    | some u => rw [join_some y] at w; cases w
  refine k q Hi1 H' ⟨q, join (fun _ => none) H1 H', rfl, fun a o w => (hF a o w).2, r, SatG.up s1 fun a o w => ?_⟩
  have y : join (fun _ => none) H1 H' a = none := by rw [join_some w]
  rw [minus_none y]
  exact sm _ _ w⟩
def appOne (k : Nat) : An → Bool
  | .i _ => true
  | .s _ => true
  | .l ys => decide (ys.length + k ≤ sizeLine)
  | _ => false
def appAll (x : An) : Option Unit := match x with
  | .t xs => if xs.all (appOne xs.length) = true then some () else none
  | _ => none
def apV (F : Hp) (k : Nat) (w : V) : Prop := (∃ n, w = .int n) ∨ (∃ x, w = .str x) ∨ ∃ a vs, w = .ref a ∧ F a = some (.lst vs) ∧ vs.length + k ≤ sizeLine
theorem apV_of {F : Hp} {k : Nat} : ∀ {xs : List An} {vs : List V}, Paired (rq F) xs vs → xs.all (appOne k) = true → ∀ w ∈ vs, apV F k w
  | _, _, .nil, _, w, hw => by simp at hw
  | x :: xs, v :: vs, .cons r t, ha, w, hw => by
    rw [List.all_cons, Bool.and_eq_true] at ha
    rcases List.mem_cons.mp hw with e | e
    · subst e
      cases x with
      | i n => exact .inl ⟨n, an_i.mp r⟩
      | s n => exact .inr (.inl ⟨n, an_s.mp r⟩)
      | l ys =>
        obtain ⟨a, us, h1, h2, h3, h4⟩ := an_l.mp r
        have h5 := of_decide_eq_true ha.1
        rw [Paired.length h4] at h5
        exact .inr (.inr ⟨a, us, h1, h2, h5⟩)
      | t ys => cases ha.1
      | o => cases ha.1
    · exact apV_of t ha.2 w e
theorem apV.less {F : Hp} {k k' : Nat} {w : V} (h : apV F k w) (e : k' ≤ k) : apV F k' w := by
  rcases h with h | h | ⟨a, vs, h1, h2, h3⟩
  · exact .inl h
  · exact .inr (.inl h)
  · exact .inr (.inr ⟨a, vs, h1, h2, by omega⟩)
def apφ (k : Nat) (c : Addr) (ws : List V) (p : Addr) (F : Hp) : Prop := (∃ v1 v2, F p = some (.tup [v1, v2, .ref c])) ∧ F c = some (.tup ws) ∧ ∀ w ∈ ws, apV F k w
def apSV (k : Nat) (c : Addr) (ws : List V) : SV := .ow (fun _ p F => apφ k c ws p F) fun _ _ _ _ _ h => h
theorem apφ.app {k : Nat} {c p a : Addr} {ws vs : List V} {F : Hp} {y : V} (h : apφ (k + 1) c ws p F) (ha : F a = some (.lst vs)) : apφ k c ws p (upd F a (.lst (vs ++ [y]))) := by
  obtain ⟨⟨v1, v2, h1⟩, h2, h3⟩ := h
  have n1 : p ≠ a := fun z => by rw [z, ha] at h1; cases h1
  have n2 : c ≠ a := fun z => by rw [z, ha] at h2; cases h2
  refine ⟨⟨v1, v2, by rw [upd_ne n1]; exact h1⟩, by rw [upd_ne n2]; exact h2, fun w hw => ?_⟩
  rcases h3 w hw with h | h | ⟨b, us, g1, g2, g3⟩
  · exact .inl h
  · exact .inr (.inl h)
  · by_cases z : b = a
    · subst z
      rw [ha] at g2
      cases g2
      exact .inr (.inr ⟨b, _, g1, upd_same, by rw [List.length_append, List.length_singleton]; omega⟩)
    · exact .inr (.inr ⟨b, us, g1, by rw [upd_ne z]; exact g2, by omega⟩)
theorem bj_appAll [Rq α] [Rq β] [Rq γ] [ToAn γ] {x : T3 α β γ} {m2 : Option O} {nf n1 : Str} (hc : X.calm = true) (hN : X.N.Nodup) (i j : Nat) {p1 p2 p3 p4 p5 p6 p7 p8 p9 p10 p11 p12 p13 p14 : Pos} {kk k2}
    (hr : BJ X rest u (G.set i .un) m2 P) (hp : PassesOwn (model X.prog X.w) X.A X.env X.xe) (hm : X.mg "isinstance" = none) (hmt : X.mg "list" = none)
    (hi : G[i]? = some (oo oDeep x) := by rfl) (hj : G[j]? = some .un := by rfl)
    (hNi : X.N[i]? = some nf := by rfl) (hvi : Vis X.env.scope nf := by first | exact Or.inl rfl | exact Or.inr (Or.inl rfl) | exact Or.inr (Or.inr rfl)) (hdi : (nf == ("__debug__" : Str)) = false := by decide) (hcdi : (nf == ("__classdict__" : Str)) = false := by decide)
    (hNj : X.N[j]? = some n1 := by rfl) (hvj : Vis X.env.scope n1 := by first | exact Or.inl rfl | exact Or.inr (Or.inl rfl) | exact Or.inr (Or.inr rfl)) (hdj : (n1 == ("__debug__" : Str)) = false := by decide) (hcdj : (n1 == ("__classdict__" : Str)) = false := by decide)
    (hlj : Loc X.env.scope n1 := by first | exact Or.inl rfl | exact Or.inr rfl) (hfj : X.fn n1 = true ∨ X.env.scope.names.lookup n1 = some .local := by first | exact .inl rfl | exact .inr rfl | assumption)
    (hg : Gl X "isinstance" := by rfl) (hgt : Gl X "list" := by rfl)
    (he : starEach [.Name n1 p6, .Name "list" p7] X.env = (false, eval (.Name n1 p6) X.env) :: starEach [.Name "list" p7] X.env := by rfl) (he2 : starEach [.Name "list" p7] X.env = (false, eval (.Name "list" p7) X.env) :: starEach [] X.env := by rfl) (hpl : (backTo p8 (starEach [.Name "list" p7] X.env)).any (·.1) = false := by rfl)
    (hbase : attributeBase (.Name n1 p9) "append" X.env (eval (.Name n1 p9) X.env) = eval (.Name n1 p9) X.env := by rfl)
    (hfew : ((backTo p12 (starEach [.Constant (.int 0) k2 p11] X.env)).all (fun x => !x.1) && (backToKw p12 (keywordEach [] X.env)).all (fun x => x.1.isSome) && decide (([.Constant (.int 0) k2 p11] : List Expr).length + ([] : List Keyword).length + (if ([] : List Keyword).isEmpty then 0 else 1) < 30)) = true := by rfl)
    (hline : (p10.endLine == p12.line) = true := by rfl) (hst : starEach [.Constant (.int 0) k2 p11] X.env = (false, eval (.Constant (.int 0) k2 p11) X.env) :: starEach [] X.env := by rfl) (hplain : (backTo p12 (starEach [] X.env)).any (·.1) = false := by rfl)
    (hsw : swapsWith (.Call (.Attribute (.Name n1 p9) "append" p10) [.Constant (.int 0) k2 p11] [] p12) none p13.line X.env = pure false := by rfl)
    (hit : ∀ whole, isTrue (.Call (.Name "isinstance" p5) [.Name n1 p6, .Name "list" p7] [] p8) X.env whole = (do let v ← whole; standAt (Expr.Call (.Name "isinstance" p5) [.Name n1 p6, .Name "list" p7] [] p8).pos; holding [v] (truthy v)) := by intro _; rfl)
    (hfs : ∀ x, foldedSetIterable (.Subscript (.Name nf p2) (.Constant (.int 2) kk p3) p4) X.env x = pure x := by intro _; rfl) :
    BJ X (.For (.Name n1 p1) (.Subscript (.Name nf p2) (.Constant (.int 2) kk p3) p4) [.If (.Call (.Name "isinstance" p5) [.Name n1 p6, .Name "list" p7] [] p8) [.Expr (.Call (.Attribute (.Name n1 p9) "append" p10) [.Constant (.int 0) k2 p11] [] p12) p13] [] p14] [] pos :: rest)
      (tSeq (tFor (iTup X.K (tOp (rIxT X.K) (tVar i) (tC (.int 2)))) (gName j) (tSeq (tIfS (tB (tCB (rIsi X.K) (tCons (tVar j) (tCons (tC (.ty "list")) tNil)))) (tSeq (tDrop (tBM X.K "list" rAppend (tVar j) (tCons (tC (.int 0)) tNil))) tNext) tNext) tNext)) u) G ((appAll (ToAn.to x.c)).bind fun _ => m2) P :=
  ⟨pss_cons (ps_for hp hc (pi_tup (pe_ix ix_tup (pe_var hNi hvi hdi hcdi) pe_int (fun _ _ => rfl))) (pg_name hN hNj hlj hfj)
      (pss_cons (ps_if (pt_val (pe_callB call_isi hg hm (by decide +kernel) (pa_cons (pe_var hNj hvj hdj hcdj) (pa_cons (pe_bltn (v := .ty "list") hgt hmt (by decide +kernel) rfl (by decide) (by decide)) pa_nil he2) he) (by decide) (by decide) he hpl) hit)
        (pss_cons (ps_expr (pe_bm PySem.F.plainAttrs_list PySem.F.slot_list_append PySem.F.type_list_append mt_append (pe_var hNj hvj hdj hcdj) (pa_cons pe_int pa_nil hst) hbase hfew hline hst hplain) hsw) pss_nil) pss_nil) pss_nil) hfs) hr.ps, fun B Hi T tv s H D o hx hl hs k => by
    obtain ⟨_, e1, e2⟩ := bind_some hx
    obtain ⟨q, F, h1, h2, h3, h4, up⟩ := hs.ownFT hl hi
    obtain ⟨q', v1, v2, v3, f1, f2, f3, f4, f5⟩ := h3
    cases f1
    have f6 : rq F (ToAn.to x.c) v3 := ToAn.ok f5
    cases hxs : ToAn.to x.c with
    | i n => rw [hxs] at e1; cases e1
    | s n => rw [hxs] at e1; cases e1
    | l n => rw [hxs] at e1; cases e1
    | o => rw [hxs] at e1; cases e1
    | t xs =>
    rw [hxs] at e1 f6
    obtain ⟨c, ws, f7, f8, f9, f10⟩ := an_t.mp f6
    subst f7
    have f11 : xs.all (appOne xs.length) = true := by
      unfold appAll at e1
      by_cases z : xs.all (appOne xs.length) = true
      · exact z
      · simp only [if_neg z] at e1; cases e1
    have f12 : xs.length = ws.length := Paired.length f10
    rw [f12] at f11
    have hil : i < G.length := (List.getElem?_eq_some_iff.mp hi).1
    have hjl : j < G.length := (List.getElem?_eq_some_iff.mp hj).1
    have hij : i ≠ j := fun z => by subst z; rw [hi] at hj; cases hj
    have s1 := up F (fun _ p F => apφ ws.length c ws p F) (fun _ _ _ _ _ h => h) H ⟨⟨v1, v2, f2⟩, f8, apV_of f10 f11⟩ h2 rfl
    refine ⟨.ref q, h1, q, [v1, v2, .ref c], 2, .ref c, rfl, rfl, SqT.of (h2 _ _ f2), atI_nat (j := 2) rfl, c, rfl, ⟨ws, SqT.of (h2 _ _ f8)⟩, ?_⟩
    refine ⟨fun ix m σ H2 => m = ws.length - ix ∧ ix ≤ ws.length ∧ ∃ Hi2, SatG B Hi2 (T ++ G.set i (apSV (ws.length - ix) c ws)) (tv ++ σ) H2, ⟨ws.length, by simp, Nat.zero_le _, Hi, s1⟩, ?_⟩
    rintro ix m σ H2 ⟨rfl, hix, Hi2, s2⟩
    have hgi : (G.set i (apSV (ws.length - ix) c ws))[i]? = some (apSV (ws.length - ix) c ws) := List.getElem?_set_self hil
    obtain ⟨q2, F2, g1, g2, g3, g4, up2⟩ := s2.ownFT hl hgi
    have g3' : apφ (ws.length - ix) c ws q2 F2 := g3
    have hσ : σ.length = G.length := by
      have := s2.len
      rw [List.length_append, List.length_append, List.length_set] at this
      omega
    by_cases hlt : ix < ws.length
    · refine .inr ⟨⟨ws, ws[ix], SqT.of (g2 _ _ g3'.2.1), by simp [hlt]⟩, fun σ3 H3 => ∃ Hi3, SatG B Hi3 (T ++ G.set i (apSV (ws.length - (ix + 1)) c ws)) (tv ++ σ3) H3, fun σ3 H3 z => ⟨ws.length - (ix + 1), by omega, rfl, hlt, z⟩, fun v H3 hy => ?_⟩
      obtain ⟨hy1, hy2⟩ := hy
      subst hy1
      have hv := hy2 ws (SqT.of (g2 _ _ g3'.2.1))
      have hmem : v ∈ ws := List.mem_of_getElem? hv
      have hk : ws.length - ix = ws.length - (ix + 1) + 1 := by omega
      rw [hk] at g3'
      have hget : (σ.set j (some v))[j]? = some (some v) := List.getElem?_set_self (by omega)
      have fin : ∀ (F3 : Hp) (H4 : Hp), apφ (ws.length - (ix + 1)) c ws q2 F3 → Same F3 H4 → minus H4 F3 = minus H3 F2 → ∃ Hi3, SatG B Hi3 (T ++ G.set i (apSV (ws.length - (ix + 1)) c ws)) (tv ++ σ.set j (some v)) H4 := fun F3 H4 w1 w2 w3 => by
        have s3 := up2 F3 (fun _ p F => apφ (ws.length - (ix + 1)) c ws p F) (fun _ _ _ _ _ h => h) H4 w1 w2 w3
        rw [List.set_set] at s3
        have s4 := sat_unsetT (i := j) (o := some v) hl s3
        have e5 : (G.set i (apSV (ws.length - (ix + 1)) c ws)).set j .un = G.set i (apSV (ws.length - (ix + 1)) c ws) := set_get_self _ _ _ (by rw [List.getElem?_set_ne hij]; exact hj)
        exact ⟨Hi2, by rw [← e5]; exact s4⟩
      have keep : ∃ Hi3, SatG B Hi3 (T ++ G.set i (apSV (ws.length - (ix + 1)) c ws)) (tv ++ σ.set j (some v)) H3 := fin F2 H3 ⟨g3'.1, g3'.2.1, fun w hw => (g3'.2.2 w hw).less (by omega)⟩ g2 rfl
      rcases g3'.2.2 v hmem with ⟨n, hn⟩ | ⟨n, hn⟩ | ⟨a, vs, hn, ha, hz⟩
      · subst hn
        exact ⟨_, hget, .int n, .ty "list", .type "int", .type "list", false, rfl, .ty "list", .base (.int n), kit_ty (by decide +kernel), false, rfl, keep⟩
      · subst hn
        exact ⟨_, hget, .str n, .ty "list", .type "str", .type "list", false, rfl, .ty "list", .base (.str n), kit_ty (by decide +kernel), false, rfl, keep⟩
      · subst hn
        refine ⟨_, hget, .ref a, .ty "list", .type "list", .type "list", true, rfl, .ty "list", .base (.lst (g2 _ _ ha)), kit_ty (by decide +kernel), true, rfl, ?_⟩
        refine ⟨_, hget, .inl ⟨rfl, vs, SqL.of (g2 _ _ ha)⟩, a, vs, .int 0, rfl, rfl, g2 _ _ ha, by omega, ?_⟩
        refine fin (upd F2 a (.lst (vs ++ [.int 0]))) (upd H3 a (.lst (vs ++ [.int 0]))) (g3'.app ha) (fun b o w => ?_) ?_
        · by_cases z : b = a
          · subst z; rw [upd_same] at w ⊢; exact w
          · rw [upd_ne z] at w ⊢; exact g2 _ _ w
        · funext b
          by_cases z : b = a
          · subst z; rw [minus_some upd_same, minus_some ha]
          · cases y : F2 b with
            | none => rw [minus_none (by rw [upd_ne z]; exact y), upd_ne z, minus_none y]
            | some u => rw [minus_some (by rw [upd_ne z]; exact y), minus_some y]
    · have e : ix = ws.length := by omega
      subst e
      refine .inl ⟨⟨ws, SqT.of (g2 _ _ g3'.2.1), Nat.le_refl _⟩, ?_⟩
      have s4 := sat_unsetT (i := i) (o := some (.ref q2)) hl s2
      rw [List.set_set, set_get_self _ _ _ g1] at s4
      exact hr.ev B Hi2 T tv σ H2 D o e2 hl s4 k⟩
end
end GM
namespace GM
open PySem L2
/-- below 2 ^ n in size -/
def Sm (n : Nat) (x : Int) : Prop := x.natAbs < 2 ^ n
instance {n : Nat} {x : Int} : Decidable (Sm n x) := inferInstanceAs (Decidable (x.natAbs < 2 ^ n))
theorem Sm.of {x : Int} (n : Nat) (B : Nat) (hB : B < 2 ^ n) (h1 : -(B : Int) ≤ x) (h2 : x ≤ B) : Sm n x := by
  unfold Sm
  have : x.natAbs ≤ B := by omega
  omega
theorem Sm.mono {x : Int} {m n : Nat} (h : Sm m x) (e : m ≤ n) : Sm n x := Nat.lt_of_lt_of_le h (Nat.pow_le_pow_right (by decide) e)
theorem Sm.le {x y : Int} {n : Nat} (h : Sm n y) (e : x.natAbs ≤ y.natAbs) : Sm n x := Nat.lt_of_le_of_lt e h
theorem Sm.sub {x y : Int} {n : Nat} (h : Sm n x) (h' : Sm n y) : Sm (n + 1) (x - y) := by
  unfold Sm at *
  rw [Nat.pow_succ]
  omega
theorem Sm.log {x : Int} {n : Nat} (h : Sm n x) (h0 : 0 < n) : x.natAbs.log2 < n := PySem.Flt.log2_lt_of h0 h
theorem Sm.pos_le {x y : Int} {n : Nat} (h : Sm n y) (h0 : 0 ≤ x) (h1 : x ≤ y) : Sm n x := h.le (by omega)
theorem gcd_step (a b : Int) : Int.gcd b (a % b) = Int.gcd a b := by
  rw [Int.emod_def, Int.gcd_sub_mul_left_right, Int.gcd_comm]
theorem gcd_pos_right {a b : Int} (h : 0 < b) : 0 < (Int.gcd a b : Int) := by
  have := Int.gcd_pos_of_ne_zero_right a (show b ≠ 0 by omega)
  omega
theorem gcd_le_right' {a b : Int} (h : 0 < b) : (Int.gcd a b : Int) ≤ b := Int.le_of_dvd h (Int.gcd_dvd_right ..)
theorem mulC_eq {x y : Int} {m n : Nat} (h : Sm m x) (h' : Sm n y) (e : m + n ≤ 900000 := by decide) : mulC x y = some (x * y) := by
  unfold mulC
  have a := (h.mono (Nat.le_succ m)).log (Nat.succ_pos _)
  have b := (h'.mono (Nat.le_succ n)).log (Nat.succ_pos _)
  rw [if_pos (by omega)]
theorem divC_eq {x y : Int} {n : Nat} (h0 : 0 < y) (h : Sm n y) (e : n < 9000 := by decide) : divC x y = some (x / y) := by
  unfold divC
  have a := (h.mono (Nat.le_succ n)).log (Nat.succ_pos _)
  rw [if_pos ⟨h0, by omega⟩]
theorem modC_eq {x y : Int} (h0 : 0 < y) : modC x y = some (x % y) := by
  unfold modC
  rw [if_pos h0]
theorem catC_eq {α : Type} {xs ys : List α} (h : xs.length + ys.length ≤ 16777216) : catC xs ys = some (xs ++ ys) := by
  unfold catC
  rw [sizeLine_eq, if_pos h]
theorem appC_eq {α : Type} {xs : List α} {x : α} (h : xs.length < 16777216) : appC xs x = some (xs ++ [x]) := by
  unfold appC
  rw [sizeLine_eq, if_pos h]
theorem rngC_eq {a b : Int} (h1 : -1000000 ≤ a) (h2 : a ≤ 10000000) (h3 : -1000000 ≤ b) (h4 : b ≤ 10000000) : rngC a b = some (irange a b) := by
  unfold rngC
  rw [if_pos ⟨by omega, by omega, by omega, by omega, by omega⟩]
theorem atI_eq {α : Type} {xs : List α} {i : Int} (h0 : 0 ≤ i) (h1 : i < xs.length) : atI xs i = xs[i.toNat]? := by
  unfold atI ixN
  rw [if_pos h0, if_pos h1]; rfl
theorem atI_some {α : Type} {xs : List α} {i : Int} (h0 : 0 ≤ i) (h1 : i < xs.length) : atI xs i = some (xs[i.toNat]'(by omega)) := by
  rw [atI_eq h0 h1, List.getElem?_eq_getElem]
theorem setC_eq {α : Type} {xs : List α} {i : Int} {x : α} (h0 : 0 ≤ i) (h1 : i < xs.length) : setC xs i x = some (xs.set i.toNat x) := by
  unfold setC ixN
  rw [if_pos h0, if_pos h1]; rfl
theorem FU_eq : FU = 10 ^ 1000 := rfl
theorem lt_FU {n : Nat} (h : n < 2 ^ 3000) : n < FU := by
  rw [FU_eq]
  exact Nat.lt_trans h (by decide +kernel)
theorem whileS_spec {S : Type} {c : S → Option Bool} {f : S → Option S} (I : S → Prop) (μ : S → Nat) (h : ∀ s, I s → ∃ b, c s = some b ∧ (b = true → ∃ s', f s = some s' ∧ I s' ∧ μ s' < μ s)) :
    ∀ n s, I s → μ s < n → ∃ s', whileS n s c f = some s' ∧ I s' ∧ c s' = some false
  | 0, s, _, hm => absurd hm (Nat.not_lt_zero _)
  | n + 1, s, hi, hm => by
    obtain ⟨b, hb, hf⟩ := h s hi
    cases b with
    | false => exact ⟨s, by unfold whileS; rw [hb]; rfl, hi, hb⟩
    | true =>
      obtain ⟨s', h1, h2, h3⟩ := hf rfl
      obtain ⟨s'', g1, g2, g3⟩ := whileS_spec I μ h n s' h2 (by omega)
      exact ⟨s'', by unfold whileS; rw [hb]; show ((f s).bind fun s' => whileS n s' c f) = _; rw [h1]; exact g1, g2, g3⟩
theorem forS_spec {α S : Type} {f : α → S → Option S} (I : List α → S → Prop) : ∀ (xs pre : List α) (s : S), I pre s → (∀ pre x post s, pre ++ x :: post = pre ++ x :: post → I pre s → x ∈ xs → ∃ s', f x s = some s' ∧ I (pre ++ [x]) s') →
    ∃ s', forS xs s f = some s' ∧ I (pre ++ xs) s'
  | [], pre, s, h, _ => ⟨s, rfl, by rw [List.append_nil]; exact h⟩
  | x :: xs, pre, s, h, k => by
    obtain ⟨s', h1, h2⟩ := k pre x xs s rfl h List.mem_cons_self
    obtain ⟨s'', g1, g2⟩ := forS_spec I xs (pre ++ [x]) s' h2 fun p y q t e hi hy => k p y q t rfl hi (List.mem_cons_of_mem _ hy)
    refine ⟨s'', by unfold forS; rw [h1]; exact g1, ?_⟩
    rw [List.append_assoc] at g2
    exact g2
/-- a loop that is a fold -/
theorem forS_fold {α S : Type} {f : α → S → Option S} {g : S → α → S} (I : S → Prop) : ∀ (xs : List α) (s : S), I s → (∀ x ∈ xs, ∀ s, I s → f x s = some (g s x) ∧ I (g s x)) → forS xs s f = some (xs.foldl g s) ∧ I (xs.foldl g s)
  | [], s, h, _ => ⟨rfl, h⟩
  | x :: xs, s, h, k => by
    obtain ⟨h1, h2⟩ := k x List.mem_cons_self s h
    obtain ⟨g1, g2⟩ := forS_fold I xs (g s x) h2 fun y hy => k y (List.mem_cons_of_mem _ hy)
    exact ⟨by unfold forS; rw [h1]; exact g1, g2⟩
/-- all turns go on, the state as it was -/
theorem forF_all {α S R : Type} {f : α → S → Option (Fl S R)} {s : S} : ∀ {xs : List α}, (∀ x ∈ xs, f x s = some (.go s)) → forF xs s f = some (.go s)
  | [], _ => rfl
  | x :: xs, h => by
    unfold forF
    rw [h x List.mem_cons_self]
    exact forF_all fun y hy => h y (List.mem_cons_of_mem _ hy)
theorem mapO_eq {α β : Type} {f : α → Option β} {g : α → β} : ∀ {xs : List α}, (∀ x ∈ xs, f x = some (g x)) → mapO xs f = some (xs.map g)
  | [], _ => rfl
  | x :: xs, h => by
    unfold mapO
    rw [h x List.mem_cons_self, mapO_eq fun y hy => h y (List.mem_cons_of_mem _ hy)]; rfl
theorem mem_irange {a b x : Int} : x ∈ irange a b ↔ a ≤ x ∧ x < b := by
  unfold irange
  rw [List.mem_map]
  constructor
  · rintro ⟨i, h1, h2⟩
    rw [List.mem_range] at h1
    omega
  · rintro ⟨h1, h2⟩
    exact ⟨(x - a).toNat, by rw [List.mem_range]; omega, by omega⟩
theorem mem_enumL {α : Type} {xs : List α} {z : Int × α} (h : z ∈ enumL xs) : 0 ≤ z.1 ∧ z.1 < xs.length ∧ z.2 ∈ xs := by
  obtain ⟨i, hi⟩ := List.getElem?_of_mem h
  obtain ⟨h1, h2⟩ := enumL_get hi
  have h3 := (List.getElem?_eq_some_iff.mp h1).1
  exact ⟨by omega, by omega, List.mem_of_getElem? h1⟩
theorem cutL_len {α : Type} (xs : List α) (lo hi : Option Int) : (cutL xs lo hi).length ≤ xs.length := by
  unfold cutL
  rw [List.length_take, List.length_drop]
  omega
theorem HT_nn {n d : Nat} {k : Int} (h : 0 ≤ k) : HT.sIx n d (some k) = min k.toNat n := by
  obtain ⟨m, rfl⟩ := Int.eq_ofNat_of_zero_le h
  rw [HT.sIx_nat]; simp
theorem cutL_to {α : Type} (xs : List α) {k : Int} (h : 0 ≤ k) : cutL xs none (some k) = xs.take k.toNat := by
  unfold cutL
  rw [HT_nn h, HT.sIx_none, List.drop_zero, Nat.sub_zero, Nat.min_comm]
  by_cases q : k.toNat ≤ xs.length
  · rw [Nat.min_eq_right q]
  · rw [Nat.min_eq_left (by omega), List.take_of_length_le (Nat.le_refl _), List.take_of_length_le (by omega)]
theorem cutL_from {α : Type} (xs : List α) {k : Int} (h : 0 ≤ k) : cutL xs (some k) none = xs.drop k.toNat := by
  unfold cutL
  rw [HT_nn h, HT.sIx_none]
  by_cases q : k.toNat ≤ xs.length
  · rw [Nat.min_eq_left q, List.take_of_length_le (by rw [List.length_drop]; exact Nat.le_refl _)]
  · have h1 : xs.drop (min k.toNat xs.length) = [] := List.drop_eq_nil_iff.mpr (by omega)
    have h2 : xs.drop k.toNat = [] := List.drop_eq_nil_iff.mpr (by omega)
    rw [h1, h2]; simp
end GM
namespace GM
open PySem L2
theorem ite_t {α : Type} {c : Bool} (h : c = true) (a b : α) : (if c = true then a else b) = a := if_pos h
theorem ite_f {α : Type} {c : Bool} (h : c = false) (a b : α) : (if c = true then a else b) = b := if_neg (by rw [h]; exact Bool.false_ne_true)
def sm {α : Type} (l : List α) (f : α → Int) : Int := (l.map f).sum
theorem irange_at {n : Nat} {i : Nat} (h : i < (irange 0 n).length) : (irange 0 n)[i] = (i : Int) := by
  unfold irange at h ⊢
  rw [List.getElem_map, List.getElem_range]; omega
theorem irange_ix {a b : Int} {i : Nat} (h : i < (irange a b).length) : (irange a b)[i] = a + i := (irange_get (List.getElem?_eq_getElem h)).1
theorem irange_nodup (a b : Int) : (irange a b).Nodup := by
  unfold irange
  refine List.pairwise_map.mpr ((List.nodup_range).imp ?_)
  intro x y h e
  exact h (by omega)
def at0 (xs : List Int) (i : Int) : Int := (xs[i.toNat]?).getD 0
theorem at0_nat {xs : List Int} {i : Nat} (h : i < xs.length) : at0 xs (i : Int) = xs[i] := by
  unfold at0
  rw [Int.toNat_natCast, List.getElem?_eq_getElem h]; rfl
theorem atI_at0 {xs : List Int} {i : Int} (h0 : 0 ≤ i) (h1 : i < xs.length) : atI xs i = some (at0 xs i) := by
  rw [atI_some h0 h1]
  unfold at0
  rw [List.getElem?_eq_getElem (by omega)]; rfl
theorem at0_mem {xs : List Int} {i : Int} (h0 : 0 ≤ i) (h1 : i < xs.length) : at0 xs i ∈ xs := by
  unfold at0
  rw [List.getElem?_eq_getElem (by omega)]
  exact List.getElem_mem _
theorem forS_ix {α S : Type} {f : α → S → Option S} (I : Nat → S → Prop) : ∀ (xs : List α) (s : S), I 0 s → (∀ (i : Nat) (h : i < xs.length) (s : S), I i s → ∃ s', f xs[i] s = some s' ∧ I (i + 1) s') → ∃ s', forS xs s f = some s' ∧ I xs.length s'
  | [], s, h, _ => ⟨s, rfl, h⟩
  | x :: xs, s, h, k => by
    obtain ⟨s', h1, h2⟩ := k 0 (by rw [List.length_cons]; omega) s h
    obtain ⟨s'', g1, g2⟩ := forS_ix (fun i => I (i + 1)) xs s' h2 fun i hi t ht => k (i + 1) (by rw [List.length_cons]; omega) t ht
    exact ⟨s'', by unfold forS; rw [show f x s = some s' from h1]; exact g1, g2⟩
theorem forS_rng {S : Type} {f : Int → S → Option S} (I : Nat → S → Prop) (n : Nat) (s : S) (h0 : I 0 s) (k : ∀ (i : Nat) (h : i < n) (s : S), I i s → ∃ s', f (i : Int) s = some s' ∧ I (i + 1) s') : ∃ s', forS (irange 0 n) s f = some s' ∧ I n s' := by
  have hl : (irange 0 (n : Int)).length = n := by rw [irange_len]; omega
  obtain ⟨s', h1, h2⟩ := forS_ix I (irange 0 n) s h0 fun i hi t ht => by
    rw [irange_at]
    exact k i (by omega) t ht
  exact ⟨s', h1, by rw [hl] at h2; exact h2⟩
end GM
namespace GM
open PySem L2
theorem filO_sel {α β : Type} {c : α → Option Bool} {f : α → Option β} {c' : α → Bool} {f' : α → β} : ∀ {xs : List α}, (∀ x ∈ xs, c x = some (c' x)) → (∀ x ∈ xs, c' x = true → f x = some (f' x)) → filO xs c f = some ((xs.filter c').map f')
  | [], _, _ => rfl
  | x :: xs, h, h' => by
    unfold filO
    rw [h x List.mem_cons_self, obs, filO_sel (fun y hy => h y (List.mem_cons_of_mem _ hy)) (fun y hy => h' y (List.mem_cons_of_mem _ hy)), List.filter_cons]
    cases e : c' x with
    | true => rw [if_pos rfl, if_pos rfl, h' x List.mem_cons_self e, obs, obs, List.map_cons]
    | false => rw [if_neg Bool.false_ne_true, if_neg Bool.false_ne_true]
/-- the items by their numbers -/
theorem enumL_at {α : Type} (xs : List α) (i : Nat) (h : i < (enumL xs).length) : (enumL xs)[i] = ((i : Int), xs[i]'(by rw [enumL_len] at h; exact h)) := by
  have hg := enumL_get (List.getElem?_eq_getElem h)
  have hl : i < xs.length := by rw [enumL_len] at h; exact h
  have h1 := hg.1
  rw [List.getElem?_eq_getElem hl] at h1
  exact Prod.ext hg.2 (Option.some.inj h1).symm
theorem nodup_le : ∀ {A B : List Int}, A.Nodup → (∀ x ∈ A, x ∈ B) → A.length ≤ B.length
  | [], _, _, _ => Nat.zero_le _
  | a :: A, B, nd, h => by
    obtain ⟨h1, h2⟩ := List.nodup_cons.mp nd
    have hb := h a List.mem_cons_self
    have := nodup_le (B := B.erase a) h2 fun x hx => (List.mem_erase_of_ne (fun e => h1 (by rw [← e]; exact hx))).mpr (h x (List.mem_cons_of_mem _ hx))
    rw [List.length_erase_of_mem hb] at this
    have := List.length_pos_of_mem hb
    rw [List.length_cons]
    omega
end GM
namespace M
open PySem L2 GM
def law_number (cell : Int) (k : Int) : Option Int :=
  ((((mulC k k).bind fun v1 => some ((cell % 100000000000000000000) + v1)).bind fun v2 => some (v2 + 1)).bind fun v3 => mulC v3 (48271 + (2 * k))).bind fun v4 => some (v4 % 2147483647)
def law_divisor (one : Int) (other : Int) : Option Int :=
  (whileS FU (one, other) (fun s1 : Int × Int => some (decide (0 < s1.2))) (fun s1 : Int × Int =>
    (((modC s1.1 s1.2).bind fun v2 => some (v2, (()))).bind fun r3 => some (s1.2, r3)).bind fun z4 =>
    some (z4.1, z4.2.1))).bind fun s1 =>
  some s1.1
def law_parts (cell : Int) (k : Int) : Option (Int × Int) :=
  (law_number cell (k + 400)).bind fun number_here =>
  (atI [1, 1, 2, 3, 4, 6, 7, 12, 1 + ((number_here / 8) % 12)] ((number_here / 128) % 9)).bind fun bottom =>
  let top : Int := (number_here / 1200) % 30
  (if (decide (number_here % 3 = 0)) = true then
    let top : Int := (((cell % 100000000000000000000) * 48271) + number_here) % 1000000000000
    some top
  else
    some top).bind fun s1 =>
  (law_divisor bottom s1).bind fun by_ =>
  ((divC s1 by_).bind fun v3 => ((divC bottom by_).bind fun v2 => some (v2, (()))).bind fun r4 => some (v3, r4)).bind fun z5 => some (z5.1, z5.2.1)
def law_unit (amounts : List (Int × Int)) : Option Int :=
  let unit_here : Int := 1
  (forS amounts unit_here (fun (x2 : Int × Int) (s1 : Int) =>
    ((mulC s1 x2.2).bind fun v3 => (law_divisor s1 x2.2).bind fun v4 => divC v3 v4).bind fun unit_here =>
    some unit_here)).bind fun s1 =>
  some s1
def law_above (one : Int × Int) : Option (Int × Int) :=
  if (decide (one.1 = 0)) = true then
    some (1, 1)
  else
    some one
def law_written (one : Int × Int) : Option Str :=
  if (decide (one.2 = 1)) = true then
    strI one.1
  else
    ((strI one.1).bind fun v1 => catS v1 (Str.ofString "/")).bind fun v2 => (strI one.2).bind fun v3 => catS v2 v3
def law_wholes (amounts : List (Int × Int)) (unit_here : Int) : Option (List Int) :=
  mapO amounts (fun x1 : Int × Int => (mulC x1.1 unit_here).bind fun v2 => divC v2 x1.2)
def law_sack_made (cells : List Int) (cell : Int) : Option (Ll3 (List Str) Int ((Int × (List (Int × (List Int)))) ⊕ (((List Int) × (List (Int × Int))) ⊕ ((Tp (List (List Int))) ⊕ (((List (List Int)) × Int) ⊕ (((List Int) × Int) ⊕ ((Int × (List (Int × Int)))))))))) :=
  (law_parts cell 70).bind fun room =>
  (mapO (enumL (cutL cells none (some 20))) (fun x1 : Int × Int => law_parts x1.2 x1.1)).bind fun worths =>
  (mapO (enumL (cutL cells none (some 20))) (fun x2 : Int × Int => ((law_parts x2.2 (x2.1 + 50)).bind fun v3 => some (v3, (()))).bind fun z4 => law_above z4.1)).bind fun weights =>
  ((((catC [room] worths).bind fun v5 => catC v5 weights).bind fun v6 => some (v6, (()))).bind fun z7 => law_unit z7.1).bind fun unit_here =>
  (((law_written room).bind fun v8 => catS (Str.ofString "sack ") v8).bind fun v9 => some (v9 :: [])).bind fun lines =>
  (forS (worths.zip weights) lines (fun (x11 : (Int × Int) × (Int × Int)) (s10 : (List Str)) =>
    (((law_written x11.1).bind fun v12 => catS v12 (Str.ofString " ")).bind fun v13 => (law_written x11.2).bind fun v14 => catS v13 v14).bind fun v15 => (appC s10 v15).bind fun lines =>
    some lines)).bind fun s10 =>
  (((law_wholes worths unit_here).bind fun v16 => (law_wholes weights unit_here).bind fun v17 => some (v16.zip v17)).bind fun v19 => some (v19.map (fun x18 : Int × Int => (x18.1, x18.2)))).bind fun things =>
  ((((((((law_wholes [room] unit_here).bind fun v20 => atI v20 0).bind fun v21 => some (v21, (things, ()))).bind fun z22 => some (z22.1, z22.2.1)).bind fun v23 => some (Sum.inr (Sum.inr (Sum.inr (Sum.inr (Sum.inr v23)))) : (Int × (List (Int × (List Int)))) ⊕ (((List Int) × (List (Int × Int))) ⊕ ((Tp (List (List Int))) ⊕ (((List (List Int)) × Int) ⊕ (((List Int) × Int) ⊕ ((Int × (List (Int × Int)))))))))).bind fun v24 => some (v24, (()))).bind fun r25 => some (unit_here, r25)).bind fun r26 => some (s10, r26)).bind fun z27 => some (Ll3.mk z27.1 z27.2.1 z27.2.2.1)
def law_bit (number_here : Int) (place : Int) : Option Int :=
  (rngC 0 place).bind fun v2 => (forS v2 number_here (fun (k : Int) (s1 : Int) =>
    let number_here : Int := s1 / 2
    some number_here)).bind fun s1 =>
  some (s1 % 2)
def law_has (cell : Int) (k : Int) (thing : Int) : Option Bool :=
  (law_number cell (k + 50)).bind fun number_here =>
  ((law_bit number_here thing).bind fun v3 => (((law_number cell (k + 90)).bind fun v1 => some (v1, (thing, ()))).bind fun z2 => law_bit z2.1 z2.2.1).bind fun v4 => some (v3 + v4)).bind fun both =>
  some (decide (1 - ((number_here / 65536) % 2) < both))
def law_amount (cell : Int) (k : Int) : Option Int :=
  (law_number cell k).bind fun number_here =>
  if (decide (number_here % 3 = 0)) = true then
    some ((number_here / 3) % 4)
  else
    if (decide (number_here % 3 = 1)) = true then
      some ((number_here / 3) % 30)
    else
      modC (((cell % 100000000000000000000) * 6364136223846793005) + number_here) (1000000000000000000 + 1)
def law_sets (cells : List Int) (many : Int) : Option (List (Int × (List Int))) :=
  let found : List (Int × (List Int)) := ([] : List (Int × (List Int)))
  (forS (enumL cells) found (fun (x2 : Int × Int) (s1 : (List (Int × (List Int)))) =>
    ((rngC 0 many).bind fun v3 => filO v3 (fun thing : Int => law_has x2.2 x2.1 thing) (fun thing : Int => some thing)).bind fun things =>
    (law_amount x2.2 x2.1).bind fun v4 => (appC s1 (v4, things)).bind fun found =>
    some found)).bind fun s1 =>
  (if (decide (s1 = ([] : List (Int × (List Int))))) = true then
    (appC s1 (3, ([] : List Int))).bind fun found =>
    some found
  else
    some s1).bind fun s5 =>
  (rngC 0 many).bind fun v11 => (forS v11 s5 (fun (thing : Int) (s6 : (List (Int × (List Int)))) =>
    if (decide ((((s6.filter (fun x7 : Int × (List Int) => decide (thing ∈ x7.2))).map (fun x7 : Int × (List Int) => (1 : Int))).length : Int) = 0)) = true then
      (modC (thing * 5) (s6.length : Int)).bind fun v10 => (appAt s6 v10 thing).bind fun found =>
      some found
    else
      some s6)).bind fun s6 =>
  some s6
def law_cell_at (script : List Int) (k : Int) : Option Int :=
  if (decide (k < (script.length : Int))) = true then
    atI script k
  else
    some 0
def law_cover_made (cells : List Int) (cell : Int) : Option (Ll3 (List Str) Int ((Int × (List (Int × (List Int)))) ⊕ (((List Int) × (List (Int × Int))) ⊕ ((Tp (List (List Int))) ⊕ (((List (List Int)) × Int) ⊕ (((List Int) × Int) ⊕ ((Int × (List (Int × Int)))))))))) :=
  let many : Int := 1 + (cell % 12)
  (((scrL (cutL cells none (some 14))).bind fun v1 => some (v1, (many, ()))).bind fun z2 => law_sets z2.1 z2.2.1).bind fun sets_here =>
  (mapO (irange 0 sets_here.length) (fun k : Int => ((law_cell_at cells k).bind fun v3 => some (v3, (k, ()))).bind fun z4 => law_parts z4.1 z4.2.1)).bind fun amounts =>
  (((strI many).bind fun v5 => catS (Str.ofString "cover ") v5).bind fun v6 => some (v6 :: [])).bind fun lines =>
  (forS (amounts.zip sets_here) lines (fun (x8 : (Int × Int) × (Int × (List Int))) (s7 : (List Str)) =>
    ((((law_written x8.1).bind fun v9 => some (v9 :: [])).bind fun v10 => (mapO x8.2.2 (fun thing : Int => strI thing)).bind fun v11 => catC v10 v11).bind fun v12 => joinC (Str.ofString " ") v12).bind fun v13 => (appC s7 v13).bind fun lines =>
    some lines)).bind fun s7 =>
  (law_unit amounts).bind fun unit_here =>
  (law_wholes amounts unit_here).bind fun prices =>
  some (Ll3.mk s7 unit_here (Sum.inl (many, (prices.zip sets_here).map (fun x14 : Int × (Int × (List Int)) => (x14.1, x14.2.2))) : (Int × (List (Int × (List Int)))) ⊕ (((List Int) × (List (Int × Int))) ⊕ ((Tp (List (List Int))) ⊕ (((List (List Int)) × Int) ⊕ (((List Int) × Int) ⊕ ((Int × (List (Int × Int))))))))))
def law_touch_made (cells : List Int) (cell : Int) : Option (Ll3 (List Str) Int ((Int × (List (Int × (List Int)))) ⊕ (((List Int) × (List (Int × Int))) ⊕ ((Tp (List (List Int))) ⊕ (((List (List Int)) × Int) ⊕ (((List Int) × Int) ⊕ ((Int × (List (Int × Int)))))))))) :=
  let many : Int := 2 + (cell % 8)
  ((rngC 0 many).bind fun v3 => mapO v3 (fun k : Int => ((law_cell_at cells k).bind fun v1 => some (v1, (k, ()))).bind fun z2 => law_parts z2.1 z2.2.1)).bind fun amounts =>
  ((((mapO amounts (fun one : Int × Int => law_written one)).bind fun v4 => catC [(Str.ofString "touch")] v4).bind fun v5 => joinC (Str.ofString " ") v5).bind fun v6 => some (v6 :: [])).bind fun lines =>
  let ends : List (Int × Int) := ([] : List (Int × Int))
  (forS (enumL (cutL cells none (some 24))) (lines, ends) (fun (x8 : Int × Int) (s7 : (List Str) × (List (Int × Int))) =>
    (law_number x8.2 (x8.1 + 130)).bind fun end_ =>
    (((modC end_ many).bind fun v9 => some (v9 + 1)).bind fun v11 => ((divC end_ many).bind fun v10 => modC v10 (many - 1)).bind fun v12 => some (v11 + v12)).bind fun other =>
    (((modC end_ many).bind fun v14 => ((modC other many).bind fun v13 => some (v13, (()))).bind fun r15 => some (v14, r15)).bind fun z16 => some (z16.1, z16.2.1)).bind fun v17 => (appC s7.2 v17).bind fun ends =>
    ((((modC end_ many).bind fun v18 => strI v18).bind fun v19 => catS v19 (Str.ofString " ")).bind fun v21 => ((modC other many).bind fun v20 => strI v20).bind fun v22 => catS v21 v22).bind fun v23 => (appC s7.1 v23).bind fun lines =>
    some (lines, ends))).bind fun s7 =>
  (law_unit amounts).bind fun unit_here =>
  (((((((law_wholes amounts unit_here).bind fun v24 => some (v24, (s7.2, ()))).bind fun z25 => some (z25.1, z25.2.1)).bind fun v26 => some (Sum.inr (Sum.inl v26) : (Int × (List (Int × (List Int)))) ⊕ (((List Int) × (List (Int × Int))) ⊕ ((Tp (List (List Int))) ⊕ (((List (List Int)) × Int) ⊕ (((List Int) × Int) ⊕ ((Int × (List (Int × Int)))))))))).bind fun v27 => some (v27, (()))).bind fun r28 => some (unit_here, r28)).bind fun r29 => some (s7.1, r29)).bind fun z30 => some (Ll3.mk z30.1 z30.2.1 z30.2.2.1)
def law_between (spots : List (Int × Int)) (one : Int) (other : Int) (least : Int) : Option Int :=
  if (decide (one = other)) = true then
    some 0
  else
    let low : Int := if other < one then other else one
    let high : Int := if other > one then other else one
    ((((atI spots low).bind fun v1 => some v1.2).bind fun v4 => (((atI spots high).bind fun v2 => some v2.1).bind fun v3 => some (7 * v3)).bind fun v5 => some (v4 + v5)).bind fun v6 => (mulC low high).bind fun v7 => some (v6 + v7)).bind fun much =>
    (modC much (least + 1)).bind fun v8 => some (least + v8)
def law_lengths (cells : List Int) (many : Int) (way : Int) : Option (List (List Int)) :=
  let spots : List (Int × Int) := ([] : List (Int × Int))
  (rngC 0 many).bind fun v13 => (forS v13 spots (fun (k : Int) (s1 : (List (Int × Int))) =>
    (((law_cell_at cells k).bind fun v2 => some (v2, (k + 300, ()))).bind fun z3 => law_number z3.1 z3.2.1).bind fun number_here =>
    (atI [3, 50, 100000, 100000000000] (number_here % 4)).bind fun reach =>
    (((modC ((number_here / 4) * 48271) reach).bind fun v5 => ((modC ((((number_here / 4) * 69621) % 2147483629) * 40692) reach).bind fun v4 => some (v4, (()))).bind fun r6 => some (v5, r6)).bind fun z7 => some (z7.1, z7.2.1)).bind fun v8 => (appC s1 v8).bind fun spots =>
    some spots)).bind fun s1 =>
  if (decide (way % 3 = 0)) = true then
    (((atI s1 0).bind fun v9 => some v9.1).bind fun v10 => some (1 + v10)).bind fun least =>
    (rngC 0 many).bind fun v12 => mapO v12 (fun one : Int => (rngC 0 many).bind fun v11 => mapO v11 (fun other : Int => law_between s1 one other least))
  else
    some (s1.map (fun a : Int × Int => s1.map (fun b : Int × Int => (if a.1 - b.1 < 0 then -(a.1 - b.1) else a.1 - b.1) + (if a.2 - b.2 < 0 then -(a.2 - b.2) else a.2 - b.2))))
def law_line_lengths (cells : List Int) (many : Int) (cell : Int) : Option (List (List (Int × Int))) :=
  let bottom : Int := 1 + (cell % 12)
  let rows : List (List (Int × Int)) := ([] : List (List (Int × Int)))
  (law_lengths cells many (cell / 12)).bind fun v8 => (forS v8 rows (fun (one : List Int) (s1 : (List (List (Int × Int)))) =>
    let row : List (Int × Int) := ([] : List (Int × Int))
    (forS one row (fun (much : Int) (s2 : (List (Int × Int))) =>
      (law_divisor bottom much).bind fun by_ =>
      (((divC much by_).bind fun v4 => ((divC bottom by_).bind fun v3 => some (v3, (()))).bind fun r5 => some (v4, r5)).bind fun z6 => some (z6.1, z6.2.1)).bind fun v7 => (appC s2 v7).bind fun row =>
      some row)).bind fun s2 =>
    (appC s1 s2).bind fun rows =>
    some rows)).bind fun s1 =>
  some s1
def law_lengths_made (cells : List Int) (cell : Int) (word : Str) : Option (Ll3 (List Str) Int ((Int × (List (Int × (List Int)))) ⊕ (((List Int) × (List (Int × Int))) ⊕ ((Tp (List (List Int))) ⊕ (((List (List Int)) × Int) ⊕ (((List Int) × Int) ⊕ ((Int × (List (Int × Int)))))))))) :=
  let many : Int := 1 + (cell % 7)
  (law_line_lengths cells many (cell / 7)).bind fun rows =>
  let lines : List Str := [word]
  let amounts : List (Int × Int) := ([] : List (Int × Int))
  (forS rows (lines, amounts) (fun (row : List (Int × Int)) (s1 : (List Str) × (List (Int × Int))) =>
    ((mapO row (fun one : Int × Int => law_written one)).bind fun v2 => joinC (Str.ofString " ") v2).bind fun v3 => (appC s1.1 v3).bind fun lines =>
    (catC s1.2 row).bind fun amounts =>
    some (lines, amounts))).bind fun s1 =>
  (law_unit s1.2).bind fun unit_here =>
  (mapO rows (fun row : List (Int × Int) => law_wholes row unit_here)).bind fun lengths_here =>
  if (decide (word = (Str.ofString "round"))) = true then
    some (Ll3.mk s1.1 unit_here (Sum.inr (Sum.inr (Sum.inl (Tp.mk [lengths_here]))) : (Int × (List (Int × (List Int)))) ⊕ (((List Int) × (List (Int × Int))) ⊕ ((Tp (List (List Int))) ⊕ (((List (List Int)) × Int) ⊕ (((List Int) × Int) ⊕ ((Int × (List (Int × Int))))))))))
  else
    ((modC (cell / 49) many).bind fun v4 => some (1 + v4)).bind fun chosen =>
    (((((catS word (Str.ofString " ")).bind fun v5 => (strI chosen).bind fun v6 => catS v5 v6).bind fun v7 => some (v7 :: [])).bind fun v8 => catC v8 (cutL s1.1 (some 1) none)).bind fun v9 => some (v9, (unit_here, (Sum.inr (Sum.inr (Sum.inr (Sum.inl (lengths_here, chosen)))) : (Int × (List (Int × (List Int)))) ⊕ (((List Int) × (List (Int × Int))) ⊕ ((Tp (List (List Int))) ⊕ (((List (List Int)) × Int) ⊕ (((List Int) × Int) ⊕ ((Int × (List (Int × Int))))))))), ()))).bind fun z10 => some (Ll3.mk z10.1 z10.2.1 z10.2.2.1)
def law_putting_made (cells : List Int) (cell : Int) (word : Str) : Option (Ll3 (List Str) Int ((Int × (List (Int × (List Int)))) ⊕ (((List Int) × (List (Int × Int))) ⊕ ((Tp (List (List Int))) ⊕ (((List (List Int)) × Int) ⊕ (((List Int) × Int) ⊕ ((Int × (List (Int × Int)))))))))) :=
  (mapO (enumL (cutL cells none (some 20))) (fun x1 : Int × Int => ((law_parts x1.2 x1.1).bind fun v2 => some (v2, (()))).bind fun z3 => law_above z3.1)).bind fun amounts =>
  if (decide (word = (Str.ofString "benches"))) = true then
    (law_unit amounts).bind fun unit_here =>
    let many : Int := 1 + (cell % 20)
    ((((((strI many).bind fun v4 => some (v4 :: [])).bind fun r5 => some (word :: r5)).bind fun v6 => (mapO amounts (fun one : Int × Int => law_written one)).bind fun v7 => catC v6 v7).bind fun v8 => joinC (Str.ofString " ") v8).bind fun v9 => some (v9 :: [])).bind fun lines =>
    (((((((law_wholes amounts unit_here).bind fun v10 => some (v10, (many, ()))).bind fun z11 => some (z11.1, z11.2.1)).bind fun v12 => some (Sum.inr (Sum.inr (Sum.inr (Sum.inr (Sum.inl v12)))) : (Int × (List (Int × (List Int)))) ⊕ (((List Int) × (List (Int × Int))) ⊕ ((Tp (List (List Int))) ⊕ (((List (List Int)) × Int) ⊕ (((List Int) × Int) ⊕ ((Int × (List (Int × Int)))))))))).bind fun v13 => some (v13, (()))).bind fun r14 => some (unit_here, r14)).bind fun r15 => some (lines, r15)).bind fun z16 => some (Ll3.mk z16.1 z16.2.1 z16.2.2.1)
  else
    (((law_parts cell 70).bind fun v17 => some (v17, (()))).bind fun z18 => law_above z18.1).bind fun room =>
    (forS amounts room (fun (one : Int × Int) (s19 : (Int × Int)) =>
      ((mulC s19.1 one.2).bind fun v20 => (mulC one.1 s19.2).bind fun v21 => some (decide (v20 < v21))).bind fun v22 => if v22 = true then
        let room : Int × Int := one
        some room
      else
        some s19)).bind fun s19 =>
    (((catC amounts [s19]).bind fun v23 => some (v23, (()))).bind fun z24 => law_unit z24.1).bind fun unit_here =>
    ((((((law_written s19).bind fun v25 => some (v25 :: [])).bind fun r26 => some (word :: r26)).bind fun v27 => (mapO amounts (fun one : Int × Int => law_written one)).bind fun v28 => catC v27 v28).bind fun v29 => joinC (Str.ofString " ") v29).bind fun v30 => some (v30 :: [])).bind fun lines =>
    (((((((law_wholes amounts unit_here).bind fun v33 => (((law_wholes [s19] unit_here).bind fun v31 => atI v31 0).bind fun v32 => some (v32, (()))).bind fun r34 => some (v33, r34)).bind fun z35 => some (z35.1, z35.2.1)).bind fun v36 => some (Sum.inr (Sum.inr (Sum.inr (Sum.inr (Sum.inl v36)))) : (Int × (List (Int × (List Int)))) ⊕ (((List Int) × (List (Int × Int))) ⊕ ((Tp (List (List Int))) ⊕ (((List (List Int)) × Int) ⊕ (((List Int) × Int) ⊕ ((Int × (List (Int × Int)))))))))).bind fun v37 => some (v37, (()))).bind fun r38 => some (unit_here, r38)).bind fun r39 => some (lines, r39)).bind fun z40 => some (Ll3.mk z40.1 z40.2.1 z40.2.2.1)
def law_made (kind : Int) (cells : List Int) (cell : Int) : Option (Ll3 (List Str) Int ((Int × (List (Int × (List Int)))) ⊕ (((List Int) × (List (Int × Int))) ⊕ ((Tp (List (List Int))) ⊕ (((List (List Int)) × Int) ⊕ (((List Int) × Int) ⊕ ((Int × (List (Int × Int)))))))))) :=
  if (decide (kind = 0)) = true then
    law_cover_made cells cell
  else
    if (decide (kind = 1)) = true then
      law_touch_made cells cell
    else
      if (decide (kind = 2)) = true then
        law_lengths_made cells cell (Str.ofString "round")
      else
        if (decide (kind = 3)) = true then
          law_lengths_made cells cell (Str.ofString "places")
        else
          if (decide (kind = 4)) = true then
            law_putting_made cells cell (Str.ofString "benches")
          else
            if (decide (kind = 5)) = true then
              law_putting_made cells cell (Str.ofString "bins")
            else
              law_sack_made cells cell
def number_in (text : Str) (least : Int) (most : Int) : Option (Option Int) :=
  (if (decide (text = (Str.ofString ""))) = true then some true else ((lenS text).bind fun v1 => some (decide (12 < v1))).bind fun v5 => if v5 = true then some true else ((ixS text 0).bind fun v2 => some (decide (v2 = (Str.ofString "0")))).bind fun v4 => if v4 = true then (lenS text).bind fun v3 => some (decide (1 < v3)) else some false).bind fun v8 => if v8 = true then
    some none
  else
    (signsC text).bind fun v7 => (forF (R := (Option Int)) v7 () (fun (sign : Str) (s6 : Unit) =>
      if (!inS sign (Str.ofString "0123456789")) = true then
        some (Fl.ret none)
      else
        some (Fl.go ()))).bind (flR (fun s6 =>
      (intS text).bind fun number =>
      if ((decide (number < least)) || (decide (most < number))) = true then
        some none
      else
        some (some number)) id)
def one_number (words : List Str) (line : Int) (most : Int) : Option Int :=
  if (!decide ((words.length : Int) = 2)) = true then
    (none : Option Int)
  else
    (((atI words 1).bind fun v1 => some (v1, (1, most, ()))).bind fun z2 => number_in z2.1 z2.2.1 z2.2.2.1).bind fun number =>
    if number.isNone = true then
      (none : Option Int)
    else
      unN number
def common_factor (high : Int) (low : Int) : Option Int :=
  (whileS FU (high, low) (fun s1 : Int × Int => some (decide (0 < s1.2))) (fun s1 : Int × Int =>
    (((modC s1.1 s1.2).bind fun v2 => some (v2, (()))).bind fun r3 => some (s1.2, r3)).bind fun z4 =>
    some (z4.1, z4.2.1))).bind fun s1 =>
  some s1.1
def unit_of (amounts : List (Int × Int)) : Option Int :=
  let unit : Int := 1
  (forS amounts unit (fun (one : Int × Int) (s1 : Int) =>
    ((mulC s1 one.2).bind fun v2 => (common_factor s1 one.2).bind fun v3 => divC v2 v3).bind fun unit =>
    some unit)).bind fun s1 =>
  some s1
def amount_in (text : Str) : Option (Option (Int × Int)) :=
  (partC text (Str.ofString "/")).bind fun z1 =>
  (number_in z1.a 0 1000000000000).bind fun number =>
  if (decide (z1.b = (Str.ofString ""))) = true then
    if number.isNone = true then
      some none
    else
      (((unN number).bind fun v2 => some (v2, (1, ()))).bind fun z3 => some (z3.1, z3.2.1)).bind fun v4 => some (some v4)
  else
    (number_in z1.c 2 12).bind fun under =>
    (if number.isNone = true then some true else if under.isNone = true then some true else (((unN number).bind fun v6 => ((unN under).bind fun v5 => some (v5, (()))).bind fun r7 => some (v6, r7)).bind fun z8 => common_factor z8.1 z8.2.1).bind fun v9 => some (!decide (v9 = 1))).bind fun v15 => if v15 = true then
      some none
    else
      (((unN number).bind fun v11 => ((unN under).bind fun v10 => some (v10, (()))).bind fun r12 => some (v11, r12)).bind fun z13 => some (z13.1, z13.2.1)).bind fun v14 => some (some v14)
def amounts_in (words : List Str) (line : Int) (least : Int) : Option (List (Int × Int)) :=
  let found : List (Int × Int) := ([] : List (Int × Int))
  (forS words found (fun (word : Str) (s1 : (List (Int × Int))) =>
    (amount_in word).bind fun one =>
    (if one.isNone = true then some true else ((unN one).bind fun v2 => some v2.1).bind fun v3 => some (decide (v3 < least))).bind fun v5 => if v5 = true then
      (none : Option ((List (Int × Int))))
    else
      (unN one).bind fun v4 => (appC s1 v4).bind fun found =>
      some found)).bind fun s1 =>
  some s1
def whole_by (one : Int × Int) (unit : Int) : Option Int :=
  (mulC one.1 unit).bind fun v1 => divC v1 one.2
def numbers_in (words : List Str) (line : Int) (most : Int) : Option (List Int) :=
  let found : List Int := ([] : List Int)
  (forS words found (fun (word : Str) (s1 : (List Int)) =>
    (number_in word 0 (most - 1)).bind fun number =>
    (if number.isNone = true then some true else (unN number).bind fun v2 => some (decide (v2 ∈ s1))).bind fun v4 => if v4 = true then
      (none : Option ((List Int)))
    else
      (unN number).bind fun v3 => (appC s1 v3).bind fun found =>
      some found)).bind fun s1 =>
  some s1
def read_cover (rows : List (List Str)) : Option (Int × (Int × (List (Int × (List Int))))) :=
  (((atI rows 0).bind fun v1 => some (v1, (0, 40, ()))).bind fun z2 => one_number z2.1 z2.2.1 z2.2.2.1).bind fun many =>
  let found : List ((Int × Int) × (List Int)) := ([] : List ((Int × Int) × (List Int)))
  (forS (irange 1 rows.length) found (fun (line : Int) (s3 : (List ((Int × Int) × (List Int)))) =>
    if (decide (40 < line)) = true then
      (none : Option ((List ((Int × Int) × (List Int)))))
    else
      (((((atI rows line).bind fun v4 => some (cutL v4 none (some 1))).bind fun v5 => some (v5, (line, 0, ()))).bind fun z6 => amounts_in z6.1 z6.2.1 z6.2.2.1).bind fun v7 => atI v7 0).bind fun price =>
      (((((((atI rows line).bind fun v8 => some (cutL v8 (some 1) none)).bind fun v9 => some (v9, (line, many, ()))).bind fun z10 => numbers_in z10.1 z10.2.1 z10.2.2.1).bind fun v11 => some (v11, (()))).bind fun r12 => some (price, r12)).bind fun z13 => some (z13.1, z13.2.1)).bind fun v14 => (appC s3 v14).bind fun found =>
      some found)).bind fun s3 =>
  (unit_of (s3.map (fun x15 : (Int × Int) × (List Int) => x15.1))).bind fun unit =>
  (mapO s3 (fun x16 : (Int × Int) × (List Int) => ((whole_by x16.1 unit).bind fun v17 => some (v17, (x16.2, ()))).bind fun z18 => some (z18.1, z18.2.1))).bind fun sets =>
  (rngC 0 many).bind fun v21 => (forS v21 () (fun (thing : Int) (s19 : Unit) =>
    if (decide ((((sets.filter (fun x20 : Int × (List Int) => decide (thing ∈ x20.2))).map (fun x20 : Int × (List Int) => x20.2)).length : Int) = 0)) = true then
      (none : Option (Unit))
    else
      some ())).bind fun s19 =>
  some (unit, (many, sets))
def read_touch (rows : List (List Str)) : Option (Int × ((List Int) × (List (Int × Int)))) :=
  ((((atI rows 0).bind fun v1 => some (v1.length : Int)).bind fun v2 => some (decide (v2 < 2))).bind fun v5 => if v5 = true then some true else ((atI rows 0).bind fun v3 => some (v3.length : Int)).bind fun v4 => some (decide (40 + 1 < v4))).bind fun v23 => if v23 = true then
    (none : Option (Int × ((List Int) × (List (Int × Int)))))
  else
    ((((atI rows 0).bind fun v6 => some (cutL v6 (some 1) none)).bind fun v7 => some (v7, (0, 0, ()))).bind fun z8 => amounts_in z8.1 z8.2.1 z8.2.2.1).bind fun amounts =>
    let lines : List (Int × Int) := ([] : List (Int × Int))
    (forS (irange 1 rows.length) lines (fun (line : Int) (s9 : (List (Int × Int))) =>
      (if (decide (80 < line)) = true then some true else ((atI rows line).bind fun v10 => some (v10.length : Int)).bind fun v11 => some (!decide (v11 = 2))).bind fun v17 => if v17 = true then
        (none : Option ((List (Int × Int))))
      else
        (((((atI rows line).bind fun v12 => some (v12, (line, (amounts.length : Int), ()))).bind fun z13 => numbers_in z13.1 z13.2.1 z13.2.2.1).bind fun v14 => some (Tp.mk v14)).bind fun v15 => tp2 v15).bind fun v16 => (appC s9 v16).bind fun lines =>
        some lines)).bind fun s9 =>
    (unit_of amounts).bind fun unit =>
    (((((mapO amounts (fun one : Int × Int => whole_by one unit)).bind fun v18 => some (v18, (s9, ()))).bind fun z19 => some (z19.1, z19.2.1)).bind fun v20 => some (v20, (()))).bind fun r21 => some (unit, r21)).bind fun z22 => some (z22.1, z22.2.1)
def whole_lengths (table : List (List (Int × Int))) : Option (Int × (List (List Int))) :=
  let amounts : List (Int × Int) := ([] : List (Int × Int))
  (forS table amounts (fun (row : List (Int × Int)) (s1 : (List (Int × Int))) =>
    (catC s1 row).bind fun amounts =>
    some amounts)).bind fun s1 =>
  (unit_of s1).bind fun unit =>
  (mapO table (fun row : List (Int × Int) => mapO row (fun one : Int × Int => whole_by one unit))).bind fun lengths =>
  some (unit, lengths)
def alike_both_ways (lengths : List (List Int)) (one : Int) (other : Int) : Option Bool :=
  if (decide (one = other)) = true then
    ((atI lengths one).bind fun v1 => atI v1 one).bind fun v2 => some (decide (v2 = 0))
  else
    ((atI lengths one).bind fun v3 => atI v3 other).bind fun v5 => ((atI lengths other).bind fun v4 => atI v4 one).bind fun v6 => some (decide (v5 = v6))
def straight_is_least (lengths : List (List Int)) (one : Int) (other : Int) : Option Bool :=
  (forF (R := Bool) (irange 0 lengths.length) () (fun (amid : Int) (s1 : Unit) =>
    ((((atI lengths one).bind fun v2 => atI v2 amid).bind fun v4 => ((atI lengths amid).bind fun v3 => atI v3 other).bind fun v5 => some (v4 + v5)).bind fun v7 => ((atI lengths one).bind fun v6 => atI v6 other).bind fun v8 => some (decide (v7 < v8))).bind fun v9 => if v9 = true then
      some (Fl.ret false)
    else
      some (Fl.go ()))).bind (flR (fun s1 =>
    some true) id)
def look_at (lengths : List (List Int)) : Option Unit :=
  (forS (irange 0 lengths.length) () (fun (one : Int) (s1 : Unit) =>
    (forS (irange 0 lengths.length) () (fun (other : Int) (s2 : Unit) =>
      (((alike_both_ways lengths one other).bind fun v3 => some (!v3)).bind fun v5 => if v5 = true then some true else (straight_is_least lengths one other).bind fun v4 => some (!v4)).bind fun v6 => if v6 = true then
        (none : Option (Unit))
      else
        some ())).bind fun s2 =>
    some ())).bind fun s1 =>
  some ()
def read_lengths (rows : List (List Str)) : Option (List (List (Int × Int))) :=
  (if (decide ((rows.length : Int) = 1)) = true then some true else ((atI rows 1).bind fun v1 => some (v1.length : Int)).bind fun v2 => some (decide (12 < v2))).bind fun v18 => if v18 = true then
    (none : Option (List (List (Int × Int))))
  else
    let table : List (List (Int × Int)) := ([] : List (List (Int × Int)))
    (forS (irange 1 rows.length) table (fun (line : Int) (s3 : (List (List (Int × Int)))) =>
      ((((atI rows 1).bind fun v4 => some (v4.length : Int)).bind fun v5 => some (decide (v5 < line))).bind fun v10 => if v10 = true then some true else ((atI rows line).bind fun v6 => some (v6.length : Int)).bind fun v8 => ((atI rows 1).bind fun v7 => some (v7.length : Int)).bind fun v9 => some (!decide (v8 = v9))).bind fun v14 => if v14 = true then
        (none : Option ((List (List (Int × Int)))))
      else
        (((atI rows line).bind fun v11 => some (v11, (line, 0, ()))).bind fun z12 => amounts_in z12.1 z12.2.1 z12.2.2.1).bind fun v13 => (appC s3 v13).bind fun table =>
        some table)).bind fun s3 =>
    (((atI rows 1).bind fun v15 => some (v15.length : Int)).bind fun v16 => some (decide ((s3.length : Int) < v16))).bind fun v17 => if v17 = true then
      (none : Option (List (List (Int × Int))))
    else
      some s3
def read_round (rows : List (List Str)) : Option (Int × (Tp (List (List Int)))) :=
  (((atI rows 0).bind fun v1 => some (v1.length : Int)).bind fun v2 => some (!decide (v2 = 1))).bind fun v6 => if v6 = true then
    (none : Option (Int × (Tp (List (List Int)))))
  else
    (((read_lengths rows).bind fun v3 => some (v3, (()))).bind fun z4 => whole_lengths z4.1).bind fun z5 =>
    (look_at z5.2).bind fun _ =>
    some (z5.1, Tp.mk [z5.2])
def read_places (rows : List (List Str)) : Option (Int × ((List (List Int)) × Int)) :=
  (((atI rows 0).bind fun v1 => some (v1, (0, 12, ()))).bind fun z2 => one_number z2.1 z2.2.1 z2.2.2.1).bind fun many =>
  (((read_lengths rows).bind fun v3 => some (v3, (()))).bind fun z4 => whole_lengths z4.1).bind fun z5 =>
  if (decide ((z5.2.length : Int) < many)) = true then
    (none : Option (Int × ((List (List Int)) × Int)))
  else
    (look_at z5.2).bind fun _ =>
    some (z5.1, (z5.2, many))
def no_line_behind (rows : List (List Str)) (most : Int) : Option Unit :=
  if (decide (most < (rows.length : Int))) = true then
    (none : Option Unit)
  else
    some ()
def read_benches (rows : List (List Str)) : Option (Int × ((List Int) × Int)) :=
  ((((atI rows 0).bind fun v1 => some (cutL v1 none (some 2))).bind fun v2 => some (v2, (0, 20, ()))).bind fun z3 => one_number z3.1 z3.2.1 z3.2.2.1).bind fun many =>
  (((atI rows 0).bind fun v4 => some (v4.length : Int)).bind fun v5 => some (decide (40 + 2 < v5))).bind fun v14 => if v14 = true then
    (none : Option (Int × ((List Int) × Int)))
  else
    ((((atI rows 0).bind fun v6 => some (cutL v6 (some 2) none)).bind fun v7 => some (v7, (0, 1, ()))).bind fun z8 => amounts_in z8.1 z8.2.1 z8.2.2.1).bind fun amounts =>
    (no_line_behind rows 1).bind fun _ =>
    (unit_of amounts).bind fun unit =>
    (((((mapO amounts (fun one : Int × Int => whole_by one unit)).bind fun v9 => some (v9, (many, ()))).bind fun z10 => some (z10.1, z10.2.1)).bind fun v11 => some (v11, (()))).bind fun r12 => some (unit, r12)).bind fun z13 => some (z13.1, z13.2.1)
def look_at_sizes (sizes : List Int) (room : Int) : Option Unit :=
  (forS (enumL sizes) () (fun (x2 : Int × Int) (s1 : Unit) =>
    if (decide (room < x2.2)) = true then
      (none : Option (Unit))
    else
      some ())).bind fun s1 =>
  some ()
def read_bins (rows : List (List Str)) : Option (Int × ((List Int) × Int)) :=
  ((((atI rows 0).bind fun v1 => some (v1.length : Int)).bind fun v2 => some (decide (v2 < 2))).bind fun v5 => if v5 = true then some true else ((atI rows 0).bind fun v3 => some (v3.length : Int)).bind fun v4 => some (decide (40 + 2 < v4))).bind fun v11 => if v11 = true then
    (none : Option (Int × ((List Int) × Int)))
  else
    ((((atI rows 0).bind fun v6 => some (cutL v6 (some 1) none)).bind fun v7 => some (v7, (0, 1, ()))).bind fun z8 => amounts_in z8.1 z8.2.1 z8.2.2.1).bind fun amounts =>
    (no_line_behind rows 1).bind fun _ =>
    (unit_of amounts).bind fun unit =>
    (mapO (cutL amounts (some 1) none) (fun one : Int × Int => whole_by one unit)).bind fun sizes =>
    (((atI amounts 0).bind fun v9 => some (v9, (unit, ()))).bind fun z10 => whole_by z10.1 z10.2.1).bind fun room =>
    (look_at_sizes sizes room).bind fun _ =>
    some (unit, (sizes, room))
def read_sack (rows : List (List Str)) : Option (Int × (Int × (List (Int × Int)))) :=
  (((atI rows 0).bind fun v1 => some (v1.length : Int)).bind fun v2 => some (!decide (v2 = 2))).bind fun v28 => if v28 = true then
    (none : Option (Int × (Int × (List (Int × Int)))))
  else
    ((((atI rows 0).bind fun v3 => some (cutL v3 (some 1) none)).bind fun v4 => some (v4, (0, 0, ()))).bind fun z5 => amounts_in z5.1 z5.2.1 z5.2.2.1).bind fun amounts =>
    (forS (irange 1 rows.length) amounts (fun (line : Int) (s6 : (List (Int × Int))) =>
      (if (decide (40 < line)) = true then some true else ((atI rows line).bind fun v7 => some (v7.length : Int)).bind fun v8 => some (!decide (v8 = 2))).bind fun v17 => if v17 = true then
        (none : Option ((List (Int × Int))))
      else
        ((((atI rows line).bind fun v9 => some (cutL v9 none (some 1))).bind fun v10 => some (v10, (line, 0, ()))).bind fun z11 => amounts_in z11.1 z11.2.1 z11.2.2.1).bind fun v12 => (catC s6 v12).bind fun amounts =>
        ((((atI rows line).bind fun v13 => some (cutL v13 (some 1) none)).bind fun v14 => some (v14, (line, 1, ()))).bind fun z15 => amounts_in z15.1 z15.2.1 z15.2.2.1).bind fun v16 => (catC amounts v16).bind fun amounts =>
        some amounts)).bind fun s6 =>
    (unit_of s6).bind fun unit =>
    (mapO s6 (fun one : Int × Int => whole_by one unit)).bind fun wholes =>
    ((rng2C 1 (wholes.length : Int)).bind fun v22 => mapO v22 (fun k : Int => ((atI wholes k).bind fun v19 => ((atI wholes (k + 1)).bind fun v18 => some (v18, (()))).bind fun r20 => some (v19, r20)).bind fun z21 => some (z21.1, z21.2.1))).bind fun things =>
    (((((atI wholes 0).bind fun v23 => some (v23, (things, ()))).bind fun z24 => some (z24.1, z24.2.1)).bind fun v25 => some (v25, (()))).bind fun r26 => some (unit, r26)).bind fun z27 => some (z27.1, z27.2.1)
def read_kind (kind : Str) (rows : List (List Str)) : Option (Int × ((Int × (List (Int × (List Int)))) ⊕ (((List Int) × (List (Int × Int))) ⊕ ((Tp (List (List Int))) ⊕ (((List (List Int)) × Int) ⊕ (((List Int) × Int) ⊕ ((Int × (List (Int × Int)))))))))) :=
  if (decide (kind = (Str.ofString "cover"))) = true then
    (read_cover rows).bind fun v1 => some ((v1.1, (Sum.inl v1.2 : (Int × (List (Int × (List Int)))) ⊕ (((List Int) × (List (Int × Int))) ⊕ ((Tp (List (List Int))) ⊕ (((List (List Int)) × Int) ⊕ (((List Int) × Int) ⊕ ((Int × (List (Int × Int)))))))))))
  else
    if (decide (kind = (Str.ofString "touch"))) = true then
      (read_touch rows).bind fun v2 => some ((v2.1, (Sum.inr (Sum.inl v2.2) : (Int × (List (Int × (List Int)))) ⊕ (((List Int) × (List (Int × Int))) ⊕ ((Tp (List (List Int))) ⊕ (((List (List Int)) × Int) ⊕ (((List Int) × Int) ⊕ ((Int × (List (Int × Int)))))))))))
    else
      if (decide (kind = (Str.ofString "round"))) = true then
        (read_round rows).bind fun v3 => some ((v3.1, (Sum.inr (Sum.inr (Sum.inl v3.2)) : (Int × (List (Int × (List Int)))) ⊕ (((List Int) × (List (Int × Int))) ⊕ ((Tp (List (List Int))) ⊕ (((List (List Int)) × Int) ⊕ (((List Int) × Int) ⊕ ((Int × (List (Int × Int)))))))))))
      else
        if (decide (kind = (Str.ofString "places"))) = true then
          (read_places rows).bind fun v4 => some ((v4.1, (Sum.inr (Sum.inr (Sum.inr (Sum.inl v4.2))) : (Int × (List (Int × (List Int)))) ⊕ (((List Int) × (List (Int × Int))) ⊕ ((Tp (List (List Int))) ⊕ (((List (List Int)) × Int) ⊕ (((List Int) × Int) ⊕ ((Int × (List (Int × Int)))))))))))
        else
          if (decide (kind = (Str.ofString "benches"))) = true then
            (read_benches rows).bind fun v5 => some ((v5.1, (Sum.inr (Sum.inr (Sum.inr (Sum.inr (Sum.inl v5.2)))) : (Int × (List (Int × (List Int)))) ⊕ (((List Int) × (List (Int × Int))) ⊕ ((Tp (List (List Int))) ⊕ (((List (List Int)) × Int) ⊕ (((List Int) × Int) ⊕ ((Int × (List (Int × Int)))))))))))
          else
            if (decide (kind = (Str.ofString "bins"))) = true then
              (read_bins rows).bind fun v6 => some ((v6.1, (Sum.inr (Sum.inr (Sum.inr (Sum.inr (Sum.inl v6.2)))) : (Int × (List (Int × (List Int)))) ⊕ (((List Int) × (List (Int × Int))) ⊕ ((Tp (List (List Int))) ⊕ (((List (List Int)) × Int) ⊕ (((List Int) × Int) ⊕ ((Int × (List (Int × Int)))))))))))
            else
              if (decide (kind = (Str.ofString "sack"))) = true then
                (read_sack rows).bind fun v7 => some ((v7.1, (Sum.inr (Sum.inr (Sum.inr (Sum.inr (Sum.inr v7.2)))) : (Int × (List (Int × (List Int)))) ⊕ (((List Int) × (List (Int × Int))) ⊕ ((Tp (List (List Int))) ⊕ (((List (List Int)) × Int) ⊕ (((List Int) × Int) ⊕ ((Int × (List (Int × Int)))))))))))
              else
                (none : Option (Int × ((Int × (List (Int × (List Int)))) ⊕ (((List Int) × (List (Int × Int))) ⊕ ((Tp (List (List Int))) ⊕ (((List (List Int)) × Int) ⊕ (((List Int) × Int) ⊕ ((Int × (List (Int × Int)))))))))))
def read (text : Str) : Option (T3 Str Int ((Int × (List (Int × (List Int)))) ⊕ (((List Int) × (List (Int × Int))) ⊕ ((Tp (List (List Int))) ⊕ (((List (List Int)) × Int) ⊕ (((List Int) × Int) ⊕ ((Int × (List (Int × Int)))))))))) :=
  ((splitC text (Str.ofString "\n")).bind fun v1 => mapO v1 (fun line : Str => splitC line (Str.ofString " "))).bind fun rows =>
  ((atI rows 0).bind fun v2 => atI v2 0).bind fun kind =>
  (read_kind kind rows).bind fun z3 =>
  some (T3.mk kind z3.1 z3.2)
def law_alike : Nat → An → An → Option Bool
  | 0, _, _ => none
  | n_ + 1, found, due =>
    (isA true false false false due).bind fun v44 => if v44 = true then
      (isA true false false false found).bind fun v5 => if v5 = true then ((isA false false false false found).bind fun v1 => some (!v1)).bind fun v4 => if v4 = true then (asI found).bind fun v2 => (asI due).bind fun v3 => some (decide (v2 = v3)) else some false else some false
    else
      (isA false true false false due).bind fun v43 => if v43 = true then
        (isA false true false false found).bind fun v8 => if v8 = true then (asS found).bind fun v6 => (asS due).bind fun v7 => some (decide (v6 = v7)) else some false
      else
        ((isA false false false true due).bind fun v42 => if v42 = true then
          ((isA false false false true found).bind fun v36 => some (!v36)).bind fun v38 => if v38 = true then
            (some false).bind fun o37 => some (Fl.ret o37)
          else
            some (Fl.go ())
        else
          ((isA false false true false found).bind fun v39 => some (!v39)).bind fun v41 => if v41 = true then
            (some false).bind fun o40 => some (Fl.ret o40)
          else
            some (Fl.go ())).bind (flR (S := Unit) (R := Bool) (fun s9 =>
          (((((asT found).bind fun v10 => some (v10.l.length : Int)).bind fun v12 => ((asT due).bind fun v11 => some (v11.l.length : Int)).bind fun v13 => some (!decide (v12 = v13))).bind fun v23 => if v23 = true then
            some false
          else
            (((asT found).bind fun v15 => some v15.l).bind fun v17 => ((asT due).bind fun v16 => some v16.l).bind fun v18 => some (v17.zip v18)).bind fun v22 => (forF (R := Bool) v22 () (fun (x19 : An × An) (s14 : Unit) =>
              ((law_alike n_ x19.1 x19.2).bind fun v20 => some (!v20)).bind fun v21 => if v21 = true then
                some (Fl.ret false)
              else
                some (Fl.go ()))).bind (flR (fun s14 =>
              some true) id)).or
          ((((asLs found).bind fun v24 => some (v24.length : Int)).bind fun v26 => ((asLs due).bind fun v25 => some (v25.length : Int)).bind fun v27 => some (!decide (v26 = v27))).bind fun v35 => if v35 = true then
            some false
          else
            ((asLs found).bind fun v29 => (asLs due).bind fun v30 => some (v29.zip v30)).bind fun v34 => (forF (R := Bool) v34 () (fun (x31 : An × An) (s28 : Unit) =>
              ((law_alike n_ x31.1 x31.2).bind fun v32 => some (!v32)).bind fun v33 => if v33 = true then
                some (Fl.ret false)
              else
                some (Fl.go ()))).bind (flR (fun s28 =>
              some true) id)))) id)
def law (script : List Int) : Option Bool :=
  ((law_cell_at script 0).bind fun v1 => some (v1 % 7)).bind fun kind =>
  ((((law_cell_at script 1).bind fun v2 => (law_cell_at script 2).bind fun v3 => some (v2 + v3)).bind fun v4 => some (v4, (1, ()))).bind fun z5 => law_number z5.1 z5.2.1).bind fun cell =>
  (atI [(Str.ofString "cover"), (Str.ofString "touch"), (Str.ofString "round"), (Str.ofString "places"), (Str.ofString "benches"), (Str.ofString "bins"), (Str.ofString "sack")] kind).bind fun word =>
  ((((scrL (cutL script (some 3) none)).bind fun v6 => some (v6, (cell, ()))).bind fun r7 => some (kind, r7)).bind fun z8 => law_made z8.1 z8.2.1 z8.2.2.1).bind fun z9 =>
  (joinC (Str.ofString "\n") z9.a).bind fun text =>
  (read text).bind fun found =>
  ((law_alike 9 (ToAn.to (found : T3 Str Int ((Int × (List (Int × (List Int)))) ⊕ (((List Int) × (List (Int × Int))) ⊕ ((Tp (List (List Int))) ⊕ (((List (List Int)) × Int) ⊕ (((List Int) × Int) ⊕ ((Int × (List (Int × Int)))))))))) : An) (ToAn.to (T3.mk word z9.b z9.c : T3 Str Int ((Int × (List (Int × (List Int)))) ⊕ (((List Int) × (List (Int × Int))) ⊕ ((Tp (List (List Int))) ⊕ (((List (List Int)) × Int) ⊕ (((List Int) × Int) ⊕ ((Int × (List (Int × Int)))))))))) : An)).bind fun v10 => some (!v10)).bind fun v14 => if v14 = true then
    some false
  else
    (appAll (ToAn.to found.c)).bind fun _ =>
    (((read text).bind fun v11 => some (ToAn.to (v11 : T3 Str Int ((Int × (List (Int × (List Int)))) ⊕ (((List Int) × (List (Int × Int))) ⊕ ((Tp (List (List Int))) ⊕ (((List (List Int)) × Int) ⊕ (((List Int) × Int) ⊕ ((Int × (List (Int × Int)))))))))) : An)).bind fun v12 => some (v12, ((ToAn.to (T3.mk word z9.b z9.c : T3 Str Int ((Int × (List (Int × (List Int)))) ⊕ (((List Int) × (List (Int × Int))) ⊕ ((Tp (List (List Int))) ⊕ (((List (List Int)) × Int) ⊕ (((List Int) × Int) ⊕ ((Int × (List (Int × Int)))))))))) : An), ()))).bind fun z13 => law_alike 9 z13.1 z13.2.1
end M
namespace M
open PySem L2 GM
def SetOk (m : Nat) (s : Int × List Int) : Prop := (0 ≤ s.1 ∧ s.1 ≤ 1000000000000000000) ∧ s.2.Nodup ∧ ∀ t ∈ s.2, 0 ≤ t ∧ t < (m : Int)
structure SetsOk (m : Nat) (S : List (Int × List Int)) : Prop where
  m40 : m ≤ 40
  len : S.length ≤ 25
  ok : ∀ s ∈ S, SetOk m s
  cov : ∀ t : Int, 0 ≤ t → t < m → ∃ s ∈ S, t ∈ s.2
structure DK (m : Nat) (d : Dc Bool) : Prop where
  nd : (d.l.map (·.1)).Nodup
  rng : ∀ k ∈ d.l.map (·.1), 0 ≤ k ∧ k < (m : Int)
theorem DK.len {m : Nat} {d : Dc Bool} (h : DK m d) : d.l.length ≤ m := by
  have := nodup_le h.nd (B := irange 0 (m : Int)) fun k hk => mem_irange.mpr (h.rng k hk)
  rw [List.length_map, irange_len] at this
  omega
end M
namespace M
open PySem L2 GM
theorem set_len {m : Nat} {s : Int × List Int} (h : SetOk m s) : s.2.length ≤ m := by
  have := nodup_le h.2.1 (B := irange 0 (m : Int)) fun k hk => mem_irange.mpr (h.2.2 k hk)
  rw [irange_len] at this
  omega
end M
namespace M
open PySem L2 GM
theorem cell_eq (script : List Int) {k : Int} (h : 0 ≤ k) : ∃ c, law_cell_at script k = some c := by
  unfold law_cell_at
  by_cases q : k < (script.length : Int)
  · rw [if_pos (decide_eq_true q)]
    exact ⟨_, atI_some h q⟩
  · rw [if_neg (by simpa using q)]
    exact ⟨0, rfl⟩
theorem mapO_ex {α β : Type} {f : α → Option β} {p : β → Prop} : ∀ {xs : List α}, (∀ x ∈ xs, ∃ y, f x = some y ∧ p y) → ∃ ys, mapO xs f = some ys ∧ ys.length = xs.length ∧ ∀ y ∈ ys, p y
  | [], _ => ⟨[], rfl, rfl, fun y hy => absurd hy List.not_mem_nil⟩
  | x :: xs, h => by
    obtain ⟨y, e1, p1⟩ := h x List.mem_cons_self
    obtain ⟨ys, e2, l2, p2⟩ := mapO_ex (xs := xs) fun z hz => h z (List.mem_cons_of_mem _ hz)
    refine ⟨y :: ys, ?_, by rw [List.length_cons, List.length_cons, l2], fun z hz => ?_⟩
    · unfold mapO
      rw [e1, e2]; rfl
    · rcases List.mem_cons.mp hz with rfl | hz
      · exact p1
      · exact p2 z hz
def mx (D : List (List Int)) (i j : Int) : Int := at0 ((D[i.toNat]?).getD []) j
structure Sq (D : List (List Int)) (n : Nat) : Prop where
  len : D.length = n
  row : ∀ r ∈ D, r.length = n
theorem Sq.rowI {D : List (List Int)} {n : Nat} (h : Sq D n) {i : Int} (i0 : 0 ≤ i) (i1 : i < n) : ∃ r, atI D i = some r ∧ r.length = n ∧ D[i.toNat]? = some r := by
  have hl : i < D.length := by rw [h.len]; exact i1
  refine ⟨D[i.toNat]'(by omega), atI_some i0 hl, h.row _ (List.getElem_mem _), List.getElem?_eq_getElem _⟩
theorem Sq.at2 {D : List (List Int)} {n : Nat} (h : Sq D n) {i j : Int} (i0 : 0 ≤ i) (i1 : i < n) (j0 : 0 ≤ j) (j1 : j < n) : ((atI D i).bind fun r => atI r j) = some (mx D i j) := by
  obtain ⟨r, e1, e2, e3⟩ := h.rowI i0 i1
  rw [e1, obs, atI_at0 j0 (by omega)]
  unfold mx
  rw [e3]; rfl
structure LenOk (D : List (List Int)) (n : Nat) : Prop where
  sq : Sq D n
  n1 : 1 ≤ n
  n12 : n ≤ 12
  rng : ∀ i j : Int, 0 ≤ i → i < n → 0 ≤ j → j < n → 0 ≤ mx D i j ∧ mx D i j ≤ 2000000000000000000
  sym : ∀ i j : Int, 0 ≤ i → i < n → 0 ≤ j → j < n → mx D i j = mx D j i
  zero : ∀ i : Int, 0 ≤ i → i < n → mx D i i = 0
  tri : ∀ i j k : Int, 0 ≤ i → i < n → 0 ≤ j → j < n → 0 ≤ k → k < n → mx D i j ≤ mx D i k + mx D k j
def ab (x y : Int) : Int := if x - y < 0 then -(x - y) else x - y
theorem ab_zero (x : Int) : ab x x = 0 := by unfold ab; split <;> omega
theorem ab_sym (x y : Int) : ab x y = ab y x := by unfold ab; split <;> split <;> omega
theorem ab_tri (x y z : Int) : ab x y ≤ ab x z + ab z y := by unfold ab; split <;> split <;> split <;> omega
theorem ab_rng {x y t : Int} (x0 : 0 ≤ x) (x1 : x ≤ t) (y0 : 0 ≤ y) (y1 : y ≤ t) : 0 ≤ ab x y ∧ ab x y ≤ t := by unfold ab; split <;> omega
def gd (p q : Int × Int) : Int := ab p.1 q.1 + ab p.2 q.2
theorem mx_map {n : Nat} (S : List (Int × Int)) (hS : S.length = n) {i j : Int} (i0 : 0 ≤ i) (i1 : i < n) (j0 : 0 ≤ j) (j1 : j < n) : mx (S.map fun p => S.map (gd p)) i j = gd ((S[i.toNat]?).getD (0, 0)) ((S[j.toNat]?).getD (0, 0)) := by
  unfold mx at0
  rw [List.getElem?_map, List.getElem?_eq_getElem (show i.toNat < S.length by omega)]
  show ((S.map _)[j.toNat]?).getD 0 = _
  rw [List.getElem?_map, List.getElem?_eq_getElem (show j.toNat < S.length by omega)]; rfl
theorem look_eq {D : List (List Int)} {n : Nat} (L : LenOk D n) : look_at D = some () := by
  have alike : ∀ i j : Int, 0 ≤ i → i < n → 0 ≤ j → j < n → alike_both_ways D i j = some true := fun i j i0 i1 j0 j1 => by
    unfold alike_both_ways
    by_cases e : i = j
    · subst e
      rw [if_pos (decide_eq_true rfl), L.sq.at2 i0 i1 i0 i1, obs, L.zero i i0 i1]; rfl
    · rw [if_neg (by simpa using e), L.sq.at2 i0 i1 j0 j1, obs, L.sq.at2 j0 j1 i0 i1, obs, L.sym i j i0 i1 j0 j1, decide_eq_true rfl]
  have least : ∀ i j : Int, 0 ≤ i → i < n → 0 ≤ j → j < n → straight_is_least D i j = some true := fun i j i0 i1 j0 j1 => by
    unfold straight_is_least
    rw [L.sq.len, forF_all (s := ()) fun k hk => ?_]
    · rfl
    · rw [mem_irange] at hk
      have := L.tri i j k i0 i1 j0 j1 hk.1 hk.2
      rw [L.sq.at2 i0 i1 hk.1 hk.2, obs, L.sq.at2 hk.1 hk.2 j0 j1, obs, obs, L.sq.at2 i0 i1 j0 j1, obs, obs, ite_f (decide_eq_false (by omega))]
  unfold look_at
  rw [L.sq.len]
  obtain ⟨_, e, _⟩ := forS_rng (f := fun (one : Int) (s1 : Unit) =>
    (forS (irange 0 (n : Int)) () (fun (other : Int) (s2 : Unit) =>
      (((alike_both_ways D one other).bind fun v3 => some (!v3)).bind fun v5 => if v5 = true then some true else (straight_is_least D one other).bind fun v4 => some (!v4)).bind fun v6 => if v6 = true then
        (none : Option (Unit))
      else
        some ())).bind fun s2 =>
    some ()) (fun _ _ => True) n () trivial fun i hi _ _ => by
    obtain ⟨_, e, _⟩ := forS_rng (f := fun (other : Int) (s2 : Unit) =>
      (((alike_both_ways D i other).bind fun v3 => some (!v3)).bind fun v5 => if v5 = true then some true else (straight_is_least D i other).bind fun v4 => some (!v4)).bind fun v6 => if v6 = true then
        (none : Option (Unit))
      else
        some ()) (fun _ _ => True) n () trivial fun j hj _ _ => by
      rw [alike i j (by omega) (by omega) (by omega) (by omega), least i j (by omega) (by omega) (by omega) (by omega)]
      exact ⟨(), rfl, trivial⟩
    rw [e]
    exact ⟨(), rfl, trivial⟩
  rw [e]; rfl
end M
namespace M
open PySem L2 GM
theorem number_eq (c : Int) {k : Int} (h0 : 0 ≤ k) (h1 : k ≤ 1000) : ∃ v, law_number c k = some v ∧ 0 ≤ v ∧ v < 2147483647 := by
  have sk : Sm 20 k := Sm.of 20 1000 (by decide) (by omega) (by omega)
  have kk : 0 ≤ k * k := Int.mul_nonneg h0 h0
  have kl : k * k ≤ 1000 * 1000 := Int.mul_le_mul h1 h1 h0 (by decide)
  have c0 := Int.emod_nonneg c (show (100000000000000 : Int) ≠ 0 by decide)
  have c1 := Int.emod_lt_of_pos c (show (0 : Int) < 100000000000000 by decide)
  unfold law_number
  rw [mulC_eq sk sk, obs, obs, obs, mulC_eq (m := 80) (n := 80) (Sm.of 80 100000000000001000003 (by decide) (by omega) (by omega)) (Sm.of 80 100000 (by decide) (by omega) (by omega)), obs]
  exact ⟨_, rfl, Int.emod_nonneg _ (by decide), Int.emod_lt_of_pos _ (by decide)⟩
theorem between_eq {S : List (Int × Int)} {n : Nat} (hS : S.length = n) (n12 : n ≤ 12) {l : Int} (l0 : 1 ≤ l) {i j : Int} (i0 : 0 ≤ i) (ij : i < j) (j1 : j < n) : ∃ v, law_between S i j l = some v ∧ law_between S j i l = some v ∧ l ≤ v ∧ v ≤ 2 * l := by
  have ei : atI S i = some (S[i.toNat]'(by omega)) := atI_some i0 (by omega)
  have ej : atI S j = some (S[j.toNat]'(by omega)) := atI_some (by omega) (by omega)
  have ml : mulC i j = some (i * j) := mulC_eq (m := 20) (n := 20) (Sm.of 20 1000 (by decide) (by omega) (by omega)) (Sm.of 20 1000 (by decide) (by omega) (by omega))
  unfold law_between
  rw [ite_f (decide_eq_false (show ¬ i = j by omega)), ite_f (decide_eq_false (show ¬ j = i by omega))]
  dsimp only
  rw [if_neg (show ¬ j < i by omega), if_pos (show j > i by omega), if_pos ij, if_neg (show ¬ i > j by omega), ei, ej, ml]
  simp only [obs]
  rw [modC_eq (by omega)]
  simp only [obs]
  generalize (S[i.toNat]'(by omega)).2 + 7 * (S[j.toNat]'(by omega)).1 + i * j = u
  have a0 := Int.emod_nonneg u (show l + 1 ≠ 0 by omega)
  have a1 := Int.emod_lt_of_pos u (show 0 < l + 1 by omega)
  exact ⟨_, rfl, rfl, by omega, by omega⟩
theorem mx_mm {n : Nat} (B : Int → Int → Int) {i j : Int} (i0 : 0 ≤ i) (i1 : i < n) (j0 : 0 ≤ j) (j1 : j < n) : mx ((irange 0 (n : Int)).map fun i => (irange 0 (n : Int)).map fun j => B i j) i j = B i j := by
  obtain ⟨a, rfl⟩ := Int.eq_ofNat_of_zero_le i0
  obtain ⟨b, rfl⟩ := Int.eq_ofNat_of_zero_le j0
  unfold mx at0
  rw [Int.toNat_natCast, Int.toNat_natCast, List.getElem?_map, List.getElem?_eq_getElem (l := irange 0 (n : Int)) (i := a) (by rw [irange_len]; omega), irange_at]
  show ((List.map _ (irange 0 (n : Int)))[b]?).getD 0 = _
  rw [List.getElem?_map, List.getElem?_eq_getElem (l := irange 0 (n : Int)) (i := b) (by rw [irange_len]; omega), irange_at]; rfl
theorem lengths_eq (cells : List Int) {n : Nat} (n1 : 1 ≤ n) (n12 : n ≤ 12) (way : Int) : ∃ D, law_lengths cells n way = some D ∧ LenOk D n ∧ ∀ i j : Int, 0 ≤ i → i < n → 0 ≤ j → j < n → mx D i j < 1000000000000 := by
  unfold law_lengths
  dsimp only
  rw [rngC_eq (by omega) (by omega) (by omega) (by omega), obs]
  obtain ⟨S, eS, lS, pS⟩ := forS_rng (f := fun (k : Int) (s1 : (List (Int × Int))) =>
    (((law_cell_at cells k).bind fun v2 => some (v2, (k + 300, ()))).bind fun z3 => law_number z3.1 z3.2.1).bind fun number_here =>
    (atI [3, 50, 100000, 100000000000] (number_here % 4)).bind fun reach =>
    (((modC ((number_here / 4) * 48271) reach).bind fun v5 => ((modC ((((number_here / 4) * 69621) % 2147483629) * 40692) reach).bind fun v4 => some (v4, (()))).bind fun r6 => some (v5, r6)).bind fun z7 => some (z7.1, z7.2.1)).bind fun v8 => (appC s1 v8).bind fun spots =>
    some spots) (fun k s => s.length = k ∧ ∀ p ∈ s, 0 ≤ p.1 ∧ p.1 ≤ 100000000000 ∧ 0 ≤ p.2 ∧ p.2 ≤ 100000000000) n [] ⟨rfl, fun p hp => absurd hp List.not_mem_nil⟩ fun k hk s ⟨s1, s2⟩ => by
    obtain ⟨c, ec⟩ := cell_eq cells (show (0 : Int) ≤ (k : Int) by omega)
    obtain ⟨v, ev, v0, v1⟩ := number_eq c (k := (k : Int) + 300) (by omega) (by omega)
    rw [ec, obs, obs, ev, obs]
    have hr : ∃ t : Int, atI [3, 50, 100000, 100000000000] (v % 4) = some t ∧ 0 < t ∧ t ≤ 100000000000 := by
      have h : v % 4 = 0 ∨ v % 4 = 1 ∨ v % 4 = 2 ∨ v % 4 = 3 := by omega
      rcases h with h | h | h | h <;> rw [h]
      · exact ⟨_, rfl, by omega, by omega⟩
      · exact ⟨_, rfl, by omega, by omega⟩
      · exact ⟨_, rfl, by omega, by omega⟩
      · exact ⟨_, rfl, by omega, by omega⟩
    obtain ⟨t, et, t0, t1⟩ := hr
    rw [et, obs, modC_eq t0, modC_eq t0]
    simp only [obs]
    rw [appC_eq (by omega), obs]
    refine ⟨_, rfl, by rw [List.length_append, List.length_singleton]; omega, fun p hp => ?_⟩
    rcases List.mem_append.mp hp with hp | hp
    · exact s2 p hp
    · rw [List.mem_singleton.mp hp]
      have a0 := Int.emod_nonneg (v / 4 * 48271) (show t ≠ 0 by omega)
      have a1 := Int.emod_lt_of_pos (v / 4 * 48271) t0
      have b0 := Int.emod_nonneg (v / 4 * 69621 % 2147483629 * 40692) (show t ≠ 0 by omega)
      have b1 := Int.emod_lt_of_pos (v / 4 * 69621 % 2147483629 * 40692) t0
      exact ⟨a0, by show _ % _ ≤ _; omega, b0, by show _ % _ ≤ _; omega⟩
  rw [eS, obs]
  have pt : ∀ i : Int, 0 ≤ i → i < n → 0 ≤ ((S[i.toNat]?).getD (0, 0)).1 ∧ ((S[i.toNat]?).getD (0, 0)).1 ≤ 100000000000 ∧ 0 ≤ ((S[i.toNat]?).getD (0, 0)).2 ∧ ((S[i.toNat]?).getD (0, 0)).2 ≤ 100000000000 := fun i i0 i1 => by
    rw [List.getElem?_eq_getElem (show i.toNat < S.length by omega)]
    exact pS _ (List.getElem_mem _)
  by_cases w : way % 3 = 0
  · rw [ite_t (decide_eq_true w), atI_some (xs := S) (i := 0) (by decide) (by omega), obs, obs, obs]
    have p0 := pS _ (List.getElem_mem (l := S) (n := (0 : Int).toNat) (by show 0 < S.length; omega))
    have p0' : 1 ≤ 1 + (S[(0 : Int).toNat]'(by show 0 < S.length; omega)).1 ∧ 1 + (S[(0 : Int).toNat]'(by show 0 < S.length; omega)).1 ≤ 100000000001 := by omega
    generalize 1 + (S[(0 : Int).toNat]'(by show 0 < S.length; omega)).1 = l at *
    have l0 : 1 ≤ l ∧ l ≤ 100000000001 := p0'
    have bt : ∀ i j : Int, 0 ≤ i → i < n → 0 ≤ j → j < n → ∃ v, law_between S i j l = some v ∧ law_between S j i l = some v ∧ 0 ≤ v ∧ v ≤ 2 * l ∧ (i ≠ j → l ≤ v) ∧ (i = j → v = 0) := fun i j i0 i1 j0 j1 => by
      rcases Int.lt_trichotomy i j with h | h | h
      · obtain ⟨v, e1, e2, e3, e4⟩ := between_eq lS n12 l0.1 i0 h j1
        exact ⟨v, e1, e2, by omega, e4, fun _ => e3, fun z => by omega⟩
      · subst h
        refine ⟨0, ?_, ?_, by omega, by omega, fun z => absurd rfl z, fun _ => rfl⟩ <;>
        · unfold law_between
          rw [ite_t (decide_eq_true rfl)]
      · obtain ⟨v, e1, e2, e3, e4⟩ := between_eq lS n12 l0.1 j0 h i1
        exact ⟨v, e2, e1, by omega, e4, fun _ => e3, fun z => by omega⟩
    let B : Int → Int → Int := fun i j => (law_between S i j l).getD 0
    have Bv : ∀ i j : Int, 0 ≤ i → i < n → 0 ≤ j → j < n → law_between S i j l = some (B i j) ∧ B i j = B j i ∧ 0 ≤ B i j ∧ B i j ≤ 2 * l ∧ (i ≠ j → l ≤ B i j) ∧ (i = j → B i j = 0) := fun i j i0 i1 j0 j1 => by
      obtain ⟨v, e1, e2, e3, e4, e5, e6⟩ := bt i j i0 i1 j0 j1
      have b1 : B i j = v := by show (law_between S i j l).getD 0 = v; rw [e1]; rfl
      have b2 : B j i = v := by show (law_between S j i l).getD 0 = v; rw [e2]; rfl
      rw [b1, b2]
      exact ⟨e1, rfl, e3, e4, e5, e6⟩
    simp only [obs]
    rw [mapO_eq (g := fun i => (irange 0 (n : Int)).map fun j => B i j) fun i hi => by
      rw [mem_irange] at hi
      exact mapO_eq (g := fun j => B i j) fun j hj => by
        rw [mem_irange] at hj
        exact (Bv i j hi.1 hi.2 hj.1 hj.2).1]
    refine ⟨_, rfl, ⟨⟨by rw [List.length_map, irange_len]; omega, fun r hr => ?_⟩, n1, n12, fun i j i0 i1 j0 j1 => ?_, fun i j i0 i1 j0 j1 => ?_, fun i i0 i1 => ?_, fun i j k i0 i1 j0 j1 k0 k1 => ?_⟩, fun i j i0 i1 j0 j1 => by
      rw [mx_mm B i0 i1 j0 j1]
      have := Bv i j i0 i1 j0 j1
      omega⟩
    · obtain ⟨p, _, rfl⟩ := List.mem_map.mp hr
      rw [List.length_map, irange_len]; omega
    · rw [mx_mm B i0 i1 j0 j1]
      have := Bv i j i0 i1 j0 j1
      omega
    · rw [mx_mm B i0 i1 j0 j1, mx_mm B j0 j1 i0 i1]
      exact (Bv i j i0 i1 j0 j1).2.1
    · rw [mx_mm B i0 i1 i0 i1]
      exact (Bv i i i0 i1 i0 i1).2.2.2.2.2 rfl
    · rw [mx_mm B i0 i1 j0 j1, mx_mm B i0 i1 k0 k1, mx_mm B k0 k1 j0 j1]
      obtain ⟨_, _, a1, a2, a3, a4⟩ := Bv i j i0 i1 j0 j1
      obtain ⟨_, _, b1, b2, b3, b4⟩ := Bv i k i0 i1 k0 k1
      obtain ⟨_, _, c1, c2, c3, c4⟩ := Bv k j k0 k1 j0 j1
      by_cases h1 : i = j
      · have := a4 h1; omega
      · by_cases h2 : i = k
        · subst h2; omega
        · by_cases h3 : k = j
          · subst h3; omega
          · have := b3 h2
            have := c3 h3
            omega
  · rw [ite_f (decide_eq_false w)]
    show ∃ D, some (S.map fun p => S.map (gd p)) = some D ∧ LenOk D n ∧ _
    refine ⟨_, rfl, ⟨⟨by rw [List.length_map]; exact lS, fun r hr => ?_⟩, n1, n12, fun i j i0 i1 j0 j1 => ?_, fun i j i0 i1 j0 j1 => ?_, fun i i0 i1 => ?_, fun i j k i0 i1 j0 j1 k0 k1 => ?_⟩, fun i j i0 i1 j0 j1 => by
      rw [mx_map S lS i0 i1 j0 j1]
      obtain ⟨a1, a2, a3, a4⟩ := pt i i0 i1
      obtain ⟨b1, b2, b3, b4⟩ := pt j j0 j1
      have := ab_rng a1 a2 b1 b2
      have := ab_rng a3 a4 b3 b4
      unfold gd
      omega⟩
    · obtain ⟨p, _, rfl⟩ := List.mem_map.mp hr
      rw [List.length_map]; exact lS
    · rw [mx_map S lS i0 i1 j0 j1]
      obtain ⟨a1, a2, a3, a4⟩ := pt i i0 i1
      obtain ⟨b1, b2, b3, b4⟩ := pt j j0 j1
      have := ab_rng a1 a2 b1 b2
      have := ab_rng a3 a4 b3 b4
      unfold gd
      omega
    · rw [mx_map S lS i0 i1 j0 j1, mx_map S lS j0 j1 i0 i1]
      unfold gd
      rw [ab_sym, ab_sym (Prod.snd _)]
    · rw [mx_map S lS i0 i1 i0 i1]
      unfold gd
      rw [ab_zero, ab_zero]; rfl
    · rw [mx_map S lS i0 i1 j0 j1, mx_map S lS i0 i1 k0 k1, mx_map S lS k0 k1 j0 j1]
      unfold gd
      have h1 := ab_tri ((S[i.toNat]?).getD (0, 0)).1 ((S[j.toNat]?).getD (0, 0)).1 ((S[k.toNat]?).getD (0, 0)).1
      have h2 := ab_tri ((S[i.toNat]?).getD (0, 0)).2 ((S[j.toNat]?).getD (0, 0)).2 ((S[k.toNat]?).getD (0, 0)).2
      omega
end M
namespace GM
open PySem L2 TL
/-- the text of these signs -/
def Sx (l : List Nat) : Str := ⟨l.toArray⟩
theorem tl_Sx (l : List Nat) : tl (Sx l) = l := rfl
theorem Sx_tl (x : Str) : Sx (tl x) = x := mk_tl x
theorem num_Sx {n : Int} (h : 0 ≤ n) : (toString n : Str) = Sx (numL n.toNat) := by
  obtain ⟨m, rfl⟩ := Int.eq_ofNat_of_zero_le h
  exact ext_tl (tl_num m)
theorem strI_eq {n : Int} (h : 0 ≤ n) (hs : Sm 1900 n) : strI n = some (Sx (numL n.toNat)) := by
  unfold strI
  rw [if_pos (Nat.lt_of_lt_of_le (hs.log (by decide)) (by decide)), num_Sx h]
theorem app_Sx (a b : List Nat) : Sx a ++ Sx b = Sx (a ++ b) := ext_tl (by rw [tl_append, tl_Sx, tl_Sx, tl_Sx])
theorem Sx_len (a : List Nat) : (Sx a).length = a.length := by rw [len_tl, tl_Sx]
theorem catS_eq {a b : List Nat} (h : a.length + b.length ≤ 16777216) : catS (Sx a) (Sx b) = some (Sx (a ++ b)) := by
  unfold catS
  rw [Sx_len, Sx_len, sizeLine_eq, if_pos h, app_Sx]
theorem lenS_eq {a : List Nat} (h : a.length ≤ 16777216) : lenS (Sx a) = some (a.length : Int) := by
  unfold lenS
  rw [Sx_len, sizeLine_eq, if_pos h]
theorem signsC_eq {a : List Nat} (h : a.length ≤ 16777216) : signsC (Sx a) = some (a.map fun c => Sx [c]) := by
  unfold signsC
  rw [if_pos (by rw [sizeLine_eq]; simpa [Sx] using h)]
  rfl
theorem ixS0_eq {c : Nat} {a : List Nat} (h : a.length < 16777216) : ixS (Sx (c :: a)) 0 = some (Sx [c]) := by
  unfold ixS
  rw [Sx_len, sizeLine_eq, if_pos (by rw [List.length_cons]; omega), atI_some (by decide) (by rw [show (Sx (c :: a)).cps.toList = c :: a from rfl, List.length_cons]; omega)]
  rfl
theorem Sx_inj {a b : List Nat} : Sx a = Sx b ↔ a = b := ⟨fun h => by have := congrArg tl h; exact this, fun h => by rw [h]⟩
theorem inS_one (a : List Nat) (c : Nat) : inS (Sx [c]) (Sx a) = decide (c ∈ a) := PySem.StrLaws.found_one (Sx a) c
theorem intS_eq {a : List Nat} (h : NumText.AllDigits a) (h1 : a ≠ []) (h2 : a.length ≤ 640) : intS (Sx a) = some ((NumText.digitsVal a : Nat) : Int) := by
  unfold intS
  rw [Sx_len, if_pos h2]
  exact PySem.intText_digits (x := Sx a) h h1 (by rw [Sx_len]; omega)
/-- what stands before the first stroke, and behind it -/
theorem partC_eq {s : Nat} {a : List Nat} (hs : s < 256) (h : a.length ≤ 16777216) : partC (Sx a) (Sx [s]) = some (match par [s] [] a with | some (x, y) => ⟨Sx x, Sx [s], Sx y⟩ | none => ⟨Sx a, Sx [], Sx []⟩) := by
  unfold partC
  rw [if_pos ⟨by rw [Sx_len]; rfl, by rw [Sx_len, sizeLine_eq]; exact h⟩, partition_par _ _ (by rw [tl_Sx]; exact List.cons_ne_nil _ _), tl_Sx, tl_Sx]
  cases q : par [s] [] a with
  | none => rfl
  | some z => obtain ⟨x, y⟩ := z; rfl
theorem par_none_of {s : Nat} {a : List Nat} (h : s ∉ a) : par [s] [] a = none := par_none1 h
theorem par_some_of {s : Nat} {a b : List Nat} (h : s ∉ a) : par [s] [] (a ++ s :: b) = some (a, b) := by
  have := par_part1 (s := s) (S := []) (p := a) (rest := b) (acc := []) h
  rw [List.nil_append] at this
  exact this
/-- cut at each s -/
def cuts (s : Nat) (a : List Nat) : List (List Nat) := spl [s] 0 [] a
theorem map_Sx_tl : ∀ l : List Str, (l.map tl).map Sx = l
  | [] => rfl
  | x :: l => by rw [List.map_cons, List.map_cons, map_Sx_tl l, Sx_tl]
theorem split_cuts (s : Nat) (hs : s < 256) (a : List Nat) : Txt.split (Sx a) (Sx [s]) = (cuts s a).map Sx := by
  have h := split_spl (Sx a) (Sx [s]) (by rw [tl_Sx]; exact List.cons_ne_nil _ _) (kind_ok (by
    show (#[s] : Array Nat).all (· < 256) = true
    simpa using hs))
  rw [tl_Sx, tl_Sx] at h
  rw [← map_Sx_tl (Txt.split (Sx a) (Sx [s])), h]
  rfl
theorem cuts_len (s : Nat) : ∀ (a acc : List Nat), (spl [s] 0 acc a).length ≤ a.length + 1
  | [], acc => by rw [spl_nil]; simp
  | c :: a, acc => by
    cases h : pre [s] (c :: a) with
    | true =>
      rw [spl_hit h]
      have := cuts_len s a []
      show (acc :: spl [s] 0 [] a).length ≤ _
      rw [List.length_cons, List.length_cons]; omega
    | false =>
      rw [spl_miss h]
      have := cuts_len s a (acc ++ [c])
      rw [List.length_cons]; omega
theorem splitC_eq {s : Nat} {a : List Nat} (hs : s < 256) (h : a.length ≤ 16000000) : splitC (Sx a) (Sx [s]) = some ((cuts s a).map Sx) := by
  unfold splitC
  rw [split_cuts s hs, if_pos ⟨by rw [Sx_len]; rfl, by rw [Sx_len, sizeLine_eq]; omega, by
    rw [List.length_map, sizeLine_eq]
    have := cuts_len s a []
    unfold cuts
    omega⟩]
/-- joined with s between -/
abbrev joinS (s : Nat) (l : List (List Nat)) : List Nat := joinL [s] l
theorem joinC_eq {s : Nat} {l : List (List Nat)} (h : (l.map List.length).sum + l.length ≤ 16777216) : joinC (Sx [s]) (l.map Sx) = some (Sx (joinS s l)) := by
  unfold joinC
  rw [List.map_map, List.length_map, Sx_len, if_pos (by
    have e : (l.map ((fun x => x.length) ∘ Sx)) = l.map List.length := List.map_congr_left fun x _ => Sx_len x
    rw [e]
    simpa using h)]
  congr 1
  refine ext_tl ?_
  rw [join_eq, tl_join, tl_Sx, tl_Sx, List.map_map]
  have e : (l.map (tl ∘ Sx)) = l := by
    conv => rhs; rw [← List.map_id l]
    exact List.map_congr_left fun x _ => rfl
  rw [e]
theorem cuts_join {s : Nat} {l : List (List Nat)} (h : l ≠ []) (hp : ∀ p ∈ l, s ∉ p) : cuts s (joinS s l) = l := spl_join h hp
theorem joinS_len (s : Nat) : ∀ l : List (List Nat), (joinS s l).length ≤ (l.map List.length).sum + l.length
  | [] => Nat.zero_le _
  | [p] => by show p.length ≤ _; simp
  | p :: q :: r => by
    have h : (joinL [s] (q :: r)).length ≤ _ := joinS_len s (q :: r)
    show (p ++ ([s] ++ joinL [s] (q :: r))).length ≤ _
    rw [List.length_append, List.length_append, List.map_cons, List.sum_cons, List.length_cons (a := p)]
    simp only [List.length_cons, List.length_nil] at h ⊢
    omega
theorem joinS_mem {s : Nat} {c : Nat} : ∀ {l : List (List Nat)}, c ∈ joinS s l → c = s ∨ ∃ p ∈ l, c ∈ p
  | [], h => absurd h List.not_mem_nil
  | [p], h => .inr ⟨p, List.mem_singleton.mpr rfl, h⟩
  | p :: q :: r, h => by
    have h : c ∈ p ++ ([s] ++ joinL [s] (q :: r)) := h
    rcases List.mem_append.mp h with h | h
    · exact .inr ⟨p, List.mem_cons_self, h⟩
    · rcases List.mem_append.mp h with h | h
      · exact .inl (List.mem_singleton.mp h)
      · rcases joinS_mem (l := q :: r) h with h | ⟨p', h1, h2⟩
        · exact .inl h
        · exact .inr ⟨p', List.mem_cons_of_mem _ h1, h2⟩
/-- the number that these signs write, from a to b -/
def numV (l : List Nat) (a b : Int) : Option Int :=
  if l = [] ∨ 12 < l.length ∨ (l.head? = some 48 ∧ 1 < l.length) ∨ ¬ (∀ c ∈ l, 48 ≤ c ∧ c ≤ 57) then none
  else if ((NumText.digitsVal l : Nat) : Int) < a ∨ b < ((NumText.digitsVal l : Nat) : Int) then none else some ((NumText.digitsVal l : Nat) : Int)
/-- the amount that they write -/
def amV (l : List Nat) : Option (Int × Int) :=
  match par [47] [] l with
  | none => (numV l 0 1000000000000).map fun n => (n, 1)
  | some (x, y) => match numV x 0 1000000000000, numV y 2 12 with
    | some n, some u => if Int.gcd n u = 1 then some (n, u) else none
    | _, _ => none
theorem digit_mem {c : Nat} : c ∈ ([48, 49, 50, 51, 52, 53, 54, 55, 56, 57] : List Nat) ↔ 48 ≤ c ∧ c ≤ 57 := by
  simp only [List.mem_cons, List.not_mem_nil, or_false]
  omega
theorem figures_Sx : Str.ofString "0123456789" = Sx [48, 49, 50, 51, 52, 53, 54, 55, 56, 57] := by decide +kernel
theorem numL_head : ∀ {n : Nat}, (numL n).head? = some 48 → (numL n).length = 1 := by
  intro n
  induction n using Nat.strongRecOn with
  | _ n ih =>
    intro h
    by_cases q : n < 10
    · rw [numL_lt q]; rfl
    · exfalso
      rw [numL_step (by omega)] at h
      have hne := numL_ne (n / 10)
      cases e : numL (n / 10) with
      | nil => exact hne e
      | cons c l =>
        rw [e] at h
        have h' : c = 48 := by simpa using h
        have l1 := ih (n / 10) (by omega) (by rw [e, h']; rfl)
        have v := numL_val (n / 10)
        rw [e] at l1 v
        have : l = [] := by
          rw [List.length_cons] at l1
          exact List.length_eq_zero_iff.mp (by omega)
        rw [this, h'] at v
        have : n / 10 = 0 := by rw [← v]; decide
        omega
theorem numV_num {n : Nat} {a b : Int} (h : n < 10 ^ 12) (ha : a ≤ n) (hb : (n : Int) ≤ b) : numV (numL n) a b = some (n : Int) := by
  unfold numV
  rw [if_neg, if_neg, numL_val]
  · rw [numL_val]; omega
  · have l1 := numL_len (k := 12) (by decide) h
    rintro (z | z | z | z)
    · exact numL_ne n z
    · omega
    · have := numL_head z.1; omega
    · exact z (numL_digits n)
/-- an amount as it is written -/
def amL (z : Int × Int) : List Nat := if z.2 = 1 then numL z.1.toNat else numL z.1.toNat ++ 47 :: numL z.2.toNat
structure Am (z : Int × Int) : Prop where
  t0 : 0 ≤ z.1
  t1 : z.1 < 1000000000000
  b0 : 1 ≤ z.2
  b1 : z.2 ≤ 12
  g : Int.gcd z.1 z.2 = 1
theorem amV_amL {z : Int × Int} (h : Am z) : amV (amL z) = some z := by
  obtain ⟨t, b⟩ := z
  obtain ⟨h1, h2, h3, h4, h5⟩ := h
  dsimp only at h1 h2 h3 h4 h5
  unfold amV amL
  dsimp only
  by_cases q : b = 1
  · rw [if_pos q, par_none_of (numL_free (.inl (by decide)))]
    show (numV (numL t.toNat) 0 1000000000000).map _ = _
    rw [numV_num (by omega) (by omega) (by omega)]
    show some ((t.toNat : Int), (1 : Int)) = _
    rw [q, Int.toNat_of_nonneg h1]
  · rw [if_neg q, par_some_of (numL_free (.inl (by decide)))]
    show (match numV (numL t.toNat) 0 1000000000000, numV (numL b.toNat) 2 12 with
    | some n, some u => if Int.gcd n u = 1 then some (n, u) else none
    | _, _ => none) = _
    rw [numV_num (by omega) (by omega) (by omega), numV_num (by omega) (by omega) (by omega)]
    show (if Int.gcd (t.toNat : Int) (b.toNat : Int) = 1 then some ((t.toNat : Int), (b.toNat : Int)) else none) = _
    rw [Int.toNat_of_nonneg h1, Int.toNat_of_nonneg (by omega), if_pos h5]
theorem amL_free {z : Int × Int} {s : Nat} (h : s < 47) : s ∉ amL z := by
  unfold amL
  split
  · exact numL_free (.inl (by omega))
  · intro q
    rcases List.mem_append.mp q with q | q
    · exact numL_free (.inl (by omega)) q
    · rcases List.mem_cons.mp q with q | q
      · omega
      · exact numL_free (.inl (by omega)) q
theorem amL_len {z : Int × Int} (h : Am z) : (amL z).length ≤ 15 := by
  have h1 := h.t0
  have h2 := h.t1
  have h3 := h.b0
  have h4 := h.b1
  have l1 := numL_len (n := z.1.toNat) (k := 12) (by decide) (by omega)
  have l2 := numL_len (n := z.2.toNat) (k := 2) (by decide) (by omega)
  unfold amL
  split
  · omega
  · rw [List.length_append, List.length_cons]; omega
end GM
namespace M
open PySem L2 GM
theorem common_factor_eq {h l : Int} (h0 : 0 ≤ h) (l0 : 0 ≤ l) (ls : Sm 3000 l) : common_factor h l = some ((Int.gcd h l : Nat) : Int) := by
  obtain ⟨s, h1, ⟨i1, i2, i3⟩, h2⟩ := whileS_spec (S := Int × Int) (c := fun s1 => some (decide (0 < s1.2))) (f := fun s1 =>
    (((modC s1.1 s1.2).bind fun v2 => some (v2, (()))).bind fun r3 => some (s1.2, r3)).bind fun z4 => some (z4.1, z4.2.1)) (fun s => 0 ≤ s.1 ∧ 0 ≤ s.2 ∧ Int.gcd s.1 s.2 = Int.gcd h l) (fun s => s.2.toNat) (fun s ⟨i1, i2, i3⟩ => by
      refine ⟨_, rfl, fun hb => ?_⟩
      have hp : 0 < s.2 := of_decide_eq_true hb
      refine ⟨(s.2, s.1 % s.2), by rw [modC_eq hp]; rfl, ⟨i2, Int.emod_nonneg _ (by omega), ?_⟩, ?_⟩
      · rw [gcd_step]; exact i3
      · have := Int.emod_lt_of_pos s.1 hp
        have := Int.emod_nonneg s.1 (show s.2 ≠ 0 by omega)
        show (s.1 % s.2).toNat < s.2.toNat
        omega) FU (h, l) ⟨h0, l0, rfl⟩ (lt_FU (by
          unfold Sm at ls
          show l.toNat < _
          omega))
  have z : s.2 = 0 := by
    have := of_decide_eq_false (Option.some.inj h2)
    omega
  unfold common_factor
  rw [h1]
  show some s.1 = _
  rw [← i3, z, Int.gcd_zero_right]
  congr 1
  omega
end M
namespace M
open PySem L2 GM
theorem empty_Sx : Str.ofString "" = Sx [] := rfl
theorem zero_Sx : Str.ofString "0" = Sx [48] := by decide +kernel
theorem stroke_Sx : Str.ofString "/" = Sx [47] := by decide +kernel
theorem numV_bnd {l : List Nat} {a b n : Int} (h : numV l a b = some n) : a ≤ n ∧ n ≤ b ∧ 0 ≤ n := by
  unfold numV at h
  split at h
  · cases h
  · split at h
    · cases h
    · cases h; omega
theorem number_in_eq {l : List Nat} {a b : Int} (h : l.length ≤ 16000000) : number_in (Sx l) a b = some (numV l a b) := by
  unfold number_in
  cases l with
  | nil => rfl
  | cons c l =>
    have hl : l.length + 1 ≤ 16000000 := h
    rw [empty_Sx, zero_Sx, figures_Sx, if_neg (by rw [decide_eq_true_eq, Sx_inj]; exact List.cons_ne_nil _ _), lenS_eq (by omega), ixS0_eq (by omega), signsC_eq (by omega)]
    simp only [obs, List.length_cons]
    unfold numV
    by_cases h1 : 12 < l.length + 1
    · rw [decide_eq_true (show (12 : Int) < ((l.length + 1 : Nat) : Int) by omega), if_pos rfl, obs, if_pos rfl, if_pos (.inr (.inl h1))]
    · rw [decide_eq_false (show ¬ (12 : Int) < ((l.length + 1 : Nat) : Int) by omega), if_neg Bool.false_ne_true]
      by_cases h2 : c = 48 ∧ 1 < l.length + 1
      · rw [if_pos (by rw [decide_eq_true_eq, Sx_inj, h2.1]), decide_eq_true (show (1 : Int) < ((l.length + 1 : Nat) : Int) by omega), obs, if_pos rfl, if_pos (.inr (.inr (.inl ⟨by rw [h2.1]; rfl, h2.2⟩)))]
      · have e : (if decide (Sx [c] = Sx [48]) = true then some (decide (1 < ((l.length + 1 : Nat) : Int))) else some false) = some false := by
          by_cases q : c = 48
          · rw [if_pos (by rw [decide_eq_true_eq, Sx_inj, q]), decide_eq_false (by omega)]
          · rw [if_neg (by rw [decide_eq_true_eq, Sx_inj]; exact fun z => q (List.cons.inj z).1)]
        rw [e, obs, if_neg Bool.false_ne_true]
        by_cases h3 : ∀ x ∈ c :: l, 48 ≤ x ∧ x ≤ 57
        · rw [forF_all (s := ()) fun x hx => by
            obtain ⟨y, hy, rfl⟩ := List.mem_map.mp hx
            rw [inS_one, decide_eq_true (digit_mem.mpr (h3 y hy))]; rfl]
          show (intS (Sx (c :: l))).bind _ = _
          rw [intS_eq h3 (List.cons_ne_nil _ _) (by rw [List.length_cons]; omega), obs, if_neg (c := _ ∨ _) (by
            rintro (z | z | z | z)
            · exact List.cons_ne_nil _ _ z
            · rw [List.length_cons] at z; omega
            · exact h2 ⟨by simpa using z.1, z.2⟩
            · exact z h3)]
          by_cases q : ((NumText.digitsVal (c :: l) : Nat) : Int) < a ∨ b < ((NumText.digitsVal (c :: l) : Nat) : Int)
          · rw [if_pos (by rw [Bool.or_eq_true, decide_eq_true_eq, decide_eq_true_eq]; exact q), if_pos q]
          · rw [if_neg (by rw [Bool.or_eq_true, decide_eq_true_eq, decide_eq_true_eq]; exact q), if_neg q]
        · rw [if_pos (c := _ ∨ _) (.inr (.inr (.inr h3)))]
          have key : ∀ m : List Nat, (¬ ∀ x ∈ m, 48 ≤ x ∧ x ≤ 57) → forF (R := Option Int) (m.map fun c => Sx [c]) () (fun (sign : Str) (_ : Unit) => if (!inS sign (Sx [48, 49, 50, 51, 52, 53, 54, 55, 56, 57])) = true then some (Fl.ret none) else some (Fl.go ())) = some (.ret none) := by
            intro m
            induction m with
            | nil => intro k; exact absurd (fun x hx => absurd hx List.not_mem_nil) k
            | cons y m ih =>
              intro k
              rw [List.map_cons]
              unfold forF
              by_cases q : 48 ≤ y ∧ y ≤ 57
              · rw [inS_one, decide_eq_true (digit_mem.mpr q)]
                exact ih fun z => k fun x hx => by
                  rcases List.mem_cons.mp hx with rfl | hx
                  · exact q
                  · exact z x hx
              · rw [inS_one, decide_eq_false (fun z => q (digit_mem.mp z))]
                rfl
          rw [key _ h3]
          rfl
theorem par_len {s : Nat} : ∀ {l acc a b : List Nat}, TL.par [s] acc l = some (a, b) → a.length ≤ acc.length + l.length ∧ b.length ≤ l.length
  | [], _, _, _, h => by cases h
  | c :: l, acc, a, b, h => by
    cases q : TL.pre [s] (c :: l) with
    | true =>
      rw [TL.par_hit q] at h
      cases h
      rw [List.length_drop]; exact ⟨by omega, by omega⟩
    | false =>
      rw [TL.par_miss q] at h
      obtain ⟨h1, h2⟩ := par_len h
      rw [List.length_append] at h1
      simp only [List.length_cons, List.length_nil] at h1 h2 ⊢
      omega
theorem amount_in_eq {l : List Nat} (h : l.length ≤ 16000000) : amount_in (Sx l) = some (amV l) := by
  unfold amount_in
  rw [stroke_Sx, partC_eq (by decide) (by omega), obs]
  unfold amV
  cases q : TL.par [47] [] l with
  | none =>
    show (number_in (Sx l) 0 1000000000000).bind _ = _
    rw [number_in_eq h, obs]
    show (if decide (Sx [] = Sx []) = true then _ else _) = _
    rw [if_pos (decide_eq_true rfl)]
    show _ = some ((numV l 0 1000000000000).map fun n => (n, 1))
    cases numV l 0 1000000000000 <;> rfl
  | some z =>
    obtain ⟨x, y⟩ := z
    obtain ⟨lx, ly⟩ := par_len q
    rw [List.length_nil] at lx
    show (number_in (Sx x) 0 1000000000000).bind _ = _
    rw [number_in_eq (by omega), obs]
    show (if decide (Sx [47] = Sx []) = true then _ else (number_in (Sx y) 2 12).bind _) = _
    rw [if_neg (by decide +kernel), number_in_eq (by omega), obs]
    show _ = some (match numV x 0 1000000000000, numV y 2 12 with
      | some n, some u => if Int.gcd n u = 1 then some (n, u) else none
      | _, _ => none)
    cases h1 : numV x 0 1000000000000 with
    | none => rfl
    | some n =>
      cases h2 : numV y 2 12 with
      | none => rfl
      | some u =>
        obtain ⟨_, _, n0⟩ := numV_bnd h1
        obtain ⟨_, u1, u0⟩ := numV_bnd h2
        show (((common_factor n u).bind fun v9 => some (!decide (v9 = 1))).bind _) = _
        rw [common_factor_eq n0 u0 (Sm.of 3000 12 (by decide +kernel) (by omega) (by omega)), obs, obs]
        by_cases g : Int.gcd n u = 1
        · rw [decide_eq_true (show ((Int.gcd n u : Nat) : Int) = 1 by omega)]
          show some (some (n, u)) = some (if Int.gcd n u = 1 then some (n, u) else none)
          rw [if_pos g]
        · rw [decide_eq_false (show ¬ ((Int.gcd n u : Nat) : Int) = 1 by omega)]
          show some none = some (if Int.gcd n u = 1 then some (n, u) else none)
          rw [if_neg g]
theorem amounts_in_eq {line least : Int} {zs : List (Int × Int)} {ls : List (List Nat)} (h : ls.map amV = zs.map some) (hl : ∀ z ∈ zs, least ≤ z.1) (hs : ∀ l ∈ ls, l.length ≤ 16000000) (hn : ls.length ≤ 1000) :
    amounts_in (ls.map Sx) line least = some zs := by
  unfold amounts_in
  have key : ∀ (ls : List (List Nat)) (zs acc : List (Int × Int)), ls.map amV = zs.map some → (∀ z ∈ zs, least ≤ z.1) → (∀ l ∈ ls, l.length ≤ 16000000) → acc.length + ls.length ≤ 1000 →
      forS (ls.map Sx) acc (fun (word : Str) (s1 : (List (Int × Int))) =>
    (amount_in word).bind fun one =>
    (if one.isNone = true then some true else ((unN one).bind fun v2 => some v2.1).bind fun v3 => some (decide (v3 < least))).bind fun v5 => if v5 = true then
      (none : Option ((List (Int × Int))))
    else
      (unN one).bind fun v4 => (appC s1 v4).bind fun found =>
      some found) = some (acc ++ zs) := by
    intro ls
    induction ls with
    | nil =>
      intro zs acc e _ _ _
      cases zs with
      | nil => rw [List.append_nil]; rfl
      | cons z zs => cases e
    | cons l ls ih =>
      intro zs acc e h1 h2 h3
      cases zs with
      | nil => cases e
      | cons z zs =>
        rw [List.map_cons, List.map_cons] at e
        obtain ⟨e1, e2⟩ := List.cons.inj e
        rw [List.length_cons] at h3
        have hz := h1 z List.mem_cons_self
        rw [List.map_cons]
        unfold forS
        rw [amount_in_eq (h2 l List.mem_cons_self), e1, obs]
        show ((some (decide (z.1 < least))).bind _).bind _ = _
        rw [obs, decide_eq_false (by omega), if_neg Bool.false_ne_true]
        show ((appC acc z).bind fun found => some found).bind _ = _
        rw [appC_eq (by omega), obs, obs, ih zs (acc ++ [z]) e2 (fun y hy => h1 y (List.mem_cons_of_mem _ hy)) (fun y hy => h2 y (List.mem_cons_of_mem _ hy)) (by rw [List.length_append]; simp only [List.length_cons, List.length_nil]; omega), List.append_assoc]
        rfl
  show (forS (ls.map Sx) [] _).bind _ = _
  rw [key ls zs [] h hl hs (by rw [List.length_nil]; omega), obs, List.nil_append]
end M
namespace M
open PySem L2 GM
theorem divisor_eq {h l : Int} (h0 : 0 ≤ h) (l0 : 0 ≤ l) (ls : Sm 3000 l) : law_divisor h l = some ((Int.gcd h l : Nat) : Int) := common_factor_eq h0 l0 ls
theorem part_eq {b t : Int} (b0 : 1 ≤ b) (t0 : 0 ≤ t) (n : Nat) (ts : Sm 3000 t) (bs : Sm 3000 b) : ∃ z : Int × Int, ((law_divisor b t).bind fun by_ =>
    ((divC t by_).bind fun v3 => ((divC b by_).bind fun v2 => some (v2, (()))).bind fun r4 => some (v3, r4)).bind fun z5 : Int × Int × Unit => some (z5.1, z5.2.1)) = some z ∧ 0 ≤ z.1 ∧ z.1 ≤ t ∧ 1 ≤ z.2 ∧ z.2 ≤ b ∧ Int.gcd z.1 z.2 = 1 := by
  have g0 : 0 < ((Int.gcd b t : Nat) : Int) := by
    have := Int.gcd_pos_of_ne_zero_left t (show b ≠ 0 by omega)
    omega
  have gl : ((Int.gcd b t : Nat) : Int) ≤ b := Int.le_of_dvd (by omega) (Int.gcd_dvd_left ..)
  have gd : ((Int.gcd b t : Nat) : Int) ∣ b := Int.gcd_dvd_left ..
  have sg : Sm 3000 ((Int.gcd b t : Nat) : Int) := bs.pos_le (by omega) gl
  rw [divisor_eq (by omega) t0 ts, obs, divC_eq g0 sg, divC_eq g0 sg, obs, obs, obs, obs]
  refine ⟨_, rfl, Int.ediv_nonneg t0 (by omega), Int.ediv_le_self _ t0, ?_, Int.ediv_le_self _ (by omega), ?_⟩
  · have := Int.ediv_pos_of_pos_of_dvd (show 0 < b by omega) (by omega) gd
    show 1 ≤ b / _
    omega
  · rw [Int.gcd_comm b t]
    exact Int.gcd_ediv_gcd_ediv_gcd (by rw [Int.gcd_comm]; omega)
theorem parts_eq (c : Int) {k : Int} (h0 : 0 ≤ k) (h1 : k ≤ 500) : ∃ z, law_parts c k = some z ∧ Am z := by
  obtain ⟨n, e, n0, n1⟩ := number_eq c (k := k + 400) (by omega) (by omega)
  have c0 := Int.emod_nonneg c (show (100000000000000000000 : Int) ≠ 0 by decide)
  have bt : ∃ b, atI [1, 1, 2, 3, 4, 6, 7, 12, 1 + ((n / 8) % 12)] ((n / 128) % 9) = some b ∧ 1 ≤ b ∧ b ≤ 12 := by
    rw [atI_some (by omega) (by simp; omega)]
    refine ⟨_, rfl, ?_⟩
    have all : ∀ x ∈ [1, 1, 2, 3, 4, 6, 7, 12, 1 + ((n / 8) % 12)], 1 ≤ x ∧ x ≤ 12 := by
      intro x hx
      simp only [List.mem_cons, List.not_mem_nil, or_false] at hx
      omega
    exact all _ (List.getElem_mem _)
  obtain ⟨b, e2, b0, b1⟩ := bt
  unfold law_parts
  rw [e, obs, e2, obs]
  have tp : ∃ t, (if (decide (n % 3 = 0)) = true then some ((((c % 100000000000000000000) * 48271) + n) % 1000000000000) else some ((n / 1200) % 30)) = some t ∧ 0 ≤ t ∧ t < 1000000000000 := by
    split
    · exact ⟨_, rfl, Int.emod_nonneg _ (by decide), Int.emod_lt_of_pos _ (by decide)⟩
    · exact ⟨_, rfl, by omega, by omega⟩
  obtain ⟨t, e3, t0, t1⟩ := tp
  obtain ⟨z, e4, z1, z2, z3, z4, z5⟩ := part_eq b0 t0 3000 (Sm.of 3000 1000000000000 (by decide +kernel) (by omega) (by omega)) (Sm.of 3000 12 (by decide +kernel) (by omega) (by omega))
  refine ⟨z, ?_, z1, by omega, z3, by omega, z5⟩
  show ((if (decide (n % 3 = 0)) = true then some ((((c % 100000000000000000000) * 48271) + n) % 1000000000000) else some ((n / 1200) % 30)).bind _) = _
  rw [e3, obs]
  exact e4
theorem stroke_Sx' : Str.ofString "/" = Sx [47] := by decide +kernel
/-- a fraction as it is written -/
theorem written_eq {z : Int × Int} (t0 : 0 ≤ z.1) (b0 : 1 ≤ z.2) (ts : Sm 1900 z.1) (bs : Sm 1900 z.2) (hl : (TL.numL z.1.toNat).length + 1 + (TL.numL z.2.toNat).length ≤ 16777216) : law_written z = some (Sx (amL z)) := by
  unfold law_written amL
  by_cases q : z.2 = 1
  · rw [if_pos (decide_eq_true q), if_pos q, strI_eq t0 ts]
  · rw [if_neg (by simpa using q), if_neg q, strI_eq t0 ts, strI_eq (by omega) bs, obs, stroke_Sx', catS_eq (by simp; omega), obs, obs, catS_eq (by simp; omega), List.append_assoc]
    rfl
theorem am_sm {z : Int × Int} (h : Am z) : Sm 60 z.1 ∧ Sm 60 z.2 := by
  have := h.t0
  have := h.t1
  have := h.b0
  have := h.b1
  exact ⟨Sm.of 60 1000000000000 (by decide) (by omega) (by omega), Sm.of 60 12 (by decide) (by omega) (by omega)⟩
theorem am_written {z : Int × Int} (h : Am z) : law_written z = some (Sx (amL z)) := by
  have := h.t0
  have := h.t1
  have := h.b0
  have := h.b1
  have l1 := TL.numL_len (n := z.1.toNat) (k := 12) (by decide) (by omega)
  have l2 := TL.numL_len (n := z.2.toNat) (k := 2) (by decide) (by omega)
  exact written_eq h.t0 h.b0 ((am_sm h).1.mono (by decide)) ((am_sm h).2.mono (by decide)) (by omega)
/-- the least whole number of which all bottoms are divisors -/
def unF (u b : Int) : Int := u * b / ((Int.gcd u b : Nat) : Int)
def unL (l : List (Int × Int)) : Int := l.foldl (fun u z => unF u z.2) 1
theorem twelve {b : Int} (b0 : 1 ≤ b) (b1 : b ≤ 12) : b ∣ 27720 := by
  have : b = 1 ∨ b = 2 ∨ b = 3 ∨ b = 4 ∨ b = 5 ∨ b = 6 ∨ b = 7 ∨ b = 8 ∨ b = 9 ∨ b = 10 ∨ b = 11 ∨ b = 12 := by omega
  rcases this with rfl | rfl | rfl | rfl | rfl | rfl | rfl | rfl | rfl | rfl | rfl | rfl <;> decide
structure Un (u : Int) : Prop where
  p : 0 < u
  d : u ∣ 27720
theorem Un.le {u : Int} (h : Un u) : u ≤ 27720 := Int.le_of_dvd (by decide) h.d
theorem unF_lcm {u b : Int} (u0 : 0 < u) (b0 : 0 < b) : unF u b = ((Int.lcm u b : Nat) : Int) := by
  unfold unF
  have g0 : 0 < ((Int.gcd u b : Nat) : Int) := gcd_pos_right b0
  refine Int.ediv_eq_of_eq_mul_left (by omega) ?_
  have h := Int.gcd_mul_lcm u b
  have e : u * b = ((u.natAbs * b.natAbs : Nat) : Int) := by
    rw [Int.natCast_mul]
    rw [Int.natAbs_of_nonneg (by omega), Int.natAbs_of_nonneg (by omega)]
  rw [e, ← h, Int.natCast_mul, Int.mul_comm]
theorem Un.step {u b : Int} (h : Un u) (b0 : 1 ≤ b) (b1 : b ≤ 12) : Un (unF u b) := by
  have hp := h.p
  have e := unF_lcm h.p (show 0 < b by omega)
  refine ⟨?_, ?_⟩
  · rw [e]
    have := Int.lcm_pos (show u ≠ 0 by omega) (show b ≠ 0 by omega)
    omega
  · rw [e]
    exact Int.coe_lcm_dvd h.d (twelve b0 b1)
theorem un_of : ∀ {l : List (Int × Int)} {u : Int}, Un u → (∀ z ∈ l, 1 ≤ z.2 ∧ z.2 ≤ 12) → Un (l.foldl (fun u z => unF u z.2) u)
  | [], _, h, _ => h
  | z :: l, _, h, k => un_of (l := l) (h.step (k z List.mem_cons_self).1 (k z List.mem_cons_self).2) fun y hy => k y (List.mem_cons_of_mem _ hy)
theorem unL_un {l : List (Int × Int)} (h : ∀ z ∈ l, Am z) : Un (unL l) := un_of ⟨by decide, by decide⟩ fun z hz => ⟨(h z hz).b0, (h z hz).b1⟩
theorem un_dvd : ∀ {l : List (Int × Int)} {u : Int}, 0 < u → (∀ z ∈ l, 1 ≤ z.2) → u ∣ l.foldl (fun u z => unF u z.2) u ∧ ∀ z ∈ l, z.2 ∣ l.foldl (fun u z => unF u z.2) u
  | [], u, _, _ => ⟨Int.dvd_refl _, fun z hz => absurd hz List.not_mem_nil⟩
  | z :: l, u, h, k => by
    have hz := k z List.mem_cons_self
    have e := unF_lcm h (show 0 < z.2 by omega)
    have up : 0 < unF u z.2 := by
      rw [e]
      have := Int.lcm_pos (show u ≠ 0 by omega) (show z.2 ≠ 0 by omega)
      omega
    obtain ⟨h1, h2⟩ := un_dvd (l := l) up fun y hy => k y (List.mem_cons_of_mem _ hy)
    rw [List.foldl_cons]
    refine ⟨Int.dvd_trans (by rw [e]; exact Int.dvd_lcm_left ..) h1, fun y hy => ?_⟩
    rcases List.mem_cons.mp hy with rfl | hy
    · exact Int.dvd_trans (by rw [e]; exact Int.dvd_lcm_right ..) h1
    · exact h2 y hy
theorem unL_dvd {l : List (Int × Int)} (h : ∀ z ∈ l, Am z) : ∀ z ∈ l, z.2 ∣ unL l := (un_dvd (by decide) fun z hz => (h z hz).b0).2
theorem un_step_eq {u b : Int} (h : Un u) (b0 : 1 ≤ b) (b1 : b ≤ 12) {cf : Int → Int → Option Int} (hc : cf u b = some ((Int.gcd u b : Nat) : Int)) : ((mulC u b).bind fun v3 => (cf u b).bind fun v4 => divC v3 v4) = some (unF u b) := by
  have := h.le
  have := h.p
  have g0 : 0 < ((Int.gcd u b : Nat) : Int) := gcd_pos_right (by omega)
  have gl : ((Int.gcd u b : Nat) : Int) ≤ b := gcd_le_right' (by omega)
  rw [mulC_eq (m := 60) (n := 60) (Sm.of 60 27720 (by decide) (by omega) (by omega)) (Sm.of 60 12 (by decide) (by omega) (by omega)), obs, hc, obs, divC_eq (n := 60) g0 (Sm.of 60 12 (by decide) (by omega) (by omega))]
  rfl
theorem law_unit_eq {l : List (Int × Int)} (h : ∀ z ∈ l, Am z) : law_unit l = some (unL l) := by
  unfold law_unit unL
  dsimp only
  rw [(forS_fold (g := fun u z => unF u z.2) (fun u => Un u) l 1 ⟨by decide, by decide⟩ fun z hz u hu => by
    have a := h z hz
    refine ⟨?_, hu.step a.b0 a.b1⟩
    rw [un_step_eq hu a.b0 a.b1 (divisor_eq (by have := hu.p; omega) (by have := a.b0; omega) ((am_sm a).2.mono (by decide))), obs]).1]
  rfl
theorem unit_of_eq {l : List (Int × Int)} (h : ∀ z ∈ l, Am z) : unit_of l = some (unL l) := by
  unfold unit_of unL
  dsimp only
  rw [(forS_fold (g := fun u z => unF u z.2) (fun u => Un u) l 1 ⟨by decide, by decide⟩ fun z hz u hu => by
    have a := h z hz
    refine ⟨?_, hu.step a.b0 a.b1⟩
    rw [un_step_eq hu a.b0 a.b1 (common_factor_eq (by have := hu.p; omega) (by have := a.b0; omega) ((am_sm a).2.mono (by decide))), obs]).1]
  rfl
/-- an amount by the unit -/
def whF (u : Int) (z : Int × Int) : Int := z.1 * u / z.2
theorem wh_eq {u : Int} (h : Un u) {z : Int × Int} (a : Am z) : ((mulC z.1 u).bind fun v2 => divC v2 z.2) = some (whF u z) := by
  have := h.le
  have := h.p
  have hp := a.b0
  rw [mulC_eq (m := 60) (n := 60) (am_sm a).1 (Sm.of 60 27720 (by decide) (by omega) (by omega)), obs, divC_eq (n := 60) (by omega) (am_sm a).2]
  rfl
theorem law_wholes_eq {u : Int} (h : Un u) {l : List (Int × Int)} (hl : ∀ z ∈ l, Am z) : law_wholes l u = some (l.map (whF u)) := mapO_eq fun z hz => wh_eq h (hl z hz)
theorem whole_by_eq {u : Int} (h : Un u) {z : Int × Int} (a : Am z) : whole_by z u = some (whF u z) := wh_eq h a
end M
namespace M
open PySem L2 GM
theorem blank_Sx : Str.ofString " " = Sx [32] := by decide +kernel
theorem end_Sx : Str.ofString "\n" = Sx [10] := by decide +kernel
theorem touch_Sx : Str.ofString "touch" = Sx [116, 111, 117, 99, 104] := by decide +kernel
end M
namespace M
open PySem L2 GM
abbrev Wd := List Nat
structure WdOk (w : Wd) : Prop where
  l : w.length ≤ 100
  b : 32 ∉ w
  e : 10 ∉ w
structure RwOk (rows : List (List Wd)) : Prop where
  n : rows.length ≤ 100
  ne : rows ≠ []
  rne : ∀ r ∈ rows, r ≠ []
  rl : ∀ r ∈ rows, r.length ≤ 100
  ok : ∀ r ∈ rows, ∀ w ∈ r, WdOk w
theorem sum_len_le {B : Nat} : ∀ {l : List Wd}, (∀ w ∈ l, w.length ≤ B) → (l.map List.length).sum ≤ B * l.length
  | [], _ => Nat.zero_le _
  | w :: l, h => by
    have a := h w List.mem_cons_self
    have b := sum_len_le (l := l) fun y hy => h y (List.mem_cons_of_mem _ hy)
    rw [List.map_cons, List.sum_cons, List.length_cons, Nat.mul_succ]
    omega
theorem line_len {r : List Wd} (h : ∀ w ∈ r, WdOk w) (hr : r.length ≤ 100) : (joinS 32 r).length ≤ 10100 := by
  have a := joinS_len 32 r
  have b := sum_len_le (B := 100) (l := r) fun w hw => (h w hw).l
  omega
theorem line_free {r : List Wd} (h : ∀ w ∈ r, WdOk w) : 10 ∉ joinS 32 r := fun q => by
  rcases joinS_mem q with q | ⟨p, h1, h2⟩
  · cases q
  · exact (h p h1).e h2
theorem text_len {rows : List (List Wd)} (h : RwOk rows) : (((rows.map (joinS 32)).map List.length).sum ≤ 1010000) ∧ (joinS 10 (rows.map (joinS 32))).length ≤ 2000000 := by
  have hn := h.n
  have b := sum_len_le (B := 10100) (l := rows.map (joinS 32)) fun w hw => by
    obtain ⟨r, hr, rfl⟩ := List.mem_map.mp hw
    exact line_len (h.ok r hr) (h.rl r hr)
  have a := joinS_len 10 (rows.map (joinS 32))
  rw [List.length_map] at a b
  refine ⟨by omega, by omega⟩
theorem rows_text {rows : List (List Wd)} (h : RwOk rows) : ((splitC (Sx (joinS 10 (rows.map (joinS 32)))) (Str.ofString "\n")).bind fun v1 => mapO v1 (fun line : Str => splitC line (Str.ofString " "))) = some (rows.map fun r => r.map Sx) := by
  rw [end_Sx, blank_Sx, splitC_eq (by decide) (by have := (text_len h).2; omega), obs, cuts_join (by
    intro q
    exact h.ne (List.map_eq_nil_iff.mp q)) (fun p hp => by
    obtain ⟨r, hr, rfl⟩ := List.mem_map.mp hp
    exact line_free (h.ok r hr))]
  rw [List.map_map]
  have key : ∀ rs : List (List Wd), (∀ r ∈ rs, r ∈ rows) → mapO (rs.map (Sx ∘ joinS 32)) (fun line : Str => splitC line (Sx [32])) = some (rs.map fun r => r.map Sx) := by
    intro rs
    induction rs with
    | nil => intro _; rfl
    | cons r rs ih =>
      intro k
      have hr := k r List.mem_cons_self
      rw [List.map_cons]
      unfold mapO
      rw [show (Sx ∘ joinS 32) r = Sx (joinS 32 r) from rfl, splitC_eq (by decide) (by have := line_len (h.ok r hr) (h.rl r hr); omega), obs, cuts_join (h.rne r hr) (fun w hw => (h.ok r hr w hw).b), ih fun y hy => k y (List.mem_cons_of_mem _ hy), obs]
      rfl
  exact key rows fun r hr => hr
theorem join_rows {rows : List (List Wd)} (h : RwOk rows) : joinC (Str.ofString "\n") ((rows.map (joinS 32)).map Sx) = some (Sx (joinS 10 (rows.map (joinS 32)))) := by
  have hn := h.n
  have := (text_len h).1
  rw [end_Sx, joinC_eq (by rw [List.length_map]; omega)]
theorem atI_cons0 {α : Type} (x : α) (xs : List α) : atI (x :: xs) 0 = some x := atI_some (by decide) (by rw [List.length_cons]; omega)
theorem read_rows {rows : List (List Wd)} (h : RwOk rows) {w : Wd} {r0 : List Wd} {rs : List (List Wd)} (e : rows = (w :: r0) :: rs) : read (Sx (joinS 10 (rows.map (joinS 32)))) = (read_kind (Sx w) (rows.map fun r => r.map Sx)).bind fun z3 => some (T3.mk (Sx w) z3.1 z3.2) := by
  unfold read
  rw [rows_text h, obs, e, List.map_cons, atI_cons0, obs, List.map_cons, atI_cons0, obs]
/-- a line of words, joined -/
theorem join_line {r : List Wd} (h : ∀ w ∈ r, WdOk w) (hr : r.length ≤ 100) : joinC (Str.ofString " ") (r.map Sx) = some (Sx (joinS 32 r)) := by
  have b := sum_len_le (B := 100) (l := r) fun w hw => (h w hw).l
  rw [blank_Sx, joinC_eq (by omega)]
theorem wd_num {n : Nat} (h : n < 10 ^ 100) : WdOk (TL.numL n) := ⟨TL.numL_len (by decide) h, TL.numL_free (.inl (by decide)), TL.numL_free (.inl (by decide))⟩
theorem wd_am {z : Int × Int} (h : Am z) : WdOk (amL z) := ⟨by have := amL_len h; omega, amL_free (by decide), amL_free (by decide)⟩
theorem one_number_eq {w : Wd} {n : Nat} {line most : Int} (n1 : 1 ≤ n) (hn : (n : Int) ≤ most) (h : n < 1000) : one_number [Sx w, Sx (TL.numL n)] line most = some (n : Int) := by
  unfold one_number
  rw [if_neg (by simp)]
  rw [show atI [Sx w, Sx (TL.numL n)] 1 = some (Sx (TL.numL n)) from rfl]
  simp only [obs]
  rw [number_in_eq (by have := TL.numL_len (n := n) (k := 3) (by decide) (by omega); omega), numV_num (by omega) (by omega) hn, obs]
  rfl
theorem numbers_in_eq {line most : Int} {ns : List Int} (hn : ns.Nodup) (h : ∀ x ∈ ns, 0 ≤ x ∧ x < most) (hm : most ≤ 1000) (hl : ns.length ≤ 1000) : numbers_in (ns.map fun n => Sx (TL.numL n.toNat)) line most = some ns := by
  unfold numbers_in
  have key : ∀ (ns acc : List Int), (acc ++ ns).Nodup → (∀ x ∈ ns, 0 ≤ x ∧ x < most) → acc.length + ns.length ≤ 1000 →
      forS (ns.map fun n => Sx (TL.numL n.toNat)) acc (fun (word : Str) (s1 : (List Int)) =>
    (number_in word 0 (most - 1)).bind fun number =>
    (if number.isNone = true then some true else (unN number).bind fun v2 => some (decide (v2 ∈ s1))).bind fun v4 => if v4 = true then
      (none : Option ((List Int)))
    else
      (unN number).bind fun v3 => (appC s1 v3).bind fun found =>
      some found) = some (acc ++ ns) := by
    intro ns
    induction ns with
    | nil => intro acc _ _ _; rw [List.append_nil]; rfl
    | cons n ns ih =>
      intro acc nd h1 h2
      obtain ⟨n0, n1⟩ := h1 n List.mem_cons_self
      rw [List.length_cons] at h2
      have nin : n ∉ acc := fun q => by
        have := (List.nodup_append.mp nd).2.2 n q n List.mem_cons_self
        exact this rfl
      rw [List.map_cons]
      unfold forS
      rw [number_in_eq (by have := TL.numL_len (n := n.toNat) (k := 3) (by decide) (by omega); omega), numV_num (by omega) (by omega) (by omega), Int.toNat_of_nonneg n0, obs]
      show ((some (decide (n ∈ acc))).bind _).bind _ = _
      rw [obs, decide_eq_false nin, if_neg Bool.false_ne_true]
      show ((appC acc n).bind fun found => some found).bind _ = _
      rw [appC_eq (by omega), obs, obs, ih (acc ++ [n]) (by rw [List.append_assoc]; exact nd) (fun y hy => h1 y (List.mem_cons_of_mem _ hy)) (by rw [List.length_append]; simp only [List.length_cons, List.length_nil]; omega), List.append_assoc]
      rfl
  show (forS (ns.map fun n => Sx (TL.numL n.toNat)) [] _).bind _ = _
  rw [key ns [] hn h (by rw [List.length_nil]; omega), obs, List.nil_append]
theorem ams_eq {line least : Int} {as : List (Int × Int)} (h : ∀ z ∈ as, Am z) (hl : ∀ z ∈ as, least ≤ z.1) (hn : as.length ≤ 1000) : amounts_in (as.map fun z => Sx (amL z)) line least = some as := by
  have := amounts_in_eq (line := line) (least := least) (zs := as) (ls := as.map amL) (by
    rw [List.map_map]
    exact List.map_congr_left fun z hz => amV_amL (h z hz)) hl (fun l hl => by
    obtain ⟨z, hz, rfl⟩ := List.mem_map.mp hl
    have := amL_len (h z hz)
    omega) (by rw [List.length_map]; exact hn)
  rw [List.map_map] at this
  exact this
end M
namespace M
open PySem L2 GM
abbrev Giv := (Int × (List (Int × (List Int)))) ⊕ (((List Int) × (List (Int × Int))) ⊕ ((Tp (List (List Int))) ⊕ (((List (List Int)) × Int) ⊕ (((List Int) × Int) ⊕ ((Int × (List (Int × Int))))))))
structure Mk (w : Wd) (lines : List Str) (u : Int) (g : Giv) : Prop where
  un : Un u
  ex : ∃ r0 rs, RwOk ((w :: r0) :: rs) ∧ lines = (((w :: r0) :: rs).map (joinS 32)).map Sx ∧ read_kind (Sx w) (((w :: r0) :: rs).map fun r => r.map Sx) = some (u, g)
theorem Mk.read {w : Wd} {lines : List Str} {u : Int} {g : Giv} (h : Mk w lines u g) : ∃ T, joinC (Str.ofString "\n") lines = some T ∧ read T = some (T3.mk (Sx w) u g) := by
  obtain ⟨r0, rs, ok, e, k⟩ := h.ex
  subst e
  refine ⟨_, join_rows ok, ?_⟩
  rw [read_rows ok rfl, k, obs]
theorem above_eq {z : Int × Int} (h : Am z) : ∃ y, law_above z = some y ∧ Am y ∧ 1 ≤ y.1 := by
  unfold law_above
  have := h.t0
  by_cases q : z.1 = 0
  · rw [if_pos (decide_eq_true q)]
    exact ⟨_, rfl, ⟨by decide, by decide, by decide, by decide, by decide⟩, by decide⟩
  · rw [if_neg (by simpa using q)]
    exact ⟨_, rfl, h, by omega⟩
theorem whF_rng {u : Int} (h : Un u) {z : Int × Int} (a : Am z) (d : z.2 ∣ u) : 0 ≤ whF u z ∧ whF u z ≤ 30000000000000000 ∧ whF u z * z.2 = z.1 * u ∧ (1 ≤ z.1 → 1 ≤ whF u z) := by
  have up := h.p
  have ul := h.le
  have b0 := a.b0
  have t0 := a.t0
  have t1 := a.t1
  have m0 : 0 ≤ z.1 * u := Int.mul_nonneg t0 (by omega)
  have m1 : z.1 * u ≤ 1000000000000 * 27720 := Int.mul_le_mul (by omega) ul (by omega) (by decide)
  have e : whF u z * z.2 = z.1 * u := by
    unfold whF
    exact Int.ediv_mul_cancel (Int.dvd_trans d (Int.dvd_mul_left ..))
  have l0 : 0 ≤ whF u z := Int.ediv_nonneg m0 (by omega)
  have l1 : whF u z ≤ z.1 * u := Int.ediv_le_self _ m0
  refine ⟨l0, by omega, e, fun h1 => ?_⟩
  refine Classical.byContradiction fun n => ?_
  have z0 : whF u z = 0 := by omega
  rw [z0, Int.zero_mul] at e
  have := Int.mul_pos (show 0 < z.1 by omega) up
  omega
theorem wh_mem {u : Int} {as : List (Int × Int)} (P : Int → Prop) (h : ∀ z ∈ as, P (whF u z)) : ∀ x ∈ as.map (whF u), P x := fun x hx => by
  obtain ⟨z, hz, rfl⟩ := List.mem_map.mp hx
  exact h z hz
theorem cell_parts (cells : List Int) {k : Int} (h0 : 0 ≤ k) (h1 : k ≤ 500) : ∃ z, ((law_cell_at cells k).bind fun v3 => some (v3, (k, ()))).bind (fun z4 => law_parts z4.1 z4.2.1) = some z ∧ Am z := by
  obtain ⟨c, ec⟩ := cell_eq cells h0
  obtain ⟨z, ez, az⟩ := parts_eq c h0 h1
  exact ⟨z, by rw [ec, obs, obs]; exact ez, az⟩
theorem above_parts (c : Int) {k : Int} (h0 : 0 ≤ k) (h1 : k ≤ 500) : ∃ z, ((law_parts c k).bind fun v2 => some (v2, ())).bind (fun z3 => law_above z3.1) = some z ∧ Am z ∧ 1 ≤ z.1 := by
  obtain ⟨z, ez, az⟩ := parts_eq c h0 h1
  obtain ⟨y, ey, ay⟩ := above_eq az
  exact ⟨y, by rw [ez, obs, obs]; exact ey, ay⟩
theorem written_all {as : List (Int × Int)} (h : ∀ z ∈ as, Am z) : mapO as (fun one : Int × Int => law_written one) = some ((as.map amL).map Sx) := by
  rw [mapO_eq (g := fun z => Sx (amL z)) fun z hz => am_written (h z hz), List.map_map]
  rfl
theorem strI_num {n : Nat} (h : n < 1000) : strI (n : Int) = some (Sx (TL.numL n)) := by
  rw [strI_eq (by omega) (Sm.of 1900 1000 (by decide +kernel) (by omega) (by omega)), Int.toNat_natCast]
theorem take_len (cells : List Int) (k : Nat) : (cutL cells none (some (k : Int))).length ≤ k := by
  rw [cutL_to _ (by omega), List.length_take]
  omega
abbrev wBenches : Wd := [98, 101, 110, 99, 104, 101, 115]
abbrev wBins : Wd := [98, 105, 110, 115]
abbrev wSack : Wd := [115, 97, 99, 107]
abbrev wCover : Wd := [99, 111, 118, 101, 114]
abbrev wTouch : Wd := [116, 111, 117, 99, 104]
abbrev wRound : Wd := [114, 111, 117, 110, 100]
abbrev wPlaces : Wd := [112, 108, 97, 99, 101, 115]
theorem benches_Sx : Str.ofString "benches" = Sx wBenches := by decide +kernel
theorem bins_Sx : Str.ofString "bins" = Sx wBins := by decide +kernel
theorem sack_Sx : Str.ofString "sack" = Sx wSack := by decide +kernel
theorem cover_Sx : Str.ofString "cover" = Sx wCover := by decide +kernel
theorem round_Sx : Str.ofString "round" = Sx wRound := by decide +kernel
theorem places_Sx : Str.ofString "places" = Sx wPlaces := by decide +kernel
theorem wd_of {w : Wd} (h : (w.length ≤ 100 ∧ 32 ∉ w ∧ 10 ∉ w)) : WdOk w := ⟨h.1, h.2.1, h.2.2⟩
theorem rw_cons {r : List Wd} {rs : List (List Wd)} (hr : r ≠ []) (hl : r.length ≤ 100) (hw : ∀ w ∈ r, WdOk w) (hs : rs.length < 100) (h : ∀ s ∈ rs, s ≠ [] ∧ s.length ≤ 100 ∧ ∀ w ∈ s, WdOk w) : RwOk (r :: rs) := by
  refine ⟨by rw [List.length_cons]; omega, List.cons_ne_nil _ _, fun s hx => ?_, fun s hx => ?_, fun s hx => ?_⟩ <;> rcases List.mem_cons.mp hx with rfl | hx
  · exact hr
  · exact (h s hx).1
  · exact hl
  · exact (h s hx).2.1
  · exact hw
  · exact (h s hx).2.2
theorem kind_benches (rows : List (List Str)) : read_kind (Sx wBenches) rows = (read_benches rows).bind fun v5 => some (v5.1, (Sum.inr (Sum.inr (Sum.inr (Sum.inr (Sum.inl v5.2)))) : Giv)) := by
  unfold read_kind
  rw [if_neg (by decide +kernel), if_neg (by decide +kernel), if_neg (by decide +kernel), if_neg (by decide +kernel), if_pos (by decide +kernel)]
theorem kind_bins (rows : List (List Str)) : read_kind (Sx wBins) rows = (read_bins rows).bind fun v5 => some (v5.1, (Sum.inr (Sum.inr (Sum.inr (Sum.inr (Sum.inl v5.2)))) : Giv)) := by
  unfold read_kind
  rw [if_neg (by decide +kernel), if_neg (by decide +kernel), if_neg (by decide +kernel), if_neg (by decide +kernel), if_neg (by decide +kernel), if_pos (by decide +kernel)]
theorem kind_sack (rows : List (List Str)) : read_kind (Sx wSack) rows = (read_sack rows).bind fun v5 => some (v5.1, (Sum.inr (Sum.inr (Sum.inr (Sum.inr (Sum.inr v5.2)))) : Giv)) := by
  unfold read_kind
  rw [if_neg (by decide +kernel), if_neg (by decide +kernel), if_neg (by decide +kernel), if_neg (by decide +kernel), if_neg (by decide +kernel), if_neg (by decide +kernel), if_pos (by decide +kernel)]
theorem kind_cover (rows : List (List Str)) : read_kind (Sx wCover) rows = (read_cover rows).bind fun v5 => some (v5.1, (Sum.inl v5.2 : Giv)) := by
  unfold read_kind
  rw [if_pos (by decide +kernel)]
theorem kind_touch (rows : List (List Str)) : read_kind (Sx wTouch) rows = (read_touch rows).bind fun v5 => some (v5.1, (Sum.inr (Sum.inl v5.2) : Giv)) := by
  unfold read_kind
  rw [if_neg (by decide +kernel), if_pos (by decide +kernel)]
theorem kind_round (rows : List (List Str)) : read_kind (Sx wRound) rows = (read_round rows).bind fun v5 => some (v5.1, (Sum.inr (Sum.inr (Sum.inl v5.2)) : Giv)) := by
  unfold read_kind
  rw [if_neg (by decide +kernel), if_neg (by decide +kernel), if_pos (by decide +kernel)]
theorem kind_places (rows : List (List Str)) : read_kind (Sx wPlaces) rows = (read_places rows).bind fun v5 => some (v5.1, (Sum.inr (Sum.inr (Sum.inr (Sum.inl v5.2))) : Giv)) := by
  unfold read_kind
  rw [if_neg (by decide +kernel), if_neg (by decide +kernel), if_neg (by decide +kernel), if_pos (by decide +kernel)]
theorem read_benches_eq {w : Wd} {m : Nat} {as : List (Int × Int)} (m1 : 1 ≤ m) (m2 : m ≤ 20) (h : ∀ z ∈ as, Am z ∧ 1 ≤ z.1) (hl : as.length ≤ 20) :
    read_benches [((w :: TL.numL m :: as.map amL).map Sx)] = some (unL as, (as.map (whF (unL as)), (m : Int))) := by
  have ha : ∀ z ∈ as, Am z := fun z hz => (h z hz).1
  have un := unL_un ha
  unfold read_benches
  rw [atI_cons0]
  simp only [obs]
  rw [cutL_to _ (by decide), cutL_from _ (by decide)]
  have e1 : (((w :: TL.numL m :: as.map amL).map Sx)).take (2 : Int).toNat = [Sx w, Sx (TL.numL m)] := rfl
  have e2 : (((w :: TL.numL m :: as.map amL).map Sx)).drop (2 : Int).toNat = as.map fun z => Sx (amL z) := by
    show (as.map amL).map Sx = _
    rw [List.map_map]; rfl
  rw [e1, e2, one_number_eq m1 (by omega) (by omega), obs, if_neg (by simp; omega), ams_eq ha (fun z hz => (h z hz).2) (by omega), obs]
  have e3 : no_line_behind [((w :: TL.numL m :: as.map amL).map Sx)] 1 = some () := by
    unfold no_line_behind
    rw [if_neg (by simp)]
  rw [e3, obs, unit_of_eq ha, obs, mapO_eq (g := whF (unL as)) fun z hz => whole_by_eq un (ha z hz)]
  rfl
theorem benches_made (cells : List Int) {cell : Int} (hc : 0 ≤ cell) : ∃ lines u ws m, law_putting_made cells cell (Str.ofString "benches") = some (Ll3.mk lines u (.inr (.inr (.inr (.inr (.inl (ws, ((m : Nat) : Int)))))))) ∧ Mk wBenches lines u (.inr (.inr (.inr (.inr (.inl (ws, (m : Int))))))) ∧ 1 ≤ m ∧ m ≤ 20 ∧ ws.length ≤ 20 ∧ ∀ x ∈ ws, 1 ≤ x ∧ x ≤ 30000000000000000 := by
  have l20 := take_len cells 20
  rw [show ((20 : Nat) : Int) = 20 from rfl] at l20
  obtain ⟨as, ea, la, pa⟩ := mapO_ex (xs := enumL (cutL cells none (some 20))) (f := fun x1 : Int × Int => ((law_parts x1.2 x1.1).bind fun v2 => some (v2, (()))).bind fun z3 => law_above z3.1) (p := fun z => Am z ∧ 1 ≤ z.1) fun x hx => by
    have := mem_enumL hx
    exact above_parts x.2 this.1 (by omega)
  rw [enumL_len] at la
  have ha : ∀ z ∈ as, Am z := fun z hz => (pa z hz).1
  have un := unL_un ha
  obtain ⟨m, em⟩ := Int.eq_ofNat_of_zero_le (show 0 ≤ 1 + cell % 20 by omega)
  have wok : ∀ w ∈ (wBenches :: TL.numL m :: as.map amL), WdOk w := fun w hw => by
    rcases List.mem_cons.mp hw with rfl | hw
    · exact wd_of (by decide)
    · rcases List.mem_cons.mp hw with rfl | hw
      · exact wd_num (Nat.lt_of_lt_of_le (show m < 1000 by omega) (by decide))
      · obtain ⟨z, hz, rfl⟩ := List.mem_map.mp hw
        exact wd_am (ha z hz)
  have wl : (wBenches :: TL.numL m :: as.map amL).length ≤ 100 := by rw [List.length_cons, List.length_cons, List.length_map]; omega
  refine ⟨[Sx (joinS 32 (wBenches :: TL.numL m :: as.map amL))], unL as, as.map (whF (unL as)), m, ?_, ⟨un, TL.numL m :: as.map amL, [], ?_, rfl, ?_⟩, by omega, by omega, by rw [List.length_map]; omega, ?_⟩
  · unfold law_putting_made
    rw [ea, obs, if_pos (decide_eq_true rfl), law_unit_eq ha, obs]
    dsimp only
    rw [em, strI_num (by omega), written_all ha, benches_Sx]
    simp only [obs]
    rw [catC_eq (by simp; omega), obs]
    have e : [Sx wBenches, Sx (TL.numL m)] ++ (as.map amL).map Sx = (wBenches :: TL.numL m :: as.map amL).map Sx := rfl
    rw [e, join_line wok wl, obs, obs, law_wholes_eq un ha]
    rfl
  · exact rw_cons (List.cons_ne_nil _ _) wl wok (by decide) fun s hs => absurd hs List.not_mem_nil
  · rw [kind_benches]
    show (read_benches [((wBenches :: TL.numL m :: as.map amL).map Sx)]).bind _ = _
    rw [read_benches_eq (by omega) (by omega) pa (by omega)]
    rfl
  · exact wh_mem _ fun z hz => by
      have := whF_rng un (ha z hz) (unL_dvd ha z hz)
      exact ⟨this.2.2.2 (pa z hz).2, this.2.1⟩
end M
namespace M
open PySem L2 GM
theorem un_least : ∀ {l : List (Int × Int)} {u k : Int}, 0 < u → (∀ z ∈ l, 1 ≤ z.2 ∧ z.2 ∣ k) → u ∣ k → l.foldl (fun u z => unF u z.2) u ∣ k
  | [], _, _, _, _, h => h
  | z :: l, u, k, u0, h, d => by
    obtain ⟨b0, bd⟩ := h z List.mem_cons_self
    have e := unF_lcm u0 (show 0 < z.2 by omega)
    rw [List.foldl_cons]
    refine un_least (l := l) ?_ (fun y hy => h y (List.mem_cons_of_mem _ hy)) ?_
    · rw [e]
      have := Int.lcm_pos (show u ≠ 0 by omega) (show z.2 ≠ 0 by omega)
      omega
    · rw [e]
      exact Int.coe_lcm_dvd d bd
theorem unL_congr {l m : List (Int × Int)} (hl : ∀ z ∈ l, Am z) (hm : ∀ z ∈ m, Am z) (h : ∀ z, z ∈ l ↔ z ∈ m) : unL l = unL m := by
  have a : unL l ∣ unL m := un_least (by decide) (fun z hz => ⟨(hl z hz).b0, unL_dvd hm z ((h z).mp hz)⟩) (Int.one_dvd _)
  have b : unL m ∣ unL l := un_least (by decide) (fun z hz => ⟨(hm z hz).b0, unL_dvd hl z ((h z).mpr hz)⟩) (Int.one_dvd _)
  have p := (unL_un hl).p
  have q := (unL_un hm).p
  exact Int.dvd_antisymm (by omega) (by omega) a b
theorem ratio_tr {p q r a b c : Int} (hb : 0 < b) (ha : 0 < a) (hc : 0 < c) (h1 : p * b ≤ q * a) (h2 : q * c ≤ r * b) : p * c ≤ r * a := by
  refine Int.le_of_mul_le_mul_right (a := b) ?_ hb
  calc p * c * b = p * b * c := by rw [Int.mul_assoc, Int.mul_comm c b, ← Int.mul_assoc]
    _ ≤ q * a * c := Int.mul_le_mul_of_nonneg_right h1 (by omega)
    _ = q * c * a := by rw [Int.mul_assoc, Int.mul_comm a c, ← Int.mul_assoc]
    _ ≤ r * b * a := Int.mul_le_mul_of_nonneg_right h2 (by omega)
    _ = r * a * b := by rw [Int.mul_assoc, Int.mul_comm b a, ← Int.mul_assoc]
theorem whF_le {u : Int} (h : Un u) {z r : Int × Int} (az : Am z) (ar : Am r) (dz : z.2 ∣ u) (dr : r.2 ∣ u) (le : z.1 * r.2 ≤ r.1 * z.2) : whF u z ≤ whF u r := by
  obtain ⟨_, _, e1, _⟩ := whF_rng h az dz
  obtain ⟨_, _, e2, _⟩ := whF_rng h ar dr
  have up := h.p
  have z0 := az.b0
  have r0 := ar.b0
  have pz := Int.mul_pos (show 0 < z.2 by omega) (show 0 < r.2 by omega)
  refine Int.le_of_mul_le_mul_right (a := z.2 * r.2) ?_ pz
  calc whF u z * (z.2 * r.2) = whF u z * z.2 * r.2 := by rw [Int.mul_assoc]
    _ = z.1 * u * r.2 := by rw [e1]
    _ = z.1 * r.2 * u := by rw [Int.mul_assoc, Int.mul_comm u, ← Int.mul_assoc]
    _ ≤ r.1 * z.2 * u := Int.mul_le_mul_of_nonneg_right le (by omega)
    _ = r.1 * u * z.2 := by rw [Int.mul_assoc, Int.mul_comm z.2, ← Int.mul_assoc]
    _ = whF u r * r.2 * z.2 := by rw [e2]
    _ = whF u r * (z.2 * r.2) := by rw [Int.mul_assoc, Int.mul_comm r.2]
theorem sizes_look {ws : List Int} {r : Int} (h : ∀ x ∈ ws, x ≤ r) : look_at_sizes ws r = some () := by
  unfold look_at_sizes
  obtain ⟨s, e, _⟩ := forS_ix (f := fun (x2 : Int × Int) (s1 : Unit) =>
    if (decide (r < x2.2)) = true then
      (none : Option (Unit))
    else
      some ()) (fun _ _ => True) (enumL ws) () trivial (fun i hi s _ => by
      have := (mem_enumL (List.getElem_mem hi)).2.2
      have := h _ this
      exact ⟨(), by rw [ite_f (decide_eq_false (by omega))], trivial⟩)
  rw [e]
  rfl
theorem read_bins_eq {w : Wd} {r : Int × Int} {as : List (Int × Int)} (hr : Am r ∧ 1 ≤ r.1) (h : ∀ z ∈ as, (Am z ∧ 1 ≤ z.1) ∧ z.1 * r.2 ≤ r.1 * z.2) (hl : as.length ≤ 20) :
    read_bins [((w :: amL r :: as.map amL).map Sx)] = some (unL (r :: as), (as.map (whF (unL (r :: as))), whF (unL (r :: as)) r)) := by
  have ha : ∀ z ∈ r :: as, Am z ∧ 1 ≤ z.1 := fun z hz => by
    rcases List.mem_cons.mp hz with rfl | hz
    · exact hr
    · exact (h z hz).1
  have ha' : ∀ z ∈ r :: as, Am z := fun z hz => (ha z hz).1
  have un := unL_un ha'
  have dv := unL_dvd ha'
  unfold read_bins
  rw [atI_cons0]
  simp only [obs]
  rw [if_neg (by simp; omega)]
  simp only [obs]
  rw [if_neg (by simp; omega), cutL_from _ (by decide)]
  have e2 : (((w :: amL r :: as.map amL).map Sx)).drop (1 : Int).toNat = (r :: as).map fun z => Sx (amL z) := by
    show Sx (amL r) :: (as.map amL).map Sx = _
    rw [List.map_map]; rfl
  have e3 : no_line_behind [((w :: amL r :: as.map amL).map Sx)] 1 = some () := by
    unfold no_line_behind
    rw [if_neg (by simp)]
  rw [e2, ams_eq ha' (fun z hz => (ha z hz).2) (by rw [List.length_cons]; omega), obs, e3, obs, unit_of_eq ha', obs, cutL_from _ (by decide)]
  rw [show (r :: as).drop (1 : Int).toNat = as from rfl, mapO_eq (g := whF (unL (r :: as))) fun z hz => whole_by_eq un (ha' z (List.mem_cons_of_mem _ hz)), obs, atI_cons0]
  simp only [obs]
  rw [whole_by_eq un hr.1, obs, sizes_look (wh_mem _ fun z hz => whF_le un (ha' z (List.mem_cons_of_mem _ hz)) hr.1 (dv z (List.mem_cons_of_mem _ hz)) (dv r List.mem_cons_self) (h z hz).2), obs]
theorem room_drawn {as : List (Int × Int)} (ha : ∀ z ∈ as, Am z ∧ 1 ≤ z.1) {r0 : Int × Int} (h0 : Am r0 ∧ 1 ≤ r0.1) : ∃ r, forS as r0 (fun (one : Int × Int) (s19 : (Int × Int)) =>
      ((mulC s19.1 one.2).bind fun v20 => (mulC one.1 s19.2).bind fun v21 => some (decide (v20 < v21))).bind fun v22 => if v22 = true then
        let room : Int × Int := one
        some room
      else
        some s19) = some r ∧ (Am r ∧ 1 ≤ r.1) ∧ ∀ z ∈ as, z.1 * r.2 ≤ r.1 * z.2 := by
  obtain ⟨r, e, h1, h2⟩ := forS_spec (f := fun (one : Int × Int) (s19 : (Int × Int)) =>
      ((mulC s19.1 one.2).bind fun v20 => (mulC one.1 s19.2).bind fun v21 => some (decide (v20 < v21))).bind fun v22 => if v22 = true then
        let room : Int × Int := one
        some room
      else
        some s19) (fun pre s => (Am s ∧ 1 ≤ s.1) ∧ ∀ z ∈ pre, (Am z ∧ 1 ≤ z.1) ∧ z.1 * s.2 ≤ s.1 * z.2) as [] r0 ⟨h0, fun z hz => absurd hz List.not_mem_nil⟩ fun pre x post s _ ⟨i1, i2⟩ hx => by
    have ax := ha x hx
    rw [mulC_eq (m := 60) (n := 60) (am_sm i1.1).1 (am_sm ax.1).2, obs, mulC_eq (m := 60) (n := 60) (am_sm ax.1).1 (am_sm i1.1).2, obs, obs]
    have x0 := ax.1.b0
    have s0 := i1.1.b0
    by_cases q : s.1 * x.2 < x.1 * s.2
    · rw [if_pos (decide_eq_true q)]
      refine ⟨x, rfl, ax, fun z hz => ?_⟩
      rcases List.mem_append.mp hz with hz | hz
      · obtain ⟨az, lz⟩ := i2 z hz
        have z0 := az.1.b0
        exact ⟨az, ratio_tr (show 0 < s.2 by omega) (by omega) (by omega) lz (by omega)⟩
      · rw [List.mem_singleton.mp hz]
        exact ⟨ax, Int.le_refl _⟩
    · rw [if_neg (by simpa using q)]
      refine ⟨s, rfl, i1, fun z hz => ?_⟩
      rcases List.mem_append.mp hz with hz | hz
      · exact i2 z hz
      · rw [List.mem_singleton.mp hz]
        exact ⟨ax, by omega⟩
  exact ⟨r, e, h1, fun z hz => (h2 z hz).2⟩
theorem bins_made (cells : List Int) (cell : Int) : ∃ lines u ws r, law_putting_made cells cell (Str.ofString "bins") = some (Ll3.mk lines u (.inr (.inr (.inr (.inr (.inl (ws, r))))))) ∧ Mk wBins lines u (.inr (.inr (.inr (.inr (.inl (ws, r)))))) ∧ ws.length ≤ 20 ∧ (1 ≤ r ∧ r ≤ 30000000000000000) ∧ ∀ x ∈ ws, 1 ≤ x ∧ x ≤ r := by
  have l20 := take_len cells 20
  rw [show ((20 : Nat) : Int) = 20 from rfl] at l20
  obtain ⟨as, ea, la, pa⟩ := mapO_ex (xs := enumL (cutL cells none (some 20))) (f := fun x1 : Int × Int => ((law_parts x1.2 x1.1).bind fun v2 => some (v2, (()))).bind fun z3 => law_above z3.1) (p := fun z => Am z ∧ 1 ≤ z.1) fun x hx => by
    have := mem_enumL hx
    exact above_parts x.2 this.1 (by omega)
  rw [enumL_len] at la
  obtain ⟨r0, er0, h0⟩ := above_parts cell (k := 70) (by decide) (by decide)
  obtain ⟨r, er, hr, le⟩ := room_drawn pa h0
  have ha : ∀ z ∈ as, Am z := fun z hz => (pa z hz).1
  have har : ∀ z ∈ as ++ [r], Am z := fun z hz => by
    rcases List.mem_append.mp hz with hz | hz
    · exact ha z hz
    · rw [List.mem_singleton.mp hz]; exact hr.1
  have hra : ∀ z ∈ r :: as, Am z := fun z hz => by
    rcases List.mem_cons.mp hz with rfl | hz
    · exact hr.1
    · exact ha z hz
  have eu : unL (as ++ [r]) = unL (r :: as) := unL_congr har hra fun z => by
    rw [List.mem_append, List.mem_singleton, List.mem_cons, Or.comm]
  have un := unL_un hra
  have dv := unL_dvd hra
  have wok : ∀ w ∈ (wBins :: amL r :: as.map amL), WdOk w := fun w hw => by
    rcases List.mem_cons.mp hw with rfl | hw
    · exact wd_of (by decide)
    · rcases List.mem_cons.mp hw with rfl | hw
      · exact wd_am hr.1
      · obtain ⟨z, hz, rfl⟩ := List.mem_map.mp hw
        exact wd_am (ha z hz)
  have wl : (wBins :: amL r :: as.map amL).length ≤ 100 := by rw [List.length_cons, List.length_cons, List.length_map]; omega
  have rr := whF_rng un hr.1 (dv r List.mem_cons_self)
  refine ⟨[Sx (joinS 32 (wBins :: amL r :: as.map amL))], unL (r :: as), as.map (whF (unL (r :: as))), whF (unL (r :: as)) r, ?_, ⟨un, amL r :: as.map amL, [], ?_, rfl, ?_⟩, by rw [List.length_map]; omega, ⟨rr.2.2.2 hr.2, rr.2.1⟩, ?_⟩
  · unfold law_putting_made
    rw [ea, obs, if_neg (by decide +kernel), er0, obs, er, obs, catC_eq (by simp; omega)]
    simp only [obs]
    rw [law_unit_eq har, eu, obs, am_written hr.1, written_all ha, bins_Sx]
    simp only [obs]
    rw [catC_eq (by simp; omega), obs]
    have e : [Sx wBins, Sx (amL r)] ++ (as.map amL).map Sx = (wBins :: amL r :: as.map amL).map Sx := rfl
    rw [e, join_line wok wl, obs, obs, law_wholes_eq un ha, obs, law_wholes_eq un (l := [r]) (fun z hz => by rw [List.mem_singleton.mp hz]; exact hr.1), obs, List.map_cons, atI_cons0]
    rfl
  · exact rw_cons (List.cons_ne_nil _ _) wl wok (by decide) fun s hs => absurd hs List.not_mem_nil
  · rw [kind_bins]
    show (read_bins [((wBins :: amL r :: as.map amL).map Sx)]).bind _ = _
    rw [read_bins_eq hr (fun z hz => ⟨pa z hz, le z hz⟩) (by omega)]
    rfl
  · exact wh_mem _ fun z hz => by
      have := whF_rng un (ha z hz) (dv z (List.mem_cons_of_mem _ hz))
      exact ⟨this.2.2.2 (pa z hz).2, whF_le un (ha z hz) hr.1 (dv z (List.mem_cons_of_mem _ hz)) (dv r List.mem_cons_self) (le z hz)⟩
theorem forS_apps {α β : Type} {F : α → Option β} {g : α → β} : ∀ (xs : List α) (s : List β), (∀ x ∈ xs, F x = some (g x)) → s.length + xs.length ≤ 1000 → forS xs s (fun x s1 => (F x).bind fun v => (appC s1 v).bind fun y => some y) = some (s ++ xs.map g)
  | [], s, _, _ => by rw [List.map_nil, List.append_nil]; rfl
  | x :: xs, s, h, hl => by
    rw [List.length_cons] at hl
    unfold forS
    rw [h x List.mem_cons_self, obs, appC_eq (by omega), obs, obs, forS_apps xs (s ++ [g x]) (fun y hy => h y (List.mem_cons_of_mem _ hy)) (by rw [List.length_append, List.length_singleton]; omega), List.map_cons, List.append_assoc]
    rfl
def two {α β : Type} (f : α → β) (L : List (α × α)) : List β := L.flatMap fun p => [f p.1, f p.2]
theorem two_cons {α β : Type} (f : α → β) (p : α × α) (L : List (α × α)) : two f (p :: L) = f p.1 :: f p.2 :: two f L := rfl
theorem two_len {α β : Type} (f : α → β) : ∀ L : List (α × α), (two f L).length = 2 * L.length
  | [] => rfl
  | p :: L => by rw [two_cons, List.length_cons, List.length_cons, two_len f L, List.length_cons]; omega
theorem two_map {α β : Type} (f : α → β) : ∀ L : List (α × α), (two id L).map f = two f L
  | [] => rfl
  | p :: L => by rw [two_cons, two_cons, List.map_cons, List.map_cons, two_map f L]; rfl
theorem two_get {α β : Type} (f : α → β) : ∀ (L : List (α × α)) (i : Nat) (h : i < L.length), (two f L)[2 * i]? = some (f L[i].1) ∧ (two f L)[2 * i + 1]? = some (f L[i].2)
  | [], _, h => absurd h (Nat.not_lt_zero _)
  | p :: L, 0, _ => ⟨rfl, rfl⟩
  | p :: L, i + 1, h => by
    have := two_get f L i (by rw [List.length_cons] at h; omega)
    rw [two_cons, show 2 * (i + 1) = 2 * i + 1 + 1 by omega, List.getElem?_cons_succ, List.getElem?_cons_succ, List.getElem?_cons_succ, List.getElem?_cons_succ]
    exact this
theorem two_mem {α : Type} {L : List (α × α)} {x : α} : x ∈ two id L ↔ ∃ p ∈ L, x = p.1 ∨ x = p.2 := by
  unfold two
  rw [List.mem_flatMap]
  constructor
  · rintro ⟨p, hp, h⟩
    refine ⟨p, hp, ?_⟩
    simpa using h
  · rintro ⟨p, hp, h⟩
    exact ⟨p, hp, by simpa using h⟩
theorem read_sack_eq {w : Wd} {r : Int × Int} {L : List ((Int × Int) × (Int × Int))} (hr : Am r) (h : ∀ p ∈ L, Am p.1 ∧ Am p.2 ∧ 1 ≤ p.2.1) (hl : L.length ≤ 20) :
    read_sack (([w, amL r] :: L.map fun p => [amL p.1, amL p.2]).map fun q => q.map Sx) = some (unL (r :: two id L), (whF (unL (r :: two id L)) r, L.map fun p => (whF (unL (r :: two id L)) p.1, whF (unL (r :: two id L)) p.2))) := by
  have ha : ∀ z ∈ r :: two id L, Am z := fun z hz => by
    rcases List.mem_cons.mp hz with rfl | hz
    · exact hr
    · obtain ⟨p, hp, e⟩ := two_mem.mp hz
      rcases e with rfl | rfl
      · exact (h p hp).1
      · exact (h p hp).2.1
  have un := unL_un ha
  have rl : (([w, amL r] :: L.map fun p => [amL p.1, amL p.2]).map fun q => q.map Sx).length = L.length + 1 := by rw [List.length_map, List.length_cons, List.length_map]
  unfold read_sack
  rw [List.map_cons, atI_cons0]
  simp only [obs]
  rw [if_neg (by simp), cutL_from _ (by decide)]
  rw [show ([w, amL r].map Sx).drop (1 : Int).toNat = [r].map fun z => Sx (amL z) from rfl, ams_eq (as := [r]) (fun z hz => by rw [List.mem_singleton.mp hz]; exact hr) (fun z hz => by rw [List.mem_singleton.mp hz]; exact hr.t0) (by simp), obs]
  rw [List.map_cons] at rl
  rw [rl]
  obtain ⟨s, es, hs⟩ := forS_ix (f := fun (line : Int) (s6 : (List (Int × Int))) =>
      (if (decide (40 < line)) = true then some true else ((atI ((([w, amL r].map Sx) :: (L.map fun p => [amL p.1, amL p.2]).map fun q => q.map Sx)) line).bind fun v7 => some (v7.length : Int)).bind fun v8 => some (!decide (v8 = 2))).bind fun v17 => if v17 = true then
        (none : Option ((List (Int × Int))))
      else
        ((((atI ((([w, amL r].map Sx) :: (L.map fun p => [amL p.1, amL p.2]).map fun q => q.map Sx)) line).bind fun v9 => some (cutL v9 none (some 1))).bind fun v10 => some (v10, (line, 0, ()))).bind fun z11 => amounts_in z11.1 z11.2.1 z11.2.2.1).bind fun v12 => (catC s6 v12).bind fun amounts =>
        ((((atI ((([w, amL r].map Sx) :: (L.map fun p => [amL p.1, amL p.2]).map fun q => q.map Sx)) line).bind fun v13 => some (cutL v13 (some 1) none)).bind fun v14 => some (v14, (line, 1, ()))).bind fun z15 => amounts_in z15.1 z15.2.1 z15.2.2.1).bind fun v16 => (catC amounts v16).bind fun amounts =>
        some amounts) (fun i s => s = r :: two id (L.take i)) (irange 1 ((L.length + 1 : Nat) : Int)) [r] rfl fun i hi s hs => by
    rw [irange_len] at hi
    have hi' : i < L.length := by omega
    rw [irange_ix]
    have ep : atI ((([w, amL r].map Sx) :: (L.map fun p => [amL p.1, amL p.2]).map fun q => q.map Sx)) (1 + (i : Int)) = some [Sx (amL L[i].1), Sx (amL L[i].2)] := by
      rw [atI_some (by omega) (by rw [List.length_cons, List.length_map, List.length_map]; omega)]
      have e : (1 + (i : Int)).toNat = i + 1 := by omega
      simp only [e, List.getElem_cons_succ, List.getElem_map]
      rfl
    obtain ⟨a1, a2, a3⟩ := h _ (List.getElem_mem hi')
    have sl : s.length ≤ 1 + 2 * i := by rw [hs, List.length_cons, two_len, List.length_take]; omega
    rw [if_neg (by simp; omega), ep]
    simp only [obs]
    rw [if_neg (by simp), cutL_to _ (by decide), cutL_from _ (by decide)]
    rw [show [Sx (amL L[i].1), Sx (amL L[i].2)].take (1 : Int).toNat = [L[i].1].map fun z => Sx (amL z) from rfl, show [Sx (amL L[i].1), Sx (amL L[i].2)].drop (1 : Int).toNat = [L[i].2].map fun z => Sx (amL z) from rfl]
    rw [ams_eq (as := [L[i].1]) (fun z hz => by rw [List.mem_singleton.mp hz]; exact a1) (fun z hz => by rw [List.mem_singleton.mp hz]; exact a1.t0) (by simp), obs, catC_eq (by simp; omega), obs,
      ams_eq (as := [L[i].2]) (fun z hz => by rw [List.mem_singleton.mp hz]; exact a2) (fun z hz => by rw [List.mem_singleton.mp hz]; exact a3) (by simp), obs, catC_eq (by simp; omega), obs]
    refine ⟨_, rfl, ?_⟩
    rw [hs, List.take_succ_eq_append_getElem hi']
    unfold two
    rw [List.flatMap_append]
    simp
  rw [irange_len] at hs
  have hs : s = r :: two id L := by
    rw [hs, List.take_of_length_le (by omega)]
  rw [es, obs, hs, unit_of_eq ha, obs, mapO_eq (g := whF (unL (r :: two id L))) fun z hz => whole_by_eq un (ha z hz), obs]
  generalize unL (r :: two id L) = u at *
  rw [List.map_cons, two_map, List.length_cons, two_len]
  have er : rng2C 1 (((2 * L.length + 1 : Nat)) : Int) = some (irange2 1 ((2 * L.length + 1 : Nat) : Int)) := by
    unfold rng2C
    rw [if_pos (by omega)]
  have en : n2 1 ((2 * L.length + 1 : Nat) : Int) = L.length := by
    unfold n2
    split <;> omega
  rw [er, obs]
  have et : mapO (irange2 1 ((2 * L.length + 1 : Nat) : Int)) (fun k : Int => ((atI (whF u r :: two (whF u) L) k).bind fun v19 => ((atI (whF u r :: two (whF u) L) (k + 1)).bind fun v18 => some (v18, (()))).bind fun r20 => some (v19, r20)).bind fun z21 => some (z21.1, z21.2.1)) = some (L.map fun p => (whF u p.1, whF u p.2)) := by
    rw [mapO_eq (g := fun k : Int => (((whF u r :: two (whF u) L)[k.toNat]?).getD 0, ((whF u r :: two (whF u) L)[(k + 1).toNat]?).getD 0)) fun k hk => by
      unfold irange2 at hk
      obtain ⟨i, hi, rfl⟩ := List.mem_map.mp hk
      rw [List.mem_range, en] at hi
      have ll : (whF u r :: two (whF u) L).length = 2 * L.length + 1 := by rw [List.length_cons, two_len]
      rw [atI_eq (by omega) (by omega), atI_eq (by omega) (by omega), List.getElem?_eq_getElem (show (1 + (i : Int) * 2).toNat < _ by omega), List.getElem?_eq_getElem (show (1 + (i : Int) * 2 + 1).toNat < _ by omega)]
      simp only [obs, Option.getD_some]]
    refine congrArg some ?_
    refine List.ext_getElem (by rw [List.length_map, irange2_len, en, List.length_map]) fun i h1 h2 => ?_
    rw [List.length_map] at h2
    rw [List.getElem_map, List.getElem_map]
    unfold irange2
    rw [List.getElem_map, List.getElem_range]
    obtain ⟨g1, g2⟩ := two_get (whF u) L i h2
    rw [show (1 + (i : Int) * 2).toNat = 2 * i + 1 by omega, show (1 + (i : Int) * 2 + 1).toNat = 2 * i + 1 + 1 by omega, List.getElem?_cons_succ, List.getElem?_cons_succ, g1, g2]
    rfl
  rw [et, obs, atI_cons0]
  simp only [obs]
theorem sack_blank : Str.ofString "sack " = Sx (wSack ++ [32]) := by decide +kernel
theorem zip_map2 {α β γ δ : Type} (f : α → γ) (g : β → δ) : ∀ (xs : List α) (ys : List β), (xs.map f).zip (ys.map g) = (xs.zip ys).map fun p => (f p.1, g p.2)
  | [], _ => rfl
  | _ :: _, [] => rfl
  | x :: xs, y :: ys => by rw [List.map_cons, List.map_cons, List.zip_cons_cons, List.zip_cons_cons, List.map_cons, zip_map2 f g xs ys]
theorem sack_made (cells : List Int) (cell : Int) : ∃ lines u r ts, law_sack_made cells cell = some (Ll3.mk lines u (.inr (.inr (.inr (.inr (.inr (r, ts))))))) ∧ Mk wSack lines u (.inr (.inr (.inr (.inr (.inr (r, ts)))))) ∧ ts.length ≤ 20 ∧ (0 ≤ r ∧ r ≤ 30000000000000000) ∧ ∀ t ∈ ts, (0 ≤ t.1 ∧ t.1 ≤ 30000000000000000) ∧ 1 ≤ t.2 ∧ t.2 ≤ 30000000000000000 := by
  have l20 := take_len cells 20
  rw [show ((20 : Nat) : Int) = 20 from rfl] at l20
  obtain ⟨r, er, hr⟩ := parts_eq cell (k := 70) (by decide) (by decide)
  obtain ⟨ws, ew, lw, pw⟩ := mapO_ex (xs := enumL (cutL cells none (some 20))) (f := fun x1 : Int × Int => law_parts x1.2 x1.1) (p := Am) fun x hx => by
    have := mem_enumL hx
    exact parts_eq x.2 this.1 (by omega)
  obtain ⟨es, ee, le, pe⟩ := mapO_ex (xs := enumL (cutL cells none (some 20))) (f := fun x2 : Int × Int => ((law_parts x2.2 (x2.1 + 50)).bind fun v3 => some (v3, (()))).bind fun z4 => law_above z4.1) (p := fun z => Am z ∧ 1 ≤ z.1) fun x hx => by
    have := mem_enumL hx
    exact above_parts x.2 (by omega) (by omega)
  rw [enumL_len] at lw le
  obtain ⟨L, eL⟩ : ∃ L, ws.zip es = L := ⟨_, rfl⟩
  have Ll : L.length ≤ 20 := by rw [← eL, List.length_zip]; omega
  have hL : ∀ p ∈ L, Am p.1 ∧ Am p.2 ∧ 1 ≤ p.2.1 := fun p hp => by
    rw [← eL] at hp
    have h1 := pw _ (List.of_mem_zip hp).1
    have h2 := pe _ (List.of_mem_zip hp).2
    exact ⟨h1, h2⟩
  have hall : ∀ z ∈ [r] ++ ws ++ es, Am z := fun z hz => by
    rcases List.mem_append.mp hz with hz | hz
    · rcases List.mem_append.mp hz with hz | hz
      · rw [List.mem_singleton.mp hz]; exact hr
      · exact pw z hz
    · exact (pe z hz).1
  have htwo : ∀ z ∈ r :: two id L, Am z := fun z hz => by
    rcases List.mem_cons.mp hz with rfl | hz
    · exact hr
    · obtain ⟨p, hp, e⟩ := two_mem.mp hz
      rcases e with rfl | rfl
      · exact (hL p hp).1
      · exact (hL p hp).2.1
  have eu : unL ([r] ++ ws ++ es) = unL (r :: two id L) := unL_congr hall htwo fun z => by
    rw [List.mem_append, List.mem_append, List.mem_singleton, List.mem_cons, two_mem]
    constructor
    · rintro ((h | h) | h)
      · exact .inl h
      · obtain ⟨i, hi, rfl⟩ := List.mem_iff_getElem.mp h
        exact .inr ⟨(ws[i], es[i]'(by omega)), by rw [← eL]; exact List.mem_iff_getElem.mpr ⟨i, by rw [List.length_zip]; omega, List.getElem_zip⟩, .inl rfl⟩
      · obtain ⟨i, hi, rfl⟩ := List.mem_iff_getElem.mp h
        exact .inr ⟨(ws[i]'(by omega), es[i]), by rw [← eL]; exact List.mem_iff_getElem.mpr ⟨i, by rw [List.length_zip]; omega, List.getElem_zip⟩, .inr rfl⟩
    · rintro (h | ⟨p, hp, h⟩)
      · exact .inl (.inl h)
      · rw [← eL] at hp
        rcases h with rfl | rfl
        · exact .inl (.inr (List.of_mem_zip hp).1)
        · exact .inr (List.of_mem_zip hp).2
  have un := unL_un htwo
  have dv := unL_dvd htwo
  have ok2 : ∀ a b : Int × Int, Am a → Am b → ∀ w ∈ [amL a, amL b], WdOk w := fun a b ha hb w hw => by
    simp only [List.mem_cons, List.not_mem_nil, or_false] at hw
    rcases hw with rfl | rfl
    · exact wd_am ha
    · exact wd_am hb
  have rr := whF_rng un hr (dv r List.mem_cons_self)
  refine ⟨_, unL (r :: two id L), whF (unL (r :: two id L)) r, L.map fun p => (whF (unL (r :: two id L)) p.1, whF (unL (r :: two id L)) p.2), ?_, ⟨un, [amL r], L.map fun p => [amL p.1, amL p.2], ?_, rfl, ?_⟩, by rw [List.length_map]; exact Ll, ⟨rr.1, rr.2.1⟩, fun t ht => ?_⟩
  · unfold law_sack_made
    rw [er, obs, ew, obs, ee, obs, catC_eq (by simp; omega), obs, catC_eq (by simp; omega), obs, obs, law_unit_eq hall, obs, eu, am_written hr, obs, sack_blank, catS_eq (by have := amL_len hr; simp; omega), obs, obs]
    rw [eL]
    rw [forS_apps (F := fun x11 : (Int × Int) × (Int × Int) => ((law_written x11.1).bind fun v12 => catS v12 (Str.ofString " ")).bind fun v13 => (law_written x11.2).bind fun v14 => catS v13 v14) (g := fun p => Sx (joinS 32 [amL p.1, amL p.2])) L [Sx (wSack ++ [32] ++ amL r)] (fun p hp => by
      obtain ⟨h1, h2, _⟩ := hL p hp
      have l1 := amL_len h1
      have l2 := amL_len h2
      rw [am_written h1, obs, blank_Sx, catS_eq (by simp; omega), obs, am_written h2, obs, catS_eq (by simp; omega)]
      show some (Sx (amL p.1 ++ [32] ++ amL p.2)) = some (Sx (amL p.1 ++ ([32] ++ amL p.2)))
      rw [List.append_assoc]) (by simp; omega), obs, law_wholes_eq un pw, obs, law_wholes_eq un (fun z hz => (pe z hz).1), obs, obs, law_wholes_eq un (l := [r]) (fun z hz => by rw [List.mem_singleton.mp hz]; exact hr), obs, List.map_cons, obs, atI_cons0, zip_map2, eL]
    simp only [obs, List.map_map]
    congr 2
    rw [List.map_cons, List.map_map]
    show Sx (wSack ++ [32] ++ amL r) :: _ = Sx (wSack ++ ([32] ++ amL r)) :: _
    rw [List.append_assoc]
    rfl
  · refine rw_cons (List.cons_ne_nil _ _) (by simp) (fun w hw => ?_) (by rw [List.length_map]; omega) fun s hs => ?_
    · simp only [List.mem_cons, List.not_mem_nil, or_false] at hw
      rcases hw with rfl | rfl
      · exact wd_of (by decide)
      · exact wd_am hr
    · obtain ⟨p, hp, rfl⟩ := List.mem_map.mp hs
      exact ⟨List.cons_ne_nil _ _, by simp, ok2 _ _ (hL p hp).1 (hL p hp).2.1⟩
  · rw [kind_sack, read_sack_eq hr hL Ll]
    rfl
  · obtain ⟨p, hp, rfl⟩ := List.mem_map.mp ht
    have m1 : p.1 ∈ r :: two id L := List.mem_cons_of_mem _ (two_mem.mpr ⟨p, hp, .inl rfl⟩)
    have m2 : p.2 ∈ r :: two id L := List.mem_cons_of_mem _ (two_mem.mpr ⟨p, hp, .inr rfl⟩)
    have a1 := whF_rng un (hL p hp).1 (dv _ m1)
    have a2 := whF_rng un (hL p hp).2.1 (dv _ m2)
    exact ⟨⟨a1.1, a1.2.1⟩, a2.2.2.2 (hL p hp).2.2, a2.2.1⟩
end M
namespace M
open PySem L2 GM
theorem strI_int {x : Int} (h0 : 0 ≤ x) (h1 : x < 1000) : strI x = some (Sx (TL.numL x.toNat)) := strI_eq h0 (Sm.of 1900 1000 (by decide +kernel) (by omega) (by omega))
theorem wd_int {x : Int} (h1 : x < 1000) : WdOk (TL.numL x.toNat) := wd_num (Nat.lt_of_lt_of_le (show x.toNat < 1000 by omega) (by decide))
def numW (x : Int) : Wd := TL.numL x.toNat
theorem read_touch_eq {w : Wd} {as : List (Int × Int)} {L : List (Int × Int)} (h : ∀ z ∈ as, Am z) (h1 : 1 ≤ as.length) (h2 : as.length ≤ 40) (hL : ∀ l ∈ L, 0 ≤ l.1 ∧ l.1 < as.length ∧ 0 ≤ l.2 ∧ l.2 < as.length ∧ l.1 ≠ l.2) (ll : L.length ≤ 60) :
    read_touch (((w :: as.map amL) :: L.map fun p => [numW p.1, numW p.2]).map fun q => q.map Sx) = some (unL as, (as.map (whF (unL as)), L)) := by
  have un := unL_un h
  unfold read_touch
  rw [List.map_cons, atI_cons0]
  simp only [obs]
  rw [if_neg (by simp; omega)]
  simp only [obs]
  rw [if_neg (by simp; omega), cutL_from _ (by decide)]
  have e2 : (((w :: as.map amL).map Sx)).drop (1 : Int).toNat = as.map fun z => Sx (amL z) := by
    show (as.map amL).map Sx = _
    rw [List.map_map]; rfl
  rw [e2, ams_eq h (fun z hz => (h z hz).t0) (by omega), obs]
  have rl : (((w :: as.map amL).map Sx) :: (L.map fun p => [numW p.1, numW p.2]).map fun q => q.map Sx).length = L.length + 1 := by rw [List.length_cons, List.length_map, List.length_map]
  rw [rl]
  obtain ⟨s, es, hs⟩ := forS_ix (f := fun (line : Int) (s9 : (List (Int × Int))) =>
      (if (decide (80 < line)) = true then some true else ((atI (((w :: as.map amL).map Sx) :: (L.map fun p => [numW p.1, numW p.2]).map fun q => q.map Sx) line).bind fun v10 => some (v10.length : Int)).bind fun v11 => some (!decide (v11 = 2))).bind fun v17 => if v17 = true then
        (none : Option ((List (Int × Int))))
      else
        (((((atI (((w :: as.map amL).map Sx) :: (L.map fun p => [numW p.1, numW p.2]).map fun q => q.map Sx) line).bind fun v12 => some (v12, (line, (as.length : Int), ()))).bind fun z13 => numbers_in z13.1 z13.2.1 z13.2.2.1).bind fun v14 => some (Tp.mk v14)).bind fun v15 => tp2 v15).bind fun v16 => (appC s9 v16).bind fun lines =>
        some lines) (fun i s => s = L.take i) (irange 1 ((L.length + 1 : Nat) : Int)) [] rfl fun i hi s hs => by
    rw [irange_len] at hi
    have hi' : i < L.length := by omega
    rw [irange_ix]
    have ep : atI (((w :: as.map amL).map Sx) :: (L.map fun p => [numW p.1, numW p.2]).map fun q => q.map Sx) (1 + (i : Int)) = some ([L[i].1, L[i].2].map fun n => Sx (TL.numL n.toNat)) := by
      rw [atI_some (by omega) (by rw [List.length_cons, List.length_map, List.length_map]; omega)]
      have e : (1 + (i : Int)).toNat = i + 1 := by omega
      simp only [e, List.getElem_cons_succ, List.getElem_map]
      rfl
    obtain ⟨a0, a1, b0, b1, ne⟩ := hL _ (List.getElem_mem hi')
    have sl : s.length ≤ i := by rw [hs, List.length_take]; omega
    rw [if_neg (by simp; omega), ep]
    simp only [obs]
    rw [if_neg (by simp), numbers_in_eq (by simpa using ne) (fun x hx => by
      simp only [List.mem_cons, List.not_mem_nil, or_false] at hx
      rcases hx with rfl | rfl
      · exact ⟨a0, a1⟩
      · exact ⟨b0, b1⟩) (by omega) (by simp), obs, obs]
    rw [show tp2 (Tp.mk [L[i].1, L[i].2]) = some (L[i].1, L[i].2) from rfl, obs, appC_eq (by omega), obs]
    refine ⟨_, rfl, ?_⟩
    rw [hs, List.take_succ_eq_append_getElem hi']
  rw [irange_len] at hs
  have hs : s = L := by rw [hs, List.take_of_length_le (by omega)]
  rw [es, obs, hs, unit_of_eq h, obs, mapO_eq (g := whF (unL as)) fun z hz => whole_by_eq un (h z hz)]
  simp only [obs]
theorem joinS_two (a b : Wd) : joinS 32 [a, b] = a ++ [32] ++ b := by
  show a ++ ([32] ++ b) = _
  rw [List.append_assoc]
theorem touch_made (cells : List Int) {cell : Int} (hc : 0 ≤ cell) : ∃ lines u ps L, law_touch_made cells cell = some (Ll3.mk lines u (.inr (.inl (ps, L)))) ∧ Mk wTouch lines u (.inr (.inl (ps, L))) ∧ 2 ≤ ps.length ∧ ps.length ≤ 9 ∧ L.length ≤ 24 ∧ (∀ x ∈ ps, 0 ≤ x ∧ x ≤ 30000000000000000) ∧ ∀ l ∈ L, 0 ≤ l.1 ∧ l.1 < ps.length ∧ 0 ≤ l.2 ∧ l.2 < ps.length ∧ l.1 ≠ l.2 := by
  have l24 := take_len cells 24
  rw [show ((24 : Nat) : Int) = 24 from rfl] at l24
  obtain ⟨n, en⟩ := Int.eq_ofNat_of_zero_le (show 0 ≤ 2 + cell % 8 by omega)
  obtain ⟨as, ea, la, pa⟩ := mapO_ex (xs := irange 0 (n : Int)) (f := fun k : Int => ((law_cell_at cells k).bind fun v1 => some (v1, (k, ()))).bind fun z2 => law_parts z2.1 z2.2.1) (p := Am) fun k hk => by
    have := mem_irange.mp hk
    exact cell_parts cells this.1 (by omega)
  rw [irange_len] at la
  have la : as.length = n := by omega
  have un := unL_un pa
  have wok : ∀ w ∈ (wTouch :: as.map amL), WdOk w := fun w hw => by
    rcases List.mem_cons.mp hw with rfl | hw
    · exact wd_of (by decide)
    · obtain ⟨z, hz, rfl⟩ := List.mem_map.mp hw
      exact wd_am (pa z hz)
  have wl : (wTouch :: as.map amL).length ≤ 100 := by rw [List.length_cons, List.length_map]; omega
  obtain ⟨s, es, sl, s1, sL⟩ := forS_ix (f := fun (x8 : Int × Int) (s7 : (List Str) × (List (Int × Int))) =>
    (law_number x8.2 (x8.1 + 130)).bind fun end_ =>
    (((modC end_ (n : Int)).bind fun v9 => some (v9 + 1)).bind fun v11 => ((divC end_ (n : Int)).bind fun v10 => modC v10 ((n : Int) - 1)).bind fun v12 => some (v11 + v12)).bind fun other =>
    (((modC end_ (n : Int)).bind fun v14 => ((modC other (n : Int)).bind fun v13 => some (v13, (()))).bind fun r15 => some (v14, r15)).bind fun z16 => some (z16.1, z16.2.1)).bind fun v17 => (appC s7.2 v17).bind fun ends =>
    ((((modC end_ (n : Int)).bind fun v18 => strI v18).bind fun v19 => catS v19 (Str.ofString " ")).bind fun v21 => ((modC other (n : Int)).bind fun v20 => strI v20).bind fun v22 => catS v21 v22).bind fun v23 => (appC s7.1 v23).bind fun lines =>
    some (lines, ends)) (fun i s => s.2.length = i ∧ s.1 = Sx (joinS 32 (wTouch :: as.map amL)) :: s.2.map (fun p => Sx (joinS 32 [numW p.1, numW p.2])) ∧ ∀ l ∈ s.2, 0 ≤ l.1 ∧ l.1 < (n : Int) ∧ 0 ≤ l.2 ∧ l.2 < (n : Int) ∧ l.1 ≠ l.2) (enumL (cutL cells none (some 24))) ([Sx (joinS 32 (wTouch :: as.map amL))], []) ⟨rfl, rfl, fun l hl => absurd hl List.not_mem_nil⟩ fun i hi s ⟨i1, i2, i3⟩ => by
    have hm := mem_enumL (List.getElem_mem hi)
    rw [enumL_len] at hi
    obtain ⟨e, ee, e0, e1⟩ := number_eq (enumL (cutL cells none (some 24)))[i].2 (k := (enumL (cutL cells none (some 24)))[i].1 + 130) (by omega) (by omega)
    have a0 := Int.emod_nonneg e (show (n : Int) ≠ 0 by omega)
    have a1 := Int.emod_lt_of_pos e (show (0 : Int) < n by omega)
    have t0 := Int.emod_nonneg (e / (n : Int)) (show (n : Int) - 1 ≠ 0 by omega)
    have t1 := Int.emod_lt_of_pos (e / (n : Int)) (show (0 : Int) < (n : Int) - 1 by omega)
    rw [ee, obs, modC_eq (by omega), obs, divC_eq (n := 60) (by omega) (Sm.of 60 1000 (by decide) (by omega) (by omega))]
    simp only [obs]
    rw [modC_eq (by omega)]
    simp only [obs]
    generalize e % (n : Int) = a at *
    generalize e / (n : Int) % ((n : Int) - 1) = t at *
    rw [modC_eq (by omega)]
    have b0 := Int.emod_nonneg (a + 1 + t) (show (n : Int) ≠ 0 by omega)
    have b1 := Int.emod_lt_of_pos (a + 1 + t) (show (0 : Int) < n by omega)
    have hne : a ≠ (a + 1 + t) % (n : Int) := by
      by_cases q : a + 1 + t < n
      · rw [Int.emod_eq_of_lt (by omega) q]; omega
      · rw [show a + 1 + t = (a + 1 + t - n) + n by omega, Int.add_emod_right, Int.emod_eq_of_lt (by omega) (by omega)]; omega
    generalize (a + 1 + t) % (n : Int) = b at *
    have la' : (numW a).length ≤ 100 := (wd_int (by omega)).l
    have lb' : (numW b).length ≤ 100 := (wd_int (by omega)).l
    simp only [obs]
    rw [appC_eq (by omega), obs, strI_int a0 (by omega), obs, blank_Sx, catS_eq (by unfold numW at la'; simp; omega), obs, strI_int b0 (by omega), obs, catS_eq (by unfold numW at la' lb'; simp; omega), obs, appC_eq (by rw [i2, List.length_cons, List.length_map]; omega), obs]
    refine ⟨_, rfl, by show (s.2 ++ [(a, b)]).length = i + 1; rw [List.length_append, List.length_singleton, i1], ?_, fun l hl => ?_⟩
    · show s.1 ++ [Sx (numW a ++ [32] ++ numW b)] = _ :: (s.2 ++ [(a, b)]).map _
      rw [i2, List.map_append, List.cons_append, ← joinS_two]
      rfl
    · rcases List.mem_append.mp hl with hl | hl
      · exact i3 l hl
      · rw [List.mem_singleton.mp hl]
        exact ⟨a0, a1, b0, b1, hne⟩
  rw [enumL_len] at sl
  refine ⟨s.1, unL as, as.map (whF (unL as)), s.2, ?_, ⟨un, as.map amL, s.2.map fun p => [numW p.1, numW p.2], ?_, ?_, ?_⟩, by rw [List.length_map]; omega, by rw [List.length_map]; omega, by omega, ?_, ?_⟩
  · unfold law_touch_made
    dsimp only
    rw [en, rngC_eq (by omega) (by omega) (by omega) (by omega), obs, ea, obs, written_all pa, obs, touch_Sx, catC_eq (by simp; omega), obs]
    have e : [Sx wTouch] ++ (as.map amL).map Sx = (wTouch :: as.map amL).map Sx := rfl
    rw [e, join_line wok wl]
    simp only [obs]
    rw [es, obs, law_unit_eq pa, obs, law_wholes_eq un pa]
    simp only [obs]
  · refine rw_cons (List.cons_ne_nil _ _) wl wok (by rw [List.length_map]; omega) fun r hr => ?_
    obtain ⟨p, hp, rfl⟩ := List.mem_map.mp hr
    have := sL p hp
    refine ⟨List.cons_ne_nil _ _, by simp, fun w hw => ?_⟩
    simp only [List.mem_cons, List.not_mem_nil, or_false] at hw
    rcases hw with rfl | rfl
    · exact wd_int (by omega)
    · exact wd_int (by omega)
  · rw [s1, List.map_cons, List.map_cons, List.map_map, List.map_map]
    rfl
  · rw [kind_touch, read_touch_eq pa (by omega) (by omega) (by rw [la]; exact sL) (by omega)]
    rfl
  · exact wh_mem _ fun z hz => by
      have := whF_rng un (pa z hz) (unL_dvd pa z hz)
      exact ⟨this.1, this.2.1⟩
  · rw [List.length_map, la]; exact sL
end M
namespace M.QE
open PySem L2 GM M
theorem scrL_eq {xs : List Int} (h : xs.length ≤ 63) : scrL xs = some xs := by
  unfold scrL
  rw [if_pos h]
end M.QE
namespace M
open PySem L2 GM
theorem amount_eq (c : Int) {k : Int} (h0 : 0 ≤ k) (h1 : k ≤ 1000) : ∃ v, law_amount c k = some v ∧ 0 ≤ v ∧ v ≤ 1000000000000000000 := by
  obtain ⟨n, e, n0, n1⟩ := number_eq c h0 h1
  unfold law_amount
  rw [e, obs]
  split
  · exact ⟨_, rfl, by omega, by omega⟩
  · split
    · exact ⟨_, rfl, by omega, by omega⟩
    · rw [modC_eq (by decide)]
      refine ⟨_, rfl, Int.emod_nonneg _ (by decide), ?_⟩
      have := Int.emod_lt_of_pos (c % 100000000000000000000 * 6364136223846793005 + n) (show (0 : Int) < 1000000000000000000 + 1 by decide)
      omega
theorem bit_eq (v p : Int) (p0 : 0 ≤ p) (p1 : p ≤ 100) : ∃ b, law_bit v p = some b := by
  unfold law_bit
  rw [rngC_eq (by omega) (by omega) (by omega) (by omega), obs]
  obtain ⟨s, e, _⟩ := forS_ix (f := fun (k : Int) (s1 : Int) => some (s1 / 2)) (fun _ _ => True) (irange 0 p) v trivial fun i hi s _ => ⟨_, rfl, trivial⟩
  show ∃ b, (forS (irange 0 p) v (fun (k : Int) (s1 : Int) => some (s1 / 2))).bind _ = some b
  rw [e, obs]
  exact ⟨_, rfl⟩
theorem has_eq (c : Int) {k t : Int} (k0 : 0 ≤ k) (k1 : k ≤ 100) (t0 : 0 ≤ t) (t1 : t ≤ 100) : ∃ b, law_has c k t = some b := by
  obtain ⟨v, ev, _⟩ := number_eq c (k := k + 50) (by omega) (by omega)
  obtain ⟨w, ew, _⟩ := number_eq c (k := k + 90) (by omega) (by omega)
  obtain ⟨a, ea⟩ := bit_eq v t t0 t1
  obtain ⟨b, eb⟩ := bit_eq w t t0 t1
  unfold law_has
  rw [ev, obs, ea, ew]
  simp only [obs]
  rw [eb, obs, obs]
  exact ⟨_, rfl⟩
theorem sets_eq (cells : List Int) {m : Nat} (hc : cells.length ≤ 14) (hm : m ≤ 12) : ∃ S, law_sets cells m = some S ∧ SetsOk m S := by
  unfold law_sets
  dsimp only
  obtain ⟨S, eS, lS, oS⟩ := forS_ix (f := fun (x2 : Int × Int) (s1 : (List (Int × (List Int)))) =>
    ((rngC 0 (m : Int)).bind fun v3 => filO v3 (fun thing : Int => law_has x2.2 x2.1 thing) (fun thing : Int => some thing)).bind fun things =>
    (law_amount x2.2 x2.1).bind fun v4 => (appC s1 (v4, things)).bind fun found =>
    some found) (fun i s => s.length = i ∧ ∀ x ∈ s, SetOk m x) (enumL cells) [] ⟨rfl, fun x hx => absurd hx List.not_mem_nil⟩ fun i hi s ⟨s1, s2⟩ => by
    rw [enumL_len] at hi
    rw [GM.enumL_at, rngC_eq (by omega) (by omega) (by omega) (by omega), obs]
    dsimp only
    obtain ⟨v, ev, v0, v1⟩ := amount_eq cells[i] (k := (i : Int)) (by omega) (by omega)
    rw [filO_sel (c' := fun t => (law_has cells[i] i t).getD false) (f' := fun t => t) (fun t ht => by
      rw [mem_irange] at ht
      obtain ⟨b, e⟩ := has_eq cells[i] (k := (i : Int)) (t := t) (by omega) (by omega) ht.1 (by omega)
      rw [e]; rfl) fun t _ _ => rfl, obs, List.map_id', ev, obs, appC_eq (by omega), obs]
    refine ⟨_, rfl, by rw [List.length_append, List.length_singleton]; omega, fun x hx => ?_⟩
    rcases List.mem_append.mp hx with hx | hx
    · exact s2 x hx
    · rw [List.mem_singleton.mp hx]
      exact ⟨⟨v0, v1⟩, (irange_nodup 0 m).filter _, fun t ht => mem_irange.mp (List.mem_filter.mp ht).1⟩
  rw [enumL_len] at lS
  rw [eS, obs]
  have hT : ∃ T, (if (decide (S = ([] : List (Int × (List Int))))) = true then
    (appC S (3, ([] : List Int))).bind fun found =>
    some found
  else
    some S) = some T ∧ 1 ≤ T.length ∧ T.length ≤ 15 ∧ ∀ x ∈ T, SetOk m x := by
    by_cases c : S = []
    · rw [if_pos (decide_eq_true c), appC_eq (by omega), obs]
      subst c
      refine ⟨_, rfl, by simp, by simp, fun x hx => ?_⟩
      rw [List.mem_singleton.mp hx]
      exact ⟨⟨by decide, by decide⟩, .nil, fun t ht => absurd ht List.not_mem_nil⟩
    · rw [if_neg (by simpa using c)]
      have := List.length_pos_iff.mpr c
      exact ⟨S, rfl, by omega, by omega, oS⟩
  obtain ⟨T, eT, T1, T15, oT⟩ := hT
  rw [eT, obs, rngC_eq (by omega) (by omega) (by omega) (by omega), obs]
  obtain ⟨U, eU, lU, oU, cU⟩ := forS_rng (f := fun (thing : Int) (s6 : (List (Int × (List Int)))) =>
    if (decide ((((s6.filter (fun x7 : Int × (List Int) => decide (thing ∈ x7.2))).map (fun x7 : Int × (List Int) => (1 : Int))).length : Int) = 0)) = true then
      (modC (thing * 5) (s6.length : Int)).bind fun v10 => (appAt s6 v10 thing).bind fun found =>
      some found
    else
      some s6) (fun k s => s.length = T.length ∧ (∀ x ∈ s, SetOk m x) ∧ ∀ t : Int, 0 ≤ t → t < k → ∃ x ∈ s, t ∈ x.2) m T ⟨rfl, oT, fun t t0 t1 => by omega⟩ fun k hk s ⟨s1, s2, s3⟩ => by
    by_cases c : ∃ x ∈ s, (k : Int) ∈ x.2
    · have e : ¬ ((((s.filter (fun x7 : Int × (List Int) => decide ((k : Int) ∈ x7.2))).map (fun x7 : Int × (List Int) => (1 : Int))).length : Int) = 0) := by
        obtain ⟨x, hx, hk⟩ := c
        have := List.length_pos_of_mem (List.mem_filter.mpr ⟨hx, decide_eq_true hk⟩ : x ∈ s.filter (fun x7 : Int × (List Int) => decide ((k : Int) ∈ x7.2)))
        rw [List.length_map]; omega
      rw [if_neg (by simpa using e)]
      refine ⟨s, rfl, s1, s2, fun t t0 t1 => ?_⟩
      by_cases q : t = (k : Int)
      · subst q; exact c
      · exact s3 t t0 (by omega)
    · have e : ((((s.filter (fun x7 : Int × (List Int) => decide ((k : Int) ∈ x7.2))).map (fun x7 : Int × (List Int) => (1 : Int))).length : Int) = 0) := by
        have : s.filter (fun x7 : Int × (List Int) => decide ((k : Int) ∈ x7.2)) = [] := List.filter_eq_nil_iff.mpr fun x hx q => c ⟨x, hx, of_decide_eq_true q⟩
        rw [this]; rfl
      rw [if_pos (decide_eq_true e), modC_eq (by omega), obs]
      have a0 := Int.emod_nonneg ((k : Int) * 5) (show (s.length : Int) ≠ 0 by omega)
      have a1 := Int.emod_lt_of_pos ((k : Int) * 5) (show 0 < (s.length : Int) by omega)
      generalize (k : Int) * 5 % (s.length : Int) = a at *
      have hs := s2 _ (List.getElem_mem (show a.toNat < s.length by omega))
      have ll : (s[a.toNat]'(by omega)).2.length ≤ m := set_len hs
      obtain ⟨u, eu, hu⟩ : ∃ u, appAt s a (k : Int) = some u ∧ u = s.set a.toNat ((s[a.toNat]'(by omega)).1, (s[a.toNat]'(by omega)).2 ++ [(k : Int)]) := by
        unfold appAt
        rw [atI_some a0 a1, obs]
        rw [appC_eq (by omega), obs, setC_eq a0 a1]
        exact ⟨_, rfl, rfl⟩
      rw [eu, obs]
      subst hu
      have new : SetOk m ((s[a.toNat]'(by omega)).1, (s[a.toNat]'(by omega)).2 ++ [(k : Int)]) := ⟨hs.1, List.nodup_append.mpr ⟨hs.2.1, List.pairwise_singleton _ _, fun x hx y hy e => by
        rw [List.mem_singleton.mp hy] at e
        exact c ⟨_, List.getElem_mem (show a.toNat < s.length by omega), by rw [← e]; exact hx⟩⟩, fun t ht => by
        rcases List.mem_append.mp ht with ht | ht
        · exact hs.2.2 t ht
        · rw [List.mem_singleton.mp ht]; omega⟩
      refine ⟨_, rfl, by rw [List.length_set]; exact s1, fun x hx => ?_, fun t t0 t1 => ?_⟩
      · rcases List.mem_or_eq_of_mem_set hx with h | h
        · exact s2 x h
        · rw [h]; exact new
      · by_cases q : t = (k : Int)
        · subst q
          exact ⟨_, List.mem_of_getElem (i := a.toNat) (h := by rw [List.length_set]; omega) (List.getElem_set_self ..), List.mem_append_right _ List.mem_cons_self⟩
        · obtain ⟨x, hx, ht⟩ := s3 t t0 (by omega)
          obtain ⟨i, hi, ei⟩ := List.getElem_of_mem hx
          by_cases c2 : a.toNat = i
          · subst c2
            exact ⟨_, List.mem_of_getElem (i := a.toNat) (h := by rw [List.length_set]; omega) (List.getElem_set_self ..), List.mem_append_left _ (by rw [ei]; exact ht)⟩
          · exact ⟨x, List.mem_of_getElem (i := i) (h := by rw [List.length_set]; exact hi) (by rw [List.getElem_set_ne c2]; exact ei), ht⟩
  rw [eU, obs]
  exact ⟨U, rfl, by omega, by omega, oU, cU⟩
end M
namespace M
open PySem L2 GM
theorem cover_blank : Str.ofString "cover " = Sx (wCover ++ [32]) := by decide +kernel
/-- sets with their prices as written -/
structure ZsOk (m : Nat) (Z : List ((Int × Int) × List Int)) : Prop where
  m1 : 1 ≤ m
  m12 : m ≤ 12
  len : Z.length ≤ 25
  ok : ∀ p ∈ Z, Am p.1 ∧ p.2.Nodup ∧ ∀ t ∈ p.2, 0 ≤ t ∧ t < (m : Int)
  cov : ∀ t : Int, 0 ≤ t → t < m → ∃ p ∈ Z, t ∈ p.2
theorem zs_len {m : Nat} {Z : List ((Int × Int) × List Int)} (h : ZsOk m Z) {p : (Int × Int) × List Int} (hp : p ∈ Z) : p.2.length ≤ m := by
  obtain ⟨_, nd, r⟩ := h.ok p hp
  have := nodup_le nd (B := irange 0 (m : Int)) fun t ht => mem_irange.mpr (r t ht)
  rw [irange_len] at this
  omega
def lineZ (p : (Int × Int) × List Int) : List Wd := amL p.1 :: p.2.map numW
theorem lineZ_ok {m : Nat} {Z : List ((Int × Int) × List Int)} (h : ZsOk m Z) {p : (Int × Int) × List Int} (hp : p ∈ Z) : lineZ p ≠ [] ∧ (lineZ p).length ≤ 100 ∧ ∀ w ∈ lineZ p, WdOk w := by
  have l := zs_len h hp
  obtain ⟨a, nd, r⟩ := h.ok p hp
  have := h.m12
  refine ⟨List.cons_ne_nil _ _, by unfold lineZ; rw [List.length_cons, List.length_map]; omega, fun w hw => ?_⟩
  unfold lineZ at hw
  rcases List.mem_cons.mp hw with rfl | hw
  · exact wd_am a
  · obtain ⟨t, ht, rfl⟩ := List.mem_map.mp hw
    have := r t ht
    exact wd_int (by omega)
theorem read_cover_eq {w : Wd} {m : Nat} {Z : List ((Int × Int) × List Int)} (h : ZsOk m Z) :
    read_cover (([w, TL.numL m] :: Z.map lineZ).map fun q => q.map Sx) = some (unL (Z.map Prod.fst), ((m : Int), Z.map fun p => (whF (unL (Z.map Prod.fst)) p.1, p.2))) := by
  have ha : ∀ z ∈ Z.map Prod.fst, Am z := fun z hz => by
    obtain ⟨p, hp, rfl⟩ := List.mem_map.mp hz
    exact (h.ok p hp).1
  have un := unL_un ha
  have ll := h.len
  have m1 := h.m1
  have m12 := h.m12
  unfold read_cover
  rw [List.map_cons, atI_cons0]
  simp only [obs]
  rw [show [w, TL.numL m].map Sx = [Sx w, Sx (TL.numL m)] from rfl, one_number_eq m1 (by omega) (by omega), obs]
  have rl : ([Sx w, Sx (TL.numL m)] :: (Z.map lineZ).map fun q => q.map Sx).length = Z.length + 1 := by rw [List.length_cons, List.length_map, List.length_map]
  rw [rl]
  obtain ⟨s, es, hs⟩ := forS_ix (f := fun (line : Int) (s3 : (List ((Int × Int) × (List Int)))) =>
    if (decide (40 < line)) = true then
      (none : Option ((List ((Int × Int) × (List Int)))))
    else
      (((((atI ([Sx w, Sx (TL.numL m)] :: (Z.map lineZ).map fun q => q.map Sx) line).bind fun v4 => some (cutL v4 none (some 1))).bind fun v5 => some (v5, (line, 0, ()))).bind fun z6 => amounts_in z6.1 z6.2.1 z6.2.2.1).bind fun v7 => atI v7 0).bind fun price =>
      (((((((atI ([Sx w, Sx (TL.numL m)] :: (Z.map lineZ).map fun q => q.map Sx) line).bind fun v8 => some (cutL v8 (some 1) none)).bind fun v9 => some (v9, (line, (m : Int), ()))).bind fun z10 => numbers_in z10.1 z10.2.1 z10.2.2.1).bind fun v11 => some (v11, (()))).bind fun r12 => some (price, r12)).bind fun z13 => some (z13.1, z13.2.1)).bind fun v14 => (appC s3 v14).bind fun found =>
      some found) (fun i s => s = Z.take i) (irange 1 ((Z.length + 1 : Nat) : Int)) [] rfl fun i hi s hs => by
    rw [irange_len] at hi
    have hi' : i < Z.length := by omega
    rw [irange_ix]
    have ep : atI ([Sx w, Sx (TL.numL m)] :: (Z.map lineZ).map fun q => q.map Sx) (1 + (i : Int)) = some (Sx (amL Z[i].1) :: Z[i].2.map fun n => Sx (TL.numL n.toNat)) := by
      rw [atI_some (by omega) (by rw [List.length_cons, List.length_map, List.length_map]; omega)]
      have e : (1 + (i : Int)).toNat = i + 1 := by omega
      simp only [e, List.getElem_cons_succ, List.getElem_map]
      exact congrArg (fun l => some (Sx (amL Z[i].1) :: l)) (by rw [List.map_map]; rfl : (Z[i].2.map numW).map Sx = Z[i].2.map fun n => Sx (TL.numL n.toNat))
    obtain ⟨a, nd, r⟩ := h.ok _ (List.getElem_mem hi')
    have l := zs_len h (List.getElem_mem hi')
    have sl : s.length ≤ i := by rw [hs, List.length_take]; omega
    rw [if_neg (by simp; omega), ep]
    simp only [obs]
    rw [cutL_to _ (by decide), cutL_from _ (by decide)]
    rw [show (Sx (amL Z[i].1) :: Z[i].2.map fun n => Sx (TL.numL n.toNat)).take (1 : Int).toNat = [Z[i].1].map fun z => Sx (amL z) from rfl, show (Sx (amL Z[i].1) :: Z[i].2.map fun n => Sx (TL.numL n.toNat)).drop (1 : Int).toNat = Z[i].2.map fun n => Sx (TL.numL n.toNat) from rfl,
      ams_eq (as := [Z[i].1]) (fun z hz => by rw [List.mem_singleton.mp hz]; exact a) (fun z hz => by rw [List.mem_singleton.mp hz]; exact a.t0) (by simp), obs, atI_cons0, obs, numbers_in_eq nd r (by omega) (by omega)]
    simp only [obs]
    rw [appC_eq (by omega), obs]
    refine ⟨_, rfl, ?_⟩
    rw [hs, List.take_succ_eq_append_getElem hi']
  rw [irange_len] at hs
  have hs : s = Z := by rw [hs, List.take_of_length_le (by omega)]
  rw [es, obs, hs, unit_of_eq ha, obs, mapO_eq (g := fun p => (whF (unL (Z.map Prod.fst)) p.1, p.2)) (fun p hp => by
    rw [whole_by_eq un (h.ok p hp).1]; rfl), obs, rngC_eq (by omega) (by omega) (by omega) (by omega), obs]
  have cov : forS (irange 0 (m : Int)) () (fun (thing : Int) (s19 : Unit) =>
    if (decide (((((Z.map fun p => (whF (unL (Z.map Prod.fst)) p.1, p.2)).filter (fun x20 : Int × (List Int) => decide (thing ∈ x20.2))).map (fun x20 : Int × (List Int) => x20.2)).length : Int) = 0)) = true then
      (none : Option (Unit))
    else
      some ()) = some () := by
    obtain ⟨s', e, _⟩ := forS_ix (f := fun (thing : Int) (s19 : Unit) =>
    if (decide (((((Z.map fun p => (whF (unL (Z.map Prod.fst)) p.1, p.2)).filter (fun x20 : Int × (List Int) => decide (thing ∈ x20.2))).map (fun x20 : Int × (List Int) => x20.2)).length : Int) = 0)) = true then
      (none : Option (Unit))
    else
      some ()) (fun _ _ => True) (irange 0 (m : Int)) () trivial fun i hi s _ => by
        rw [irange_len] at hi
        rw [irange_at]
        obtain ⟨p, hp, ht⟩ := h.cov (i : Int) (by omega) (by omega)
        have := List.length_pos_of_mem (List.mem_filter.mpr ⟨List.mem_map.mpr ⟨p, hp, rfl⟩, decide_eq_true ht⟩ : (whF (unL (Z.map Prod.fst)) p.1, p.2) ∈ (Z.map fun p => (whF (unL (Z.map Prod.fst)) p.1, p.2)).filter (fun x20 : Int × (List Int) => decide ((i : Int) ∈ x20.2)))
        rw [if_neg (by rw [List.length_map, decide_eq_true_eq]; omega)]
        exact ⟨(), rfl, trivial⟩
    exact e
  rw [cov, obs]
theorem cover_made (cells : List Int) {cell : Int} (hc : 0 ≤ cell) : ∃ lines u S m, law_cover_made cells cell = some (Ll3.mk lines u (.inl (((m : Nat) : Int), S))) ∧ Mk wCover lines u (.inl ((m : Int), S)) ∧ 1 ≤ m ∧ m ≤ 12 ∧ SetsOk m S ∧ ∀ s ∈ S, s.1 ≤ 30000000000000000 := by
  have l14 := take_len cells 14
  rw [show ((14 : Nat) : Int) = 14 from rfl] at l14
  obtain ⟨m, em⟩ := Int.eq_ofNat_of_zero_le (show 0 ≤ 1 + cell % 12 by omega)
  obtain ⟨S, eS, hS⟩ := sets_eq (cutL cells none (some 14)) (m := m) (by omega) (by omega)
  have Sl := hS.len
  obtain ⟨as, ea, la, pa⟩ := mapO_ex (xs := irange 0 S.length) (f := fun k : Int => ((law_cell_at cells k).bind fun v3 => some (v3, (k, ()))).bind fun z4 => law_parts z4.1 z4.2.1) (p := Am) fun k hk => by
    have := mem_irange.mp hk
    exact cell_parts cells this.1 (by omega)
  rw [irange_len] at la
  have la : as.length = S.length := by omega
  let Z : List ((Int × Int) × List Int) := (as.zip S).map fun p => (p.1, p.2.2)
  have Zl : Z.length = S.length := by
    show ((as.zip S).map _).length = _
    rw [List.length_map, List.length_zip]; omega
  have Zf : Z.map Prod.fst = as := by
    show ((as.zip S).map _).map _ = _
    rw [List.map_map]
    show (as.zip S).map Prod.fst = as
    exact List.map_fst_zip (by omega)
  have hZ : ZsOk m Z := by
    refine ⟨by omega, by omega, by rw [Zl]; exact Sl, fun p hp => ?_, fun t t0 t1 => ?_⟩
    · obtain ⟨q, hq, rfl⟩ := List.mem_map.mp hp
      have h1 := pa _ (List.of_mem_zip hq).1
      obtain ⟨_, h2, h3⟩ := hS.ok _ (List.of_mem_zip hq).2
      exact ⟨h1, h2, h3⟩
    · obtain ⟨s, hs, ht⟩ := hS.cov t t0 t1
      obtain ⟨i, hi, rfl⟩ := List.mem_iff_getElem.mp hs
      exact ⟨(as[i]'(by omega), S[i].2), List.mem_map.mpr ⟨(as[i]'(by omega), S[i]), List.mem_iff_getElem.mpr ⟨i, by rw [List.length_zip]; omega, List.getElem_zip⟩, rfl⟩, ht⟩
  have un := unL_un pa
  have dv := unL_dvd pa
  refine ⟨Sx (joinS 32 [wCover, TL.numL m]) :: Z.map (fun p => Sx (joinS 32 (lineZ p))), unL as, Z.map (fun p => (whF (unL as) p.1, p.2)), m, ?_, ⟨un, [TL.numL m], Z.map lineZ, ?_, ?_, ?_⟩, by omega, by omega, ⟨by omega, by rw [List.length_map, Zl]; exact Sl, fun s hs => ?_, fun t t0 t1 => ?_⟩, fun s hs => ?_⟩
  · unfold law_cover_made
    dsimp only
    rw [em, QE.scrL_eq (by omega), obs, obs, eS, obs, ea, obs, strI_num (by omega), obs, cover_blank, catS_eq (by have := (wd_num (n := m) (Nat.lt_of_lt_of_le (show m < 1000 by omega) (by decide))).l; simp; omega), obs, obs]
    rw [forS_apps (F := fun x8 : (Int × Int) × (Int × (List Int)) => (((law_written x8.1).bind fun v9 => some (v9 :: [])).bind fun v10 => (mapO x8.2.2 (fun thing : Int => strI thing)).bind fun v11 => catC v10 v11).bind fun v12 => joinC (Str.ofString " ") v12) (g := fun p => Sx (joinS 32 (lineZ (p.1, p.2.2)))) (as.zip S) [Sx (wCover ++ [32] ++ TL.numL m)] (fun p hp => by
      have hz : (p.1, p.2.2) ∈ Z := List.mem_map.mpr ⟨p, hp, rfl⟩
      obtain ⟨a, nd, r⟩ := hZ.ok _ hz
      have ok := lineZ_ok hZ hz
      have l := zs_len hZ hz
      dsimp only at a r l
      rw [am_written a, obs, obs, mapO_eq (g := fun t => Sx (numW t)) (fun t ht => by have := r t ht; exact strI_int this.1 (by omega)), obs, catC_eq (by simp; omega), obs]
      have e : [Sx (amL p.1)] ++ p.2.2.map (fun t => Sx (numW t)) = (lineZ (p.1, p.2.2)).map Sx := by
        unfold lineZ
        rw [List.map_cons, List.map_map]; rfl
      rw [e, join_line ok.2.2 ok.2.1]) (by rw [List.length_zip]; simp; omega), obs, law_unit_eq pa, obs, law_wholes_eq un pa, obs]
    rw [show as.map (whF (unL as)) = as.map (whF (unL as)) from rfl]
    have ez : (as.map (whF (unL as))).zip S = (as.zip S).map fun p => (whF (unL as) p.1, p.2) := by
      have := zip_map2 (whF (unL as)) (id : Int × List Int → Int × List Int) as S
      rw [List.map_id] at this
      exact this
    rw [ez, List.map_map, joinS_two]
    show some (Ll3.mk ([Sx (wCover ++ [32] ++ TL.numL m)] ++ _) _ _) = some (Ll3.mk (_ :: ((as.zip S).map fun p => (p.1, p.2.2)).map _) _ (Sum.inl (_, ((as.zip S).map fun p => (p.1, p.2.2)).map _)))
    rw [List.map_map, List.map_map]
    rfl
  · refine rw_cons (List.cons_ne_nil _ _) (by simp) (fun w hw => ?_) (by rw [List.length_map]; omega) fun r hr => ?_
    · simp only [List.mem_cons, List.not_mem_nil, or_false] at hw
      rcases hw with rfl | rfl
      · exact wd_of (by decide)
      · exact wd_num (Nat.lt_of_lt_of_le (show m < 1000 by omega) (by decide))
    · obtain ⟨p, hp, rfl⟩ := List.mem_map.mp hr
      exact lineZ_ok hZ hp
  · simp only [List.map_cons, List.map_map]
    rfl
  · rw [kind_cover, read_cover_eq hZ, Zf]
    rfl
  · obtain ⟨p, hp, rfl⟩ := List.mem_map.mp hs
    obtain ⟨a, nd, r⟩ := hZ.ok p hp
    have hm : p.1 ∈ as := by rw [← Zf]; exact List.mem_map.mpr ⟨p, hp, rfl⟩
    have := whF_rng un a (dv _ hm)
    exact ⟨⟨this.1, by show whF _ _ ≤ _; omega⟩, nd, r⟩
  · obtain ⟨p, hp, ht⟩ := hZ.cov t t0 t1
    exact ⟨_, List.mem_map.mpr ⟨p, hp, rfl⟩, ht⟩
  · obtain ⟨p, hp, rfl⟩ := List.mem_map.mp hs
    have hm : p.1 ∈ as := by rw [← Zf]; exact List.mem_map.mpr ⟨p, hp, rfl⟩
    exact (whF_rng un (hZ.ok p hp).1 (dv _ hm)).2.1
end M
namespace M
open PySem L2 GM
/-- a length parted, in lowest terms -/
def pF (b x : Int) : Int × Int := (x / ((Int.gcd b x : Nat) : Int), b / ((Int.gcd b x : Nat) : Int))
theorem pF_eq {b x : Int} (b0 : 1 ≤ b) (b1 : b ≤ 12) (x0 : 0 ≤ x) (x1 : x < 1000000000000) : ((law_divisor b x).bind fun by_ =>
      ((divC x by_).bind fun v4 => ((divC b by_).bind fun v3 => some (v3, (()))).bind fun r5 => some (v4, r5)).bind fun z6 : Int × Int × Unit => some (z6.1, z6.2.1)) = some (pF b x) ∧ Am (pF b x) ∧ (pF b x).1 * b = x * (pF b x).2 := by
  have g0 : 0 < ((Int.gcd b x : Nat) : Int) := by
    have := Int.gcd_pos_of_ne_zero_left x (show b ≠ 0 by omega)
    omega
  have gl : ((Int.gcd b x : Nat) : Int) ≤ b := Int.le_of_dvd (by omega) (Int.gcd_dvd_left ..)
  have gd : ((Int.gcd b x : Nat) : Int) ∣ b := Int.gcd_dvd_left ..
  have gx : ((Int.gcd b x : Nat) : Int) ∣ x := Int.gcd_dvd_right ..
  have sg : Sm 60 ((Int.gcd b x : Nat) : Int) := Sm.of 60 12 (by decide) (by omega) (by omega)
  have sx : Sm 3000 x := Sm.of 3000 1000000000000 (by decide +kernel) (by omega) (by omega)
  have e1 : x / ((Int.gcd b x : Nat) : Int) * ((Int.gcd b x : Nat) : Int) = x := Int.ediv_mul_cancel gx
  have e2 : b / ((Int.gcd b x : Nat) : Int) * ((Int.gcd b x : Nat) : Int) = b := Int.ediv_mul_cancel gd
  refine ⟨?_, ⟨Int.ediv_nonneg x0 (by omega), ?_, ?_, ?_, ?_⟩, ?_⟩
  · rw [divisor_eq (by omega) x0 sx, obs, divC_eq g0 sg, divC_eq g0 sg]
    simp only [obs]
    rfl
  · have := Int.ediv_le_self ((Int.gcd b x : Nat) : Int) x0
    show x / _ < _
    omega
  · have := Int.ediv_pos_of_pos_of_dvd (show 0 < b by omega) (by omega) gd
    show 1 ≤ b / _
    omega
  · have := Int.ediv_le_self ((Int.gcd b x : Nat) : Int) (show 0 ≤ b by omega)
    show b / _ ≤ 12
    omega
  · show Int.gcd (x / _) (b / _) = 1
    rw [Int.gcd_comm b x] at g0 ⊢
    exact Int.gcd_ediv_gcd_ediv_gcd (by omega)
  · show x / _ * b = x * (b / _)
    generalize ((Int.gcd b x : Nat) : Int) = g at *
    calc x / g * b = x / g * (b / g * g) := by rw [e2]
      _ = x / g * g * (b / g) := by rw [Int.mul_assoc, Int.mul_comm (b / g), ← Int.mul_assoc]
      _ = x * (b / g) := by rw [e1]
theorem forS_each {α β : Type} {f : α → List β → Option (List β)} {g : α → β} : ∀ (xs : List α) (s : List β), (∀ x ∈ xs, ∀ s : List β, s.length ≤ 1000 → f x s = some (s ++ [g x])) → s.length + xs.length ≤ 1000 → forS xs s f = some (s ++ xs.map g)
  | [], s, _, _ => by rw [List.map_nil, List.append_nil]; rfl
  | x :: xs, s, h, hl => by
    rw [List.length_cons] at hl
    unfold forS
    rw [h x List.mem_cons_self s (by omega), obs, forS_each xs (s ++ [g x]) (fun y hy => h y (List.mem_cons_of_mem _ hy)) (by rw [List.length_append, List.length_singleton]; omega), List.map_cons, List.append_assoc]
    rfl
/-- a table of lengths, and the same by parts -/
structure TbOk (D : List (List Int)) (n : Nat) (b : Int) : Prop where
  L : LenOk D n
  small : ∀ r ∈ D, ∀ x ∈ r, 0 ≤ x ∧ x < 1000000000000
  n7 : n ≤ 7
  b0 : 1 ≤ b
  b1 : b ≤ 12
theorem tb_mem {D : List (List Int)} {n : Nat} (L : LenOk D n) (h : ∀ i j : Int, 0 ≤ i → i < n → 0 ≤ j → j < n → mx D i j < 1000000000000) : ∀ r ∈ D, ∀ x ∈ r, 0 ≤ x ∧ x < 1000000000000 := fun r hr x hx => by
  obtain ⟨i, hi, rfl⟩ := List.mem_iff_getElem.mp hr
  obtain ⟨j, hj, rfl⟩ := List.mem_iff_getElem.mp hx
  have dl := L.sq.1
  have rl := L.sq.2 _ (List.getElem_mem hi)
  have e : mx D i j = D[i][j] := by
    unfold mx
    rw [Int.toNat_natCast, List.getElem?_eq_getElem hi]
    exact at0_nat hj
  have h1 := h i j (by omega) (by omega) (by omega) (by omega)
  have h2 := L.rng i j (by omega) (by omega) (by omega) (by omega)
  rw [e] at h1 h2
  exact ⟨h2.1, h1⟩
theorem line_lengths_eq {cells : List Int} {n : Nat} (n1 : 1 ≤ n) (n7 : n ≤ 7) {c : Int} (hc : 0 ≤ c) : ∃ D b, law_line_lengths cells n c = some (D.map fun r => r.map (pF b)) ∧ TbOk D n b := by
  obtain ⟨D, eD, L, hs⟩ := lengths_eq cells (n := n) n1 (by omega) (c / 12)
  have sm_ := tb_mem L hs
  have dl := L.sq.1
  refine ⟨D, 1 + c % 12, ?_, L, sm_, n7, by omega, by omega⟩
  unfold law_line_lengths
  dsimp only
  rw [eD, obs]
  rw [forS_each (g := fun r => r.map (pF (1 + c % 12))) D [] (fun r hr s sl => by
    rw [forS_each (g := pF (1 + c % 12)) r [] (fun x hx s sl => by
      have h := sm_ r hr x hx
      obtain ⟨e, _, _⟩ := pF_eq (b := 1 + c % 12) (by omega) (by omega) h.1 h.2
      obtain ⟨by_, e1, e2⟩ := bind_some e
      rw [e1, obs, e2, obs, appC_eq (by omega), obs]) (by rw [L.sq.2 r hr]; simp; omega), obs, appC_eq (by omega), obs, List.nil_append]) (by simp; omega), obs, List.nil_append]
/-- lengths by the unit -/
def tabU (u b : Int) (D : List (List Int)) : List (List Int) := D.map fun r => r.map fun x => whF u (pF b x)
theorem tb_am {D : List (List Int)} {n : Nat} {b : Int} (T : TbOk D n b) : ∀ r ∈ D, ∀ x ∈ r, Am (pF b x) := fun r hr x hx => (pF_eq T.b0 T.b1 (T.small r hr x hx).1 (T.small r hr x hx).2).2.1
theorem tb_flat {D : List (List Int)} {n : Nat} {b : Int} (T : TbOk D n b) : ∀ z ∈ (D.map fun r => r.map (pF b)).flatten, Am z := fun z hz => by
  obtain ⟨l, hl, hz⟩ := List.mem_flatten.mp hz
  obtain ⟨r, hr, rfl⟩ := List.mem_map.mp hl
  obtain ⟨x, hx, rfl⟩ := List.mem_map.mp hz
  exact tb_am T r hr x hx
theorem tab_mx {D : List (List Int)} {n : Nat} {u b : Int} (q : Sq D n) {i j : Int} (i0 : 0 ≤ i) (i1 : i < n) (j0 : 0 ≤ j) (j1 : j < n) : mx (tabU u b D) i j = whF u (pF b (mx D i j)) := by
  obtain ⟨a, rfl⟩ := Int.eq_ofNat_of_zero_le i0
  obtain ⟨c, rfl⟩ := Int.eq_ofNat_of_zero_le j0
  have dl := q.1
  have ha : a < D.length := by omega
  have rl := q.2 _ (List.getElem_mem ha)
  unfold mx tabU
  rw [Int.toNat_natCast, List.getElem?_map, List.getElem?_eq_getElem ha]
  show at0 (D[a].map _) (c : Int) = whF u (pF b (at0 D[a] (c : Int)))
  rw [at0_nat (by rw [List.length_map]; omega), at0_nat (by omega), List.getElem_map]
theorem tab_ok {D : List (List Int)} {n : Nat} {u b : Int} (T : TbOk D n b) (un : Un u) (dv : ∀ r ∈ D, ∀ x ∈ r, (pF b x).2 ∣ u) : LenOk (tabU u b D) n := by
  have L := T.L
  have b0 := T.b0
  have up := un.p
  have ul := un.le
  have key : ∀ i j : Int, 0 ≤ i → i < n → 0 ≤ j → j < n → mx (tabU u b D) i j * b = mx D i j * u ∧ 0 ≤ mx (tabU u b D) i j ∧ mx (tabU u b D) i j ≤ 30000000000000000 := fun i j i0 i1 j0 j1 => by
    rw [tab_mx L.sq i0 i1 j0 j1]
    obtain ⟨r, hr, rl, er⟩ := L.sq.rowI i0 i1
    have hrm : r ∈ D := List.mem_of_getElem? er
    have hm : mx D i j ∈ r := by
      unfold mx
      rw [er]
      exact at0_mem j0 (by omega)
    obtain ⟨_, am, e1⟩ := pF_eq b0 T.b1 (T.small r hrm _ hm).1 (T.small r hrm _ hm).2
    obtain ⟨h0, h1, e2, _⟩ := whF_rng un am (dv r hrm _ hm)
    refine ⟨?_, h0, h1⟩
    have p0 := am.b0
    generalize mx D i j = x at *
    refine Int.eq_of_mul_eq_mul_right (a := (pF b x).2) (by omega) ?_
    calc whF u (pF b x) * b * (pF b x).2 = whF u (pF b x) * (pF b x).2 * b := by rw [Int.mul_assoc, Int.mul_comm b, ← Int.mul_assoc]
      _ = (pF b x).1 * u * b := by rw [e2]
      _ = (pF b x).1 * b * u := by rw [Int.mul_assoc, Int.mul_comm u, ← Int.mul_assoc]
      _ = x * (pF b x).2 * u := by rw [e1]
      _ = x * u * (pF b x).2 := by rw [Int.mul_assoc, Int.mul_comm (pF b x).2, ← Int.mul_assoc]
  have can : ∀ {y z : Int}, y * b = z * b → y = z := fun h => Int.eq_of_mul_eq_mul_right (by omega) h
  refine ⟨⟨by unfold tabU; rw [List.length_map]; exact L.sq.1, fun r hr => ?_⟩, L.n1, L.n12, fun i j i0 i1 j0 j1 => ?_, fun i j i0 i1 j0 j1 => ?_, fun i i0 i1 => ?_, fun i j k i0 i1 j0 j1 k0 k1 => ?_⟩
  · unfold tabU at hr
    obtain ⟨r', hr', rfl⟩ := List.mem_map.mp hr
    rw [List.length_map]
    exact L.sq.2 r' hr'
  · have := key i j i0 i1 j0 j1
    omega
  · apply can
    rw [(key i j i0 i1 j0 j1).1, (key j i j0 j1 i0 i1).1, L.sym i j i0 i1 j0 j1]
  · apply can
    rw [(key i i i0 i1 i0 i1).1, L.zero i i0 i1, Int.zero_mul, Int.zero_mul]
  · have h1 := (key i j i0 i1 j0 j1).1
    have h2 := (key i k i0 i1 k0 k1).1
    have h3 := (key k j k0 k1 j0 j1).1
    have t := L.tri i j k i0 i1 j0 j1 k0 k1
    refine Int.le_of_mul_le_mul_right (a := b) ?_ (by omega)
    rw [Int.add_mul, h1, h2, h3, ← Int.add_mul]
    exact Int.mul_le_mul_of_nonneg_right t (by omega)
theorem whole_lengths_eq {R : List (List (Int × Int))} (h : ∀ z ∈ R.flatten, Am z) (hl : R.length ≤ 12) (hr : ∀ r ∈ R, r.length ≤ 12) : whole_lengths R = some (unL R.flatten, R.map fun r => r.map (whF (unL R.flatten))) := by
  have un := unL_un h
  unfold whole_lengths
  dsimp only
  have key : ∀ (Q : List (List (Int × Int))) (s : List (Int × Int)), (∀ r ∈ Q, r.length ≤ 12) → s.length + 12 * Q.length ≤ 1000 → forS Q s (fun (row : List (Int × Int)) (s1 : (List (Int × Int))) =>
    (catC s1 row).bind fun amounts =>
    some amounts) = some (s ++ Q.flatten) := by
    intro Q
    induction Q with
    | nil => intro s _ _; rw [List.flatten_nil, List.append_nil]; rfl
    | cons r Q ih =>
      intro s h1 h2
      have := h1 r List.mem_cons_self
      rw [List.length_cons] at h2
      unfold forS
      rw [catC_eq (by omega), obs, obs, ih (s ++ r) (fun q hq => h1 q (List.mem_cons_of_mem _ hq)) (by rw [List.length_append]; omega), List.flatten_cons, List.append_assoc]
  rw [key R [] hr (by simp; omega), obs, List.nil_append, unit_of_eq h, obs, mapO_eq (g := fun r => r.map (whF (unL R.flatten))) (fun r hr => mapO_eq (g := whF (unL R.flatten)) fun z hz => whole_by_eq un (h z (List.mem_flatten.mpr ⟨r, hr, hz⟩))), obs]
theorem read_lengths_eq {row0 : List Str} {R : List (List (Int × Int))} {n : Nat} (h : ∀ z ∈ R.flatten, Am z) (hl : R.length = n) (n1 : 1 ≤ n) (n12 : n ≤ 12) (hr : ∀ r ∈ R, r.length = n) :
    read_lengths (row0 :: R.map fun r => r.map fun z => Sx (amL z)) = some R := by
  have rl : (row0 :: R.map fun r => r.map fun z => Sx (amL z)).length = n + 1 := by rw [List.length_cons, List.length_map, hl]
  have at_ : ∀ i : Nat, (hi : i < R.length) → atI (row0 :: R.map fun r => r.map fun z => Sx (amL z)) (1 + (i : Int)) = some (R[i].map fun z => Sx (amL z)) := fun i hi => by
    rw [atI_some (by omega) (by rw [rl]; omega)]
    have e : (1 + (i : Int)).toNat = i + 1 := by omega
    simp only [e, List.getElem_cons_succ, List.getElem_map]
  have a1 := at_ 0 (by omega)
  rw [show (1 : Int) + ((0 : Nat) : Int) = 1 from rfl] at a1
  have l0 := hr _ (List.getElem_mem (show 0 < R.length by omega))
  unfold read_lengths
  rw [rl, if_neg (by simp; omega), a1]
  simp only [obs]
  rw [List.length_map, l0, if_neg (by simp; omega)]
  obtain ⟨s, es, hs⟩ := forS_ix (f := fun (line : Int) (s3 : (List (List (Int × Int)))) =>
      if (if decide ((n : Int) < line) = true then some true else ((atI (row0 :: R.map fun r => r.map fun z => Sx (amL z)) line).bind fun v6 => some (v6.length : Int)).bind fun v8 => some (!decide (v8 = (n : Int)))) = some true then
        (none : Option (List (List (Int × Int))))
      else
        (((atI (row0 :: R.map fun r => r.map fun z => Sx (amL z)) line).bind fun v11 => some (v11, (line, 0, ()))).bind fun z12 => amounts_in z12.1 z12.2.1 z12.2.2.1).bind fun v13 => (appC s3 v13).bind fun table =>
        some table) (fun i s => s = R.take i) (irange 1 ((n + 1 : Nat) : Int)) [] rfl fun i hi s hs => by
    rw [irange_len] at hi
    have hi' : i < R.length := by omega
    rw [irange_ix, at_ i hi']
    simp only [obs]
    have sl : s.length ≤ i := by rw [hs, List.length_take]; omega
    have ra : ∀ z ∈ R[i], Am z := fun z hz => h z (List.mem_flatten.mpr ⟨_, List.getElem_mem hi', hz⟩)
    have rn := hr _ (List.getElem_mem hi')
    rw [if_neg (by simp [rn]; omega), ams_eq ra (fun z hz => (ra z hz).t0) (by omega), obs, appC_eq (by omega), obs]
    refine ⟨_, rfl, ?_⟩
    rw [hs, List.take_succ_eq_append_getElem hi']
  rw [irange_len] at hs
  have hs : s = R := by rw [hs, List.take_of_length_le (by omega)]
  have es' : ∀ (f : Int → List (List (Int × Int)) → Option (List (List (Int × Int)))), (∀ x s, f x s = (fun (line : Int) (s3 : (List (List (Int × Int)))) =>
      if (if decide ((n : Int) < line) = true then some true else ((atI (row0 :: R.map fun r => r.map fun z => Sx (amL z)) line).bind fun v6 => some (v6.length : Int)).bind fun v8 => some (!decide (v8 = (n : Int)))) = some true then
        (none : Option (List (List (Int × Int))))
      else
        (((atI (row0 :: R.map fun r => r.map fun z => Sx (amL z)) line).bind fun v11 => some (v11, (line, 0, ()))).bind fun z12 => amounts_in z12.1 z12.2.1 z12.2.2.1).bind fun v13 => (appC s3 v13).bind fun table =>
        some table) x s) → forS (irange 1 ((n + 1 : Nat) : Int)) [] f = some s := fun f hf => by rw [show f = _ from funext fun x => funext fun s => hf x s]; exact es
  rw [es' _ fun x s => ?_, obs, hs, hl, if_neg (by simp)]
  by_cases q : (n : Int) < x
  · simp only [decide_eq_true q, if_true, obs]
  · simp only [decide_eq_false q, Bool.false_eq_true, if_false, obs]
    cases atI (row0 :: R.map fun r => r.map fun z => Sx (amL z)) x with
    | none => rfl
    | some v =>
      simp only [obs]
      by_cases q2 : (v.length : Int) = n
      · simp [q2]
      · simp [q2]
end M
namespace M
open PySem L2 GM
def lineR (r : List (Int × Int)) : List Wd := r.map amL
theorem blank1 {w : Wd} : catS (Sx w) (Str.ofString " ") = catS (Sx w) (Sx [32]) := by rw [blank_Sx]
theorem drawn_lines {R : List (List (Int × Int))} (h : ∀ z ∈ R.flatten, Am z) (hl : R.length ≤ 12) (hr : ∀ r ∈ R, r.length ≤ 12) (w : Str) : forS R ([w], ([] : List (Int × Int))) (fun (row : List (Int × Int)) (s1 : (List Str) × (List (Int × Int))) =>
    ((mapO row (fun one : Int × Int => law_written one)).bind fun v2 => joinC (Str.ofString " ") v2).bind fun v3 => (appC s1.1 v3).bind fun lines =>
    (catC s1.2 row).bind fun amounts =>
    some (lines, amounts)) = some (w :: R.map (fun r => Sx (joinS 32 (lineR r))), R.flatten) := by
  have key : ∀ (Q : List (List (Int × Int))) (a : List Str) (s : List (Int × Int)), (∀ z ∈ Q.flatten, Am z) → (∀ r ∈ Q, r.length ≤ 12) → a.length + Q.length ≤ 100 → s.length + 12 * Q.length ≤ 1000 → forS Q (a, s) (fun (row : List (Int × Int)) (s1 : (List Str) × (List (Int × Int))) =>
    ((mapO row (fun one : Int × Int => law_written one)).bind fun v2 => joinC (Str.ofString " ") v2).bind fun v3 => (appC s1.1 v3).bind fun lines =>
    (catC s1.2 row).bind fun amounts =>
    some (lines, amounts)) = some (a ++ Q.map (fun r => Sx (joinS 32 (lineR r))), s ++ Q.flatten) := by
    intro Q
    induction Q with
    | nil => intro a s _ _ _ _; rw [List.flatten_nil, List.append_nil, List.map_nil, List.append_nil]; rfl
    | cons r Q ih =>
      intro a s h0 h1 h2 h3
      have rl := h1 r List.mem_cons_self
      have ra : ∀ z ∈ r, Am z := fun z hz => h0 z (List.mem_flatten.mpr ⟨r, List.mem_cons_self, hz⟩)
      rw [List.length_cons] at h2 h3
      unfold forS
      rw [written_all ra, obs, join_line (r := r.map amL) (fun w hw => by
        obtain ⟨z, hz, rfl⟩ := List.mem_map.mp hw
        exact wd_am (ra z hz)) (by rw [List.length_map]; omega), obs]
      dsimp only
      rw [appC_eq (by omega), obs, catC_eq (by omega), obs, obs, ih _ (s ++ r) (fun z hz => by
        obtain ⟨l, hl, hz⟩ := List.mem_flatten.mp hz
        exact h0 z (List.mem_flatten.mpr ⟨l, List.mem_cons_of_mem _ hl, hz⟩)) (fun q hq => h1 q (List.mem_cons_of_mem _ hq)) (by rw [List.length_append, List.length_singleton]; omega) (by rw [List.length_append]; omega), List.flatten_cons, List.append_assoc, List.append_assoc, List.map_cons]
      rfl
  exact key R [w] [] h hr (by simp; omega) (by simp; omega)
theorem tb_rows {D : List (List Int)} {n : Nat} {b : Int} (T : TbOk D n b) : (D.map fun r => r.map (pF b)).length = n ∧ ∀ r ∈ D.map (fun r => r.map (pF b)), r.length = n := ⟨by rw [List.length_map]; exact T.L.sq.1, fun r hr => by
  obtain ⟨q, hq, rfl⟩ := List.mem_map.mp hr
  rw [List.length_map]
  exact T.L.sq.2 q hq⟩
theorem tb_dvd {D : List (List Int)} {n : Nat} {b : Int} (T : TbOk D n b) : ∀ r ∈ D, ∀ x ∈ r, (pF b x).2 ∣ unL (D.map fun r => r.map (pF b)).flatten := fun r hr x hx => unL_dvd (tb_flat T) _ (List.mem_flatten.mpr ⟨_, List.mem_map.mpr ⟨r, hr, rfl⟩, List.mem_map.mpr ⟨x, hx, rfl⟩⟩)
theorem tb_tab {D : List (List Int)} {u b : Int} : (D.map fun r => r.map (pF b)).map (fun r => r.map (whF u)) = tabU u b D := by
  unfold tabU
  rw [List.map_map]
  exact List.map_congr_left fun r _ => by
    show (r.map (pF b)).map (whF u) = _
    rw [List.map_map]; rfl
theorem tb_sxs {D : List (List Int)} {b : Int} : (((D.map fun r => r.map (pF b)).map lineR).map fun q => q.map Sx) = (D.map fun r => r.map (pF b)).map fun r => r.map fun z => Sx (amL z) := by
  rw [List.map_map]
  refine List.map_congr_left fun r _ => ?_
  show (r.map amL).map Sx = _
  rw [List.map_map]; rfl
theorem tb_rwok {D : List (List Int)} {n : Nat} {b : Int} (T : TbOk D n b) {r0 : List Wd} (h0 : r0 ≠ []) (hl : r0.length ≤ 100) (hw : ∀ w ∈ r0, WdOk w) : RwOk (r0 :: (D.map fun r => r.map (pF b)).map lineR) := by
  obtain ⟨l1, l2⟩ := tb_rows T
  have n7 := T.n7
  have n1 := T.L.n1
  refine rw_cons h0 hl hw (by rw [List.length_map, l1]; omega) fun s hs => ?_
  obtain ⟨r, hr, rfl⟩ := List.mem_map.mp hs
  have rn := l2 r hr
  have ra : ∀ z ∈ r, Am z := fun z hz => tb_flat T z (List.mem_flatten.mpr ⟨r, hr, hz⟩)
  refine ⟨fun q => ?_, by unfold lineR; rw [List.length_map]; omega, fun w hw => ?_⟩
  · unfold lineR at q
    have := List.map_eq_nil_iff.mp q
    rw [this, List.length_nil] at rn
    omega
  · unfold lineR at hw
    obtain ⟨z, hz, rfl⟩ := List.mem_map.mp hw
    exact wd_am (ra z hz)
theorem read_table {D : List (List Int)} {n : Nat} {b : Int} (T : TbOk D n b) (row0 : List Str) : ((read_lengths (row0 :: ((D.map fun r => r.map (pF b)).map lineR).map fun q => q.map Sx)).bind fun v3 => some (v3, (()))).bind (fun z4 => whole_lengths z4.1) = some (unL (D.map fun r => r.map (pF b)).flatten, tabU (unL (D.map fun r => r.map (pF b)).flatten) b D) := by
  obtain ⟨l1, l2⟩ := tb_rows T
  have n7 := T.n7
  have n1 := T.L.n1
  rw [tb_sxs, read_lengths_eq (tb_flat T) l1 n1 (by omega) l2, obs, obs, whole_lengths_eq (tb_flat T) (by omega) (fun r hr => by rw [l2 r hr]; omega), tb_tab]
theorem round_made (cells : List Int) {cell : Int} (hc : 0 ≤ cell) : ∃ lines u D n, law_lengths_made cells cell (Str.ofString "round") = some (Ll3.mk lines u (.inr (.inr (.inl (Tp.mk [D]))))) ∧ Mk wRound lines u (.inr (.inr (.inl (Tp.mk [D])))) ∧ LenOk D n ∧ n ≤ 7 := by
  obtain ⟨n, en⟩ := Int.eq_ofNat_of_zero_le (show 0 ≤ 1 + cell % 7 by omega)
  obtain ⟨D, b, eD, T⟩ := line_lengths_eq (cells := cells) (n := n) (c := cell / 7) (by omega) (by omega) (by omega)
  obtain ⟨l1, l2⟩ := tb_rows T
  have n7 := T.n7
  have un := unL_un (tb_flat T)
  have ok := tab_ok T un (tb_dvd T)
  refine ⟨_, unL (D.map fun r => r.map (pF b)).flatten, tabU (unL (D.map fun r => r.map (pF b)).flatten) b D, n, ?_, ⟨un, [], (D.map fun r => r.map (pF b)).map lineR, ?_, rfl, ?_⟩, ok, n7⟩
  · unfold law_lengths_made
    dsimp only
    rw [en, eD, obs, drawn_lines (tb_flat T) (by omega) (fun r hr => by rw [l2 r hr]; omega), obs, law_unit_eq (tb_flat T), obs, mapO_eq (g := fun r => r.map (whF (unL (D.map fun r => r.map (pF b)).flatten))) (fun r hr => law_wholes_eq un fun z hz => tb_flat T z (List.mem_flatten.mpr ⟨r, hr, hz⟩)), obs, if_pos (decide_eq_true rfl), tb_tab, round_Sx]
    simp only [List.map_cons, List.map_map]
    rfl
  · exact tb_rwok T (List.cons_ne_nil _ _) (by simp) fun w hw => by
      rw [List.mem_singleton.mp hw]; exact wd_of (by decide)
  · rw [kind_round, List.map_cons]
    unfold read_round
    rw [atI_cons0]
    simp only [obs]
    rw [if_neg (by simp)]
    have := read_table T ([wRound].map Sx)
    rw [this, obs]
    dsimp only
    rw [look_eq ok, obs, obs]
theorem places_made (cells : List Int) {cell : Int} (hc : 0 ≤ cell) : ∃ lines u D n many, law_lengths_made cells cell (Str.ofString "places") = some (Ll3.mk lines u (.inr (.inr (.inr (.inl (D, ((many : Nat) : Int))))))) ∧ Mk wPlaces lines u (.inr (.inr (.inr (.inl (D, (many : Int)))))) ∧ LenOk D n ∧ n ≤ 7 ∧ 1 ≤ many ∧ many ≤ n := by
  obtain ⟨n, en⟩ := Int.eq_ofNat_of_zero_le (show 0 ≤ 1 + cell % 7 by omega)
  obtain ⟨D, b, eD, T⟩ := line_lengths_eq (cells := cells) (n := n) (c := cell / 7) (by omega) (by omega) (by omega)
  obtain ⟨l1, l2⟩ := tb_rows T
  have n7 := T.n7
  have n1 := T.L.n1
  have un := unL_un (tb_flat T)
  have ok := tab_ok T un (tb_dvd T)
  have dl := ok.sq.1
  have m0 := Int.emod_nonneg (cell / 49) (show (n : Int) ≠ 0 by omega)
  have m1 := Int.emod_lt_of_pos (cell / 49) (show (0 : Int) < n by omega)
  obtain ⟨many, em⟩ := Int.eq_ofNat_of_zero_le (show 0 ≤ 1 + cell / 49 % (n : Int) by omega)
  have wn : WdOk (TL.numL many) := wd_num (Nat.lt_of_lt_of_le (show many < 1000 by omega) (by decide))
  have wl := wn.l
  refine ⟨_, unL (D.map fun r => r.map (pF b)).flatten, tabU (unL (D.map fun r => r.map (pF b)).flatten) b D, n, many, ?_, ⟨un, [TL.numL many], (D.map fun r => r.map (pF b)).map lineR, ?_, rfl, ?_⟩, ok, n7, by omega, by omega⟩
  · unfold law_lengths_made
    dsimp only
    rw [en, eD, obs, drawn_lines (tb_flat T) (by omega) (fun r hr => by rw [l2 r hr]; omega), obs, law_unit_eq (tb_flat T), obs, mapO_eq (g := fun r => r.map (whF (unL (D.map fun r => r.map (pF b)).flatten))) (fun r hr => law_wholes_eq un fun z hz => tb_flat T z (List.mem_flatten.mpr ⟨r, hr, hz⟩)), obs, if_neg (by decide +kernel), tb_tab, modC_eq (by omega), obs, obs, em, places_Sx, blank1, catS_eq (by simp), obs, strI_num (by omega), obs, catS_eq (by simp; omega), obs]
    dsimp only
    rw [cutL_from _ (by decide)]
    simp only [obs]
    rw [catC_eq (by have dl0 := T.L.sq.1; simp [dl0]; omega)]
    simp only [obs, List.map_cons, List.map_map, joinS_two]
    rfl
  · exact tb_rwok T (List.cons_ne_nil _ _) (by simp) fun w hw => by
      simp only [List.mem_cons, List.not_mem_nil, or_false] at hw
      rcases hw with rfl | rfl
      · exact wd_of (by decide)
      · exact wn
  · rw [kind_places, List.map_cons]
    unfold read_places
    rw [atI_cons0]
    simp only [obs]
    rw [show [wPlaces, TL.numL many].map Sx = [Sx wPlaces, Sx (TL.numL many)] from rfl, one_number_eq (by omega) (by omega) (by omega), obs]
    have := read_table T ([Sx wPlaces, Sx (TL.numL many)])
    rw [this, obs]
    dsimp only
    rw [dl, if_neg (by simp; omega), look_eq ok, obs, obs]
end M
namespace M
open PySem L2 GM
/-- anything, so deep at most, all of it told -/
def okA : Nat → An → Prop
  | 0, _ => False
  | _ + 1, .i _ => True
  | _ + 1, .s _ => True
  | n + 1, .l xs => ∀ x ∈ xs, okA n x
  | n + 1, .t xs => ∀ x ∈ xs, okA n x
  | _ + 1, .o => False
theorem ok_i {n : Nat} (x : Int) : okA (n + 1) (ToAn.to x) := trivial
theorem ok_s {n : Nat} (x : Str) : okA (n + 1) (ToAn.to x) := trivial
theorem ok_l {α : Type} [Rq α] [ToAn α] {n : Nat} (h : ∀ x : α, okA n (ToAn.to x)) (xs : List α) : okA (n + 1) (ToAn.to xs) := fun y hy => by
  obtain ⟨x, _, rfl⟩ := List.mem_map.mp hy
  exact h x
theorem ok_tp {α : Type} [Rq α] [ToAn α] {n : Nat} (h : ∀ x : α, okA n (ToAn.to x)) (xs : Tp α) : okA (n + 1) (ToAn.to xs) := fun y hy => by
  obtain ⟨x, _, rfl⟩ := List.mem_map.mp hy
  exact h x
theorem ok_p {α β : Type} [Rq α] [Rq β] [ToAn α] [ToAn β] {n : Nat} (h1 : ∀ x : α, okA n (ToAn.to x)) (h2 : ∀ x : β, okA n (ToAn.to x)) (x : α × β) : okA (n + 1) (ToAn.to x) := fun y hy => by
  rcases List.mem_cons.mp hy with rfl | hy
  · exact h1 _
  · rw [List.mem_singleton.mp hy]; exact h2 _
theorem ok_t3 {α β γ : Type} [Rq α] [Rq β] [Rq γ] [ToAn α] [ToAn β] [ToAn γ] {n : Nat} (h1 : ∀ x : α, okA n (ToAn.to x)) (h2 : ∀ x : β, okA n (ToAn.to x)) (h3 : ∀ x : γ, okA n (ToAn.to x)) (x : T3 α β γ) : okA (n + 1) (ToAn.to x) := fun y hy => by
  rcases List.mem_cons.mp hy with rfl | hy
  · exact h1 _
  · rcases List.mem_cons.mp hy with rfl | hy
    · exact h2 _
    · rw [List.mem_singleton.mp hy]; exact h3 _
theorem ok_sum {α β : Type} [Rq α] [Rq β] [ToAn α] [ToAn β] {n : Nat} (h1 : ∀ x : α, okA n (ToAn.to x)) (h2 : ∀ x : β, okA n (ToAn.to x)) : ∀ x : α ⊕ β, okA n (ToAn.to x)
  | .inl x => h1 x
  | .inr x => h2 x
theorem ok_giv (g : Giv) : okA 8 (ToAn.to g) :=
  ok_sum (ok_p ok_i (ok_l (ok_p ok_i (ok_l ok_i)))) (ok_sum (ok_p (ok_l ok_i) (ok_l (ok_p ok_i ok_i))) (ok_sum (ok_tp (ok_l (ok_l ok_i))) (ok_sum (ok_p (ok_l (ok_l ok_i)) ok_i) (ok_sum (ok_p (ok_l ok_i) ok_i) (ok_p ok_i (ok_l (ok_p ok_i ok_i))))))) g
theorem forF_same {R : Type} {xs : List An} {f : An × An → Unit → Option (Fl Unit R)} (h : ∀ x ∈ xs, f (x, x) () = some (.go ())) : forF (xs.zip xs) () f = some (.go ()) := by
  induction xs with
  | nil => rfl
  | cons x xs ih =>
    rw [List.zip_cons_cons]
    unfold forF
    rw [h x List.mem_cons_self, obs]
    exact ih fun y hy => h y (List.mem_cons_of_mem _ hy)
theorem alike_same : ∀ (n : Nat) (x : An), okA n x → law_alike n x x = some true
  | 0, _, h => False.elim h
  | n + 1, x, h => by
    unfold law_alike
    cases x with
    | i k => simp [isA, asI]
    | s k => simp [isA, asS]
    | o => exact False.elim h
    | t xs =>
      have key : ∀ y ∈ xs, law_alike n y y = some true := fun y hy => alike_same n y (h y hy)
      simp only [isA, asT, obs, Bool.false_eq_true, if_false, if_true, Bool.not_true, Option.bind_some]
      simp only [flR, obs, decide_true, Bool.not_true, Bool.false_eq_true, if_false]
      rw [forF_same (fun y hy => by rw [key y hy]; rfl)]
      rfl
    | l xs =>
      have key : ∀ y ∈ xs, law_alike n y y = some true := fun y hy => alike_same n y (h y hy)
      simp only [isA, asT, asLs, obs, Bool.false_eq_true, if_false, if_true, Bool.not_true, Option.bind_some, Option.bind_none]
      simp only [flR, obs, decide_true, Bool.not_true, Bool.false_eq_true, if_false]
      rw [forF_same (fun y hy => by rw [key y hy]; rfl)]
      rfl
/-- the lists may grow by a number each -/
theorem app_ok {g : Giv} {xs : List An} (e : ToAn.to g = An.t xs) (h : ∀ x ∈ xs, appOne xs.length x = true) : appAll (ToAn.to g) = some () := by
  rw [e]
  unfold appAll
  simp only []
  rw [if_pos (List.all_eq_true.mpr h)]
theorem one_l {α : Type} [Rq α] [ToAn α] {k : Nat} {xs : List α} (h : xs.length + k ≤ 1000) : appOne k (ToAn.to xs) = true := by
  show decide ((xs.map ToAn.to).length + k ≤ sizeLine) = true
  rw [List.length_map]
  exact decide_eq_true (Nat.le_trans h (by decide))
end M
namespace M
open PySem L2 GM
/-- what is made, read, of any kind -/
theorem all_read (cells : List Int) {kind cell : Int} (k0 : 0 ≤ kind) (k1 : kind < 7) (hc : 0 ≤ cell) : ∃ lines u g w, atI [(Str.ofString "cover"), (Str.ofString "touch"), (Str.ofString "round"), (Str.ofString "places"), (Str.ofString "benches"), (Str.ofString "bins"), (Str.ofString "sack")] kind = some (Sx w) ∧
    law_made kind cells cell = some (Ll3.mk lines u g) ∧ Mk w lines u g ∧ appAll (ToAn.to g) = some () := by
  unfold law_made
  by_cases q0 : kind = 0
  · obtain ⟨lines, u, S, m, e, mk, m1, m2, hS, hp⟩ := cover_made cells hc
    have sl := hS.len
    rw [if_pos (decide_eq_true q0)]
    refine ⟨_, _, _, _, ?_, e, mk, app_ok rfl fun x hx => ?_⟩
    · rw [← cover_Sx, q0]; rfl
    · rcases List.mem_cons.mp hx with rfl | hx
      · rfl
      · rw [List.mem_singleton.mp hx]; exact one_l (by show S.length + 2 ≤ _; omega)
  rw [if_neg (by simpa using q0)]
  by_cases q1 : kind = 1
  · obtain ⟨lines, u, ps, L, e, mk, l1, l2, l3, hp, hL⟩ := touch_made cells hc
    rw [if_pos (decide_eq_true q1)]
    refine ⟨_, _, _, _, ?_, e, mk, app_ok rfl fun x hx => ?_⟩
    · rw [← show Str.ofString "touch" = Sx wTouch from by decide +kernel, q1]; rfl
    · rcases List.mem_cons.mp hx with rfl | hx
      · exact one_l (by show ps.length + 2 ≤ _; omega)
      · rw [List.mem_singleton.mp hx]; exact one_l (by show L.length + 2 ≤ _; omega)
  rw [if_neg (by simpa using q1)]
  by_cases q2 : kind = 2
  · obtain ⟨lines, u, D, n, e, mk, L, n7⟩ := round_made cells hc
    have dl := L.sq.1
    rw [if_pos (decide_eq_true q2)]
    refine ⟨_, _, _, _, ?_, e, mk, app_ok rfl fun x hx => ?_⟩
    · rw [← round_Sx, q2]; rfl
    · rw [List.mem_singleton.mp hx]; exact one_l (by show D.length + 1 ≤ _; omega)
  rw [if_neg (by simpa using q2)]
  by_cases q3 : kind = 3
  · obtain ⟨lines, u, D, n, many, e, mk, L, n7, m1, mn⟩ := places_made cells hc
    have dl := L.sq.1
    rw [if_pos (decide_eq_true q3)]
    refine ⟨_, _, _, _, ?_, e, mk, app_ok rfl fun x hx => ?_⟩
    · rw [← places_Sx, q3]; rfl
    · rcases List.mem_cons.mp hx with rfl | hx
      · exact one_l (by show D.length + 2 ≤ _; omega)
      · rw [List.mem_singleton.mp hx]; rfl
  rw [if_neg (by simpa using q3)]
  by_cases q4 : kind = 4
  · obtain ⟨lines, u, ws, m, e, mk, m1, m2, l, hw⟩ := benches_made cells hc
    rw [if_pos (decide_eq_true q4)]
    refine ⟨_, _, _, _, ?_, e, mk, app_ok rfl fun x hx => ?_⟩
    · rw [← benches_Sx, q4]; rfl
    · rcases List.mem_cons.mp hx with rfl | hx
      · exact one_l (by show ws.length + 2 ≤ _; omega)
      · rw [List.mem_singleton.mp hx]; rfl
  rw [if_neg (by simpa using q4)]
  by_cases q5 : kind = 5
  · obtain ⟨lines, u, ws, r, e, mk, l, hr, hw⟩ := bins_made cells cell
    rw [if_pos (decide_eq_true q5)]
    refine ⟨_, _, _, _, ?_, e, mk, app_ok rfl fun x hx => ?_⟩
    · rw [← bins_Sx, q5]; rfl
    · rcases List.mem_cons.mp hx with rfl | hx
      · exact one_l (by show ws.length + 2 ≤ _; omega)
      · rw [List.mem_singleton.mp hx]; rfl
  rw [if_neg (by simpa using q5)]
  obtain ⟨lines, u, r, ts, e, mk, l, hr, hw⟩ := sack_made cells cell
  refine ⟨_, _, _, _, ?_, e, mk, app_ok rfl fun x hx => ?_⟩
  · rw [← sack_Sx, show kind = 6 by omega]; rfl
  · rcases List.mem_cons.mp hx with rfl | hx
    · rfl
    · rw [List.mem_singleton.mp hx]; exact one_l (by show ts.length + 2 ≤ _; omega)
theorem law_holds (ns : List Int) (hns : ns.length ≤ 63) : M.law ns = some true := by
  obtain ⟨c0, ec0⟩ := cell_eq ns (show (0 : Int) ≤ 0 by decide)
  obtain ⟨c1, ec1⟩ := cell_eq ns (show (0 : Int) ≤ 1 by decide)
  obtain ⟨c2, ec2⟩ := cell_eq ns (show (0 : Int) ≤ 2 by decide)
  obtain ⟨cell, ecl, cl0, _⟩ := number_eq (c1 + c2) (k := 1) (by decide) (by decide)
  obtain ⟨lines, u, g, w, ew, em, mk, ea⟩ := all_read (cutL ns (some 3) none) (kind := c0 % 7) (by omega) (by omega) cl0
  obtain ⟨T, eT, hT⟩ := mk.read
  have al : law_alike 9 (ToAn.to (T3.mk (Sx w) u g)) (ToAn.to (T3.mk (Sx w) u g)) = some true := alike_same 9 _ (ok_t3 ok_s ok_i ok_giv (T3.mk (Sx w) u g))
  unfold law
  rw [ec0, ec1, ec2]
  simp only [obs]
  rw [ecl, obs, ew, obs, QE.scrL_eq (by have := cutL_len ns (some 3) none; omega), obs, obs, obs]
  dsimp only
  rw [em, obs]
  dsimp only
  rw [eT, obs, hT, obs]
  dsimp only
  rw [al, obs, obs, if_neg (by decide), ea, obs, obs, obs, obs]
  dsimp only
  exact al
end M
namespace Wk
open PySem PySem.Spec PyProof.Rows L2 GM
def topS (i : Nat) : Stmt := PySem.Challenge.pw_goodenough_k52_texts_read.main.body.getD i (.Pass ⟨0, 0, 0, 0⟩)
structure Txt (mg : Str → Option Value) : Prop where
  n_abs : mg "abs" = none
  n_bool : mg "bool" = none
  n_enumerate : mg "enumerate" = none
  n_int : mg "int" = none
  n_isinstance : mg "isinstance" = none
  n_len : mg "len" = none
  n_list : mg "list" = none
  n_max : mg "max" = none
  n_min : mg "min" = none
  n_range : mg "range" = none
  n_str : mg "str" = none
  n_tuple : mg "tuple" = none
  n_zip : mg "zip" = none
  v_FIGURES : ∃ t, mg "FIGURES" = some (.str (Str.ofString "0123456789") t)
  v_MOST_BENCHES : ∃ t, mg "MOST_BENCHES" = some (.int 20 t)
  v_MOST_LINES : ∃ t, mg "MOST_LINES" = some (.int 80 t)
  v_MOST_PLACES : ∃ t, mg "MOST_PLACES" = some (.int 12 t)
  v_MOST_THINGS : ∃ t, mg "MOST_THINGS" = some (.int 40 t)
section
variable {P : Program} {w : World} {K : PySem.W.Frag} {mg : Str → Option Value} {base : Heap}
abbrev s__law_number : Stmt := topS 41
abbrev N__law_number : List Str := ["_law_cell", "_law_k"]
theorem sc__law_number : FnScope N__law_number ["_law_cell", "_law_k"] (defScope s__law_number) := ⟨rfl, rfl, rfl, by decide +kernel, rfl, by decide +kernel, by decide +kernel⟩
theorem ok__law_number {f : Addr} {fd : FuncData} (F : Fun K "_law_number" "_law_number" s__law_number f fd) (X : Txt mg)  (hm : mg "_law_number" = some (.ref f)) (hb : L2.Binds K fd ["_law_cell", "_law_k"] []) : CalB P w K mg base 1 "_law_number" (SpR (τ := Int × Int × Unit) (ρ := Int) fun z => M.law_number z.1 z.2.1) :=
  have sc := sc__law_number
  fun_R F sc rfl (fun cdv A outer s H E hr z => let cell := z.1; let k := z.2.1; ⟨_, _, (bj_retI (ej_modK (by decide) (ej_op op_mulW o2_mul (ej_op op_add o2_add (ej_op op_add o2_add (ej_modP (by decide) (ej_n 0 rfl) (ej_powKK (z := 100000000000000000000) ⟨by decide, by decide, by decide⟩ (by decide +kernel))) (ej_op op_mulW o2_mul (ej_n 1 rfl) (ej_n 1 rfl))) ej_int) (ej_op op_add o2_add ej_int (ej_mulKL (by decide) (ej_n 1 rfl)))))), by unfold M.law_number; first | rfl | (simp only [obs, id_eq]; done) | (simp only [obs, id_eq, Option.bind_assoc]; done) | (simp only [obs, id_eq]; rfl)⟩) hm hb
abbrev s__law_divisor : Stmt := topS 43
abbrev N__law_divisor : List Str := ["_law_one", "_law_other"]
theorem sc__law_divisor : FnScope N__law_divisor ["_law_one", "_law_other"] (defScope s__law_divisor) := ⟨rfl, rfl, rfl, by decide +kernel, rfl, by decide +kernel, by decide +kernel⟩
theorem ok__law_divisor {f : Addr} {fd : FuncData} (F : Fun K "_law_divisor" "_law_divisor" s__law_divisor f fd) (X : Txt mg)  (hm : mg "_law_divisor" = some (.ref f)) (hb : L2.Binds K fd ["_law_one", "_law_other"] []) : CalB P w K mg base 1 "_law_divisor" (SpR (τ := Int × Int × Unit) (ρ := Int) fun z => M.law_divisor z.1 z.2.1) :=
  have sc := sc__law_divisor
  fun_R F sc rfl (fun cdv A outer s H E hr z => let one := z.1; let other := z.2.1; ⟨_, _, (bj_while (N := (fun s1 : Int × Int => [fz s1.1, fz s1.2])) FU (one, other) (by exact (.same (.same .nil))) (fun s1 => (tj_cmp op_gt o2_gt (ej_n 1 rfl) ej_int)) (fun s1 => (bj_par rfl sc.nd 0 1 (aj_cons (ej_n 1 rfl) (aj_cons (ej_op op_mod o2_mod (ej_n 0 rfl) (ej_n 1 rfl)) aj_nil)) default (fun z4 => (bj_nilP (z4.1, z4.2.1) (by exact (.same (.same .nil))))))) (fun s1 => (bj_retI (ej_n 0 rfl))) PassesOwn.never), by unfold M.law_divisor; first | rfl | (simp only [obs, id_eq]; done) | (simp only [obs, id_eq, Option.bind_assoc]; done) | (simp only [obs, id_eq]; rfl)⟩) hm hb
abbrev s__law_parts : Stmt := topS 49
abbrev N__law_parts : List Str := ["_law_cell", "_law_k", "_law_number_here", "_law_bottom", "_law_top", "_law_by"]
theorem sc__law_parts : FnScope N__law_parts ["_law_cell", "_law_k"] (defScope s__law_parts) := ⟨rfl, rfl, rfl, by decide +kernel, rfl, by decide +kernel, by decide +kernel⟩
theorem ok__law_parts {f : Addr} {fd : FuncData} (F : Fun K "_law_parts" "_law_parts" s__law_parts f fd) (X : Txt mg) (C__law_divisor : CalB P w K mg base 1 "_law_divisor" (SpR (τ := Int × Int × Unit) (ρ := Int) fun z => M.law_divisor z.1 z.2.1)) (C__law_number : CalB P w K mg base 1 "_law_number" (SpR (τ := Int × Int × Unit) (ρ := Int) fun z => M.law_number z.1 z.2.1)) (hm : mg "_law_parts" = some (.ref f)) (hb : L2.Binds K fd ["_law_cell", "_law_k"] []) : CalB P w K mg base 2 "_law_parts" (SpR (τ := Int × Int × Unit) (ρ := (Int × Int)) fun z => M.law_parts z.1 z.2.1) :=
  have sc := sc__law_parts
  fun_R F sc rfl (fun cdv A outer s H E hr z => let cell := z.1; let k := z.2.1; ⟨_, _, (bj_asg sc.nd 2 (ej_call (C__law_number.at (hr.mono (by decide))) (aj_cons (ej_n 0 rfl) (aj_cons (ej_op op_add o2_add (ej_n 1 rfl) ej_int) aj_nil))) default (fun number_here => (bj_asg sc.nd 3 (ej_ix (lk_l (lj_e (ej_o (oj_lst (il_cons ej_int (il_cons ej_int (il_cons ej_int (il_cons ej_int (il_cons ej_int (il_cons ej_int (il_cons ej_int (il_cons ej_int (il_cons (ej_op op_add o2_add ej_int (ej_modK (by decide) (ej_divK ⟨by decide, by decide⟩ (ej_n 2 rfl)))) il_nil))))))))))))) (ej_modK (by decide) (ej_divK ⟨by decide, by decide⟩ (ej_n 2 rfl)))) default (fun bottom => (bj_asg sc.nd 4 (ej_modK (by decide) (ej_divK ⟨by decide, by decide⟩ (ej_n 2 rfl))) default (fun top => (bj_ifJ (N := (fun s1 : Int => [fz cell, fz k, fz number_here, fz bottom, fz s1, .un])) (tj_cmp op_eq o2_eq (ej_modK (by decide) (ej_n 2 rfl)) ej_int) (bj_asg sc.nd 4 (ej_modP (by decide) (ej_op op_add o2_add (ej_mulK (by decide) (ej_modP (by decide) (ej_n 0 rfl) (ej_powKK (z := 100000000000000000000) ⟨by decide, by decide, by decide⟩ (by decide +kernel)))) (ej_n 2 rfl)) (ej_powKK (z := 1000000000000) ⟨by decide, by decide, by decide⟩ (by decide +kernel))) default (fun top => (bj_nilN top (by exact (.same (.same (.same (.same (.same (.same .nil)))))))))) (bj_nilN top (by exact (.same (.same (.same (.same (.same (.same .nil)))))))) default (fun s1 => (bj_asg sc.nd 5 (ej_call (C__law_divisor.at (hr.mono (by decide))) (aj_cons (ej_n 3 rfl) (aj_cons (ej_n 4 rfl) aj_nil))) default (fun by_ => (bj_retI (ej_tup2 (aj_cons (ej_op op_fdivW o2_div (ej_n 4 rfl) (ej_n 5 rfl)) (aj_cons (ej_op op_fdivW o2_div (ej_n 3 rfl) (ej_n 5 rfl)) aj_nil)))))))))))))), by unfold M.law_parts; first | rfl | (simp only [obs, id_eq]; done) | (simp only [obs, id_eq, Option.bind_assoc]; done) | (simp only [obs, id_eq]; rfl)⟩) hm hb
abbrev s__law_unit : Stmt := topS 51
abbrev N__law_unit : List Str := ["_law_amounts", "_law_unit_here", "_law_top", "_law_bottom"]
theorem sc__law_unit : FnScope N__law_unit ["_law_amounts"] (defScope s__law_unit) := ⟨rfl, rfl, rfl, by decide +kernel, rfl, by decide +kernel, by decide +kernel⟩
theorem ok__law_unit {f : Addr} {fd : FuncData} (F : Fun K "_law_unit" "_law_unit" s__law_unit f fd) (X : Txt mg) (C__law_divisor : CalB P w K mg base 1 "_law_divisor" (SpR (τ := Int × Int × Unit) (ρ := Int) fun z => M.law_divisor z.1 z.2.1)) (hm : mg "_law_unit" = some (.ref f)) (hb : L2.Binds K fd ["_law_amounts"] []) : CalB P w K mg base 2 "_law_unit" (SpR (τ := (List (Int × Int)) × Unit) (ρ := Int) fun z => M.law_unit z.1) :=
  have sc := sc__law_unit
  fun_R F sc rfl (fun cdv A outer s H E hr z => let amounts := z.1; ⟨_, _, (bj_asg sc.nd 1 ej_int default (fun unit_here => (bj_for (N := (fun s1 : Int => [fz amounts, fz s1, .un, .un])) rfl unit_here default (ij_l (rj_e (ej_n 0 rfl))) (fun _ _ _ => trivial) (gj_pair rfl (gj_name sc.nd 2) (gj_name sc.nd 3)) (by exact (.same (.same (.same (.same .nil))))) (fun x2 s1 => (bj_asg sc.nd 1 (ej_op op_fdivW o2_div (ej_op op_mulW o2_mul (ej_n 1 rfl) (ej_n 3 rfl)) (ej_call (C__law_divisor.at (hr.mono (by decide))) (aj_cons (ej_n 1 rfl) (aj_cons (ej_n 3 rfl) aj_nil)))) default (fun unit_here => (bj_nilP unit_here (by exact (.same (.same (.drop (.drop .nil))))))))) (fun s1 => (bj_retI (ej_n 1 rfl))) PassesOwn.never))), by unfold M.law_unit; first | rfl | (simp only [obs, id_eq]; done) | (simp only [obs, id_eq, Option.bind_assoc]; done) | (simp only [obs, id_eq]; rfl)⟩) hm hb
abbrev s__law_above : Stmt := topS 57
abbrev N__law_above : List Str := ["_law_one"]
theorem sc__law_above : FnScope N__law_above ["_law_one"] (defScope s__law_above) := ⟨rfl, rfl, rfl, by decide +kernel, rfl, by decide +kernel, by decide +kernel⟩
theorem ok__law_above {f : Addr} {fd : FuncData} (F : Fun K "_law_above" "_law_above" s__law_above f fd) (X : Txt mg)  (hm : mg "_law_above" = some (.ref f)) (hb : L2.Binds K fd ["_law_one"] []) : CalB P w K mg base 1 "_law_above" (SpR (τ := (Int × Int) × Unit) (ρ := (Int × Int)) fun z => M.law_above z.1) :=
  have sc := sc__law_above
  fun_R F sc rfl (fun cdv A outer s H E hr z => let one := z.1; ⟨_, _, (bj_ifX (tj_cmp op_eq o2_eq (ej_ix0 (ej_n 0 rfl)) ej_int) (bj_retI (ej_tup2 (aj_cons ej_int (aj_cons ej_int aj_nil)))) (bj_retI (ej_n 0 rfl))), by unfold M.law_above; first | rfl | (simp only [obs, id_eq]; done) | (simp only [obs, id_eq, Option.bind_assoc]; done) | (simp only [obs, id_eq]; rfl)⟩) hm hb
abbrev s__law_written : Stmt := topS 50
abbrev N__law_written : List Str := ["_law_one"]
theorem sc__law_written : FnScope N__law_written ["_law_one"] (defScope s__law_written) := ⟨rfl, rfl, rfl, by decide +kernel, rfl, by decide +kernel, by decide +kernel⟩
theorem ok__law_written {f : Addr} {fd : FuncData} (F : Fun K "_law_written" "_law_written" s__law_written f fd) (X : Txt mg)  (hm : mg "_law_written" = some (.ref f)) (hb : L2.Binds K fd ["_law_one"] []) : CalB P w K mg base 1 "_law_written" (SpR (τ := (Int × Int) × Unit) (ρ := Str) fun z => M.law_written z.1) :=
  have sc := sc__law_written
  fun_R F sc rfl (fun cdv A outer s H E hr z => let one := z.1; ⟨_, _, (bj_ifX (tj_cmp op_eq o2_eq (ej_ix1 (ej_n 0 rfl)) ej_int) (bj_retI (ej_strI (ej_ix0 (ej_n 0 rfl)) X.n_str)) (bj_retI (ej_catS (ej_catS (ej_strI (ej_ix0 (ej_n 0 rfl)) X.n_str) ej_str) (ej_strI (ej_ix1 (ej_n 0 rfl)) X.n_str)))), by unfold M.law_written; first | rfl | (simp only [obs, id_eq]; done) | (simp only [obs, id_eq, Option.bind_assoc]; done) | (simp only [obs, id_eq]; rfl)⟩) hm hb
abbrev s__law_wholes : Stmt := topS 52
abbrev N__law_wholes : List Str := ["_law_amounts", "_law_unit_here", "_law_top", "_law_bottom"]
theorem sc__law_wholes : FnScope N__law_wholes ["_law_amounts", "_law_unit_here"] (defScope s__law_wholes) := ⟨rfl, rfl, rfl, by decide +kernel, rfl, by decide +kernel, by decide +kernel⟩
theorem ok__law_wholes {f : Addr} {fd : FuncData} (F : Fun K "_law_wholes" "_law_wholes" s__law_wholes f fd) (X : Txt mg)  (hm : mg "_law_wholes" = some (.ref f)) (hb : L2.Binds K fd ["_law_amounts", "_law_unit_here"] []) : CalB P w K mg base 1 "_law_wholes" (SpO (τ := (List (Int × Int)) × Int × Unit) (ρ := Int) fun z => M.law_wholes z.1 z.2.1) :=
  have sc := sc__law_wholes
  fun_O F sc rfl (fun cdv A outer s H E hr z => let amounts := z.1; let unit_here := z.2.1; ⟨_, _, (bj_retOI (oj_lq (x0 := default) rfl sc.nd (ij_l (rj_e (ej_n 0 rfl))) (blkOk_by (own := [("_law_top", 2), ("_law_bottom", 3)]) (N := N__law_wholes) (sc := defScope s__law_wholes) (by decide +kernel)) (fun _ _ _ _ _ => (gj_pair rfl (gj_name sc.nd 2) (gj_name sc.nd 3))) (fun _ _ _ _ _ _ => (ej_op op_fdivW o2_div (ej_op op_mulW o2_mul (ej_n 2 rfl) (ej_n 1 rfl)) (ej_n 3 rfl))))), by unfold M.law_wholes; first | rfl | (simp only [obs, id_eq]; done) | (simp only [obs, id_eq, Option.bind_assoc]; done) | (simp only [obs, id_eq]; rfl)⟩) hm hb
abbrev s__law_sack_made : Stmt := topS 59
abbrev N__law_sack_made : List Str := ["_law_cells", "_law_cell", "_law_room", "_law_worths", "_law_weights", "_law_unit_here", "_law_lines", "_law_things", "_law_one", "_law_other", "_law_k"]
theorem sc__law_sack_made : FnScope N__law_sack_made ["_law_cells", "_law_cell"] (defScope s__law_sack_made) := ⟨rfl, rfl, rfl, by decide +kernel, rfl, by decide +kernel, by decide +kernel⟩
theorem ok__law_sack_made {f : Addr} {fd : FuncData} (F : Fun K "_law_sack_made" "_law_sack_made" s__law_sack_made f fd) (X : Txt mg) (C__law_above : CalB P w K mg base 1 "_law_above" (SpR (τ := (Int × Int) × Unit) (ρ := (Int × Int)) fun z => M.law_above z.1)) (C__law_parts : CalB P w K mg base 2 "_law_parts" (SpR (τ := Int × Int × Unit) (ρ := (Int × Int)) fun z => M.law_parts z.1 z.2.1)) (C__law_unit : CalB P w K mg base 2 "_law_unit" (SpR (τ := (List (Int × Int)) × Unit) (ρ := Int) fun z => M.law_unit z.1)) (C__law_wholes : CalB P w K mg base 1 "_law_wholes" (SpO (τ := (List (Int × Int)) × Int × Unit) (ρ := Int) fun z => M.law_wholes z.1 z.2.1)) (C__law_written : CalB P w K mg base 1 "_law_written" (SpR (τ := (Int × Int) × Unit) (ρ := Str) fun z => M.law_written z.1)) (hm : mg "_law_sack_made" = some (.ref f)) (hb : L2.Binds K fd ["_law_cells", "_law_cell"] []) : CalB P w K mg base 3 "_law_sack_made" (SpR (τ := Scr K × Int × Unit) (ρ := (Ll3 (List Str) Int ((Int × (List (Int × (List Int)))) ⊕ (((List Int) × (List (Int × Int))) ⊕ ((Tp (List (List Int))) ⊕ (((List (List Int)) × Int) ⊕ (((List Int) × Int) ⊕ ((Int × (List (Int × Int))))))))))) fun z => M.law_sack_made z.1.l z.2.1) :=
  have sc := sc__law_sack_made
  fun_R F sc rfl (fun cdv A outer s H E hr z => let cells := z.1.l; let cell := z.2.1; ⟨_, _, (bj_asg sc.nd 2 (ej_call (C__law_parts.at (hr.mono (by decide))) (aj_cons (ej_n 1 rfl) (aj_cons ej_int aj_nil))) default (fun room => (bj_asgLc (lqj (x0 := default) rfl sc.nd (i := 3) rfl rfl (sw_true rfl rfl rfl (by decide +kernel)) (ij_enum (rj_e (ej_o (oj_slice (lk_s rfl 0 rfl) px_none (px_some ej_int)))) X.n_enumerate) (blkOk_by (own := [("_law_k", 10), ("_law_one", 8)]) (N := N__law_sack_made) (sc := defScope s__law_sack_made) (by decide +kernel)) (fun _ _ _ _ _ => (gj_pair rfl (gj_name sc.nd 10) (gj_name sc.nd 8))) (fun _ _ _ _ _ _ => (ej_call (C__law_parts.at (hr.mono (by decide))) (aj_cons (ej_n 8 rfl) (aj_cons (ej_n 10 rfl) aj_nil))))) (fun worths => (bj_thaw (xs := worths) 3 (bj_asgLc (lqj (x0 := default) rfl sc.nd (i := 4) rfl rfl (sw_true rfl rfl rfl (by decide +kernel)) (ij_enum (rj_e (ej_o (oj_slice (lk_s rfl 0 rfl) px_none (px_some ej_int)))) X.n_enumerate) (blkOk_by (own := [("_law_k", 10), ("_law_one", 8)]) (N := N__law_sack_made) (sc := defScope s__law_sack_made) (by decide +kernel)) (fun _ _ _ _ _ => (gj_pair rfl (gj_name sc.nd 10) (gj_name sc.nd 8))) (fun _ _ _ _ _ _ => (ej_call (C__law_above.at (hr.mono (by decide))) (aj_cons (ej_call (C__law_parts.at (hr.mono (by decide))) (aj_cons (ej_n 8 rfl) (aj_cons (ej_op op_add o2_add (ej_n 10 rfl) ej_int) aj_nil))) aj_nil)))) (fun weights => (bj_thaw (xs := weights) 4 (bj_asg sc.nd 5 (ej_call (C__law_unit.at (hr.mono (by decide))) (aj_cons (ej_o (oj_cat (lj_e (ej_o (oj_cat (lj_e (ej_o (oj_lst (il_cons (ej_n 2 rfl) il_nil)))) (lj_e (ej_n 3 rfl))))) (lj_e (ej_n 4 rfl)))) aj_nil)) default (fun unit_here => (bj_asgO sc.nd 6 (oj_lst (il_cons (ej_catS ej_str (ej_call (C__law_written.at (hr.mono (by decide))) (aj_cons (ej_n 2 rfl) aj_nil))) il_nil)) (fun lines => (bj_for (N := (fun s10 : (List Str) => [fz z.1, fz cell, fz room, fz worths, fz weights, fz unit_here, ol s10, .un, .un, .un, .un])) rfl lines default (ij_zip (rj_e (ej_n 3 rfl)) (rj_e (ej_n 4 rfl)) X.n_zip) (fun _ _ _ => ⟨trivial, trivial⟩) (gj_pair rfl (gj_name sc.nd 8) (gj_name sc.nd 9)) (by exact (.same (.same (.same (.same (.same (.same (.same (.same (.same (.same (.same .nil)))))))))))) (fun x11 s10 => (bj_append 6 (ej_catS (ej_catS (ej_call (C__law_written.at (hr.mono (by decide))) (aj_cons (ej_n 8 rfl) aj_nil)) ej_str) (ej_call (C__law_written.at (hr.mono (by decide))) (aj_cons (ej_n 9 rfl) aj_nil))) (fun lines => (bj_nilP lines (by exact (.same (.same (.same (.same (.same (.same (.same (.same (.drop (.drop (.same .nil)))))))))))))))) (fun s10 => (bj_asgLc (lqjP (x0 := default) rfl sc.nd (i := 7) rfl rfl (sw_true rfl rfl rfl (by decide +kernel)) (ij_zip (rj_e (ej_o (oj_call (C__law_wholes.at (hr.mono (by decide))) (aj_cons (ej_n 3 rfl) (aj_cons (ej_n 5 rfl) aj_nil))))) (rj_e (ej_o (oj_call (C__law_wholes.at (hr.mono (by decide))) (aj_cons (ej_n 4 rfl) (aj_cons (ej_n 5 rfl) aj_nil))))) X.n_zip) (blkOk_by (own := [("_law_one", 8), ("_law_other", 9)]) (N := N__law_sack_made) (sc := defScope s__law_sack_made) (by decide +kernel)) (fun _ _ _ _ _ => (gj_pair rfl (gj_name sc.nd 8) (gj_name sc.nd 9))) (fun _ _ _ _ _ _ => (ej_tup2 (aj_cons (ej_n 8 rfl) (aj_cons (ej_n 9 rfl) aj_nil))))) (fun things => (bj_thaw (xs := things) 7 (bj_thaw (xs := s10) 6 (bj_retI (ej_ll3 (aj_cons (ej_n 6 rfl) (aj_cons (ej_n 5 rfl) (aj_cons (ej_inU (f := fun x => (Sum.inr (Sum.inr (Sum.inr (Sum.inr (Sum.inr x)))) : (Int × (List (Int × (List Int)))) ⊕ (((List Int) × (List (Int × Int))) ⊕ ((Tp (List (List Int))) ⊕ (((List (List Int)) × Int) ⊕ (((List Int) × Int) ⊕ ((Int × (List (Int × Int)))))))))) (fun h => h) (ej_tup2 (aj_cons (ej_ix (lk_l (lj_e (ej_o (oj_call (C__law_wholes.at (hr.mono (by decide))) (aj_cons (ej_o (oj_lst (il_cons (ej_n 2 rfl) il_nil))) (aj_cons (ej_n 5 rfl) aj_nil)))))) ej_int) (aj_cons (ej_n 7 rfl) aj_nil)))) aj_nil))))) rfl) rfl)))) PassesOwn.never))))) rfl))) rfl))))), by unfold M.law_sack_made; first | rfl | (simp only [obs, id_eq]; done) | (simp only [obs, id_eq, Option.bind_assoc]; done) | (simp only [obs, id_eq]; rfl)⟩) hm hb
abbrev s__law_bit : Stmt := topS 44
abbrev N__law_bit : List Str := ["_law_number_here", "_law_place", "_law_k"]
theorem sc__law_bit : FnScope N__law_bit ["_law_number_here", "_law_place"] (defScope s__law_bit) := ⟨rfl, rfl, rfl, by decide +kernel, rfl, by decide +kernel, by decide +kernel⟩
theorem ok__law_bit {f : Addr} {fd : FuncData} (F : Fun K "_law_bit" "_law_bit" s__law_bit f fd) (X : Txt mg)  (hm : mg "_law_bit" = some (.ref f)) (hb : L2.Binds K fd ["_law_number_here", "_law_place"] []) : CalB P w K mg base 1 "_law_bit" (SpR (τ := Int × Int × Unit) (ρ := Int) fun z => M.law_bit z.1 z.2.1) :=
  have sc := sc__law_bit
  fun_R F sc rfl (fun cdv A outer s H E hr z => let number_here := z.1; let place := z.2.1; ⟨_, _, (bj_for (N := (fun s1 : Int => [fz s1, fz place, .un])) rfl number_here default (ij_rng1 (ej_n 1 rfl) X.n_range) (fun _ _ _ => trivial) (gj_name sc.nd 2) (by exact (.same (.same (.same .nil)))) (fun k s1 => (bj_asg sc.nd 0 (ej_divK ⟨by decide, by decide⟩ (ej_n 0 rfl)) default (fun number_here => (bj_nilP number_here (by exact (.same (.same (.drop .nil)))))))) (fun s1 => (bj_retI (ej_modK (by decide) (ej_n 0 rfl)))) PassesOwn.never), by unfold M.law_bit; first | rfl | (simp only [obs, id_eq]; done) | (simp only [obs, id_eq, Option.bind_assoc]; done) | (simp only [obs, id_eq]; rfl)⟩) hm hb
abbrev s__law_has : Stmt := topS 45
abbrev N__law_has : List Str := ["_law_cell", "_law_k", "_law_thing", "_law_number_here", "_law_both"]
theorem sc__law_has : FnScope N__law_has ["_law_cell", "_law_k", "_law_thing"] (defScope s__law_has) := ⟨rfl, rfl, rfl, by decide +kernel, rfl, by decide +kernel, by decide +kernel⟩
theorem ok__law_has {f : Addr} {fd : FuncData} (F : Fun K "_law_has" "_law_has" s__law_has f fd) (X : Txt mg) (C__law_bit : CalB P w K mg base 1 "_law_bit" (SpR (τ := Int × Int × Unit) (ρ := Int) fun z => M.law_bit z.1 z.2.1)) (C__law_number : CalB P w K mg base 1 "_law_number" (SpR (τ := Int × Int × Unit) (ρ := Int) fun z => M.law_number z.1 z.2.1)) (hm : mg "_law_has" = some (.ref f)) (hb : L2.Binds K fd ["_law_cell", "_law_k", "_law_thing"] []) : CalB P w K mg base 2 "_law_has" (SpR (τ := Int × Int × Int × Unit) (ρ := Bool) fun z => M.law_has z.1 z.2.1 z.2.2.1) :=
  have sc := sc__law_has
  fun_R F sc rfl (fun cdv A outer s H E hr z => let cell := z.1; let k := z.2.1; let thing := z.2.2.1; ⟨_, _, (bj_asg sc.nd 3 (ej_call (C__law_number.at (hr.mono (by decide))) (aj_cons (ej_n 0 rfl) (aj_cons (ej_op op_add o2_add (ej_n 1 rfl) ej_int) aj_nil))) default (fun number_here => (bj_asg sc.nd 4 (ej_op op_add o2_add (ej_call (C__law_bit.at (hr.mono (by decide))) (aj_cons (ej_n 3 rfl) (aj_cons (ej_n 2 rfl) aj_nil))) (ej_call (C__law_bit.at (hr.mono (by decide))) (aj_cons (ej_call (C__law_number.at (hr.mono (by decide))) (aj_cons (ej_n 0 rfl) (aj_cons (ej_op op_add o2_add (ej_n 1 rfl) ej_int) aj_nil))) (aj_cons (ej_n 2 rfl) aj_nil)))) default (fun both => (bj_retI (ej_cmp op_gt o2_gt (ej_n 4 rfl) (ej_op op_sub o2_sub ej_int (ej_modK (by decide) (ej_divK ⟨by decide, by decide⟩ (ej_n 3 rfl)))))))))), by unfold M.law_has; first | rfl | (simp only [obs, id_eq]; done) | (simp only [obs, id_eq, Option.bind_assoc]; done) | (simp only [obs, id_eq]; rfl)⟩) hm hb
abbrev s__law_amount : Stmt := topS 42
abbrev N__law_amount : List Str := ["_law_cell", "_law_k", "_law_number_here"]
theorem sc__law_amount : FnScope N__law_amount ["_law_cell", "_law_k"] (defScope s__law_amount) := ⟨rfl, rfl, rfl, by decide +kernel, rfl, by decide +kernel, by decide +kernel⟩
theorem ok__law_amount {f : Addr} {fd : FuncData} (F : Fun K "_law_amount" "_law_amount" s__law_amount f fd) (X : Txt mg) (C__law_number : CalB P w K mg base 1 "_law_number" (SpR (τ := Int × Int × Unit) (ρ := Int) fun z => M.law_number z.1 z.2.1)) (hm : mg "_law_amount" = some (.ref f)) (hb : L2.Binds K fd ["_law_cell", "_law_k"] []) : CalB P w K mg base 2 "_law_amount" (SpR (τ := Int × Int × Unit) (ρ := Int) fun z => M.law_amount z.1 z.2.1) :=
  have sc := sc__law_amount
  fun_R F sc rfl (fun cdv A outer s H E hr z => let cell := z.1; let k := z.2.1; ⟨_, _, (bj_asg sc.nd 2 (ej_call (C__law_number.at (hr.mono (by decide))) (aj_cons (ej_n 0 rfl) (aj_cons (ej_n 1 rfl) aj_nil))) default (fun number_here => (bj_ifX (tj_cmp op_eq o2_eq (ej_modK (by decide) (ej_n 2 rfl)) ej_int) (bj_retI (ej_modK (by decide) (ej_divK ⟨by decide, by decide⟩ (ej_n 2 rfl)))) (bj_ifX (tj_cmp op_eq o2_eq (ej_modK (by decide) (ej_n 2 rfl)) ej_int) (bj_retI (ej_modK (by decide) (ej_divK ⟨by decide, by decide⟩ (ej_n 2 rfl)))) (bj_retI (ej_op op_mod o2_mod (ej_op op_add o2_add (ej_mulK (by decide) (ej_modP (by decide) (ej_n 0 rfl) (ej_powKK (z := 100000000000000000000) ⟨by decide, by decide, by decide⟩ (by decide +kernel)))) (ej_n 2 rfl)) (ej_op op_add o2_add (ej_powKK (z := 1000000000000000000) ⟨by decide, by decide, by decide⟩ (by decide +kernel)) ej_int))))))), by unfold M.law_amount; first | rfl | (simp only [obs, id_eq]; done) | (simp only [obs, id_eq, Option.bind_assoc]; done) | (simp only [obs, id_eq]; rfl)⟩) hm hb
abbrev s__law_sets : Stmt := topS 46
abbrev N__law_sets : List Str := ["_law_cells", "_law_many", "_law_found", "_law_thing", "_law_k", "_law_cell", "_law_things", "_law_price"]
theorem sc__law_sets : FnScope N__law_sets ["_law_cells", "_law_many"] (defScope s__law_sets) := ⟨rfl, rfl, rfl, by decide +kernel, rfl, by decide +kernel, by decide +kernel⟩
theorem ok__law_sets {f : Addr} {fd : FuncData} (F : Fun K "_law_sets" "_law_sets" s__law_sets f fd) (X : Txt mg) (C__law_amount : CalB P w K mg base 2 "_law_amount" (SpR (τ := Int × Int × Unit) (ρ := Int) fun z => M.law_amount z.1 z.2.1)) (C__law_has : CalB P w K mg base 2 "_law_has" (SpR (τ := Int × Int × Int × Unit) (ρ := Bool) fun z => M.law_has z.1 z.2.1 z.2.2.1)) (hm : mg "_law_sets" = some (.ref f)) (hb : L2.Binds K fd ["_law_cells", "_law_many"] []) : CalB P w K mg base 3 "_law_sets" (SpR (τ := Scr K × Int × Unit) (ρ := (List (Int × (List Int)))) fun z => M.law_sets z.1.l z.2.1) :=
  have sc := sc__law_sets
  fun_R F sc rfl (fun cdv A outer s H E hr z => let cells := z.1.l; let many := z.2.1; ⟨_, _, (bj_asgQ sc.nd 2 (qj_nilL (d := (otF oL))) default (fun found => (bj_for (N := (fun s1 : (List (Int × (List Int))) => [fz z.1, fz many, oo (oLL (otF oL)) s1, .un, .un, .un, .un, .un])) rfl found default (ij_enum (rj_scr rfl 0 rfl) X.n_enumerate) (fun _ _ _ => trivial) (gj_pair rfl (gj_name sc.nd 4) (gj_name sc.nd 5)) (by exact (.same (.same (.same (.same (.same (.same (.same (.same .nil))))))))) (fun x2 s1 => (bj_asgLc (lqjT (x0 := default) rfl sc.nd (i := 6) rfl rfl (sw_true rfl rfl rfl (by decide +kernel)) (ij_rng1 (ej_n 1 rfl) X.n_range) (blkOk_by (own := [("_law_thing", 3)]) (N := N__law_sets) (sc := defScope s__law_sets) (by decide +kernel)) (fun _ _ _ _ _ => (gj_name sc.nd 3)) (fun _ _ _ _ _ _ => (tj_v (ej_call (C__law_has.at (hr.mono (by decide))) (aj_cons (ej_n 5 rfl) (aj_cons (ej_n 4 rfl) (aj_cons (ej_n 3 rfl) aj_nil)))))) (fun _ _ _ _ _ _ => (ej_n 3 rfl))) (fun things => (bj_appMove 2 6 (ej_call (C__law_amount.at (hr.mono (by decide))) (aj_cons (ej_n 5 rfl) (aj_cons (ej_n 4 rfl) aj_nil))) (fun found => (bj_nilP found (by exact (.same (.same (.same (.same (.drop (.drop (.same (.same .nil))))))))))) (by decide))))) (fun s1 => (bj_ifJ (N := (fun s5 : (List (Int × (List Int))) => [fz z.1, fz many, oo (oLL (otF oL)) s5, .un, .un, .un, .un, .un])) (tj_peek (by exact (.fv (.fv (.see (d := (oLL (otF oL))) (x := s1) (.drop (.drop (.drop (.drop (.drop .nil))))))))) (tj_eqD (α := List (Int × (List Int))) hr.units (wj_e (ej_n 2 rfl)) (wj_e (ej_o (oj_lst (il_nil (α := (Int × (List Int))))))))) (bj_appQ 2 (qj_tF ej_int (qj_o (oj_lst (il_nil (α := Int))))) (fun found => (bj_nilN found (by exact (.same (.same (.same (.same (.same (.same (.same (.same .nil)))))))))))) (bj_nilN s1 (by exact (.same (.same (.same (.same (.same (.same (.same (.same .nil)))))))))) default (fun s5 => (bj_for (N := (fun s6 : (List (Int × (List Int))) => [fz z.1, fz many, oo (oLL (otF oL)) s6, .un, .un, .un, .un, .un])) rfl s5 default (ij_rng1 (ej_n 1 rfl) X.n_range) (fun _ _ _ => trivial) (gj_name sc.nd 3) (by exact (.same (.same (.same (.same (.same (.same (.same (.same .nil))))))))) (fun thing s6 => (bj_if (tj_cmp op_eq o2_eq (ej_len (lk_l (lj_e (ej_o (oj_peek (by exact (.fv (.fv (.see (d := (oLL (otF oL))) (x := s6) (.fv (.drop (.drop (.drop (.drop .nil))))))))) (oj_lqTP (x0 := default) rfl sc.nd (ij_l (rj_e (ej_n 2 rfl))) (blkOk_by (own := [("_law_price", 7), ("_law_things", 6)]) (N := N__law_sets) (sc := defScope s__law_sets) (by decide +kernel)) (fun _ _ _ _ _ => (gj_pair rfl (gj_name sc.nd 7) (gj_name sc.nd 6))) (fun _ _ _ _ _ _ => (tj_in (ej_n 3 rfl) (lk_l (lj_e (ej_n 6 rfl))))) (fun _ _ _ _ _ _ => ej_int)))))) X.n_len) ej_int) (bj_pinZ 2 (fun q8 F9 => (bj_appLT 2 (ej_op op_mod o2_mod (ej_mulK (by decide) (ej_n 3 rfl)) (ej_peek (by exact (.fv (.fv (.seeX (d := (oLL (otF oL))) (x := s6) (q := q8) (F := F9) (.fv (.drop (.drop (.drop (.drop .nil))))))))) (ej_len (lk_l (lj_e (ej_n 2 rfl))) X.n_len))) (ej_n 3 rfl) (fun found => (bj_nilP found (by exact (.same (.same (.same (.drop (.same (.same (.same (.same .nil))))))))))))) rfl) (bj_nilP s6 (by exact (.same (.same (.same (.drop (.same (.same (.same (.same .nil)))))))))))) (fun s6 => (bj_thawQ (d := (oLL (otF oL))) (x := s6) 2 (bj_retI (ej_n 2 rfl)) rfl)) PassesOwn.never)))) PassesOwn.never))), by unfold M.law_sets; first | rfl | (simp only [obs, id_eq]; done) | (simp only [obs, id_eq, Option.bind_assoc]; done) | (simp only [obs, id_eq]; rfl)⟩) hm hb
abbrev s__law_cell_at : Stmt := topS 40
abbrev N__law_cell_at : List Str := ["_law_script", "_law_k"]
theorem sc__law_cell_at : FnScope N__law_cell_at ["_law_script", "_law_k"] (defScope s__law_cell_at) := ⟨rfl, rfl, rfl, by decide +kernel, rfl, by decide +kernel, by decide +kernel⟩
theorem ok__law_cell_at {f : Addr} {fd : FuncData} (F : Fun K "_law_cell_at" "_law_cell_at" s__law_cell_at f fd) (X : Txt mg)  (hm : mg "_law_cell_at" = some (.ref f)) (hb : L2.Binds K fd ["_law_script", "_law_k"] []) : CalB P w K mg base 1 "_law_cell_at" (SpR (τ := Scr K × Int × Unit) (ρ := Int) fun z => M.law_cell_at z.1.l z.2.1) :=
  have sc := sc__law_cell_at
  fun_R F sc rfl (fun cdv A outer s H E hr z => let script := z.1.l; let k := z.2.1; ⟨_, _, (bj_ifX (tj_cmp op_lt o2_lt (ej_n 1 rfl) (ej_len (lk_s rfl 0 rfl) X.n_len)) (bj_retI (ej_ix (lk_s rfl 0 rfl) (ej_n 1 rfl))) (bj_retI ej_int)), by unfold M.law_cell_at; first | rfl | (simp only [obs, id_eq]; done) | (simp only [obs, id_eq, Option.bind_assoc]; done) | (simp only [obs, id_eq]; rfl)⟩) hm hb
abbrev s__law_cover_made : Stmt := topS 53
abbrev N__law_cover_made : List Str := ["_law_cells", "_law_cell", "_law_many", "_law_sets_here", "_law_amounts", "_law_lines", "_law_unit_here", "_law_prices", "_law_one", "_law_pair", "_law_k", "_law_price", "_law_thing"]
theorem sc__law_cover_made : FnScope N__law_cover_made ["_law_cells", "_law_cell"] (defScope s__law_cover_made) := ⟨rfl, rfl, rfl, by decide +kernel, rfl, by decide +kernel, by decide +kernel⟩
theorem ok__law_cover_made {f : Addr} {fd : FuncData} (F : Fun K "_law_cover_made" "_law_cover_made" s__law_cover_made f fd) (X : Txt mg) (C__law_cell_at : CalB P w K mg base 1 "_law_cell_at" (SpR (τ := Scr K × Int × Unit) (ρ := Int) fun z => M.law_cell_at z.1.l z.2.1)) (C__law_parts : CalB P w K mg base 2 "_law_parts" (SpR (τ := Int × Int × Unit) (ρ := (Int × Int)) fun z => M.law_parts z.1 z.2.1)) (C__law_sets : CalB P w K mg base 3 "_law_sets" (SpR (τ := Scr K × Int × Unit) (ρ := (List (Int × (List Int)))) fun z => M.law_sets z.1.l z.2.1)) (C__law_unit : CalB P w K mg base 2 "_law_unit" (SpR (τ := (List (Int × Int)) × Unit) (ρ := Int) fun z => M.law_unit z.1)) (C__law_wholes : CalB P w K mg base 1 "_law_wholes" (SpO (τ := (List (Int × Int)) × Int × Unit) (ρ := Int) fun z => M.law_wholes z.1 z.2.1)) (C__law_written : CalB P w K mg base 1 "_law_written" (SpR (τ := (Int × Int) × Unit) (ρ := Str) fun z => M.law_written z.1)) (hm : mg "_law_cover_made" = some (.ref f)) (hb : L2.Binds K fd ["_law_cells", "_law_cell"] []) : CalB P w K mg base 4 "_law_cover_made" (SpR (τ := Scr K × Int × Unit) (ρ := (Ll3 (List Str) Int ((Int × (List (Int × (List Int)))) ⊕ (((List Int) × (List (Int × Int))) ⊕ ((Tp (List (List Int))) ⊕ (((List (List Int)) × Int) ⊕ (((List Int) × Int) ⊕ ((Int × (List (Int × Int))))))))))) fun z => M.law_cover_made z.1.l z.2.1) :=
  have sc := sc__law_cover_made
  fun_R F sc rfl (fun cdv A outer s H E hr z => let cells := z.1.l; let cell := z.2.1; ⟨_, _, (bj_asg sc.nd 2 (ej_op op_add o2_add ej_int (ej_modK (by decide) (ej_n 1 rfl))) default (fun many => (bj_asg sc.nd 3 (ej_call (C__law_sets.at (hr.mono (by decide))) (aj_cons (ej_scr (ej_o (oj_slice (lk_s rfl 0 rfl) px_none (px_some ej_int)))) (aj_cons (ej_n 2 rfl) aj_nil))) default (fun sets_here => (bj_asgLc (lqj (x0 := default) rfl sc.nd (i := 4) rfl rfl (sw_true rfl rfl rfl (by decide +kernel)) (ij_rngL (lk_l (lj_e (ej_n 3 rfl))) X.n_range X.n_len) (blkOk_by (own := [("_law_k", 10)]) (N := N__law_cover_made) (sc := defScope s__law_cover_made) (by decide +kernel)) (fun _ _ _ _ _ => (gj_name sc.nd 10)) (fun _ _ _ _ _ _ => (ej_call (C__law_parts.at (hr.mono (by decide))) (aj_cons (ej_call (C__law_cell_at.at (hr.mono (by decide))) (aj_cons (ej_n 0 rfl) (aj_cons (ej_n 10 rfl) aj_nil))) (aj_cons (ej_n 10 rfl) aj_nil))))) (fun amounts => (bj_thaw (xs := amounts) 4 (bj_asgO sc.nd 5 (oj_lst (il_cons (ej_catS ej_str (ej_strI (ej_n 2 rfl) X.n_str)) il_nil)) (fun lines => (bj_for (N := (fun s7 : (List Str) => [fz z.1, fz cell, fz many, fz sets_here, fz amounts, ol s7, .un, .un, .un, .un, .un, .un, .un])) rfl lines default (ij_zip (rj_e (ej_n 4 rfl)) (rj_e (ej_n 3 rfl)) X.n_zip) (fun _ _ _ => ⟨trivial, trivial⟩) (gj_pair rfl (gj_name sc.nd 8) (gj_name sc.nd 9)) (by exact (.same (.same (.same (.same (.same (.same (.same (.same (.same (.same (.same (.same (.same .nil)))))))))))))) (fun x8 s7 => (bj_append 5 (ej_join ej_str (lk_l (lj_e (ej_o (oj_cat (lj_e (ej_o (oj_lst (il_cons (ej_call (C__law_written.at (hr.mono (by decide))) (aj_cons (ej_n 8 rfl) aj_nil)) il_nil)))) (lj_e (ej_o (oj_lq (x0 := default) rfl sc.nd (ij_l (rj_e (ej_ix1 (ej_n 9 rfl)))) (blkOk_by (own := [("_law_thing", 12)]) (N := N__law_cover_made) (sc := defScope s__law_cover_made) (by decide +kernel)) (fun _ _ _ _ _ => (gj_name sc.nd 12)) (fun _ _ _ _ _ _ => (ej_strI (ej_n 12 rfl) X.n_str)))))))))) (fun lines => (bj_nilP lines (by exact (.same (.same (.same (.same (.same (.same (.same (.same (.drop (.drop (.same (.same (.same .nil)))))))))))))))))) (fun s7 => (bj_asg sc.nd 6 (ej_call (C__law_unit.at (hr.mono (by decide))) (aj_cons (ej_n 4 rfl) aj_nil)) default (fun unit_here => (bj_asg sc.nd 7 (ej_o (oj_call (C__law_wholes.at (hr.mono (by decide))) (aj_cons (ej_n 4 rfl) (aj_cons (ej_n 6 rfl) aj_nil)))) default (fun prices => (bj_thaw (xs := s7) 5 (bj_retI (ej_ll3 (aj_cons (ej_n 5 rfl) (aj_cons (ej_n 6 rfl) (aj_cons (ej_inU (f := fun x => (Sum.inl x : (Int × (List (Int × (List Int)))) ⊕ (((List Int) × (List (Int × Int))) ⊕ ((Tp (List (List Int))) ⊕ (((List (List Int)) × Int) ⊕ (((List Int) × Int) ⊕ ((Int × (List (Int × Int)))))))))) (fun h => h) (ej_tup2 (aj_cons (ej_n 2 rfl) (aj_cons (ej_o (oj_lqP (x0 := default) rfl sc.nd (ij_zip (rj_e (ej_n 7 rfl)) (rj_e (ej_n 3 rfl)) X.n_zip) (blkOk_by (own := [("_law_price", 11), ("_law_pair", 9)]) (N := N__law_cover_made) (sc := defScope s__law_cover_made) (by decide +kernel)) (fun _ _ _ _ _ => (gj_pair rfl (gj_name sc.nd 11) (gj_name sc.nd 9))) (fun _ _ _ _ _ _ => (ej_tup2 (aj_cons (ej_n 11 rfl) (aj_cons (ej_ix1 (ej_n 9 rfl)) aj_nil)))))) aj_nil)))) aj_nil))))) rfl)))))) PassesOwn.never))) rfl))))))), by unfold M.law_cover_made; first | rfl | (simp only [obs, id_eq]; done) | (simp only [obs, id_eq, Option.bind_assoc]; done) | (simp only [obs, id_eq]; rfl)⟩) hm hb
abbrev s__law_touch_made : Stmt := topS 54
abbrev N__law_touch_made : List Str := ["_law_cells", "_law_cell", "_law_many", "_law_amounts", "_law_lines", "_law_ends", "_law_unit_here", "_law_k", "_law_one", "_law_end", "_law_other"]
theorem sc__law_touch_made : FnScope N__law_touch_made ["_law_cells", "_law_cell"] (defScope s__law_touch_made) := ⟨rfl, rfl, rfl, by decide +kernel, rfl, by decide +kernel, by decide +kernel⟩
theorem ok__law_touch_made {f : Addr} {fd : FuncData} (F : Fun K "_law_touch_made" "_law_touch_made" s__law_touch_made f fd) (X : Txt mg) (C__law_cell_at : CalB P w K mg base 1 "_law_cell_at" (SpR (τ := Scr K × Int × Unit) (ρ := Int) fun z => M.law_cell_at z.1.l z.2.1)) (C__law_number : CalB P w K mg base 1 "_law_number" (SpR (τ := Int × Int × Unit) (ρ := Int) fun z => M.law_number z.1 z.2.1)) (C__law_parts : CalB P w K mg base 2 "_law_parts" (SpR (τ := Int × Int × Unit) (ρ := (Int × Int)) fun z => M.law_parts z.1 z.2.1)) (C__law_unit : CalB P w K mg base 2 "_law_unit" (SpR (τ := (List (Int × Int)) × Unit) (ρ := Int) fun z => M.law_unit z.1)) (C__law_wholes : CalB P w K mg base 1 "_law_wholes" (SpO (τ := (List (Int × Int)) × Int × Unit) (ρ := Int) fun z => M.law_wholes z.1 z.2.1)) (C__law_written : CalB P w K mg base 1 "_law_written" (SpR (τ := (Int × Int) × Unit) (ρ := Str) fun z => M.law_written z.1)) (hm : mg "_law_touch_made" = some (.ref f)) (hb : L2.Binds K fd ["_law_cells", "_law_cell"] []) : CalB P w K mg base 3 "_law_touch_made" (SpR (τ := Scr K × Int × Unit) (ρ := (Ll3 (List Str) Int ((Int × (List (Int × (List Int)))) ⊕ (((List Int) × (List (Int × Int))) ⊕ ((Tp (List (List Int))) ⊕ (((List (List Int)) × Int) ⊕ (((List Int) × Int) ⊕ ((Int × (List (Int × Int))))))))))) fun z => M.law_touch_made z.1.l z.2.1) :=
  have sc := sc__law_touch_made
  fun_R F sc rfl (fun cdv A outer s H E hr z => let cells := z.1.l; let cell := z.2.1; ⟨_, _, (bj_asg sc.nd 2 (ej_op op_add o2_add ej_int (ej_modK (by decide) (ej_n 1 rfl))) default (fun many => (bj_asgLc (lqj (x0 := default) rfl sc.nd (i := 3) rfl rfl (sw_true rfl rfl rfl (by decide +kernel)) (ij_rng1 (ej_n 2 rfl) X.n_range) (blkOk_by (own := [("_law_k", 7)]) (N := N__law_touch_made) (sc := defScope s__law_touch_made) (by decide +kernel)) (fun _ _ _ _ _ => (gj_name sc.nd 7)) (fun _ _ _ _ _ _ => (ej_call (C__law_parts.at (hr.mono (by decide))) (aj_cons (ej_call (C__law_cell_at.at (hr.mono (by decide))) (aj_cons (ej_n 0 rfl) (aj_cons (ej_n 7 rfl) aj_nil))) (aj_cons (ej_n 7 rfl) aj_nil))))) (fun amounts => (bj_thaw (xs := amounts) 3 (bj_asgO sc.nd 4 (oj_lst (il_cons (ej_join ej_str (lk_l (lj_e (ej_o (oj_cat (lj_e (ej_o (oj_lst (il_cons ej_str il_nil)))) (lj_e (ej_o (oj_lq (x0 := default) rfl sc.nd (ij_l (rj_e (ej_n 3 rfl))) (blkOk_by (own := [("_law_one", 8)]) (N := N__law_touch_made) (sc := defScope s__law_touch_made) (by decide +kernel)) (fun _ _ _ _ _ => (gj_name sc.nd 8)) (fun _ _ _ _ _ _ => (ej_call (C__law_written.at (hr.mono (by decide))) (aj_cons (ej_n 8 rfl) aj_nil))))))))))) il_nil)) (fun lines => (bj_asgO sc.nd 5 (oj_lst (il_nil (α := (Int × Int)))) (fun ends => (bj_for (N := (fun s7 : (List Str) × (List (Int × Int)) => [fz z.1, fz cell, fz many, fz amounts, ol s7.1, ol s7.2, .un, .un, .un, .un, .un])) rfl (lines, ends) default (ij_enum (rj_e (ej_o (oj_slice (lk_s rfl 0 rfl) px_none (px_some ej_int)))) X.n_enumerate) (fun _ _ _ => trivial) (gj_pair rfl (gj_name sc.nd 7) (gj_name sc.nd 8)) (by exact (.same (.same (.same (.same (.same (.same (.same (.same (.same (.same (.same .nil)))))))))))) (fun x8 s7 => (bj_asg sc.nd 9 (ej_call (C__law_number.at (hr.mono (by decide))) (aj_cons (ej_n 8 rfl) (aj_cons (ej_op op_add o2_add (ej_n 7 rfl) ej_int) aj_nil))) default (fun end_ => (bj_asg sc.nd 10 (ej_op op_add o2_add (ej_op op_add o2_add (ej_op op_mod o2_mod (ej_n 9 rfl) (ej_n 2 rfl)) ej_int) (ej_op op_mod o2_mod (ej_op op_fdivW o2_div (ej_n 9 rfl) (ej_n 2 rfl)) (ej_op op_sub o2_sub (ej_n 2 rfl) ej_int))) default (fun other => (bj_append 5 (ej_tup2 (aj_cons (ej_op op_mod o2_mod (ej_n 9 rfl) (ej_n 2 rfl)) (aj_cons (ej_op op_mod o2_mod (ej_n 10 rfl) (ej_n 2 rfl)) aj_nil))) (fun ends => (bj_append 4 (ej_catS (ej_catS (ej_strI (ej_op op_mod o2_mod (ej_n 9 rfl) (ej_n 2 rfl)) X.n_str) ej_str) (ej_strI (ej_op op_mod o2_mod (ej_n 10 rfl) (ej_n 2 rfl)) X.n_str)) (fun lines => (bj_nilP (lines, ends) (by exact (.same (.same (.same (.same (.same (.same (.same (.drop (.drop (.drop (.drop .nil)))))))))))))))))))))) (fun s7 => (bj_asg sc.nd 6 (ej_call (C__law_unit.at (hr.mono (by decide))) (aj_cons (ej_n 3 rfl) aj_nil)) default (fun unit_here => (bj_thaw (xs := s7.1) 4 (bj_thaw (xs := s7.2) 5 (bj_retI (ej_ll3 (aj_cons (ej_n 4 rfl) (aj_cons (ej_n 6 rfl) (aj_cons (ej_inU (f := fun x => (Sum.inr (Sum.inl x) : (Int × (List (Int × (List Int)))) ⊕ (((List Int) × (List (Int × Int))) ⊕ ((Tp (List (List Int))) ⊕ (((List (List Int)) × Int) ⊕ (((List Int) × Int) ⊕ ((Int × (List (Int × Int)))))))))) (fun h => h) (ej_tup2 (aj_cons (ej_o (oj_call (C__law_wholes.at (hr.mono (by decide))) (aj_cons (ej_n 3 rfl) (aj_cons (ej_n 6 rfl) aj_nil)))) (aj_cons (ej_n 5 rfl) aj_nil)))) aj_nil))))) rfl) rfl)))) PassesOwn.never))))) rfl))))), by unfold M.law_touch_made; first | rfl | (simp only [obs, id_eq]; done) | (simp only [obs, id_eq, Option.bind_assoc]; done) | (simp only [obs, id_eq]; rfl)⟩) hm hb
abbrev s__law_between : Stmt := topS 48
abbrev N__law_between : List Str := ["_law_spots", "_law_one", "_law_other", "_law_least", "_law_low", "_law_high", "_law_much"]
theorem sc__law_between : FnScope N__law_between ["_law_spots", "_law_one", "_law_other", "_law_least"] (defScope s__law_between) := ⟨rfl, rfl, rfl, by decide +kernel, rfl, by decide +kernel, by decide +kernel⟩
theorem ok__law_between {f : Addr} {fd : FuncData} (F : Fun K "_law_between" "_law_between" s__law_between f fd) (X : Txt mg)  (hm : mg "_law_between" = some (.ref f)) (hb : L2.Binds K fd ["_law_spots", "_law_one", "_law_other", "_law_least"] []) : CalB P w K mg base 1 "_law_between" (SpR (τ := (List (Int × Int)) × Int × Int × Int × Unit) (ρ := Int) fun z => M.law_between z.1 z.2.1 z.2.2.1 z.2.2.2.1) :=
  have sc := sc__law_between
  fun_R F sc rfl (fun cdv A outer s H E hr z => let spots := z.1; let one := z.2.1; let other := z.2.2.1; let least := z.2.2.2.1; ⟨_, _, (bj_ifX (tj_cmp op_eq o2_eq (ej_n 1 rfl) (ej_n 2 rfl)) (bj_retI ej_int) (bj_asg sc.nd 4 (ej_min2 rfl (ej_n 1 rfl) (ej_n 2 rfl) X.n_min) default (fun low => (bj_asg sc.nd 5 (ej_max2 rfl (ej_n 1 rfl) (ej_n 2 rfl) X.n_max) default (fun high => (bj_asg sc.nd 6 (ej_op op_add o2_add (ej_op op_add o2_add (ej_ix1 (ej_ix (lk_l (lj_e (ej_n 0 rfl))) (ej_n 4 rfl))) (ej_mulKL (by decide) (ej_ix0 (ej_ix (lk_l (lj_e (ej_n 0 rfl))) (ej_n 5 rfl))))) (ej_op op_mulW o2_mul (ej_n 4 rfl) (ej_n 5 rfl))) default (fun much => (bj_retI (ej_op op_add o2_add (ej_n 3 rfl) (ej_op op_mod o2_mod (ej_n 6 rfl) (ej_op op_add o2_add (ej_n 3 rfl) ej_int))))))))))), by unfold M.law_between; first | rfl | (simp only [obs, id_eq]; done) | (simp only [obs, id_eq, Option.bind_assoc]; done) | (simp only [obs, id_eq]; rfl)⟩) hm hb
abbrev s__law_lengths : Stmt := topS 47
abbrev N__law_lengths : List Str := ["_law_cells", "_law_many", "_law_way", "_law_spots", "_law_k", "_law_number_here", "_law_reach", "_law_least", "_law_a", "_law_one", "_law_b", "_law_other"]
theorem sc__law_lengths : FnScope N__law_lengths ["_law_cells", "_law_many", "_law_way"] (defScope s__law_lengths) := ⟨rfl, rfl, rfl, by decide +kernel, rfl, by decide +kernel, by decide +kernel⟩
theorem ok__law_lengths {f : Addr} {fd : FuncData} (F : Fun K "_law_lengths" "_law_lengths" s__law_lengths f fd) (X : Txt mg) (C__law_between : CalB P w K mg base 1 "_law_between" (SpR (τ := (List (Int × Int)) × Int × Int × Int × Unit) (ρ := Int) fun z => M.law_between z.1 z.2.1 z.2.2.1 z.2.2.2.1)) (C__law_cell_at : CalB P w K mg base 1 "_law_cell_at" (SpR (τ := Scr K × Int × Unit) (ρ := Int) fun z => M.law_cell_at z.1.l z.2.1)) (C__law_number : CalB P w K mg base 1 "_law_number" (SpR (τ := Int × Int × Unit) (ρ := Int) fun z => M.law_number z.1 z.2.1)) (hm : mg "_law_lengths" = some (.ref f)) (hb : L2.Binds K fd ["_law_cells", "_law_many", "_law_way"] []) : CalB P w K mg base 2 "_law_lengths" (SpO (τ := Scr K × Int × Int × Unit) (ρ := (List Int)) fun z => M.law_lengths z.1.l z.2.1 z.2.2.1) :=
  have sc := sc__law_lengths
  fun_O F sc rfl (fun cdv A outer s H E hr z => let cells := z.1.l; let many := z.2.1; let way := z.2.2.1; ⟨_, _, (bj_asgO sc.nd 3 (oj_lst (il_nil (α := (Int × Int)))) (fun spots => (bj_for (N := (fun s1 : (List (Int × Int)) => [fz z.1, fz many, fz way, ol s1, .un, .un, .un, .un, .un, .un, .un, .un])) rfl spots default (ij_rng1 (ej_n 1 rfl) X.n_range) (fun _ _ _ => trivial) (gj_name sc.nd 4) (by exact (.same (.same (.same (.same (.same (.same (.same (.same (.same (.same (.same (.same .nil))))))))))))) (fun k s1 => (bj_asg sc.nd 5 (ej_call (C__law_number.at (hr.mono (by decide))) (aj_cons (ej_call (C__law_cell_at.at (hr.mono (by decide))) (aj_cons (ej_n 0 rfl) (aj_cons (ej_n 4 rfl) aj_nil))) (aj_cons (ej_op op_add o2_add (ej_n 4 rfl) ej_int) aj_nil))) default (fun number_here => (bj_asg sc.nd 6 (ej_ix (lk_l (lj_e (ej_o (oj_lst (il_cons ej_int (il_cons ej_int (il_cons (ej_powKK (z := 100000) ⟨by decide, by decide, by decide⟩ (by decide +kernel)) (il_cons (ej_powKK (z := 100000000000) ⟨by decide, by decide, by decide⟩ (by decide +kernel)) il_nil)))))))) (ej_modK (by decide) (ej_n 5 rfl))) default (fun reach => (bj_append 3 (ej_tup2 (aj_cons (ej_op op_mod o2_mod (ej_mulK (by decide) (ej_divK ⟨by decide, by decide⟩ (ej_n 5 rfl))) (ej_n 6 rfl)) (aj_cons (ej_op op_mod o2_mod (ej_mulK (by decide) (ej_modK (by decide) (ej_mulK (by decide) (ej_divK ⟨by decide, by decide⟩ (ej_n 5 rfl))))) (ej_n 6 rfl)) aj_nil))) (fun spots => (bj_nilP spots (by exact (.same (.same (.same (.same (.drop (.drop (.drop (.same (.same (.same (.same (.same .nil))))))))))))))))))))) (fun s1 => (bj_ifX (tj_cmp op_eq o2_eq (ej_modK (by decide) (ej_n 2 rfl)) ej_int) (bj_asg sc.nd 7 (ej_op op_add o2_add ej_int (ej_ix0 (ej_ix (lk_l (lj_n 3 rfl)) ej_int))) default (fun least => (bj_retOI (oj_lq (x0 := default) rfl sc.nd (ij_rng1 (ej_n 1 rfl) X.n_range) (blkOk_by (own := [("_law_one", 9)]) (N := N__law_lengths) (sc := defScope s__law_lengths) (by decide +kernel)) (fun _ _ _ _ _ => (gj_name sc.nd 9)) (fun _ _ _ _ _ _ => (ej_o (oj_lq (x0 := default) rfl sc.nd (ij_rng1 (ej_n 1 rfl) X.n_range) (blkOk_by (own := [("_law_other", 11)]) (by kernel_rfl)) (fun _ _ _ _ _ => (gj_name sc.nd 11)) (fun _ _ _ _ _ _ => (ej_callW (C__law_between.at (hr.mono (by decide))) (aw_cons (wj_l (lj_n 3 rfl)) (aw_cons (wj_e (ej_n 9 rfl)) (aw_cons (wj_e (ej_n 11 rfl)) (aw_cons (wj_e (ej_n 7 rfl)) aw_nil))))))))))))) (bj_retOI (oj_lqP (x0 := default) rfl sc.nd (ij_l (rj_own 3 rfl)) (blkOk_by (own := [("_law_a", 8)]) (N := N__law_lengths) (sc := defScope s__law_lengths) (by decide +kernel)) (fun _ _ _ _ _ => (gj_name sc.nd 8)) (fun _ _ _ _ _ _ => (ej_o (oj_lqP (x0 := default) rfl sc.nd (ij_l (rj_own 3 rfl)) (blkOk_by (own := [("_law_b", 10)]) (by kernel_rfl)) (fun _ _ _ _ _ => (gj_name sc.nd 10)) (fun _ _ _ _ _ _ => (ej_op op_add o2_add (ej_abs (ej_op op_sub o2_sub (ej_ix0 (ej_n 8 rfl)) (ej_ix0 (ej_n 10 rfl))) X.n_abs) (ej_abs (ej_op op_sub o2_sub (ej_ix1 (ej_n 8 rfl)) (ej_ix1 (ej_n 10 rfl))) X.n_abs)))))))))) PassesOwn.never))), by unfold M.law_lengths; first | rfl | (simp only [obs, id_eq]; done) | (simp only [obs, id_eq, Option.bind_assoc]; done) | (simp only [obs, id_eq]; rfl)⟩) hm hb
abbrev s__law_line_lengths : Stmt := topS 55
abbrev N__law_line_lengths : List Str := ["_law_cells", "_law_many", "_law_cell", "_law_bottom", "_law_rows", "_law_one", "_law_row", "_law_much", "_law_by"]
theorem sc__law_line_lengths : FnScope N__law_line_lengths ["_law_cells", "_law_many", "_law_cell"] (defScope s__law_line_lengths) := ⟨rfl, rfl, rfl, by decide +kernel, rfl, by decide +kernel, by decide +kernel⟩
theorem ok__law_line_lengths {f : Addr} {fd : FuncData} (F : Fun K "_law_line_lengths" "_law_line_lengths" s__law_line_lengths f fd) (X : Txt mg) (C__law_divisor : CalB P w K mg base 1 "_law_divisor" (SpR (τ := Int × Int × Unit) (ρ := Int) fun z => M.law_divisor z.1 z.2.1)) (C__law_lengths : CalB P w K mg base 2 "_law_lengths" (SpO (τ := Scr K × Int × Int × Unit) (ρ := (List Int)) fun z => M.law_lengths z.1.l z.2.1 z.2.2.1)) (hm : mg "_law_line_lengths" = some (.ref f)) (hb : L2.Binds K fd ["_law_cells", "_law_many", "_law_cell"] []) : CalB P w K mg base 3 "_law_line_lengths" (SpO (τ := Scr K × Int × Int × Unit) (ρ := (List (Int × Int))) fun z => M.law_line_lengths z.1.l z.2.1 z.2.2.1) :=
  have sc := sc__law_line_lengths
  fun_O F sc rfl (fun cdv A outer s H E hr z => let cells := z.1.l; let many := z.2.1; let cell := z.2.2.1; ⟨_, _, (bj_asg sc.nd 3 (ej_op op_add o2_add ej_int (ej_modK (by decide) (ej_n 2 rfl))) default (fun bottom => (bj_asgO sc.nd 4 (oj_lst (il_nil (α := (List (Int × Int))))) (fun rows => (bj_for (N := (fun s1 : (List (List (Int × Int))) => [fz z.1, fz many, fz cell, fz bottom, ol s1, .un, .un, .un, .un])) rfl rows default (ij_l (rj_e (ej_o (oj_call (C__law_lengths.at (hr.mono (by decide))) (aj_cons (ej_n 0 rfl) (aj_cons (ej_n 1 rfl) (aj_cons (ej_divK ⟨by decide, by decide⟩ (ej_n 2 rfl)) aj_nil))))))) (fun _ _ _ => trivial) (gj_name sc.nd 5) (by exact (.same (.same (.same (.same (.same (.same (.same (.same (.same .nil)))))))))) (fun one s1 => (bj_asgO sc.nd 6 (oj_lst (il_nil (α := (Int × Int)))) (fun row => (bj_for (N := (fun s2 : (List (Int × Int)) => [fz z.1, fz many, fz cell, fz bottom, ol s1, fz one, ol s2, .un, .un])) rfl row default (ij_l (rj_e (ej_n 5 rfl))) (fun _ _ _ => trivial) (gj_name sc.nd 7) (by exact (.same (.same (.same (.same (.same (.same (.same (.same (.same .nil)))))))))) (fun much s2 => (bj_asg sc.nd 8 (ej_call (C__law_divisor.at (hr.mono (by decide))) (aj_cons (ej_n 3 rfl) (aj_cons (ej_n 7 rfl) aj_nil))) default (fun by_ => (bj_append 6 (ej_tup2 (aj_cons (ej_op op_fdivW o2_div (ej_n 7 rfl) (ej_n 8 rfl)) (aj_cons (ej_op op_fdivW o2_div (ej_n 3 rfl) (ej_n 8 rfl)) aj_nil))) (fun row => (bj_nilP row (by exact (.same (.same (.same (.same (.same (.same (.same (.drop (.drop .nil)))))))))))))))) (fun s2 => (bj_thaw (xs := s2) 6 (bj_append 4 (ej_n 6 rfl) (fun rows => (bj_nilP rows (by exact (.same (.same (.same (.same (.same (.drop (.drop (.same (.same .nil))))))))))))) rfl)) PassesOwn.never)))) (fun s1 => (bj_retV (inj := id) 4 rfl)) PassesOwn.never))))), by unfold M.law_line_lengths; first | rfl | (simp only [obs, id_eq]; done) | (simp only [obs, id_eq, Option.bind_assoc]; done) | (simp only [obs, id_eq]; rfl)⟩) hm hb
abbrev s__law_lengths_made : Stmt := topS 56
abbrev N__law_lengths_made : List Str := ["_law_cells", "_law_cell", "_law_word", "_law_many", "_law_rows", "_law_lines", "_law_amounts", "_law_row", "_law_unit_here", "_law_lengths_here", "_law_chosen", "_law_one"]
theorem sc__law_lengths_made : FnScope N__law_lengths_made ["_law_cells", "_law_cell", "_law_word"] (defScope s__law_lengths_made) := ⟨rfl, rfl, rfl, by decide +kernel, rfl, by decide +kernel, by decide +kernel⟩
theorem ok__law_lengths_made {f : Addr} {fd : FuncData} (F : Fun K "_law_lengths_made" "_law_lengths_made" s__law_lengths_made f fd) (X : Txt mg) (C__law_line_lengths : CalB P w K mg base 3 "_law_line_lengths" (SpO (τ := Scr K × Int × Int × Unit) (ρ := (List (Int × Int))) fun z => M.law_line_lengths z.1.l z.2.1 z.2.2.1)) (C__law_unit : CalB P w K mg base 2 "_law_unit" (SpR (τ := (List (Int × Int)) × Unit) (ρ := Int) fun z => M.law_unit z.1)) (C__law_wholes : CalB P w K mg base 1 "_law_wholes" (SpO (τ := (List (Int × Int)) × Int × Unit) (ρ := Int) fun z => M.law_wholes z.1 z.2.1)) (C__law_written : CalB P w K mg base 1 "_law_written" (SpR (τ := (Int × Int) × Unit) (ρ := Str) fun z => M.law_written z.1)) (hm : mg "_law_lengths_made" = some (.ref f)) (hb : L2.Binds K fd ["_law_cells", "_law_cell", "_law_word"] []) : CalB P w K mg base 4 "_law_lengths_made" (SpR (τ := Scr K × Int × Str × Unit) (ρ := (Ll3 (List Str) Int ((Int × (List (Int × (List Int)))) ⊕ (((List Int) × (List (Int × Int))) ⊕ ((Tp (List (List Int))) ⊕ (((List (List Int)) × Int) ⊕ (((List Int) × Int) ⊕ ((Int × (List (Int × Int))))))))))) fun z => M.law_lengths_made z.1.l z.2.1 z.2.2.1) :=
  have sc := sc__law_lengths_made
  fun_R F sc rfl (fun cdv A outer s H E hr z => let cells := z.1.l; let cell := z.2.1; let word := z.2.2.1; ⟨_, _, (bj_asg sc.nd 3 (ej_op op_add o2_add ej_int (ej_modK (by decide) (ej_n 1 rfl))) default (fun many => (bj_asg sc.nd 4 (ej_o (oj_call (C__law_line_lengths.at (hr.mono (by decide))) (aj_cons (ej_n 0 rfl) (aj_cons (ej_n 3 rfl) (aj_cons (ej_divK ⟨by decide, by decide⟩ (ej_n 1 rfl)) aj_nil))))) default (fun rows => (bj_asgO sc.nd 5 (oj_lst (il_cons (ej_n 2 rfl) il_nil)) (fun lines => (bj_asg sc.nd 6 (ej_o (oj_lst (il_nil (α := (Int × Int))))) default (fun amounts => (bj_for (N := (fun s1 : (List Str) × (List (Int × Int)) => [fz z.1, fz cell, fz word, fz many, fz rows, ol s1.1, fz s1.2, .un, .un, .un, .un, .un])) rfl (lines, amounts) default (ij_l (rj_e (ej_n 4 rfl))) (fun _ _ _ => trivial) (gj_name sc.nd 7) (by exact (.same (.same (.same (.same (.same (.same (.same (.same (.same (.same (.same (.same .nil))))))))))))) (fun row s1 => (bj_append 5 (ej_join ej_str (lk_l (lj_e (ej_o (oj_lq (x0 := default) rfl sc.nd (ij_l (rj_e (ej_n 7 rfl))) (blkOk_by (own := [("_law_one", 11)]) (N := N__law_lengths_made) (sc := defScope s__law_lengths_made) (by decide +kernel)) (fun _ _ _ _ _ => (gj_name sc.nd 11)) (fun _ _ _ _ _ _ => (ej_call (C__law_written.at (hr.mono (by decide))) (aj_cons (ej_n 11 rfl) aj_nil)))))))) (fun lines => (bj_asg sc.nd 6 (ej_o (oj_cat (lj_e (ej_n 6 rfl)) (lj_e (ej_n 7 rfl)))) default (fun amounts => (bj_nilP (lines, amounts) (by exact (.same (.same (.same (.same (.same (.same (.same (.drop (.same (.same (.same (.same .nil))))))))))))))))))) (fun s1 => (bj_asg sc.nd 8 (ej_call (C__law_unit.at (hr.mono (by decide))) (aj_cons (ej_n 6 rfl) aj_nil)) default (fun unit_here => (bj_asgLc (lqj (x0 := default) rfl sc.nd (i := 9) rfl rfl (sw_true rfl rfl rfl (by decide +kernel)) (ij_l (rj_e (ej_n 4 rfl))) (blkOk_by (own := [("_law_row", 7)]) (N := N__law_lengths_made) (sc := defScope s__law_lengths_made) (by decide +kernel)) (fun _ _ _ _ _ => (gj_name sc.nd 7)) (fun _ _ _ _ _ _ => (ej_o (oj_call (C__law_wholes.at (hr.mono (by decide))) (aj_cons (ej_n 7 rfl) (aj_cons (ej_n 8 rfl) aj_nil)))))) (fun lengths_here => (bj_thaw (xs := lengths_here) 9 (bj_ifX (tj_cmp op_eq o2_eq (ej_n 2 rfl) ej_str) (bj_thaw (xs := s1.1) 5 (bj_retI (ej_ll3 (aj_cons (ej_n 5 rfl) (aj_cons (ej_n 8 rfl) (aj_cons (ej_inU (f := fun x => (Sum.inr (Sum.inr (Sum.inl x)) : (Int × (List (Int × (List Int)))) ⊕ (((List Int) × (List (Int × Int))) ⊕ ((Tp (List (List Int))) ⊕ (((List (List Int)) × Int) ⊕ (((List Int) × Int) ⊕ ((Int × (List (Int × Int)))))))))) (fun h => h) (ej_tupN (il_cons (ej_n 9 rfl) il_nil))) aj_nil))))) rfl) (bj_asg sc.nd 10 (ej_op op_add o2_add ej_int (ej_op op_mod o2_mod (ej_divK ⟨by decide, by decide⟩ (ej_n 1 rfl)) (ej_n 3 rfl))) default (fun chosen => (bj_retI (ej_ll3 (aj_cons (ej_o (oj_cat (lj_e (ej_o (oj_lst (il_cons (ej_catS (ej_catS (ej_n 2 rfl) ej_str) (ej_strI (ej_n 10 rfl) X.n_str)) il_nil)))) (lj_e (ej_o (oj_slice (lk_l (lj_n 5 rfl)) (px_some ej_int) px_none))))) (aj_cons (ej_n 8 rfl) (aj_cons (ej_inU (f := fun x => (Sum.inr (Sum.inr (Sum.inr (Sum.inl x))) : (Int × (List (Int × (List Int)))) ⊕ (((List Int) × (List (Int × Int))) ⊕ ((Tp (List (List Int))) ⊕ (((List (List Int)) × Int) ⊕ (((List Int) × Int) ⊕ ((Int × (List (Int × Int)))))))))) (fun h => h) (ej_tup2 (aj_cons (ej_n 9 rfl) (aj_cons (ej_n 10 rfl) aj_nil)))) aj_nil)))))))) rfl)))))) PassesOwn.never))))))))), by unfold M.law_lengths_made; first | rfl | (simp only [obs, id_eq]; done) | (simp only [obs, id_eq, Option.bind_assoc]; done) | (simp only [obs, id_eq]; rfl)⟩) hm hb
abbrev s__law_putting_made : Stmt := topS 58
abbrev N__law_putting_made : List Str := ["_law_cells", "_law_cell", "_law_word", "_law_amounts", "_law_room", "_law_one", "_law_unit_here", "_law_lines", "_law_many", "_law_k"]
theorem sc__law_putting_made : FnScope N__law_putting_made ["_law_cells", "_law_cell", "_law_word"] (defScope s__law_putting_made) := ⟨rfl, rfl, rfl, by decide +kernel, rfl, by decide +kernel, by decide +kernel⟩
theorem ok__law_putting_made {f : Addr} {fd : FuncData} (F : Fun K "_law_putting_made" "_law_putting_made" s__law_putting_made f fd) (X : Txt mg) (C__law_above : CalB P w K mg base 1 "_law_above" (SpR (τ := (Int × Int) × Unit) (ρ := (Int × Int)) fun z => M.law_above z.1)) (C__law_parts : CalB P w K mg base 2 "_law_parts" (SpR (τ := Int × Int × Unit) (ρ := (Int × Int)) fun z => M.law_parts z.1 z.2.1)) (C__law_unit : CalB P w K mg base 2 "_law_unit" (SpR (τ := (List (Int × Int)) × Unit) (ρ := Int) fun z => M.law_unit z.1)) (C__law_wholes : CalB P w K mg base 1 "_law_wholes" (SpO (τ := (List (Int × Int)) × Int × Unit) (ρ := Int) fun z => M.law_wholes z.1 z.2.1)) (C__law_written : CalB P w K mg base 1 "_law_written" (SpR (τ := (Int × Int) × Unit) (ρ := Str) fun z => M.law_written z.1)) (hm : mg "_law_putting_made" = some (.ref f)) (hb : L2.Binds K fd ["_law_cells", "_law_cell", "_law_word"] []) : CalB P w K mg base 3 "_law_putting_made" (SpR (τ := Scr K × Int × Str × Unit) (ρ := (Ll3 (List Str) Int ((Int × (List (Int × (List Int)))) ⊕ (((List Int) × (List (Int × Int))) ⊕ ((Tp (List (List Int))) ⊕ (((List (List Int)) × Int) ⊕ (((List Int) × Int) ⊕ ((Int × (List (Int × Int))))))))))) fun z => M.law_putting_made z.1.l z.2.1 z.2.2.1) :=
  have sc := sc__law_putting_made
  fun_R F sc rfl (fun cdv A outer s H E hr z => let cells := z.1.l; let cell := z.2.1; let word := z.2.2.1; ⟨_, _, (bj_asgLc (lqj (x0 := default) rfl sc.nd (i := 3) rfl rfl (sw_true rfl rfl rfl (by decide +kernel)) (ij_enum (rj_e (ej_o (oj_slice (lk_s rfl 0 rfl) px_none (px_some ej_int)))) X.n_enumerate) (blkOk_by (own := [("_law_k", 9), ("_law_one", 5)]) (N := N__law_putting_made) (sc := defScope s__law_putting_made) (by decide +kernel)) (fun _ _ _ _ _ => (gj_pair rfl (gj_name sc.nd 9) (gj_name sc.nd 5))) (fun _ _ _ _ _ _ => (ej_call (C__law_above.at (hr.mono (by decide))) (aj_cons (ej_call (C__law_parts.at (hr.mono (by decide))) (aj_cons (ej_n 5 rfl) (aj_cons (ej_n 9 rfl) aj_nil))) aj_nil)))) (fun amounts => (bj_thaw (xs := amounts) 3 (bj_ifX (tj_cmp op_eq o2_eq (ej_n 2 rfl) ej_str) (bj_asg sc.nd 6 (ej_call (C__law_unit.at (hr.mono (by decide))) (aj_cons (ej_n 3 rfl) aj_nil)) default (fun unit_here => (bj_asg sc.nd 8 (ej_op op_add o2_add ej_int (ej_modK (by decide) (ej_n 1 rfl))) default (fun many => (bj_asg sc.nd 7 (ej_o (oj_lst (il_cons (ej_join ej_str (lk_l (lj_e (ej_o (oj_cat (lj_e (ej_o (oj_lst (il_cons (ej_n 2 rfl) (il_cons (ej_strI (ej_n 8 rfl) X.n_str) il_nil))))) (lj_e (ej_o (oj_lq (x0 := default) rfl sc.nd (ij_l (rj_e (ej_n 3 rfl))) (blkOk_by (own := [("_law_one", 5)]) (N := N__law_putting_made) (sc := defScope s__law_putting_made) (by decide +kernel)) (fun _ _ _ _ _ => (gj_name sc.nd 5)) (fun _ _ _ _ _ _ => (ej_call (C__law_written.at (hr.mono (by decide))) (aj_cons (ej_n 5 rfl) aj_nil))))))))))) il_nil))) default (fun lines => (bj_retI (ej_ll3 (aj_cons (ej_n 7 rfl) (aj_cons (ej_n 6 rfl) (aj_cons (ej_inU (f := fun x => (Sum.inr (Sum.inr (Sum.inr (Sum.inr (Sum.inl x)))) : (Int × (List (Int × (List Int)))) ⊕ (((List Int) × (List (Int × Int))) ⊕ ((Tp (List (List Int))) ⊕ (((List (List Int)) × Int) ⊕ (((List Int) × Int) ⊕ ((Int × (List (Int × Int)))))))))) (fun h => h) (ej_tup2 (aj_cons (ej_o (oj_call (C__law_wholes.at (hr.mono (by decide))) (aj_cons (ej_n 3 rfl) (aj_cons (ej_n 6 rfl) aj_nil)))) (aj_cons (ej_n 8 rfl) aj_nil)))) aj_nil))))))))))) (bj_asg sc.nd 4 (ej_call (C__law_above.at (hr.mono (by decide))) (aj_cons (ej_call (C__law_parts.at (hr.mono (by decide))) (aj_cons (ej_n 1 rfl) (aj_cons ej_int aj_nil))) aj_nil)) default (fun room => (bj_for (N := (fun s19 : (Int × Int) => [fz z.1, fz cell, fz word, fz amounts, fz s19, .un, .un, .un, .un, .un])) rfl room default (ij_l (rj_e (ej_n 3 rfl))) (fun _ _ _ => trivial) (gj_name sc.nd 5) (by exact (.same (.same (.same (.same (.same (.same (.same (.same (.same (.same .nil))))))))))) (fun one s19 => (bj_if (tj_cmp op_lt o2_lt (ej_op op_mulW o2_mul (ej_ix0 (ej_n 4 rfl)) (ej_ix1 (ej_n 5 rfl))) (ej_op op_mulW o2_mul (ej_ix0 (ej_n 5 rfl)) (ej_ix1 (ej_n 4 rfl)))) (bj_asg sc.nd 4 (ej_n 5 rfl) default (fun room => (bj_nilP room (by exact (.same (.same (.same (.same (.same (.drop (.same (.same (.same (.same .nil)))))))))))))) (bj_nilP s19 (by exact (.same (.same (.same (.same (.same (.drop (.same (.same (.same (.same .nil)))))))))))))) (fun s19 => (bj_asg sc.nd 6 (ej_call (C__law_unit.at (hr.mono (by decide))) (aj_cons (ej_o (oj_cat (lj_e (ej_n 3 rfl)) (lj_e (ej_o (oj_lst (il_cons (ej_n 4 rfl) il_nil)))))) aj_nil)) default (fun unit_here => (bj_asg sc.nd 7 (ej_o (oj_lst (il_cons (ej_join ej_str (lk_l (lj_e (ej_o (oj_cat (lj_e (ej_o (oj_lst (il_cons (ej_n 2 rfl) (il_cons (ej_call (C__law_written.at (hr.mono (by decide))) (aj_cons (ej_n 4 rfl) aj_nil)) il_nil))))) (lj_e (ej_o (oj_lq (x0 := default) rfl sc.nd (ij_l (rj_e (ej_n 3 rfl))) (blkOk_by (own := [("_law_one", 5)]) (N := N__law_putting_made) (sc := defScope s__law_putting_made) (by decide +kernel)) (fun _ _ _ _ _ => (gj_name sc.nd 5)) (fun _ _ _ _ _ _ => (ej_call (C__law_written.at (hr.mono (by decide))) (aj_cons (ej_n 5 rfl) aj_nil))))))))))) il_nil))) default (fun lines => (bj_retI (ej_ll3 (aj_cons (ej_n 7 rfl) (aj_cons (ej_n 6 rfl) (aj_cons (ej_inU (f := fun x => (Sum.inr (Sum.inr (Sum.inr (Sum.inr (Sum.inl x)))) : (Int × (List (Int × (List Int)))) ⊕ (((List Int) × (List (Int × Int))) ⊕ ((Tp (List (List Int))) ⊕ (((List (List Int)) × Int) ⊕ (((List Int) × Int) ⊕ ((Int × (List (Int × Int)))))))))) (fun h => h) (ej_tup2 (aj_cons (ej_o (oj_call (C__law_wholes.at (hr.mono (by decide))) (aj_cons (ej_n 3 rfl) (aj_cons (ej_n 6 rfl) aj_nil)))) (aj_cons (ej_ix (lk_l (lj_e (ej_o (oj_call (C__law_wholes.at (hr.mono (by decide))) (aj_cons (ej_o (oj_lst (il_cons (ej_n 4 rfl) il_nil))) (aj_cons (ej_n 6 rfl) aj_nil)))))) ej_int) aj_nil)))) aj_nil)))))))))) PassesOwn.never)))) rfl))), by unfold M.law_putting_made; first | rfl | (simp only [obs, id_eq]; done) | (simp only [obs, id_eq, Option.bind_assoc]; done) | (simp only [obs, id_eq]; rfl)⟩) hm hb
abbrev s__law_made : Stmt := topS 60
abbrev N__law_made : List Str := ["_law_kind", "_law_cells", "_law_cell"]
theorem sc__law_made : FnScope N__law_made ["_law_kind", "_law_cells", "_law_cell"] (defScope s__law_made) := ⟨rfl, rfl, rfl, by decide +kernel, rfl, by decide +kernel, by decide +kernel⟩
theorem ok__law_made {f : Addr} {fd : FuncData} (F : Fun K "_law_made" "_law_made" s__law_made f fd) (X : Txt mg) (C__law_cover_made : CalB P w K mg base 4 "_law_cover_made" (SpR (τ := Scr K × Int × Unit) (ρ := (Ll3 (List Str) Int ((Int × (List (Int × (List Int)))) ⊕ (((List Int) × (List (Int × Int))) ⊕ ((Tp (List (List Int))) ⊕ (((List (List Int)) × Int) ⊕ (((List Int) × Int) ⊕ ((Int × (List (Int × Int))))))))))) fun z => M.law_cover_made z.1.l z.2.1)) (C__law_lengths_made : CalB P w K mg base 4 "_law_lengths_made" (SpR (τ := Scr K × Int × Str × Unit) (ρ := (Ll3 (List Str) Int ((Int × (List (Int × (List Int)))) ⊕ (((List Int) × (List (Int × Int))) ⊕ ((Tp (List (List Int))) ⊕ (((List (List Int)) × Int) ⊕ (((List Int) × Int) ⊕ ((Int × (List (Int × Int))))))))))) fun z => M.law_lengths_made z.1.l z.2.1 z.2.2.1)) (C__law_putting_made : CalB P w K mg base 3 "_law_putting_made" (SpR (τ := Scr K × Int × Str × Unit) (ρ := (Ll3 (List Str) Int ((Int × (List (Int × (List Int)))) ⊕ (((List Int) × (List (Int × Int))) ⊕ ((Tp (List (List Int))) ⊕ (((List (List Int)) × Int) ⊕ (((List Int) × Int) ⊕ ((Int × (List (Int × Int))))))))))) fun z => M.law_putting_made z.1.l z.2.1 z.2.2.1)) (C__law_sack_made : CalB P w K mg base 3 "_law_sack_made" (SpR (τ := Scr K × Int × Unit) (ρ := (Ll3 (List Str) Int ((Int × (List (Int × (List Int)))) ⊕ (((List Int) × (List (Int × Int))) ⊕ ((Tp (List (List Int))) ⊕ (((List (List Int)) × Int) ⊕ (((List Int) × Int) ⊕ ((Int × (List (Int × Int))))))))))) fun z => M.law_sack_made z.1.l z.2.1)) (C__law_touch_made : CalB P w K mg base 3 "_law_touch_made" (SpR (τ := Scr K × Int × Unit) (ρ := (Ll3 (List Str) Int ((Int × (List (Int × (List Int)))) ⊕ (((List Int) × (List (Int × Int))) ⊕ ((Tp (List (List Int))) ⊕ (((List (List Int)) × Int) ⊕ (((List Int) × Int) ⊕ ((Int × (List (Int × Int))))))))))) fun z => M.law_touch_made z.1.l z.2.1)) (hm : mg "_law_made" = some (.ref f)) (hb : L2.Binds K fd ["_law_kind", "_law_cells", "_law_cell"] []) : CalB P w K mg base 5 "_law_made" (SpR (τ := Int × Scr K × Int × Unit) (ρ := (Ll3 (List Str) Int ((Int × (List (Int × (List Int)))) ⊕ (((List Int) × (List (Int × Int))) ⊕ ((Tp (List (List Int))) ⊕ (((List (List Int)) × Int) ⊕ (((List Int) × Int) ⊕ ((Int × (List (Int × Int))))))))))) fun z => M.law_made z.1 z.2.1.l z.2.2.1) :=
  have sc := sc__law_made
  fun_R F sc rfl (fun cdv A outer s H E hr z => let kind := z.1; let cells := z.2.1.l; let cell := z.2.2.1; ⟨_, _, (bj_ifX (tj_cmp op_eq o2_eq (ej_n 0 rfl) ej_int) (bj_retI (ej_call (C__law_cover_made.at (hr.mono (by decide))) (aj_cons (ej_n 1 rfl) (aj_cons (ej_n 2 rfl) aj_nil)))) (bj_ifX (tj_cmp op_eq o2_eq (ej_n 0 rfl) ej_int) (bj_retI (ej_call (C__law_touch_made.at (hr.mono (by decide))) (aj_cons (ej_n 1 rfl) (aj_cons (ej_n 2 rfl) aj_nil)))) (bj_ifX (tj_cmp op_eq o2_eq (ej_n 0 rfl) ej_int) (bj_retI (ej_call (C__law_lengths_made.at (hr.mono (by decide))) (aj_cons (ej_n 1 rfl) (aj_cons (ej_n 2 rfl) (aj_cons ej_str aj_nil))))) (bj_ifX (tj_cmp op_eq o2_eq (ej_n 0 rfl) ej_int) (bj_retI (ej_call (C__law_lengths_made.at (hr.mono (by decide))) (aj_cons (ej_n 1 rfl) (aj_cons (ej_n 2 rfl) (aj_cons ej_str aj_nil))))) (bj_ifX (tj_cmp op_eq o2_eq (ej_n 0 rfl) ej_int) (bj_retI (ej_call (C__law_putting_made.at (hr.mono (by decide))) (aj_cons (ej_n 1 rfl) (aj_cons (ej_n 2 rfl) (aj_cons ej_str aj_nil))))) (bj_ifX (tj_cmp op_eq o2_eq (ej_n 0 rfl) ej_int) (bj_retI (ej_call (C__law_putting_made.at (hr.mono (by decide))) (aj_cons (ej_n 1 rfl) (aj_cons (ej_n 2 rfl) (aj_cons ej_str aj_nil))))) (bj_retI (ej_call (C__law_sack_made.at (hr.mono (by decide))) (aj_cons (ej_n 1 rfl) (aj_cons (ej_n 2 rfl) aj_nil)))))))))), by unfold M.law_made; first | rfl | (simp only [obs, id_eq]; done) | (simp only [obs, id_eq, Option.bind_assoc]; done) | (simp only [obs, id_eq]; rfl)⟩) hm hb
abbrev s_number_in : Stmt := topS 20
abbrev N_number_in : List Str := ["text", "least", "most", "sign", "number"]
theorem sc_number_in : FnScope N_number_in ["text", "least", "most"] (defScope s_number_in) := ⟨rfl, rfl, rfl, by decide +kernel, rfl, by decide +kernel, by decide +kernel⟩
theorem ok_number_in {f : Addr} {fd : FuncData} (F : Fun K "number_in" "number_in" s_number_in f fd) (X : Txt mg)  (hm : mg "number_in" = some (.ref f)) (hb : L2.Binds K fd ["text", "least", "most"] []) : CalB P w K mg base 1 "number_in" (SpR (τ := Str × Int × Int × Unit) (ρ := (Option Int)) fun z => M.number_in z.1 z.2.1 z.2.2.1) :=
  have sc := sc_number_in
  fun_R F sc rfl (fun cdv A outer s H E hr z => let text := z.1; let least := z.2.1; let most := z.2.2.1; ⟨_, _, (bj_ifX (tj_w (tw_or (tj_cmp op_eq o2_eq (ej_n 0 rfl) ej_str) (tw_or (tj_cmp op_gt o2_gt (ej_lenS (ej_n 0 rfl) X.n_len) ej_int) (tw_or1 (tj_w (tw_and (tj_cmp op_eq o2_eq (ej_ixS (ej_n 0 rfl) ej_int) ej_str) (tw_and1 (tj_cmp op_gt o2_gt (ej_lenS (ej_n 0 rfl) X.n_len) ej_int)))))))) (bj_retI ej_none) (bj_forF (N := (fun s6 : Unit => [fz text, fz least, fz most, .un, .un])) (Pr := PR) (inj := id) rfl () default (ij_str (ej_n 0 rfl)) (fun _ _ _ => trivial) (gj_name sc.nd 3) (by exact (.same (.same (.same (.same (.same .nil)))))) (fun sign s6 => (bj_if (tj_notinS (ej_n 3 rfl) (ej_globS X.v_FIGURES)) (bj_ret (inj := Fl.ret) ej_none) (bj_nilL () (by exact (.same (.same (.same (.drop (.same .nil))))))))) (fun s6 => (bj_asg sc.nd 4 (ej_intS (ej_n 0 rfl) X.n_int) default (fun number => (bj_ifX (tj_w (tw_orP (tj_cmp op_lt o2_lt (ej_n 4 rfl) (ej_n 1 rfl)) (tw_or1 (tj_cmp op_gt o2_gt (ej_n 4 rfl) (ej_n 2 rfl))))) (bj_retI ej_none) (bj_retI (ej_some (ej_n 4 rfl))))))) PassesOwn.never)), by unfold M.number_in; first | rfl | (simp only [obs, id_eq]; done) | (simp only [obs, id_eq, Option.bind_assoc]; done) | (simp only [obs, id_eq]; rfl)⟩) hm hb
abbrev s_one_number : Stmt := topS 24
abbrev N_one_number : List Str := ["words", "line", "most", "number"]
theorem sc_one_number : FnScope N_one_number ["words", "line", "most"] (defScope s_one_number) := ⟨rfl, rfl, rfl, by decide +kernel, rfl, by decide +kernel, by decide +kernel⟩
theorem ok_one_number {f : Addr} {fd : FuncData} (F : Fun K "one_number" "one_number" s_one_number f fd) (X : Txt mg) (C_number_in : CalB P w K mg base 1 "number_in" (SpR (τ := Str × Int × Int × Unit) (ρ := (Option Int)) fun z => M.number_in z.1 z.2.1 z.2.2.1)) (hm : mg "one_number" = some (.ref f)) (hb : L2.Binds K fd ["words", "line", "most"] []) : CalB P w K mg base 2 "one_number" (SpR (τ := (List Str) × Int × Int × Unit) (ρ := Int) fun z => M.one_number z.1 z.2.1 z.2.2.1) :=
  have sc := sc_one_number
  fun_R F sc rfl (fun cdv A outer s H E hr z => let words := z.1; let line := z.2.1; let most := z.2.2.1; ⟨_, _, (bj_ifX (tj_cmp op_ne o2_ne (ej_len (lk_l (lj_e (ej_n 0 rfl))) X.n_len) ej_int) bj_never (bj_asg sc.nd 3 (ej_call (C_number_in.at (hr.mono (by decide))) (aj_cons (ej_ix (lk_l (lj_e (ej_n 0 rfl))) ej_int) (aj_cons ej_int (aj_cons (ej_n 2 rfl) aj_nil)))) default (fun number => (bj_ifX (tj_isN (ej_n 3 rfl)) bj_never (bj_retI (ej_un_n (ej_n 3 rfl))))))), by unfold M.one_number; first | rfl | (simp only [obs, id_eq]; done) | (simp only [obs, id_eq, Option.bind_assoc]; done) | (simp only [obs, id_eq]; rfl)⟩) hm hb
abbrev s_common_factor : Stmt := topS 13
abbrev N_common_factor : List Str := ["high", "low"]
theorem sc_common_factor : FnScope N_common_factor ["high", "low"] (defScope s_common_factor) := ⟨rfl, rfl, rfl, by decide +kernel, rfl, by decide +kernel, by decide +kernel⟩
theorem ok_common_factor {f : Addr} {fd : FuncData} (F : Fun K "common_factor" "common_factor" s_common_factor f fd) (X : Txt mg)  (hm : mg "common_factor" = some (.ref f)) (hb : L2.Binds K fd ["high", "low"] []) : CalB P w K mg base 1 "common_factor" (SpR (τ := Int × Int × Unit) (ρ := Int) fun z => M.common_factor z.1 z.2.1) :=
  have sc := sc_common_factor
  fun_R F sc rfl (fun cdv A outer s H E hr z => let high := z.1; let low := z.2.1; ⟨_, _, (bj_while (N := (fun s1 : Int × Int => [fz s1.1, fz s1.2])) FU (high, low) (by exact (.same (.same .nil))) (fun s1 => (tj_cmp op_gt o2_gt (ej_n 1 rfl) ej_int)) (fun s1 => (bj_par rfl sc.nd 0 1 (aj_cons (ej_n 1 rfl) (aj_cons (ej_op op_mod o2_mod (ej_n 0 rfl) (ej_n 1 rfl)) aj_nil)) default (fun z4 => (bj_nilP (z4.1, z4.2.1) (by exact (.same (.same .nil))))))) (fun s1 => (bj_retI (ej_n 0 rfl))) PassesOwn.never), by unfold M.common_factor; first | rfl | (simp only [obs, id_eq]; done) | (simp only [obs, id_eq, Option.bind_assoc]; done) | (simp only [obs, id_eq]; rfl)⟩) hm hb
abbrev s_unit_of : Stmt := topS 26
abbrev N_unit_of : List Str := ["amounts", "unit", "one"]
theorem sc_unit_of : FnScope N_unit_of ["amounts"] (defScope s_unit_of) := ⟨rfl, rfl, rfl, by decide +kernel, rfl, by decide +kernel, by decide +kernel⟩
theorem ok_unit_of {f : Addr} {fd : FuncData} (F : Fun K "unit_of" "unit_of" s_unit_of f fd) (X : Txt mg) (C_common_factor : CalB P w K mg base 1 "common_factor" (SpR (τ := Int × Int × Unit) (ρ := Int) fun z => M.common_factor z.1 z.2.1)) (hm : mg "unit_of" = some (.ref f)) (hb : L2.Binds K fd ["amounts"] []) : CalB P w K mg base 2 "unit_of" (SpR (τ := (List (Int × Int)) × Unit) (ρ := Int) fun z => M.unit_of z.1) :=
  have sc := sc_unit_of
  fun_R F sc rfl (fun cdv A outer s H E hr z => let amounts := z.1; ⟨_, _, (bj_asg sc.nd 1 ej_int default (fun unit => (bj_for (N := (fun s1 : Int => [fz amounts, fz s1, .un])) rfl unit default (ij_l (rj_e (ej_n 0 rfl))) (fun _ _ _ => trivial) (gj_name sc.nd 2) (by exact (.same (.same (.same .nil)))) (fun one s1 => (bj_asg sc.nd 1 (ej_op op_fdivW o2_div (ej_op op_mulW o2_mul (ej_n 1 rfl) (ej_ix1 (ej_n 2 rfl))) (ej_call (C_common_factor.at (hr.mono (by decide))) (aj_cons (ej_n 1 rfl) (aj_cons (ej_ix1 (ej_n 2 rfl)) aj_nil)))) default (fun unit => (bj_nilP unit (by exact (.same (.same (.drop .nil)))))))) (fun s1 => (bj_retI (ej_n 1 rfl))) PassesOwn.never))), by unfold M.unit_of; first | rfl | (simp only [obs, id_eq]; done) | (simp only [obs, id_eq, Option.bind_assoc]; done) | (simp only [obs, id_eq]; rfl)⟩) hm hb
abbrev s_amount_in : Stmt := topS 21
abbrev N_amount_in : List Str := ["text", "number", "under", "top", "bar", "bottom"]
theorem sc_amount_in : FnScope N_amount_in ["text"] (defScope s_amount_in) := ⟨rfl, rfl, rfl, by decide +kernel, rfl, by decide +kernel, by decide +kernel⟩
theorem ok_amount_in {f : Addr} {fd : FuncData} (F : Fun K "amount_in" "amount_in" s_amount_in f fd) (X : Txt mg) (C_common_factor : CalB P w K mg base 1 "common_factor" (SpR (τ := Int × Int × Unit) (ρ := Int) fun z => M.common_factor z.1 z.2.1)) (C_number_in : CalB P w K mg base 1 "number_in" (SpR (τ := Str × Int × Int × Unit) (ρ := (Option Int)) fun z => M.number_in z.1 z.2.1 z.2.2.1)) (hm : mg "amount_in" = some (.ref f)) (hb : L2.Binds K fd ["text"] []) : CalB P w K mg base 2 "amount_in" (SpR (τ := Str × Unit) (ρ := (Option (Int × Int))) fun z => M.amount_in z.1) :=
  have sc := sc_amount_in
  fun_R F sc rfl (fun cdv A outer s H E hr z => let text := z.1; ⟨_, _, (bj_asgG (gj_trip rfl (gj_name sc.nd 3) (gj_name sc.nd 4) (gj_name sc.nd 5)) (ej_part (ej_n 0 rfl) ej_str) (fun z1 => (bj_asg sc.nd 1 (ej_call (C_number_in.at (hr.mono (by decide))) (aj_cons (ej_n 3 rfl) (aj_cons ej_int (aj_cons (ej_powKK (z := 1000000000000) ⟨by decide, by decide, by decide⟩ (by decide +kernel)) aj_nil)))) default (fun number => (bj_ifX (tj_cmp op_eq o2_eq (ej_n 4 rfl) ej_str) (bj_ifX (tj_isN (ej_n 1 rfl)) (bj_retI ej_none) (bj_retI (ej_some (ej_tup2 (aj_cons (ej_un_n (ej_n 1 rfl)) (aj_cons ej_int aj_nil)))))) (bj_asg sc.nd 2 (ej_call (C_number_in.at (hr.mono (by decide))) (aj_cons (ej_n 5 rfl) (aj_cons ej_int (aj_cons ej_int aj_nil)))) default (fun under => (bj_ifX (tj_w (tw_or (tj_isN (ej_n 1 rfl)) (tw_or (tj_isN (ej_n 2 rfl)) (tw_or1 (tj_cmp op_ne o2_ne (ej_call (C_common_factor.at (hr.mono (by decide))) (aj_cons (ej_un_n (ej_n 1 rfl)) (aj_cons (ej_un_n (ej_n 2 rfl)) aj_nil))) ej_int))))) (bj_retI ej_none) (bj_retI (ej_some (ej_tup2 (aj_cons (ej_un_n (ej_n 1 rfl)) (aj_cons (ej_un_n (ej_n 2 rfl)) aj_nil)))))))))))) (x0 := default)), by unfold M.amount_in; first | rfl | (simp only [obs, id_eq]; done) | (simp only [obs, id_eq, Option.bind_assoc]; done) | (simp only [obs, id_eq]; rfl)⟩) hm hb
abbrev s_amounts_in : Stmt := topS 22
abbrev N_amounts_in : List Str := ["words", "line", "least", "found", "word", "one"]
theorem sc_amounts_in : FnScope N_amounts_in ["words", "line", "least"] (defScope s_amounts_in) := ⟨rfl, rfl, rfl, by decide +kernel, rfl, by decide +kernel, by decide +kernel⟩
theorem ok_amounts_in {f : Addr} {fd : FuncData} (F : Fun K "amounts_in" "amounts_in" s_amounts_in f fd) (X : Txt mg) (C_amount_in : CalB P w K mg base 2 "amount_in" (SpR (τ := Str × Unit) (ρ := (Option (Int × Int))) fun z => M.amount_in z.1)) (hm : mg "amounts_in" = some (.ref f)) (hb : L2.Binds K fd ["words", "line", "least"] []) : CalB P w K mg base 3 "amounts_in" (SpO (τ := (List Str) × Int × Int × Unit) (ρ := (Int × Int)) fun z => M.amounts_in z.1 z.2.1 z.2.2.1) :=
  have sc := sc_amounts_in
  fun_O F sc rfl (fun cdv A outer s H E hr z => let words := z.1; let line := z.2.1; let least := z.2.2.1; ⟨_, _, (bj_asgO sc.nd 3 (oj_lst (il_nil (α := (Int × Int)))) (fun found => (bj_for (N := (fun s1 : (List (Int × Int)) => [fz words, fz line, fz least, ol s1, .un, .un])) rfl found default (ij_l (rj_e (ej_n 0 rfl))) (fun _ _ _ => trivial) (gj_name sc.nd 4) (by exact (.same (.same (.same (.same (.same (.same .nil))))))) (fun word s1 => (bj_asg sc.nd 5 (ej_call (C_amount_in.at (hr.mono (by decide))) (aj_cons (ej_n 4 rfl) aj_nil)) default (fun one => (bj_ifX (tj_w (tw_or (tj_isN (ej_n 5 rfl)) (tw_or1 (tj_cmp op_lt o2_lt (ej_ix0 (ej_un_n (ej_n 5 rfl))) (ej_n 2 rfl))))) bj_never (bj_append 3 (ej_un_n (ej_n 5 rfl)) (fun found => (bj_nilP found (by exact (.same (.same (.same (.same (.drop (.drop .nil)))))))))))))) (fun s1 => (bj_retV (inj := id) 3 rfl)) PassesOwn.never))), by unfold M.amounts_in; first | rfl | (simp only [obs, id_eq]; done) | (simp only [obs, id_eq, Option.bind_assoc]; done) | (simp only [obs, id_eq]; rfl)⟩) hm hb
abbrev s_whole_by : Stmt := topS 27
abbrev N_whole_by : List Str := ["one", "unit"]
theorem sc_whole_by : FnScope N_whole_by ["one", "unit"] (defScope s_whole_by) := ⟨rfl, rfl, rfl, by decide +kernel, rfl, by decide +kernel, by decide +kernel⟩
theorem ok_whole_by {f : Addr} {fd : FuncData} (F : Fun K "whole_by" "whole_by" s_whole_by f fd) (X : Txt mg)  (hm : mg "whole_by" = some (.ref f)) (hb : L2.Binds K fd ["one", "unit"] []) : CalB P w K mg base 1 "whole_by" (SpR (τ := (Int × Int) × Int × Unit) (ρ := Int) fun z => M.whole_by z.1 z.2.1) :=
  have sc := sc_whole_by
  fun_R F sc rfl (fun cdv A outer s H E hr z => let one := z.1; let unit := z.2.1; ⟨_, _, (bj_retI (ej_op op_fdivW o2_div (ej_op op_mulW o2_mul (ej_ix0 (ej_n 0 rfl)) (ej_n 1 rfl)) (ej_ix1 (ej_n 0 rfl)))), by unfold M.whole_by; first | rfl | (simp only [obs, id_eq]; done) | (simp only [obs, id_eq, Option.bind_assoc]; done) | (simp only [obs, id_eq]; rfl)⟩) hm hb
abbrev s_numbers_in : Stmt := topS 23
abbrev N_numbers_in : List Str := ["words", "line", "most", "found", "word", "number"]
theorem sc_numbers_in : FnScope N_numbers_in ["words", "line", "most"] (defScope s_numbers_in) := ⟨rfl, rfl, rfl, by decide +kernel, rfl, by decide +kernel, by decide +kernel⟩
theorem ok_numbers_in {f : Addr} {fd : FuncData} (F : Fun K "numbers_in" "numbers_in" s_numbers_in f fd) (X : Txt mg) (C_number_in : CalB P w K mg base 1 "number_in" (SpR (τ := Str × Int × Int × Unit) (ρ := (Option Int)) fun z => M.number_in z.1 z.2.1 z.2.2.1)) (hm : mg "numbers_in" = some (.ref f)) (hb : L2.Binds K fd ["words", "line", "most"] []) : CalB P w K mg base 2 "numbers_in" (SpO (τ := (List Str) × Int × Int × Unit) (ρ := Int) fun z => M.numbers_in z.1 z.2.1 z.2.2.1) :=
  have sc := sc_numbers_in
  fun_O F sc rfl (fun cdv A outer s H E hr z => let words := z.1; let line := z.2.1; let most := z.2.2.1; ⟨_, _, (bj_asgO sc.nd 3 (oj_lst (il_nil (α := Int))) (fun found => (bj_for (N := (fun s1 : (List Int) => [fz words, fz line, fz most, ol s1, .un, .un])) rfl found default (ij_l (rj_e (ej_n 0 rfl))) (fun _ _ _ => trivial) (gj_name sc.nd 4) (by exact (.same (.same (.same (.same (.same (.same .nil))))))) (fun word s1 => (bj_asg sc.nd 5 (ej_call (C_number_in.at (hr.mono (by decide))) (aj_cons (ej_n 4 rfl) (aj_cons ej_int (aj_cons (ej_op op_sub o2_sub (ej_n 2 rfl) ej_int) aj_nil)))) default (fun number => (bj_ifX (tj_w (tw_or (tj_isN (ej_n 5 rfl)) (tw_or1 (tj_in (ej_un_n (ej_n 5 rfl)) (lk_l (lj_n 3 rfl)))))) bj_never (bj_append 3 (ej_un_n (ej_n 5 rfl)) (fun found => (bj_nilP found (by exact (.same (.same (.same (.same (.drop (.drop .nil)))))))))))))) (fun s1 => (bj_retV (inj := id) 3 rfl)) PassesOwn.never))), by unfold M.numbers_in; first | rfl | (simp only [obs, id_eq]; done) | (simp only [obs, id_eq, Option.bind_assoc]; done) | (simp only [obs, id_eq]; rfl)⟩) hm hb
abbrev s_read_cover : Stmt := topS 28
abbrev N_read_cover : List Str := ["rows", "many", "found", "line", "unit", "sets", "thing", "price", "things"]
theorem sc_read_cover : FnScope N_read_cover ["rows"] (defScope s_read_cover) := ⟨rfl, rfl, rfl, by decide +kernel, rfl, by decide +kernel, by decide +kernel⟩
theorem ok_read_cover {f : Addr} {fd : FuncData} (F : Fun K "read_cover" "read_cover" s_read_cover f fd) (X : Txt mg) (C_amounts_in : CalB P w K mg base 3 "amounts_in" (SpO (τ := (List Str) × Int × Int × Unit) (ρ := (Int × Int)) fun z => M.amounts_in z.1 z.2.1 z.2.2.1)) (C_numbers_in : CalB P w K mg base 2 "numbers_in" (SpO (τ := (List Str) × Int × Int × Unit) (ρ := Int) fun z => M.numbers_in z.1 z.2.1 z.2.2.1)) (C_one_number : CalB P w K mg base 2 "one_number" (SpR (τ := (List Str) × Int × Int × Unit) (ρ := Int) fun z => M.one_number z.1 z.2.1 z.2.2.1)) (C_unit_of : CalB P w K mg base 2 "unit_of" (SpR (τ := (List (Int × Int)) × Unit) (ρ := Int) fun z => M.unit_of z.1)) (C_whole_by : CalB P w K mg base 1 "whole_by" (SpR (τ := (Int × Int) × Int × Unit) (ρ := Int) fun z => M.whole_by z.1 z.2.1)) (hm : mg "read_cover" = some (.ref f)) (hb : L2.Binds K fd ["rows"] []) : CalB P w K mg base 4 "read_cover" (SpR (τ := (List (List Str)) × Unit) (ρ := (Int × (Int × (List (Int × (List Int)))))) fun z => M.read_cover z.1) :=
  have sc := sc_read_cover
  fun_R F sc rfl (fun cdv A outer s H E hr z => let rows := z.1; ⟨_, _, (bj_asg sc.nd 1 (ej_call (C_one_number.at (hr.mono (by decide))) (aj_cons (ej_ix (lk_l (lj_e (ej_n 0 rfl))) ej_int) (aj_cons ej_int (aj_cons (ej_globI X.v_MOST_THINGS) aj_nil)))) default (fun many => (bj_asgO sc.nd 2 (oj_lst (il_nil (α := ((Int × Int) × (List Int))))) (fun found => (bj_for (N := (fun s3 : (List ((Int × Int) × (List Int))) => [fz rows, fz many, ol s3, .un, .un, .un, .un, .un, .un])) rfl found default (ij_rngL2 (by decide) (lk_l (lj_e (ej_n 0 rfl))) X.n_range X.n_len) (fun _ _ _ => trivial) (gj_name sc.nd 3) (by exact (.same (.same (.same (.same (.same (.same (.same (.same (.same .nil)))))))))) (fun line s3 => (bj_ifX (tj_cmp op_gt o2_gt (ej_n 3 rfl) (ej_globI X.v_MOST_THINGS)) bj_never (bj_asg sc.nd 7 (ej_ix (lk_l (lj_e (ej_o (oj_call (C_amounts_in.at (hr.mono (by decide))) (aj_cons (ej_o (oj_slice (lk_l (lj_e (ej_ix (lk_l (lj_e (ej_n 0 rfl))) (ej_n 3 rfl)))) px_none (px_some ej_int))) (aj_cons (ej_n 3 rfl) (aj_cons ej_int aj_nil))))))) ej_int) default (fun price => (bj_append 2 (ej_tup2 (aj_cons (ej_n 7 rfl) (aj_cons (ej_o (oj_call (C_numbers_in.at (hr.mono (by decide))) (aj_cons (ej_o (oj_slice (lk_l (lj_e (ej_ix (lk_l (lj_e (ej_n 0 rfl))) (ej_n 3 rfl)))) (px_some ej_int) px_none)) (aj_cons (ej_n 3 rfl) (aj_cons (ej_n 1 rfl) aj_nil))))) aj_nil))) (fun found => (bj_nilP found (by exact (.same (.same (.same (.drop (.same (.same (.same (.drop (.same .nil))))))))))))))))) (fun s3 => (bj_asg sc.nd 4 (ej_call (C_unit_of.at (hr.mono (by decide))) (aj_cons (ej_o (oj_lqP (x0 := default) rfl sc.nd (ij_l (rj_own 2 rfl)) (blkOk_by (own := [("price", 7), ("things", 8)]) (N := N_read_cover) (sc := defScope s_read_cover) (by decide +kernel)) (fun _ _ _ _ _ => (gj_pair rfl (gj_name sc.nd 7) (gj_name sc.nd 8))) (fun _ _ _ _ _ _ => (ej_n 7 rfl)))) aj_nil)) default (fun unit => (bj_asgLc (lqj (x0 := default) rfl sc.nd (i := 5) rfl rfl (sw_true rfl rfl rfl (by decide +kernel)) (ij_l (rj_own 2 rfl)) (blkOk_by (own := [("price", 7), ("things", 8)]) (N := N_read_cover) (sc := defScope s_read_cover) (by decide +kernel)) (fun _ _ _ _ _ => (gj_pair rfl (gj_name sc.nd 7) (gj_name sc.nd 8))) (fun _ _ _ _ _ _ => (ej_tup2 (aj_cons (ej_call (C_whole_by.at (hr.mono (by decide))) (aj_cons (ej_n 7 rfl) (aj_cons (ej_n 4 rfl) aj_nil))) (aj_cons (ej_n 8 rfl) aj_nil))))) (fun sets => (bj_thaw (xs := sets) 5 (bj_for (N := (fun s19 : Unit => [fz rows, fz many, ol s3, .un, fz unit, fz sets, .un, .un, .un])) rfl () default (ij_rng1 (ej_n 1 rfl) X.n_range) (fun _ _ _ => trivial) (gj_name sc.nd 6) (by exact (.same (.same (.same (.same (.same (.same (.same (.same (.same .nil)))))))))) (fun thing s19 => (bj_if (tj_cmp op_eq o2_eq (ej_len (lk_l (lj_e (ej_o (oj_lqTP (x0 := default) rfl sc.nd (ij_l (rj_e (ej_n 5 rfl))) (blkOk_by (own := [("price", 7), ("things", 8)]) (N := N_read_cover) (sc := defScope s_read_cover) (by decide +kernel)) (fun _ _ _ _ _ => (gj_pair rfl (gj_name sc.nd 7) (gj_name sc.nd 8))) (fun _ _ _ _ _ _ => (tj_in (ej_n 6 rfl) (lk_l (lj_e (ej_n 8 rfl))))) (fun _ _ _ _ _ _ => (ej_n 8 rfl)))))) X.n_len) ej_int) bj_never (bj_nilP () (by exact (.same (.same (.same (.same (.same (.same (.drop (.same (.same .nil))))))))))))) (fun s19 => (bj_retI (ej_tup2 (aj_cons (ej_n 4 rfl) (aj_cons (ej_tup2 (aj_cons (ej_n 1 rfl) (aj_cons (ej_n 5 rfl) aj_nil))) aj_nil))))) PassesOwn.never) rfl)))))) PassesOwn.never))))), by unfold M.read_cover; first | rfl | (simp only [obs, id_eq]; done) | (simp only [obs, id_eq, Option.bind_assoc]; done) | (simp only [obs, id_eq]; rfl)⟩) hm hb
abbrev s_read_touch : Stmt := topS 29
abbrev N_read_touch : List Str := ["rows", "amounts", "lines", "line", "unit", "one"]
theorem sc_read_touch : FnScope N_read_touch ["rows"] (defScope s_read_touch) := ⟨rfl, rfl, rfl, by decide +kernel, rfl, by decide +kernel, by decide +kernel⟩
theorem ok_read_touch {f : Addr} {fd : FuncData} (F : Fun K "read_touch" "read_touch" s_read_touch f fd) (X : Txt mg) (C_amounts_in : CalB P w K mg base 3 "amounts_in" (SpO (τ := (List Str) × Int × Int × Unit) (ρ := (Int × Int)) fun z => M.amounts_in z.1 z.2.1 z.2.2.1)) (C_numbers_in : CalB P w K mg base 2 "numbers_in" (SpO (τ := (List Str) × Int × Int × Unit) (ρ := Int) fun z => M.numbers_in z.1 z.2.1 z.2.2.1)) (C_unit_of : CalB P w K mg base 2 "unit_of" (SpR (τ := (List (Int × Int)) × Unit) (ρ := Int) fun z => M.unit_of z.1)) (C_whole_by : CalB P w K mg base 1 "whole_by" (SpR (τ := (Int × Int) × Int × Unit) (ρ := Int) fun z => M.whole_by z.1 z.2.1)) (hm : mg "read_touch" = some (.ref f)) (hb : L2.Binds K fd ["rows"] []) : CalB P w K mg base 4 "read_touch" (SpR (τ := (List (List Str)) × Unit) (ρ := (Int × ((List Int) × (List (Int × Int))))) fun z => M.read_touch z.1) :=
  have sc := sc_read_touch
  fun_R F sc rfl (fun cdv A outer s H E hr z => let rows := z.1; ⟨_, _, (bj_ifX (tj_w (tw_or (tj_cmp op_lt o2_lt (ej_len (lk_l (lj_e (ej_ix (lk_l (lj_e (ej_n 0 rfl))) ej_int))) X.n_len) ej_int) (tw_or1 (tj_cmp op_gt o2_gt (ej_len (lk_l (lj_e (ej_ix (lk_l (lj_e (ej_n 0 rfl))) ej_int))) X.n_len) (ej_op op_add o2_add (ej_globI X.v_MOST_THINGS) ej_int))))) bj_never (bj_asg sc.nd 1 (ej_o (oj_call (C_amounts_in.at (hr.mono (by decide))) (aj_cons (ej_o (oj_slice (lk_l (lj_e (ej_ix (lk_l (lj_e (ej_n 0 rfl))) ej_int))) (px_some ej_int) px_none)) (aj_cons ej_int (aj_cons ej_int aj_nil))))) default (fun amounts => (bj_asgO sc.nd 2 (oj_lst (il_nil (α := (Int × Int)))) (fun lines => (bj_for (N := (fun s9 : (List (Int × Int)) => [fz rows, fz amounts, ol s9, .un, .un, .un])) rfl lines default (ij_rngL2 (by decide) (lk_l (lj_e (ej_n 0 rfl))) X.n_range X.n_len) (fun _ _ _ => trivial) (gj_name sc.nd 3) (by exact (.same (.same (.same (.same (.same (.same .nil))))))) (fun line s9 => (bj_ifX (tj_w (tw_or (tj_cmp op_gt o2_gt (ej_n 3 rfl) (ej_globI X.v_MOST_LINES)) (tw_or1 (tj_cmp op_ne o2_ne (ej_len (lk_l (lj_e (ej_ix (lk_l (lj_e (ej_n 0 rfl))) (ej_n 3 rfl)))) X.n_len) ej_int)))) bj_never (bj_append 2 (ej_as as_tp2 (ej_tupOf (lj_e (ej_o (oj_call (C_numbers_in.at (hr.mono (by decide))) (aj_cons (ej_ix (lk_l (lj_e (ej_n 0 rfl))) (ej_n 3 rfl)) (aj_cons (ej_n 3 rfl) (aj_cons (ej_len (lk_l (lj_e (ej_n 1 rfl))) X.n_len) aj_nil)))))) X.n_tuple)) (fun lines => (bj_nilP lines (by exact (.same (.same (.same (.drop (.same (.same .nil)))))))))))) (fun s9 => (bj_asg sc.nd 4 (ej_call (C_unit_of.at (hr.mono (by decide))) (aj_cons (ej_n 1 rfl) aj_nil)) default (fun unit => (bj_thaw (xs := s9) 2 (bj_retI (ej_tup2 (aj_cons (ej_n 4 rfl) (aj_cons (ej_tup2 (aj_cons (ej_o (oj_lq (x0 := default) rfl sc.nd (ij_l (rj_e (ej_n 1 rfl))) (blkOk_by (own := [("one", 5)]) (N := N_read_touch) (sc := defScope s_read_touch) (by decide +kernel)) (fun _ _ _ _ _ => (gj_name sc.nd 5)) (fun _ _ _ _ _ _ => (ej_call (C_whole_by.at (hr.mono (by decide))) (aj_cons (ej_n 5 rfl) (aj_cons (ej_n 4 rfl) aj_nil)))))) (aj_cons (ej_n 2 rfl) aj_nil))) aj_nil)))) rfl)))) PassesOwn.never)))))), by unfold M.read_touch; first | rfl | (simp only [obs, id_eq]; done) | (simp only [obs, id_eq, Option.bind_assoc]; done) | (simp only [obs, id_eq]; rfl)⟩) hm hb
abbrev s_whole_lengths : Stmt := topS 31
abbrev N_whole_lengths : List Str := ["table", "amounts", "row", "unit", "lengths", "one"]
theorem sc_whole_lengths : FnScope N_whole_lengths ["table"] (defScope s_whole_lengths) := ⟨rfl, rfl, rfl, by decide +kernel, rfl, by decide +kernel, by decide +kernel⟩
theorem ok_whole_lengths {f : Addr} {fd : FuncData} (F : Fun K "whole_lengths" "whole_lengths" s_whole_lengths f fd) (X : Txt mg) (C_unit_of : CalB P w K mg base 2 "unit_of" (SpR (τ := (List (Int × Int)) × Unit) (ρ := Int) fun z => M.unit_of z.1)) (C_whole_by : CalB P w K mg base 1 "whole_by" (SpR (τ := (Int × Int) × Int × Unit) (ρ := Int) fun z => M.whole_by z.1 z.2.1)) (hm : mg "whole_lengths" = some (.ref f)) (hb : L2.Binds K fd ["table"] []) : CalB P w K mg base 3 "whole_lengths" (SpR (τ := (List (List (Int × Int))) × Unit) (ρ := (Int × (List (List Int)))) fun z => M.whole_lengths z.1) :=
  have sc := sc_whole_lengths
  fun_R F sc rfl (fun cdv A outer s H E hr z => let table := z.1; ⟨_, _, (bj_asgO sc.nd 1 (oj_lst (il_nil (α := (Int × Int)))) (fun amounts => (bj_for (N := (fun s1 : (List (Int × Int)) => [fz table, ol s1, .un, .un, .un, .un])) rfl amounts default (ij_l (rj_e (ej_n 0 rfl))) (fun _ _ _ => trivial) (gj_name sc.nd 2) (by exact (.same (.same (.same (.same (.same (.same .nil))))))) (fun row s1 => (bj_extend 1 (ej_n 2 rfl) (fun amounts => (bj_nilP amounts (by exact (.same (.same (.drop (.same (.same (.same .nil))))))))))) (fun s1 => (bj_asg sc.nd 3 (ej_callW (C_unit_of.at (hr.mono (by decide))) (aw_cons (wj_l (lj_n 1 rfl)) aw_nil)) default (fun unit => (bj_asgLc (lqj (x0 := default) rfl sc.nd (i := 4) rfl rfl (sw_true rfl rfl rfl (by decide +kernel)) (ij_l (rj_e (ej_n 0 rfl))) (blkOk_by (own := [("row", 2)]) (N := N_whole_lengths) (sc := defScope s_whole_lengths) (by decide +kernel)) (fun _ _ _ _ _ => (gj_name sc.nd 2)) (fun _ _ _ _ _ _ => (ej_o (oj_lq (x0 := default) rfl sc.nd (ij_l (rj_e (ej_n 2 rfl))) (blkOk_by (own := [("one", 5)]) (by kernel_rfl)) (fun _ _ _ _ _ => (gj_name sc.nd 5)) (fun _ _ _ _ _ _ => (ej_call (C_whole_by.at (hr.mono (by decide))) (aj_cons (ej_n 5 rfl) (aj_cons (ej_n 3 rfl) aj_nil)))))))) (fun lengths => (bj_thaw (xs := lengths) 4 (bj_retI (ej_tup2 (aj_cons (ej_n 3 rfl) (aj_cons (ej_n 4 rfl) aj_nil)))) rfl)))))) PassesOwn.never))), by unfold M.whole_lengths; first | rfl | (simp only [obs, id_eq]; done) | (simp only [obs, id_eq, Option.bind_assoc]; done) | (simp only [obs, id_eq]; rfl)⟩) hm hb
abbrev s_alike_both_ways : Stmt := topS 9
abbrev N_alike_both_ways : List Str := ["lengths", "one", "other"]
theorem sc_alike_both_ways : FnScope N_alike_both_ways ["lengths", "one", "other"] (defScope s_alike_both_ways) := ⟨rfl, rfl, rfl, by decide +kernel, rfl, by decide +kernel, by decide +kernel⟩
theorem ok_alike_both_ways {f : Addr} {fd : FuncData} (F : Fun K "alike_both_ways" "alike_both_ways" s_alike_both_ways f fd) (X : Txt mg)  (hm : mg "alike_both_ways" = some (.ref f)) (hb : L2.Binds K fd ["lengths", "one", "other"] []) : CalB P w K mg base 1 "alike_both_ways" (SpR (τ := (List (List Int)) × Int × Int × Unit) (ρ := Bool) fun z => M.alike_both_ways z.1 z.2.1 z.2.2.1) :=
  have sc := sc_alike_both_ways
  fun_R F sc rfl (fun cdv A outer s H E hr z => let lengths := z.1; let one := z.2.1; let other := z.2.2.1; ⟨_, _, (bj_ifX (tj_cmp op_eq o2_eq (ej_n 1 rfl) (ej_n 2 rfl)) (bj_retI (ej_cmp op_eq o2_eq (ej_ix (lk_l (lj_e (ej_ix (lk_l (lj_e (ej_n 0 rfl))) (ej_n 1 rfl)))) (ej_n 1 rfl)) ej_int)) (bj_retI (ej_cmp op_eq o2_eq (ej_ix (lk_l (lj_e (ej_ix (lk_l (lj_e (ej_n 0 rfl))) (ej_n 1 rfl)))) (ej_n 2 rfl)) (ej_ix (lk_l (lj_e (ej_ix (lk_l (lj_e (ej_n 0 rfl))) (ej_n 2 rfl)))) (ej_n 1 rfl))))), by unfold M.alike_both_ways; first | rfl | (simp only [obs, id_eq]; done) | (simp only [obs, id_eq, Option.bind_assoc]; done) | (simp only [obs, id_eq]; rfl)⟩) hm hb
abbrev s_straight_is_least : Stmt := topS 10
abbrev N_straight_is_least : List Str := ["lengths", "one", "other", "amid"]
theorem sc_straight_is_least : FnScope N_straight_is_least ["lengths", "one", "other"] (defScope s_straight_is_least) := ⟨rfl, rfl, rfl, by decide +kernel, rfl, by decide +kernel, by decide +kernel⟩
theorem ok_straight_is_least {f : Addr} {fd : FuncData} (F : Fun K "straight_is_least" "straight_is_least" s_straight_is_least f fd) (X : Txt mg)  (hm : mg "straight_is_least" = some (.ref f)) (hb : L2.Binds K fd ["lengths", "one", "other"] []) : CalB P w K mg base 1 "straight_is_least" (SpR (τ := (List (List Int)) × Int × Int × Unit) (ρ := Bool) fun z => M.straight_is_least z.1 z.2.1 z.2.2.1) :=
  have sc := sc_straight_is_least
  fun_R F sc rfl (fun cdv A outer s H E hr z => let lengths := z.1; let one := z.2.1; let other := z.2.2.1; ⟨_, _, (bj_forF (N := (fun s1 : Unit => [fz lengths, fz one, fz other, .un])) (Pr := PR) (inj := id) rfl () default (ij_rngL (lk_l (lj_e (ej_n 0 rfl))) X.n_range X.n_len) (fun _ _ _ => trivial) (gj_name sc.nd 3) (by exact (.same (.same (.same (.same .nil))))) (fun amid s1 => (bj_if (tj_cmp op_lt o2_lt (ej_op op_add o2_add (ej_ix (lk_l (lj_e (ej_ix (lk_l (lj_e (ej_n 0 rfl))) (ej_n 1 rfl)))) (ej_n 3 rfl)) (ej_ix (lk_l (lj_e (ej_ix (lk_l (lj_e (ej_n 0 rfl))) (ej_n 3 rfl)))) (ej_n 2 rfl))) (ej_ix (lk_l (lj_e (ej_ix (lk_l (lj_e (ej_n 0 rfl))) (ej_n 1 rfl)))) (ej_n 2 rfl))) (bj_ret (inj := Fl.ret) ej_bl) (bj_nilL () (by exact (.same (.same (.same (.drop .nil)))))))) (fun s1 => (bj_retI ej_bl)) PassesOwn.never), by unfold M.straight_is_least; first | rfl | (simp only [obs, id_eq]; done) | (simp only [obs, id_eq, Option.bind_assoc]; done) | (simp only [obs, id_eq]; rfl)⟩) hm hb
abbrev s_look_at : Stmt := topS 11
abbrev N_look_at : List Str := ["lengths", "one", "other"]
theorem sc_look_at : FnScope N_look_at ["lengths"] (defScope s_look_at) := ⟨rfl, rfl, rfl, by decide +kernel, rfl, by decide +kernel, by decide +kernel⟩
theorem ok_look_at {f : Addr} {fd : FuncData} (F : Fun K "look_at" "look_at" s_look_at f fd) (X : Txt mg) (C_alike_both_ways : CalB P w K mg base 1 "alike_both_ways" (SpR (τ := (List (List Int)) × Int × Int × Unit) (ρ := Bool) fun z => M.alike_both_ways z.1 z.2.1 z.2.2.1)) (C_straight_is_least : CalB P w K mg base 1 "straight_is_least" (SpR (τ := (List (List Int)) × Int × Int × Unit) (ρ := Bool) fun z => M.straight_is_least z.1 z.2.1 z.2.2.1)) (hm : mg "look_at" = some (.ref f)) (hb : L2.Binds K fd ["lengths"] []) : CalB P w K mg base 2 "look_at" (SpR (τ := (List (List Int)) × Unit) (ρ := Unit) fun z => M.look_at z.1) :=
  have sc := sc_look_at
  fun_U F sc rfl (fun cdv A outer s H E hr z => let lengths := z.1; ⟨_, _, (bj_for (N := (fun s1 : Unit => [fz lengths, .un, .un])) rfl () default (ij_rngL (lk_l (lj_e (ej_n 0 rfl))) X.n_range X.n_len) (fun _ _ _ => trivial) (gj_name sc.nd 1) (by exact (.same (.same (.same .nil)))) (fun one s1 => (bj_for (N := (fun s2 : Unit => [fz lengths, fz one, .un])) rfl () default (ij_rngL (lk_l (lj_e (ej_n 0 rfl))) X.n_range X.n_len) (fun _ _ _ => trivial) (gj_name sc.nd 2) (by exact (.same (.same (.same .nil)))) (fun other s2 => (bj_if (tj_w (tw_or (tj_not (tj_v (ej_call (C_alike_both_ways.at (hr.mono (by decide))) (aj_cons (ej_n 0 rfl) (aj_cons (ej_n 1 rfl) (aj_cons (ej_n 2 rfl) aj_nil)))))) (tw_or1 (tj_not (tj_v (ej_call (C_straight_is_least.at (hr.mono (by decide))) (aj_cons (ej_n 0 rfl) (aj_cons (ej_n 1 rfl) (aj_cons (ej_n 2 rfl) aj_nil))))))))) bj_never (bj_nilP () (by exact (.same (.same (.drop .nil))))))) (fun s2 => (bj_nilP () (by exact (.same (.drop (.same .nil)))))) PassesOwn.never)) (fun s1 => (bj_retU (inj := id))) PassesOwn.never), by unfold M.look_at; first | rfl | (simp only [obs, id_eq]; done) | (simp only [obs, id_eq, Option.bind_assoc]; done) | (simp only [obs, id_eq]; rfl)⟩) hm hb
abbrev s_read_lengths : Stmt := topS 30
abbrev N_read_lengths : List Str := ["rows", "table", "line"]
theorem sc_read_lengths : FnScope N_read_lengths ["rows"] (defScope s_read_lengths) := ⟨rfl, rfl, rfl, by decide +kernel, rfl, by decide +kernel, by decide +kernel⟩
theorem ok_read_lengths {f : Addr} {fd : FuncData} (F : Fun K "read_lengths" "read_lengths" s_read_lengths f fd) (X : Txt mg) (C_amounts_in : CalB P w K mg base 3 "amounts_in" (SpO (τ := (List Str) × Int × Int × Unit) (ρ := (Int × Int)) fun z => M.amounts_in z.1 z.2.1 z.2.2.1)) (hm : mg "read_lengths" = some (.ref f)) (hb : L2.Binds K fd ["rows"] []) : CalB P w K mg base 4 "read_lengths" (SpO (τ := (List (List Str)) × Unit) (ρ := (List (Int × Int))) fun z => M.read_lengths z.1) :=
  have sc := sc_read_lengths
  fun_O F sc rfl (fun cdv A outer s H E hr z => let rows := z.1; ⟨_, _, (bj_ifX (tj_w (tw_or (tj_cmp op_eq o2_eq (ej_len (lk_l (lj_e (ej_n 0 rfl))) X.n_len) ej_int) (tw_or1 (tj_cmp op_gt o2_gt (ej_len (lk_l (lj_e (ej_ix (lk_l (lj_e (ej_n 0 rfl))) ej_int))) X.n_len) (ej_globI X.v_MOST_PLACES))))) bj_never (bj_asgO sc.nd 1 (oj_lst (il_nil (α := (List (Int × Int))))) (fun table => (bj_for (N := (fun s3 : (List (List (Int × Int))) => [fz rows, ol s3, .un])) rfl table default (ij_rngL2 (by decide) (lk_l (lj_e (ej_n 0 rfl))) X.n_range X.n_len) (fun _ _ _ => trivial) (gj_name sc.nd 2) (by exact (.same (.same (.same .nil)))) (fun line s3 => (bj_ifX (tj_w (tw_or (tj_cmp op_gt o2_gt (ej_n 2 rfl) (ej_len (lk_l (lj_e (ej_ix (lk_l (lj_e (ej_n 0 rfl))) ej_int))) X.n_len)) (tw_or1 (tj_cmp op_ne o2_ne (ej_len (lk_l (lj_e (ej_ix (lk_l (lj_e (ej_n 0 rfl))) (ej_n 2 rfl)))) X.n_len) (ej_len (lk_l (lj_e (ej_ix (lk_l (lj_e (ej_n 0 rfl))) ej_int))) X.n_len))))) bj_never (bj_append 1 (ej_o (oj_call (C_amounts_in.at (hr.mono (by decide))) (aj_cons (ej_ix (lk_l (lj_e (ej_n 0 rfl))) (ej_n 2 rfl)) (aj_cons (ej_n 2 rfl) (aj_cons ej_int aj_nil))))) (fun table => (bj_nilP table (by exact (.same (.same (.drop .nil))))))))) (fun s3 => (bj_ifX (tj_cmp op_lt o2_lt (ej_len (lk_l (lj_n 1 rfl)) X.n_len) (ej_len (lk_l (lj_e (ej_ix (lk_l (lj_e (ej_n 0 rfl))) ej_int))) X.n_len)) bj_never (bj_retV (inj := id) 1 rfl))) PassesOwn.never)))), by unfold M.read_lengths; first | rfl | (simp only [obs, id_eq]; done) | (simp only [obs, id_eq, Option.bind_assoc]; done) | (simp only [obs, id_eq]; rfl)⟩) hm hb
abbrev s_read_round : Stmt := topS 32
abbrev N_read_round : List Str := ["rows", "unit", "lengths"]
theorem sc_read_round : FnScope N_read_round ["rows"] (defScope s_read_round) := ⟨rfl, rfl, rfl, by decide +kernel, rfl, by decide +kernel, by decide +kernel⟩
theorem ok_read_round {f : Addr} {fd : FuncData} (F : Fun K "read_round" "read_round" s_read_round f fd) (X : Txt mg) (C_look_at : CalB P w K mg base 2 "look_at" (SpR (τ := (List (List Int)) × Unit) (ρ := Unit) fun z => M.look_at z.1)) (C_read_lengths : CalB P w K mg base 4 "read_lengths" (SpO (τ := (List (List Str)) × Unit) (ρ := (List (Int × Int))) fun z => M.read_lengths z.1)) (C_whole_lengths : CalB P w K mg base 3 "whole_lengths" (SpR (τ := (List (List (Int × Int))) × Unit) (ρ := (Int × (List (List Int)))) fun z => M.whole_lengths z.1)) (hm : mg "read_round" = some (.ref f)) (hb : L2.Binds K fd ["rows"] []) : CalB P w K mg base 5 "read_round" (SpR (τ := (List (List Str)) × Unit) (ρ := (Int × (Tp (List (List Int))))) fun z => M.read_round z.1) :=
  have sc := sc_read_round
  fun_R F sc rfl (fun cdv A outer s H E hr z => let rows := z.1; ⟨_, _, (bj_ifX (tj_cmp op_ne o2_ne (ej_len (lk_l (lj_e (ej_ix (lk_l (lj_e (ej_n 0 rfl))) ej_int))) X.n_len) ej_int) bj_never (bj_asgG (gj_pair rfl (gj_name sc.nd 1) (gj_name sc.nd 2)) (ej_call (C_whole_lengths.at (hr.mono (by decide))) (aj_cons (ej_o (oj_call (C_read_lengths.at (hr.mono (by decide))) (aj_cons (ej_n 0 rfl) aj_nil))) aj_nil)) (fun z5 => (bj_drop (ej_call (C_look_at.at (hr.mono (by decide))) (aj_cons (ej_n 2 rfl) aj_nil)) (bj_retI (ej_tup2 (aj_cons (ej_n 1 rfl) (aj_cons (ej_tupN (il_cons (ej_n 2 rfl) il_nil)) aj_nil)))))) (x0 := default))), by unfold M.read_round; first | rfl | (simp only [obs, id_eq]; done) | (simp only [obs, id_eq, Option.bind_assoc]; done) | (simp only [obs, id_eq]; rfl)⟩) hm hb
abbrev s_read_places : Stmt := topS 33
abbrev N_read_places : List Str := ["rows", "many", "unit", "lengths"]
theorem sc_read_places : FnScope N_read_places ["rows"] (defScope s_read_places) := ⟨rfl, rfl, rfl, by decide +kernel, rfl, by decide +kernel, by decide +kernel⟩
theorem ok_read_places {f : Addr} {fd : FuncData} (F : Fun K "read_places" "read_places" s_read_places f fd) (X : Txt mg) (C_look_at : CalB P w K mg base 2 "look_at" (SpR (τ := (List (List Int)) × Unit) (ρ := Unit) fun z => M.look_at z.1)) (C_one_number : CalB P w K mg base 2 "one_number" (SpR (τ := (List Str) × Int × Int × Unit) (ρ := Int) fun z => M.one_number z.1 z.2.1 z.2.2.1)) (C_read_lengths : CalB P w K mg base 4 "read_lengths" (SpO (τ := (List (List Str)) × Unit) (ρ := (List (Int × Int))) fun z => M.read_lengths z.1)) (C_whole_lengths : CalB P w K mg base 3 "whole_lengths" (SpR (τ := (List (List (Int × Int))) × Unit) (ρ := (Int × (List (List Int)))) fun z => M.whole_lengths z.1)) (hm : mg "read_places" = some (.ref f)) (hb : L2.Binds K fd ["rows"] []) : CalB P w K mg base 5 "read_places" (SpR (τ := (List (List Str)) × Unit) (ρ := (Int × ((List (List Int)) × Int))) fun z => M.read_places z.1) :=
  have sc := sc_read_places
  fun_R F sc rfl (fun cdv A outer s H E hr z => let rows := z.1; ⟨_, _, (bj_asg sc.nd 1 (ej_call (C_one_number.at (hr.mono (by decide))) (aj_cons (ej_ix (lk_l (lj_e (ej_n 0 rfl))) ej_int) (aj_cons ej_int (aj_cons (ej_globI X.v_MOST_PLACES) aj_nil)))) default (fun many => (bj_asgG (gj_pair rfl (gj_name sc.nd 2) (gj_name sc.nd 3)) (ej_call (C_whole_lengths.at (hr.mono (by decide))) (aj_cons (ej_o (oj_call (C_read_lengths.at (hr.mono (by decide))) (aj_cons (ej_n 0 rfl) aj_nil))) aj_nil)) (fun z5 => (bj_ifX (tj_cmp op_gt o2_gt (ej_n 1 rfl) (ej_len (lk_l (lj_e (ej_n 3 rfl))) X.n_len)) bj_never (bj_drop (ej_call (C_look_at.at (hr.mono (by decide))) (aj_cons (ej_n 3 rfl) aj_nil)) (bj_retI (ej_tup2 (aj_cons (ej_n 2 rfl) (aj_cons (ej_tup2 (aj_cons (ej_n 3 rfl) (aj_cons (ej_n 1 rfl) aj_nil))) aj_nil))))))) (x0 := default)))), by unfold M.read_places; first | rfl | (simp only [obs, id_eq]; done) | (simp only [obs, id_eq, Option.bind_assoc]; done) | (simp only [obs, id_eq]; rfl)⟩) hm hb
abbrev s_no_line_behind : Stmt := topS 25
abbrev N_no_line_behind : List Str := ["rows", "most"]
theorem sc_no_line_behind : FnScope N_no_line_behind ["rows", "most"] (defScope s_no_line_behind) := ⟨rfl, rfl, rfl, by decide +kernel, rfl, by decide +kernel, by decide +kernel⟩
theorem ok_no_line_behind {f : Addr} {fd : FuncData} (F : Fun K "no_line_behind" "no_line_behind" s_no_line_behind f fd) (X : Txt mg)  (hm : mg "no_line_behind" = some (.ref f)) (hb : L2.Binds K fd ["rows", "most"] []) : CalB P w K mg base 1 "no_line_behind" (SpR (τ := (List (List Str)) × Int × Unit) (ρ := Unit) fun z => M.no_line_behind z.1 z.2.1) :=
  have sc := sc_no_line_behind
  fun_U F sc rfl (fun cdv A outer s H E hr z => let rows := z.1; let most := z.2.1; ⟨_, _, (bj_if (tj_cmp op_gt o2_gt (ej_len (lk_l (lj_e (ej_n 0 rfl))) X.n_len) (ej_n 1 rfl)) bj_never bj_nilU), by unfold M.no_line_behind; first | rfl | (simp only [obs, id_eq]; done) | (simp only [obs, id_eq, Option.bind_assoc]; done) | (simp only [obs, id_eq]; rfl)⟩) hm hb
abbrev s_read_benches : Stmt := topS 34
abbrev N_read_benches : List Str := ["rows", "many", "amounts", "unit", "one"]
theorem sc_read_benches : FnScope N_read_benches ["rows"] (defScope s_read_benches) := ⟨rfl, rfl, rfl, by decide +kernel, rfl, by decide +kernel, by decide +kernel⟩
theorem ok_read_benches {f : Addr} {fd : FuncData} (F : Fun K "read_benches" "read_benches" s_read_benches f fd) (X : Txt mg) (C_amounts_in : CalB P w K mg base 3 "amounts_in" (SpO (τ := (List Str) × Int × Int × Unit) (ρ := (Int × Int)) fun z => M.amounts_in z.1 z.2.1 z.2.2.1)) (C_no_line_behind : CalB P w K mg base 1 "no_line_behind" (SpR (τ := (List (List Str)) × Int × Unit) (ρ := Unit) fun z => M.no_line_behind z.1 z.2.1)) (C_one_number : CalB P w K mg base 2 "one_number" (SpR (τ := (List Str) × Int × Int × Unit) (ρ := Int) fun z => M.one_number z.1 z.2.1 z.2.2.1)) (C_unit_of : CalB P w K mg base 2 "unit_of" (SpR (τ := (List (Int × Int)) × Unit) (ρ := Int) fun z => M.unit_of z.1)) (C_whole_by : CalB P w K mg base 1 "whole_by" (SpR (τ := (Int × Int) × Int × Unit) (ρ := Int) fun z => M.whole_by z.1 z.2.1)) (hm : mg "read_benches" = some (.ref f)) (hb : L2.Binds K fd ["rows"] []) : CalB P w K mg base 4 "read_benches" (SpR (τ := (List (List Str)) × Unit) (ρ := (Int × ((List Int) × Int))) fun z => M.read_benches z.1) :=
  have sc := sc_read_benches
  fun_R F sc rfl (fun cdv A outer s H E hr z => let rows := z.1; ⟨_, _, (bj_asg sc.nd 1 (ej_call (C_one_number.at (hr.mono (by decide))) (aj_cons (ej_o (oj_slice (lk_l (lj_e (ej_ix (lk_l (lj_e (ej_n 0 rfl))) ej_int))) px_none (px_some ej_int))) (aj_cons ej_int (aj_cons (ej_globI X.v_MOST_BENCHES) aj_nil)))) default (fun many => (bj_ifX (tj_cmp op_gt o2_gt (ej_len (lk_l (lj_e (ej_ix (lk_l (lj_e (ej_n 0 rfl))) ej_int))) X.n_len) (ej_op op_add o2_add (ej_globI X.v_MOST_THINGS) ej_int)) bj_never (bj_asg sc.nd 2 (ej_o (oj_call (C_amounts_in.at (hr.mono (by decide))) (aj_cons (ej_o (oj_slice (lk_l (lj_e (ej_ix (lk_l (lj_e (ej_n 0 rfl))) ej_int))) (px_some ej_int) px_none)) (aj_cons ej_int (aj_cons ej_int aj_nil))))) default (fun amounts => (bj_drop (ej_call (C_no_line_behind.at (hr.mono (by decide))) (aj_cons (ej_n 0 rfl) (aj_cons ej_int aj_nil))) (bj_asg sc.nd 3 (ej_call (C_unit_of.at (hr.mono (by decide))) (aj_cons (ej_n 2 rfl) aj_nil)) default (fun unit => (bj_retI (ej_tup2 (aj_cons (ej_n 3 rfl) (aj_cons (ej_tup2 (aj_cons (ej_o (oj_lq (x0 := default) rfl sc.nd (ij_l (rj_e (ej_n 2 rfl))) (blkOk_by (own := [("one", 4)]) (N := N_read_benches) (sc := defScope s_read_benches) (by decide +kernel)) (fun _ _ _ _ _ => (gj_name sc.nd 4)) (fun _ _ _ _ _ _ => (ej_call (C_whole_by.at (hr.mono (by decide))) (aj_cons (ej_n 4 rfl) (aj_cons (ej_n 3 rfl) aj_nil)))))) (aj_cons (ej_n 1 rfl) aj_nil))) aj_nil)))))))))))), by unfold M.read_benches; first | rfl | (simp only [obs, id_eq]; done) | (simp only [obs, id_eq, Option.bind_assoc]; done) | (simp only [obs, id_eq]; rfl)⟩) hm hb
abbrev s_look_at_sizes : Stmt := topS 7
abbrev N_look_at_sizes : List Str := ["sizes", "room", "number", "size"]
theorem sc_look_at_sizes : FnScope N_look_at_sizes ["sizes", "room"] (defScope s_look_at_sizes) := ⟨rfl, rfl, rfl, by decide +kernel, rfl, by decide +kernel, by decide +kernel⟩
theorem ok_look_at_sizes {f : Addr} {fd : FuncData} (F : Fun K "look_at_sizes" "look_at_sizes" s_look_at_sizes f fd) (X : Txt mg)  (hm : mg "look_at_sizes" = some (.ref f)) (hb : L2.Binds K fd ["sizes", "room"] []) : CalB P w K mg base 1 "look_at_sizes" (SpR (τ := (List Int) × Int × Unit) (ρ := Unit) fun z => M.look_at_sizes z.1 z.2.1) :=
  have sc := sc_look_at_sizes
  fun_U F sc rfl (fun cdv A outer s H E hr z => let sizes := z.1; let room := z.2.1; ⟨_, _, (bj_for (N := (fun s1 : Unit => [fz sizes, fz room, .un, .un])) rfl () default (ij_enum (rj_e (ej_n 0 rfl)) X.n_enumerate) (fun _ _ _ => trivial) (gj_pair rfl (gj_name sc.nd 2) (gj_name sc.nd 3)) (by exact (.same (.same (.same (.same .nil))))) (fun x2 s1 => (bj_if (tj_cmp op_gt o2_gt (ej_n 3 rfl) (ej_n 1 rfl)) bj_never (bj_nilP () (by exact (.same (.same (.drop (.drop .nil)))))))) (fun s1 => bj_nilU) PassesOwn.never), by unfold M.look_at_sizes; first | rfl | (simp only [obs, id_eq]; done) | (simp only [obs, id_eq, Option.bind_assoc]; done) | (simp only [obs, id_eq]; rfl)⟩) hm hb
abbrev s_read_bins : Stmt := topS 35
abbrev N_read_bins : List Str := ["rows", "amounts", "unit", "sizes", "room", "one"]
theorem sc_read_bins : FnScope N_read_bins ["rows"] (defScope s_read_bins) := ⟨rfl, rfl, rfl, by decide +kernel, rfl, by decide +kernel, by decide +kernel⟩
theorem ok_read_bins {f : Addr} {fd : FuncData} (F : Fun K "read_bins" "read_bins" s_read_bins f fd) (X : Txt mg) (C_amounts_in : CalB P w K mg base 3 "amounts_in" (SpO (τ := (List Str) × Int × Int × Unit) (ρ := (Int × Int)) fun z => M.amounts_in z.1 z.2.1 z.2.2.1)) (C_look_at_sizes : CalB P w K mg base 1 "look_at_sizes" (SpR (τ := (List Int) × Int × Unit) (ρ := Unit) fun z => M.look_at_sizes z.1 z.2.1)) (C_no_line_behind : CalB P w K mg base 1 "no_line_behind" (SpR (τ := (List (List Str)) × Int × Unit) (ρ := Unit) fun z => M.no_line_behind z.1 z.2.1)) (C_unit_of : CalB P w K mg base 2 "unit_of" (SpR (τ := (List (Int × Int)) × Unit) (ρ := Int) fun z => M.unit_of z.1)) (C_whole_by : CalB P w K mg base 1 "whole_by" (SpR (τ := (Int × Int) × Int × Unit) (ρ := Int) fun z => M.whole_by z.1 z.2.1)) (hm : mg "read_bins" = some (.ref f)) (hb : L2.Binds K fd ["rows"] []) : CalB P w K mg base 4 "read_bins" (SpR (τ := (List (List Str)) × Unit) (ρ := (Int × ((List Int) × Int))) fun z => M.read_bins z.1) :=
  have sc := sc_read_bins
  fun_R F sc rfl (fun cdv A outer s H E hr z => let rows := z.1; ⟨_, _, (bj_ifX (tj_w (tw_or (tj_cmp op_lt o2_lt (ej_len (lk_l (lj_e (ej_ix (lk_l (lj_e (ej_n 0 rfl))) ej_int))) X.n_len) ej_int) (tw_or1 (tj_cmp op_gt o2_gt (ej_len (lk_l (lj_e (ej_ix (lk_l (lj_e (ej_n 0 rfl))) ej_int))) X.n_len) (ej_op op_add o2_add (ej_globI X.v_MOST_THINGS) ej_int))))) bj_never (bj_asg sc.nd 1 (ej_o (oj_call (C_amounts_in.at (hr.mono (by decide))) (aj_cons (ej_o (oj_slice (lk_l (lj_e (ej_ix (lk_l (lj_e (ej_n 0 rfl))) ej_int))) (px_some ej_int) px_none)) (aj_cons ej_int (aj_cons ej_int aj_nil))))) default (fun amounts => (bj_drop (ej_call (C_no_line_behind.at (hr.mono (by decide))) (aj_cons (ej_n 0 rfl) (aj_cons ej_int aj_nil))) (bj_asg sc.nd 2 (ej_call (C_unit_of.at (hr.mono (by decide))) (aj_cons (ej_n 1 rfl) aj_nil)) default (fun unit => (bj_asgLc (lqj (x0 := default) rfl sc.nd (i := 3) rfl rfl (sw_true rfl rfl rfl (by decide +kernel)) (ij_l (rj_e (ej_o (oj_slice (lk_l (lj_e (ej_n 1 rfl))) (px_some ej_int) px_none)))) (blkOk_by (own := [("one", 5)]) (N := N_read_bins) (sc := defScope s_read_bins) (by decide +kernel)) (fun _ _ _ _ _ => (gj_name sc.nd 5)) (fun _ _ _ _ _ _ => (ej_call (C_whole_by.at (hr.mono (by decide))) (aj_cons (ej_n 5 rfl) (aj_cons (ej_n 2 rfl) aj_nil))))) (fun sizes => (bj_thaw (xs := sizes) 3 (bj_asg sc.nd 4 (ej_call (C_whole_by.at (hr.mono (by decide))) (aj_cons (ej_ix (lk_l (lj_e (ej_n 1 rfl))) ej_int) (aj_cons (ej_n 2 rfl) aj_nil))) default (fun room => (bj_drop (ej_call (C_look_at_sizes.at (hr.mono (by decide))) (aj_cons (ej_n 3 rfl) (aj_cons (ej_n 4 rfl) aj_nil))) (bj_retI (ej_tup2 (aj_cons (ej_n 2 rfl) (aj_cons (ej_tup2 (aj_cons (ej_n 3 rfl) (aj_cons (ej_n 4 rfl) aj_nil))) aj_nil))))))) rfl))))))))), by unfold M.read_bins; first | rfl | (simp only [obs, id_eq]; done) | (simp only [obs, id_eq, Option.bind_assoc]; done) | (simp only [obs, id_eq]; rfl)⟩) hm hb
abbrev s_read_sack : Stmt := topS 36
abbrev N_read_sack : List Str := ["rows", "amounts", "line", "unit", "wholes", "things", "one", "k"]
theorem sc_read_sack : FnScope N_read_sack ["rows"] (defScope s_read_sack) := ⟨rfl, rfl, rfl, by decide +kernel, rfl, by decide +kernel, by decide +kernel⟩
theorem ok_read_sack {f : Addr} {fd : FuncData} (F : Fun K "read_sack" "read_sack" s_read_sack f fd) (X : Txt mg) (C_amounts_in : CalB P w K mg base 3 "amounts_in" (SpO (τ := (List Str) × Int × Int × Unit) (ρ := (Int × Int)) fun z => M.amounts_in z.1 z.2.1 z.2.2.1)) (C_unit_of : CalB P w K mg base 2 "unit_of" (SpR (τ := (List (Int × Int)) × Unit) (ρ := Int) fun z => M.unit_of z.1)) (C_whole_by : CalB P w K mg base 1 "whole_by" (SpR (τ := (Int × Int) × Int × Unit) (ρ := Int) fun z => M.whole_by z.1 z.2.1)) (hm : mg "read_sack" = some (.ref f)) (hb : L2.Binds K fd ["rows"] []) : CalB P w K mg base 4 "read_sack" (SpR (τ := (List (List Str)) × Unit) (ρ := (Int × (Int × (List (Int × Int))))) fun z => M.read_sack z.1) :=
  have sc := sc_read_sack
  fun_R F sc rfl (fun cdv A outer s H E hr z => let rows := z.1; ⟨_, _, (bj_ifX (tj_cmp op_ne o2_ne (ej_len (lk_l (lj_e (ej_ix (lk_l (lj_e (ej_n 0 rfl))) ej_int))) X.n_len) ej_int) bj_never (bj_asgO sc.nd 1 (oj_call (C_amounts_in.at (hr.mono (by decide))) (aj_cons (ej_o (oj_slice (lk_l (lj_e (ej_ix (lk_l (lj_e (ej_n 0 rfl))) ej_int))) (px_some ej_int) px_none)) (aj_cons ej_int (aj_cons ej_int aj_nil)))) (fun amounts => (bj_for (N := (fun s6 : (List (Int × Int)) => [fz rows, ol s6, .un, .un, .un, .un, .un, .un])) rfl amounts default (ij_rngL2 (by decide) (lk_l (lj_e (ej_n 0 rfl))) X.n_range X.n_len) (fun _ _ _ => trivial) (gj_name sc.nd 2) (by exact (.same (.same (.same (.same (.same (.same (.same (.same .nil))))))))) (fun line s6 => (bj_ifX (tj_w (tw_or (tj_cmp op_gt o2_gt (ej_n 2 rfl) (ej_globI X.v_MOST_THINGS)) (tw_or1 (tj_cmp op_ne o2_ne (ej_len (lk_l (lj_e (ej_ix (lk_l (lj_e (ej_n 0 rfl))) (ej_n 2 rfl)))) X.n_len) ej_int)))) bj_never (bj_extend 1 (ej_o (oj_call (C_amounts_in.at (hr.mono (by decide))) (aj_cons (ej_o (oj_slice (lk_l (lj_e (ej_ix (lk_l (lj_e (ej_n 0 rfl))) (ej_n 2 rfl)))) px_none (px_some ej_int))) (aj_cons (ej_n 2 rfl) (aj_cons ej_int aj_nil))))) (fun amounts => (bj_extend 1 (ej_o (oj_call (C_amounts_in.at (hr.mono (by decide))) (aj_cons (ej_o (oj_slice (lk_l (lj_e (ej_ix (lk_l (lj_e (ej_n 0 rfl))) (ej_n 2 rfl)))) (px_some ej_int) px_none)) (aj_cons (ej_n 2 rfl) (aj_cons ej_int aj_nil))))) (fun amounts => (bj_nilP amounts (by exact (.same (.same (.drop (.same (.same (.same (.same (.same .nil)))))))))))))))) (fun s6 => (bj_asg sc.nd 3 (ej_callW (C_unit_of.at (hr.mono (by decide))) (aw_cons (wj_l (lj_n 1 rfl)) aw_nil)) default (fun unit => (bj_asgO sc.nd 4 (oj_lq (x0 := default) rfl sc.nd (ij_l (rj_own 1 rfl)) (blkOk_by (own := [("one", 6)]) (N := N_read_sack) (sc := defScope s_read_sack) (by decide +kernel)) (fun _ _ _ _ _ => (gj_name sc.nd 6)) (fun _ _ _ _ _ _ => (ej_call (C_whole_by.at (hr.mono (by decide))) (aj_cons (ej_n 6 rfl) (aj_cons (ej_n 3 rfl) aj_nil))))) (fun wholes => (bj_thaw (xs := wholes) 4 (bj_asgLc (lqj (x0 := default) rfl sc.nd (i := 5) rfl rfl (sw_true rfl rfl rfl (by decide +kernel)) (ij_rng3 ej_int (ej_len (lk_l (lj_e (ej_n 4 rfl))) X.n_len) X.n_range) (blkOk_by (own := [("k", 7)]) (N := N_read_sack) (sc := defScope s_read_sack) (by decide +kernel)) (fun _ _ _ _ _ => (gj_name sc.nd 7)) (fun _ _ _ _ _ _ => (ej_tup2 (aj_cons (ej_ix (lk_l (lj_e (ej_n 4 rfl))) (ej_n 7 rfl)) (aj_cons (ej_ix (lk_l (lj_e (ej_n 4 rfl))) (ej_op op_add o2_add (ej_n 7 rfl) ej_int)) aj_nil))))) (fun things => (bj_thaw (xs := things) 5 (bj_retI (ej_tup2 (aj_cons (ej_n 3 rfl) (aj_cons (ej_tup2 (aj_cons (ej_ix (lk_l (lj_e (ej_n 4 rfl))) ej_int) (aj_cons (ej_n 5 rfl) aj_nil))) aj_nil)))) rfl))) rfl)))))) PassesOwn.never)))), by unfold M.read_sack; first | rfl | (simp only [obs, id_eq]; done) | (simp only [obs, id_eq, Option.bind_assoc]; done) | (simp only [obs, id_eq]; rfl)⟩) hm hb
abbrev s_read_kind : Stmt := topS 37
abbrev N_read_kind : List Str := ["kind", "rows"]
theorem sc_read_kind : FnScope N_read_kind ["kind", "rows"] (defScope s_read_kind) := ⟨rfl, rfl, rfl, by decide +kernel, rfl, by decide +kernel, by decide +kernel⟩
theorem ok_read_kind {f : Addr} {fd : FuncData} (F : Fun K "read_kind" "read_kind" s_read_kind f fd) (X : Txt mg) (C_read_benches : CalB P w K mg base 4 "read_benches" (SpR (τ := (List (List Str)) × Unit) (ρ := (Int × ((List Int) × Int))) fun z => M.read_benches z.1)) (C_read_bins : CalB P w K mg base 4 "read_bins" (SpR (τ := (List (List Str)) × Unit) (ρ := (Int × ((List Int) × Int))) fun z => M.read_bins z.1)) (C_read_cover : CalB P w K mg base 4 "read_cover" (SpR (τ := (List (List Str)) × Unit) (ρ := (Int × (Int × (List (Int × (List Int)))))) fun z => M.read_cover z.1)) (C_read_places : CalB P w K mg base 5 "read_places" (SpR (τ := (List (List Str)) × Unit) (ρ := (Int × ((List (List Int)) × Int))) fun z => M.read_places z.1)) (C_read_round : CalB P w K mg base 5 "read_round" (SpR (τ := (List (List Str)) × Unit) (ρ := (Int × (Tp (List (List Int))))) fun z => M.read_round z.1)) (C_read_sack : CalB P w K mg base 4 "read_sack" (SpR (τ := (List (List Str)) × Unit) (ρ := (Int × (Int × (List (Int × Int))))) fun z => M.read_sack z.1)) (C_read_touch : CalB P w K mg base 4 "read_touch" (SpR (τ := (List (List Str)) × Unit) (ρ := (Int × ((List Int) × (List (Int × Int))))) fun z => M.read_touch z.1)) (hm : mg "read_kind" = some (.ref f)) (hb : L2.Binds K fd ["kind", "rows"] []) : CalB P w K mg base 6 "read_kind" (SpR (τ := Str × (List (List Str)) × Unit) (ρ := (Int × ((Int × (List (Int × (List Int)))) ⊕ (((List Int) × (List (Int × Int))) ⊕ ((Tp (List (List Int))) ⊕ (((List (List Int)) × Int) ⊕ (((List Int) × Int) ⊕ ((Int × (List (Int × Int))))))))))) fun z => M.read_kind z.1 z.2.1) :=
  have sc := sc_read_kind
  fun_R F sc rfl (fun cdv A outer s H E hr z => let kind := z.1; let rows := z.2.1; ⟨_, _, (bj_ifX (tj_cmp op_eq o2_eq (ej_n 0 rfl) ej_str) (bj_retI (ej_inU (f := fun x => ((x.1, (Sum.inl x.2 : (Int × (List (Int × (List Int)))) ⊕ (((List Int) × (List (Int × Int))) ⊕ ((Tp (List (List Int))) ⊕ (((List (List Int)) × Int) ⊕ (((List Int) × Int) ⊕ ((Int × (List (Int × Int)))))))))) : Int × ((Int × (List (Int × (List Int)))) ⊕ (((List Int) × (List (Int × Int))) ⊕ ((Tp (List (List Int))) ⊕ (((List (List Int)) × Int) ⊕ (((List Int) × Int) ⊕ ((Int × (List (Int × Int))))))))))) (fun h => h) (ej_call (C_read_cover.at (hr.mono (by decide))) (aj_cons (ej_n 1 rfl) aj_nil)))) (bj_ifX (tj_cmp op_eq o2_eq (ej_n 0 rfl) ej_str) (bj_retI (ej_inU (f := fun x => ((x.1, (Sum.inr (Sum.inl x.2) : (Int × (List (Int × (List Int)))) ⊕ (((List Int) × (List (Int × Int))) ⊕ ((Tp (List (List Int))) ⊕ (((List (List Int)) × Int) ⊕ (((List Int) × Int) ⊕ ((Int × (List (Int × Int)))))))))) : Int × ((Int × (List (Int × (List Int)))) ⊕ (((List Int) × (List (Int × Int))) ⊕ ((Tp (List (List Int))) ⊕ (((List (List Int)) × Int) ⊕ (((List Int) × Int) ⊕ ((Int × (List (Int × Int))))))))))) (fun h => h) (ej_call (C_read_touch.at (hr.mono (by decide))) (aj_cons (ej_n 1 rfl) aj_nil)))) (bj_ifX (tj_cmp op_eq o2_eq (ej_n 0 rfl) ej_str) (bj_retI (ej_inU (f := fun x => ((x.1, (Sum.inr (Sum.inr (Sum.inl x.2)) : (Int × (List (Int × (List Int)))) ⊕ (((List Int) × (List (Int × Int))) ⊕ ((Tp (List (List Int))) ⊕ (((List (List Int)) × Int) ⊕ (((List Int) × Int) ⊕ ((Int × (List (Int × Int)))))))))) : Int × ((Int × (List (Int × (List Int)))) ⊕ (((List Int) × (List (Int × Int))) ⊕ ((Tp (List (List Int))) ⊕ (((List (List Int)) × Int) ⊕ (((List Int) × Int) ⊕ ((Int × (List (Int × Int))))))))))) (fun h => h) (ej_call (C_read_round.at (hr.mono (by decide))) (aj_cons (ej_n 1 rfl) aj_nil)))) (bj_ifX (tj_cmp op_eq o2_eq (ej_n 0 rfl) ej_str) (bj_retI (ej_inU (f := fun x => ((x.1, (Sum.inr (Sum.inr (Sum.inr (Sum.inl x.2))) : (Int × (List (Int × (List Int)))) ⊕ (((List Int) × (List (Int × Int))) ⊕ ((Tp (List (List Int))) ⊕ (((List (List Int)) × Int) ⊕ (((List Int) × Int) ⊕ ((Int × (List (Int × Int)))))))))) : Int × ((Int × (List (Int × (List Int)))) ⊕ (((List Int) × (List (Int × Int))) ⊕ ((Tp (List (List Int))) ⊕ (((List (List Int)) × Int) ⊕ (((List Int) × Int) ⊕ ((Int × (List (Int × Int))))))))))) (fun h => h) (ej_call (C_read_places.at (hr.mono (by decide))) (aj_cons (ej_n 1 rfl) aj_nil)))) (bj_ifX (tj_cmp op_eq o2_eq (ej_n 0 rfl) ej_str) (bj_retI (ej_inU (f := fun x => ((x.1, (Sum.inr (Sum.inr (Sum.inr (Sum.inr (Sum.inl x.2)))) : (Int × (List (Int × (List Int)))) ⊕ (((List Int) × (List (Int × Int))) ⊕ ((Tp (List (List Int))) ⊕ (((List (List Int)) × Int) ⊕ (((List Int) × Int) ⊕ ((Int × (List (Int × Int)))))))))) : Int × ((Int × (List (Int × (List Int)))) ⊕ (((List Int) × (List (Int × Int))) ⊕ ((Tp (List (List Int))) ⊕ (((List (List Int)) × Int) ⊕ (((List Int) × Int) ⊕ ((Int × (List (Int × Int))))))))))) (fun h => h) (ej_call (C_read_benches.at (hr.mono (by decide))) (aj_cons (ej_n 1 rfl) aj_nil)))) (bj_ifX (tj_cmp op_eq o2_eq (ej_n 0 rfl) ej_str) (bj_retI (ej_inU (f := fun x => ((x.1, (Sum.inr (Sum.inr (Sum.inr (Sum.inr (Sum.inl x.2)))) : (Int × (List (Int × (List Int)))) ⊕ (((List Int) × (List (Int × Int))) ⊕ ((Tp (List (List Int))) ⊕ (((List (List Int)) × Int) ⊕ (((List Int) × Int) ⊕ ((Int × (List (Int × Int)))))))))) : Int × ((Int × (List (Int × (List Int)))) ⊕ (((List Int) × (List (Int × Int))) ⊕ ((Tp (List (List Int))) ⊕ (((List (List Int)) × Int) ⊕ (((List Int) × Int) ⊕ ((Int × (List (Int × Int))))))))))) (fun h => h) (ej_call (C_read_bins.at (hr.mono (by decide))) (aj_cons (ej_n 1 rfl) aj_nil)))) (bj_ifX (tj_cmp op_eq o2_eq (ej_n 0 rfl) ej_str) (bj_retI (ej_inU (f := fun x => ((x.1, (Sum.inr (Sum.inr (Sum.inr (Sum.inr (Sum.inr x.2)))) : (Int × (List (Int × (List Int)))) ⊕ (((List Int) × (List (Int × Int))) ⊕ ((Tp (List (List Int))) ⊕ (((List (List Int)) × Int) ⊕ (((List Int) × Int) ⊕ ((Int × (List (Int × Int)))))))))) : Int × ((Int × (List (Int × (List Int)))) ⊕ (((List Int) × (List (Int × Int))) ⊕ ((Tp (List (List Int))) ⊕ (((List (List Int)) × Int) ⊕ (((List Int) × Int) ⊕ ((Int × (List (Int × Int))))))))))) (fun h => h) (ej_call (C_read_sack.at (hr.mono (by decide))) (aj_cons (ej_n 1 rfl) aj_nil)))) bj_never))))))), by unfold M.read_kind; first | rfl | (simp only [obs, id_eq]; done) | (simp only [obs, id_eq, Option.bind_assoc]; done) | (simp only [obs, id_eq]; rfl)⟩) hm hb
abbrev s_read : Stmt := topS 38
abbrev N_read : List Str := ["text", "rows", "kind", "unit", "given_things", "line"]
theorem sc_read : FnScope N_read ["text"] (defScope s_read) := ⟨rfl, rfl, rfl, by decide +kernel, rfl, by decide +kernel, by decide +kernel⟩
theorem ok_read {f : Addr} {fd : FuncData} (F : Fun K "read" "read" s_read f fd) (X : Txt mg) (C_read_kind : CalB P w K mg base 6 "read_kind" (SpR (τ := Str × (List (List Str)) × Unit) (ρ := (Int × ((Int × (List (Int × (List Int)))) ⊕ (((List Int) × (List (Int × Int))) ⊕ ((Tp (List (List Int))) ⊕ (((List (List Int)) × Int) ⊕ (((List Int) × Int) ⊕ ((Int × (List (Int × Int))))))))))) fun z => M.read_kind z.1 z.2.1)) (hm : mg "read" = some (.ref f)) (hb : L2.Binds K fd ["text"] []) : CalB P w K mg base 7 "read" (SpR (τ := Str × Unit) (ρ := (T3 Str Int ((Int × (List (Int × (List Int)))) ⊕ (((List Int) × (List (Int × Int))) ⊕ ((Tp (List (List Int))) ⊕ (((List (List Int)) × Int) ⊕ (((List Int) × Int) ⊕ ((Int × (List (Int × Int))))))))))) fun z => M.read z.1) :=
  have sc := sc_read
  fun_R F sc rfl (fun cdv A outer s H E hr z => let text := z.1; ⟨_, _, (bj_asgLc (lqj (x0 := default) rfl sc.nd (i := 1) rfl rfl (sw_true rfl rfl rfl (by decide +kernel)) (ij_l (rj_e (ej_o (oj_split (ej_n 0 rfl) ej_str)))) (blkOk_by (own := [("line", 5)]) (N := N_read) (sc := defScope s_read) (by decide +kernel)) (fun _ _ _ _ _ => (gj_name sc.nd 5)) (fun _ _ _ _ _ _ => (ej_o (oj_split (ej_n 5 rfl) ej_str)))) (fun rows => (bj_thaw (xs := rows) 1 (bj_asg sc.nd 2 (ej_ix (lk_l (lj_e (ej_ix (lk_l (lj_e (ej_n 1 rfl))) ej_int))) ej_int) default (fun kind => (bj_asgG (gj_pair rfl (gj_name sc.nd 3) (gj_name sc.nd 4)) (ej_call (C_read_kind.at (hr.mono (by decide))) (aj_cons (ej_n 2 rfl) (aj_cons (ej_n 1 rfl) aj_nil))) (fun z3 => (bj_retI (ej_tup3 (aj_cons (ej_n 2 rfl) (aj_cons (ej_n 3 rfl) (aj_cons (ej_n 4 rfl) aj_nil)))))) (x0 := default)))) rfl))), by unfold M.read; first | rfl | (simp only [obs, id_eq]; done) | (simp only [obs, id_eq, Option.bind_assoc]; done) | (simp only [obs, id_eq]; rfl)⟩) hm hb
abbrev s__law_alike : Stmt := topS 61
abbrev N__law_alike : List Str := ["_law_found", "_law_due", "_law_one", "_law_other"]
theorem sc__law_alike : FnScope N__law_alike ["_law_found", "_law_due"] (defScope s__law_alike) := ⟨rfl, rfl, rfl, by decide +kernel, rfl, by decide +kernel, by decide +kernel⟩
theorem ok__law_alike {f : Addr} {fd : FuncData} (F : Fun K "_law_alike" "_law_alike" s__law_alike f fd) (X : Txt mg)  (hm : mg "_law_alike" = some (.ref f)) (hb : L2.Binds K fd ["_law_found", "_law_due"] []) (n : Nat) : CalB P w K mg base (1 + n) "_law_alike" (SpR (τ := An × An × Unit) (ρ := Bool) fun z => M.law_alike n z.1 z.2.1) := by
  have sc := sc__law_alike
  induction n with
  | zero => exact fun_R (k := 0) F sc rfl (fun cdv A outer s H E hr z => ⟨_, none, bj_never, rfl⟩) hm hb
  | succ n C__law_alike => exact fun_R (k := 1 + n) F sc rfl (fun cdv A outer s H E hr z => let found := z.1; let due := z.2.1; ⟨_, _, (bj_ifX (tj_v (ej_isA (cn := "int") (bi := true) (bs := false) (bl := false) (bt := false) (wj_e (ej_n 1 rfl)) (by decide +kernel) (by decide +kernel) (by decide +kernel) (by decide +kernel) (by decide +kernel) X.n_isinstance X.n_int)) (bj_retI (ej_and (ej_isA (cn := "int") (bi := true) (bs := false) (bl := false) (bt := false) (wj_e (ej_n 0 rfl)) (by decide +kernel) (by decide +kernel) (by decide +kernel) (by decide +kernel) (by decide +kernel) X.n_isinstance X.n_int) (ej_and (ej_not (ej_isA (cn := "bool") (bi := false) (bs := false) (bl := false) (bt := false) (wj_e (ej_n 0 rfl)) (by decide +kernel) (by decide +kernel) (by decide +kernel) (by decide +kernel) (by decide +kernel) X.n_isinstance X.n_bool)) (ej_one (ej_cmp op_eq (o2_eq (α := Int)) (ej_as as_i (ej_n 0 rfl)) (ej_as as_i (ej_n 1 rfl))))))) (bj_ifX (tj_v (ej_isA (cn := "str") (bi := false) (bs := true) (bl := false) (bt := false) (wj_e (ej_n 1 rfl)) (by decide +kernel) (by decide +kernel) (by decide +kernel) (by decide +kernel) (by decide +kernel) X.n_isinstance X.n_str)) (bj_retI (ej_and (ej_isA (cn := "str") (bi := false) (bs := true) (bl := false) (bt := false) (wj_e (ej_n 0 rfl)) (by decide +kernel) (by decide +kernel) (by decide +kernel) (by decide +kernel) (by decide +kernel) X.n_isinstance X.n_str) (ej_one (ej_cmp op_eq (o2_eq (α := Str)) (ej_as as_s (ej_n 0 rfl)) (ej_as as_s (ej_n 1 rfl)))))) (bj_ifJF (N := (fun s9 : Unit => [fz found, fz due, .un, .un])) (tj_v (ej_isA (cn := "tuple") (bi := false) (bs := false) (bl := false) (bt := true) (wj_e (ej_n 1 rfl)) (by decide +kernel) (by decide +kernel) (by decide +kernel) (by decide +kernel) (by decide +kernel) X.n_isinstance X.n_tuple)) (bj_if (tj_not (tj_v (ej_isA (cn := "tuple") (bi := false) (bs := false) (bl := false) (bt := true) (wj_e (ej_n 0 rfl)) (by decide +kernel) (by decide +kernel) (by decide +kernel) (by decide +kernel) (by decide +kernel) X.n_isinstance X.n_tuple))) (bj_inJ (bj_retI ej_bl)) (bj_nilJ () (by exact (.same (.same (.same (.same .nil))))))) (bj_if (tj_not (tj_v (ej_isA (cn := "list") (bi := false) (bs := false) (bl := true) (bt := false) (wj_e (ej_n 0 rfl)) (by decide +kernel) (by decide +kernel) (by decide +kernel) (by decide +kernel) (by decide +kernel) X.n_isinstance X.n_list))) (bj_inJ (bj_retI ej_bl)) (bj_nilJ () (by exact (.same (.same (.same (.same .nil))))))) default (fun s9 => (bj_or (bj_ifX (tj_cmp op_ne o2_ne (ej_lenT (ej_as as_t (ej_n 0 rfl)) X.n_len) (ej_lenT (ej_as as_t (ej_n 1 rfl)) X.n_len)) (bj_retI ej_bl) (bj_forF (N := (fun s14 : Unit => [fz found, fz due, .un, .un])) (Pr := PR) (inj := id) rfl () default (ij_zipk (kj_t (ej_as as_t (ej_n 0 rfl))) (kj_t (ej_as as_t (ej_n 1 rfl))) X.n_zip) (fun _ _ _ => ⟨trivial, trivial⟩) (gj_pair rfl (gj_name sc.nd 2) (gj_name sc.nd 3)) (by exact (.same (.same (.same (.same .nil))))) (fun x19 s14 => (bj_if (tj_not (tj_v (ej_call (C__law_alike.at hr) (aj_cons (ej_n 2 rfl) (aj_cons (ej_n 3 rfl) aj_nil))))) (bj_ret (inj := Fl.ret) ej_bl) (bj_nilL () (by exact (.same (.same (.drop (.drop .nil)))))))) (fun s14 => (bj_retI ej_bl)) PassesOwn.never)) (bj_ifX (tj_cmp op_ne o2_ne (ej_len (lk_l (lj_e (ej_as as_ls (ej_n 0 rfl)))) X.n_len) (ej_len (lk_l (lj_e (ej_as as_ls (ej_n 1 rfl)))) X.n_len)) (bj_retI ej_bl) (bj_forF (N := (fun s28 : Unit => [fz found, fz due, .un, .un])) (Pr := PR) (inj := id) rfl () default (ij_zip (rj_e (ej_as as_ls (ej_n 0 rfl))) (rj_e (ej_as as_ls (ej_n 1 rfl))) X.n_zip) (fun _ _ _ => ⟨trivial, trivial⟩) (gj_pair rfl (gj_name sc.nd 2) (gj_name sc.nd 3)) (by exact (.same (.same (.same (.same .nil))))) (fun x31 s28 => (bj_if (tj_not (tj_v (ej_call (C__law_alike.at hr) (aj_cons (ej_n 2 rfl) (aj_cons (ej_n 3 rfl) aj_nil))))) (bj_ret (inj := Fl.ret) ej_bl) (bj_nilL () (by exact (.same (.same (.drop (.drop .nil)))))))) (fun s28 => (bj_retI ej_bl)) PassesOwn.never))))))), by first | (simp only [M.law_alike, obs, id_eq]; done) | (simp only [M.law_alike, obs, id_eq, Option.bind_assoc]; done) | (simp only [M.law_alike, obs, id_eq]; rfl) | (simp only [M.law_alike, obs, id_eq, Option.bind_assoc]; rfl)⟩) hm hb
abbrev s_law : Stmt := topS 62
abbrev N_law : List Str := ["_law_script", "_law_kind", "_law_cell", "_law_word", "_law_text", "_law_found", "_law_one", "_law_lines", "_law_unit_here", "_law_due"]
theorem sc_law : FnScope N_law ["_law_script"] (defScope s_law) := ⟨rfl, rfl, rfl, by decide +kernel, rfl, by decide +kernel, by decide +kernel⟩
theorem ok_law {f : Addr} {fd : FuncData} (F : Fun K "law" "law" s_law f fd) (X : Txt mg) (C__law_alike : CalB P w K mg base 10 "_law_alike" (SpR (τ := An × An × Unit) (ρ := Bool) fun z => M.law_alike 9 z.1 z.2.1)) (C__law_cell_at : CalB P w K mg base 1 "_law_cell_at" (SpR (τ := Scr K × Int × Unit) (ρ := Int) fun z => M.law_cell_at z.1.l z.2.1)) (C__law_made : CalB P w K mg base 5 "_law_made" (SpR (τ := Int × Scr K × Int × Unit) (ρ := (Ll3 (List Str) Int ((Int × (List (Int × (List Int)))) ⊕ (((List Int) × (List (Int × Int))) ⊕ ((Tp (List (List Int))) ⊕ (((List (List Int)) × Int) ⊕ (((List Int) × Int) ⊕ ((Int × (List (Int × Int))))))))))) fun z => M.law_made z.1 z.2.1.l z.2.2.1)) (C__law_number : CalB P w K mg base 1 "_law_number" (SpR (τ := Int × Int × Unit) (ρ := Int) fun z => M.law_number z.1 z.2.1)) (C_read : CalB P w K mg base 7 "read" (SpR (τ := Str × Unit) (ρ := (T3 Str Int ((Int × (List (Int × (List Int)))) ⊕ (((List Int) × (List (Int × Int))) ⊕ ((Tp (List (List Int))) ⊕ (((List (List Int)) × Int) ⊕ (((List Int) × Int) ⊕ ((Int × (List (Int × Int))))))))))) fun z => M.read z.1)) (holds : ∀ ns : List Int, ns.length ≤ 63 → M.law ns = some true) : FnOk P w K mg base CX0 11 f fd ["_law_script"] (spLaw K) :=
  have sc := sc_law
  fun_law (F := M.law) F sc rfl (fun cdv A outer s H E hr z => let script := z.1.l; ⟨_, _, (bj_asg sc.nd 1 (ej_modK (by decide) (ej_call (C__law_cell_at.at (hr.mono (by decide))) (aj_cons (ej_n 0 rfl) (aj_cons ej_int aj_nil)))) default (fun kind => (bj_asg sc.nd 2 (ej_call (C__law_number.at (hr.mono (by decide))) (aj_cons (ej_op op_add o2_add (ej_call (C__law_cell_at.at (hr.mono (by decide))) (aj_cons (ej_n 0 rfl) (aj_cons ej_int aj_nil))) (ej_call (C__law_cell_at.at (hr.mono (by decide))) (aj_cons (ej_n 0 rfl) (aj_cons ej_int aj_nil)))) (aj_cons ej_int aj_nil))) default (fun cell => (bj_asg sc.nd 3 (ej_ix (lk_l (lj_e (ej_o (oj_lst (il_cons ej_str (il_cons ej_str (il_cons ej_str (il_cons ej_str (il_cons ej_str (il_cons ej_str (il_cons ej_str il_nil))))))))))) (ej_n 1 rfl)) default (fun word => (bj_asgG (gj_ll3 rfl (gj_name sc.nd 7) (gj_name sc.nd 8) (gj_name sc.nd 9)) (ej_call (C__law_made.at (hr.mono (by decide))) (aj_cons (ej_n 1 rfl) (aj_cons (ej_scr (ej_o (oj_slice (lk_s rfl 0 rfl) (px_some ej_int) px_none))) (aj_cons (ej_n 2 rfl) aj_nil)))) (fun z9 => (bj_asg sc.nd 4 (ej_join ej_str (lk_l (lj_e (ej_n 7 rfl)))) default (fun text => (bj_asgQ sc.nd 5 (qj_deep (C_read.at (hr.mono (by decide))) (aj_cons (ej_n 4 rfl) aj_nil)) default (fun found => (bj_ifX (tj_not (tj_v (ej_peek (by exact (.fv (.fv (.fv (.fv (.fv (.see (d := oDeep) (x := found) (.drop (.fv (.fv (.fv .nil))))))))))) (ej_call (C__law_alike.at (hr.mono (by decide))) (aj_cons (ej_inU (f := fun x : T3 Str Int ((Int × (List (Int × (List Int)))) ⊕ (((List Int) × (List (Int × Int))) ⊕ ((Tp (List (List Int))) ⊕ (((List (List Int)) × Int) ⊕ (((List Int) × Int) ⊕ ((Int × (List (Int × Int))))))))) => (ToAn.to x : An)) (fun h => ToAn.ok h) (ej_n 5 rfl)) (aj_cons (ej_inU (f := fun x : T3 Str Int ((Int × (List (Int × (List Int)))) ⊕ (((List Int) × (List (Int × Int))) ⊕ ((Tp (List (List Int))) ⊕ (((List (List Int)) × Int) ⊕ (((List Int) × Int) ⊕ ((Int × (List (Int × Int))))))))) => (ToAn.to x : An)) (fun h => ToAn.ok h) (ej_tup3 (aj_cons (ej_n 3 rfl) (aj_cons (ej_n 8 rfl) (aj_cons (ej_n 9 rfl) aj_nil))))) aj_nil)))))) (bj_retI ej_bl) (bj_appAll (x := found) rfl sc.nd 5 6 (bj_retI (ej_call (C__law_alike.at (hr.mono (by decide))) (aj_cons (ej_inU (f := fun x : T3 Str Int ((Int × (List (Int × (List Int)))) ⊕ (((List Int) × (List (Int × Int))) ⊕ ((Tp (List (List Int))) ⊕ (((List (List Int)) × Int) ⊕ (((List Int) × Int) ⊕ ((Int × (List (Int × Int))))))))) => (ToAn.to x : An)) (fun h => ToAn.ok h) (ej_call (C_read.at (hr.mono (by decide))) (aj_cons (ej_n 4 rfl) aj_nil))) (aj_cons (ej_inU (f := fun x : T3 Str Int ((Int × (List (Int × (List Int)))) ⊕ (((List Int) × (List (Int × Int))) ⊕ ((Tp (List (List Int))) ⊕ (((List (List Int)) × Int) ⊕ (((List Int) × Int) ⊕ ((Int × (List (Int × Int))))))))) => (ToAn.to x : An)) (fun h => ToAn.ok h) (ej_tup3 (aj_cons (ej_n 3 rfl) (aj_cons (ej_n 8 rfl) (aj_cons (ej_n 9 rfl) aj_nil))))) aj_nil)))) PassesOwn.never X.n_isinstance X.n_list))))))) (x0 := default)))))))), by unfold M.law; first | rfl | (simp only [obs, id_eq]; done) | (simp only [obs, id_eq, Option.bind_assoc]; done) | (simp only [obs, id_eq]; rfl)⟩) holds
end
theorem all_mk {l : PySem.W.OpenLaw} {w : World} {K : PySem.W.Frag} {h : Heap} {mg : Str → Option Value} {fa : Addr} (X : K.In h) (G : h.Ns mainGlobals mg) (hfa : mg "law" = some (.ref fa)) (holds : ∀ ns : List Int, ns.length ≤ 63 → M.law ns = some true)
    {f0 : Addr} {od0 an0 : Option Addr} {sl0 : Array (Option Value)} {oc0 kV0 dc0 pm0 cd0 ct0 : Value} (a0 : PySem.W.nsIn K mainGlobals "_law_number" = some (some (.ref f0))) (l0 : K.lookup f0 = some ⟨oc0, od0, .func (PySem.W.fnOf "_law_number" "_law_number" (defArgs s__law_number) (defBody s__law_number) (defScope s__law_number) .none kV0 dc0 pm0 an0 cd0 ct0), sl0⟩) (c0 : PySem.W.codeIn K cd0 "_law_number" = true) (k0 : PySem.W.keepIn K (.ref f0) = true)
    {f1 : Addr} {od1 an1 : Option Addr} {sl1 : Array (Option Value)} {oc1 kV1 dc1 pm1 cd1 ct1 : Value} (a1 : PySem.W.nsIn K mainGlobals "_law_divisor" = some (some (.ref f1))) (l1 : K.lookup f1 = some ⟨oc1, od1, .func (PySem.W.fnOf "_law_divisor" "_law_divisor" (defArgs s__law_divisor) (defBody s__law_divisor) (defScope s__law_divisor) .none kV1 dc1 pm1 an1 cd1 ct1), sl1⟩) (c1 : PySem.W.codeIn K cd1 "_law_divisor" = true) (k1 : PySem.W.keepIn K (.ref f1) = true)
    {f2 : Addr} {od2 an2 : Option Addr} {sl2 : Array (Option Value)} {oc2 kV2 dc2 pm2 cd2 ct2 : Value} (a2 : PySem.W.nsIn K mainGlobals "_law_parts" = some (some (.ref f2))) (l2 : K.lookup f2 = some ⟨oc2, od2, .func (PySem.W.fnOf "_law_parts" "_law_parts" (defArgs s__law_parts) (defBody s__law_parts) (defScope s__law_parts) .none kV2 dc2 pm2 an2 cd2 ct2), sl2⟩) (c2 : PySem.W.codeIn K cd2 "_law_parts" = true) (k2 : PySem.W.keepIn K (.ref f2) = true)
    {f3 : Addr} {od3 an3 : Option Addr} {sl3 : Array (Option Value)} {oc3 kV3 dc3 pm3 cd3 ct3 : Value} (a3 : PySem.W.nsIn K mainGlobals "_law_unit" = some (some (.ref f3))) (l3 : K.lookup f3 = some ⟨oc3, od3, .func (PySem.W.fnOf "_law_unit" "_law_unit" (defArgs s__law_unit) (defBody s__law_unit) (defScope s__law_unit) .none kV3 dc3 pm3 an3 cd3 ct3), sl3⟩) (c3 : PySem.W.codeIn K cd3 "_law_unit" = true) (k3 : PySem.W.keepIn K (.ref f3) = true)
    {f4 : Addr} {od4 an4 : Option Addr} {sl4 : Array (Option Value)} {oc4 kV4 dc4 pm4 cd4 ct4 : Value} (a4 : PySem.W.nsIn K mainGlobals "_law_above" = some (some (.ref f4))) (l4 : K.lookup f4 = some ⟨oc4, od4, .func (PySem.W.fnOf "_law_above" "_law_above" (defArgs s__law_above) (defBody s__law_above) (defScope s__law_above) .none kV4 dc4 pm4 an4 cd4 ct4), sl4⟩) (c4 : PySem.W.codeIn K cd4 "_law_above" = true) (k4 : PySem.W.keepIn K (.ref f4) = true)
    {f5 : Addr} {od5 an5 : Option Addr} {sl5 : Array (Option Value)} {oc5 kV5 dc5 pm5 cd5 ct5 : Value} (a5 : PySem.W.nsIn K mainGlobals "_law_written" = some (some (.ref f5))) (l5 : K.lookup f5 = some ⟨oc5, od5, .func (PySem.W.fnOf "_law_written" "_law_written" (defArgs s__law_written) (defBody s__law_written) (defScope s__law_written) .none kV5 dc5 pm5 an5 cd5 ct5), sl5⟩) (c5 : PySem.W.codeIn K cd5 "_law_written" = true) (k5 : PySem.W.keepIn K (.ref f5) = true)
    {f6 : Addr} {od6 an6 : Option Addr} {sl6 : Array (Option Value)} {oc6 kV6 dc6 pm6 cd6 ct6 : Value} (a6 : PySem.W.nsIn K mainGlobals "_law_wholes" = some (some (.ref f6))) (l6 : K.lookup f6 = some ⟨oc6, od6, .func (PySem.W.fnOf "_law_wholes" "_law_wholes" (defArgs s__law_wholes) (defBody s__law_wholes) (defScope s__law_wholes) .none kV6 dc6 pm6 an6 cd6 ct6), sl6⟩) (c6 : PySem.W.codeIn K cd6 "_law_wholes" = true) (k6 : PySem.W.keepIn K (.ref f6) = true)
    {f7 : Addr} {od7 an7 : Option Addr} {sl7 : Array (Option Value)} {oc7 kV7 dc7 pm7 cd7 ct7 : Value} (a7 : PySem.W.nsIn K mainGlobals "_law_sack_made" = some (some (.ref f7))) (l7 : K.lookup f7 = some ⟨oc7, od7, .func (PySem.W.fnOf "_law_sack_made" "_law_sack_made" (defArgs s__law_sack_made) (defBody s__law_sack_made) (defScope s__law_sack_made) .none kV7 dc7 pm7 an7 cd7 ct7), sl7⟩) (c7 : PySem.W.codeIn K cd7 "_law_sack_made" = true) (k7 : PySem.W.keepIn K (.ref f7) = true)
    {f8 : Addr} {od8 an8 : Option Addr} {sl8 : Array (Option Value)} {oc8 kV8 dc8 pm8 cd8 ct8 : Value} (a8 : PySem.W.nsIn K mainGlobals "_law_bit" = some (some (.ref f8))) (l8 : K.lookup f8 = some ⟨oc8, od8, .func (PySem.W.fnOf "_law_bit" "_law_bit" (defArgs s__law_bit) (defBody s__law_bit) (defScope s__law_bit) .none kV8 dc8 pm8 an8 cd8 ct8), sl8⟩) (c8 : PySem.W.codeIn K cd8 "_law_bit" = true) (k8 : PySem.W.keepIn K (.ref f8) = true)
    {f9 : Addr} {od9 an9 : Option Addr} {sl9 : Array (Option Value)} {oc9 kV9 dc9 pm9 cd9 ct9 : Value} (a9 : PySem.W.nsIn K mainGlobals "_law_has" = some (some (.ref f9))) (l9 : K.lookup f9 = some ⟨oc9, od9, .func (PySem.W.fnOf "_law_has" "_law_has" (defArgs s__law_has) (defBody s__law_has) (defScope s__law_has) .none kV9 dc9 pm9 an9 cd9 ct9), sl9⟩) (c9 : PySem.W.codeIn K cd9 "_law_has" = true) (k9 : PySem.W.keepIn K (.ref f9) = true)
    {f10 : Addr} {od10 an10 : Option Addr} {sl10 : Array (Option Value)} {oc10 kV10 dc10 pm10 cd10 ct10 : Value} (a10 : PySem.W.nsIn K mainGlobals "_law_amount" = some (some (.ref f10))) (l10 : K.lookup f10 = some ⟨oc10, od10, .func (PySem.W.fnOf "_law_amount" "_law_amount" (defArgs s__law_amount) (defBody s__law_amount) (defScope s__law_amount) .none kV10 dc10 pm10 an10 cd10 ct10), sl10⟩) (c10 : PySem.W.codeIn K cd10 "_law_amount" = true) (k10 : PySem.W.keepIn K (.ref f10) = true)
    {f11 : Addr} {od11 an11 : Option Addr} {sl11 : Array (Option Value)} {oc11 kV11 dc11 pm11 cd11 ct11 : Value} (a11 : PySem.W.nsIn K mainGlobals "_law_sets" = some (some (.ref f11))) (l11 : K.lookup f11 = some ⟨oc11, od11, .func (PySem.W.fnOf "_law_sets" "_law_sets" (defArgs s__law_sets) (defBody s__law_sets) (defScope s__law_sets) .none kV11 dc11 pm11 an11 cd11 ct11), sl11⟩) (c11 : PySem.W.codeIn K cd11 "_law_sets" = true) (k11 : PySem.W.keepIn K (.ref f11) = true)
    {f12 : Addr} {od12 an12 : Option Addr} {sl12 : Array (Option Value)} {oc12 kV12 dc12 pm12 cd12 ct12 : Value} (a12 : PySem.W.nsIn K mainGlobals "_law_cell_at" = some (some (.ref f12))) (l12 : K.lookup f12 = some ⟨oc12, od12, .func (PySem.W.fnOf "_law_cell_at" "_law_cell_at" (defArgs s__law_cell_at) (defBody s__law_cell_at) (defScope s__law_cell_at) .none kV12 dc12 pm12 an12 cd12 ct12), sl12⟩) (c12 : PySem.W.codeIn K cd12 "_law_cell_at" = true) (k12 : PySem.W.keepIn K (.ref f12) = true)
    {f13 : Addr} {od13 an13 : Option Addr} {sl13 : Array (Option Value)} {oc13 kV13 dc13 pm13 cd13 ct13 : Value} (a13 : PySem.W.nsIn K mainGlobals "_law_cover_made" = some (some (.ref f13))) (l13 : K.lookup f13 = some ⟨oc13, od13, .func (PySem.W.fnOf "_law_cover_made" "_law_cover_made" (defArgs s__law_cover_made) (defBody s__law_cover_made) (defScope s__law_cover_made) .none kV13 dc13 pm13 an13 cd13 ct13), sl13⟩) (c13 : PySem.W.codeIn K cd13 "_law_cover_made" = true) (k13 : PySem.W.keepIn K (.ref f13) = true)
    {f14 : Addr} {od14 an14 : Option Addr} {sl14 : Array (Option Value)} {oc14 kV14 dc14 pm14 cd14 ct14 : Value} (a14 : PySem.W.nsIn K mainGlobals "_law_touch_made" = some (some (.ref f14))) (l14 : K.lookup f14 = some ⟨oc14, od14, .func (PySem.W.fnOf "_law_touch_made" "_law_touch_made" (defArgs s__law_touch_made) (defBody s__law_touch_made) (defScope s__law_touch_made) .none kV14 dc14 pm14 an14 cd14 ct14), sl14⟩) (c14 : PySem.W.codeIn K cd14 "_law_touch_made" = true) (k14 : PySem.W.keepIn K (.ref f14) = true)
    {f15 : Addr} {od15 an15 : Option Addr} {sl15 : Array (Option Value)} {oc15 kV15 dc15 pm15 cd15 ct15 : Value} (a15 : PySem.W.nsIn K mainGlobals "_law_between" = some (some (.ref f15))) (l15 : K.lookup f15 = some ⟨oc15, od15, .func (PySem.W.fnOf "_law_between" "_law_between" (defArgs s__law_between) (defBody s__law_between) (defScope s__law_between) .none kV15 dc15 pm15 an15 cd15 ct15), sl15⟩) (c15 : PySem.W.codeIn K cd15 "_law_between" = true) (k15 : PySem.W.keepIn K (.ref f15) = true)
    {f16 : Addr} {od16 an16 : Option Addr} {sl16 : Array (Option Value)} {oc16 kV16 dc16 pm16 cd16 ct16 : Value} (a16 : PySem.W.nsIn K mainGlobals "_law_lengths" = some (some (.ref f16))) (l16 : K.lookup f16 = some ⟨oc16, od16, .func (PySem.W.fnOf "_law_lengths" "_law_lengths" (defArgs s__law_lengths) (defBody s__law_lengths) (defScope s__law_lengths) .none kV16 dc16 pm16 an16 cd16 ct16), sl16⟩) (c16 : PySem.W.codeIn K cd16 "_law_lengths" = true) (k16 : PySem.W.keepIn K (.ref f16) = true)
    {f17 : Addr} {od17 an17 : Option Addr} {sl17 : Array (Option Value)} {oc17 kV17 dc17 pm17 cd17 ct17 : Value} (a17 : PySem.W.nsIn K mainGlobals "_law_line_lengths" = some (some (.ref f17))) (l17 : K.lookup f17 = some ⟨oc17, od17, .func (PySem.W.fnOf "_law_line_lengths" "_law_line_lengths" (defArgs s__law_line_lengths) (defBody s__law_line_lengths) (defScope s__law_line_lengths) .none kV17 dc17 pm17 an17 cd17 ct17), sl17⟩) (c17 : PySem.W.codeIn K cd17 "_law_line_lengths" = true) (k17 : PySem.W.keepIn K (.ref f17) = true)
    {f18 : Addr} {od18 an18 : Option Addr} {sl18 : Array (Option Value)} {oc18 kV18 dc18 pm18 cd18 ct18 : Value} (a18 : PySem.W.nsIn K mainGlobals "_law_lengths_made" = some (some (.ref f18))) (l18 : K.lookup f18 = some ⟨oc18, od18, .func (PySem.W.fnOf "_law_lengths_made" "_law_lengths_made" (defArgs s__law_lengths_made) (defBody s__law_lengths_made) (defScope s__law_lengths_made) .none kV18 dc18 pm18 an18 cd18 ct18), sl18⟩) (c18 : PySem.W.codeIn K cd18 "_law_lengths_made" = true) (k18 : PySem.W.keepIn K (.ref f18) = true)
    {f19 : Addr} {od19 an19 : Option Addr} {sl19 : Array (Option Value)} {oc19 kV19 dc19 pm19 cd19 ct19 : Value} (a19 : PySem.W.nsIn K mainGlobals "_law_putting_made" = some (some (.ref f19))) (l19 : K.lookup f19 = some ⟨oc19, od19, .func (PySem.W.fnOf "_law_putting_made" "_law_putting_made" (defArgs s__law_putting_made) (defBody s__law_putting_made) (defScope s__law_putting_made) .none kV19 dc19 pm19 an19 cd19 ct19), sl19⟩) (c19 : PySem.W.codeIn K cd19 "_law_putting_made" = true) (k19 : PySem.W.keepIn K (.ref f19) = true)
    {f20 : Addr} {od20 an20 : Option Addr} {sl20 : Array (Option Value)} {oc20 kV20 dc20 pm20 cd20 ct20 : Value} (a20 : PySem.W.nsIn K mainGlobals "_law_made" = some (some (.ref f20))) (l20 : K.lookup f20 = some ⟨oc20, od20, .func (PySem.W.fnOf "_law_made" "_law_made" (defArgs s__law_made) (defBody s__law_made) (defScope s__law_made) .none kV20 dc20 pm20 an20 cd20 ct20), sl20⟩) (c20 : PySem.W.codeIn K cd20 "_law_made" = true) (k20 : PySem.W.keepIn K (.ref f20) = true)
    {f21 : Addr} {od21 an21 : Option Addr} {sl21 : Array (Option Value)} {oc21 kV21 dc21 pm21 cd21 ct21 : Value} (a21 : PySem.W.nsIn K mainGlobals "number_in" = some (some (.ref f21))) (l21 : K.lookup f21 = some ⟨oc21, od21, .func (PySem.W.fnOf "number_in" "number_in" (defArgs s_number_in) (defBody s_number_in) (defScope s_number_in) .none kV21 dc21 pm21 an21 cd21 ct21), sl21⟩) (c21 : PySem.W.codeIn K cd21 "number_in" = true) (k21 : PySem.W.keepIn K (.ref f21) = true)
    {f22 : Addr} {od22 an22 : Option Addr} {sl22 : Array (Option Value)} {oc22 kV22 dc22 pm22 cd22 ct22 : Value} (a22 : PySem.W.nsIn K mainGlobals "one_number" = some (some (.ref f22))) (l22 : K.lookup f22 = some ⟨oc22, od22, .func (PySem.W.fnOf "one_number" "one_number" (defArgs s_one_number) (defBody s_one_number) (defScope s_one_number) .none kV22 dc22 pm22 an22 cd22 ct22), sl22⟩) (c22 : PySem.W.codeIn K cd22 "one_number" = true) (k22 : PySem.W.keepIn K (.ref f22) = true)
    {f23 : Addr} {od23 an23 : Option Addr} {sl23 : Array (Option Value)} {oc23 kV23 dc23 pm23 cd23 ct23 : Value} (a23 : PySem.W.nsIn K mainGlobals "common_factor" = some (some (.ref f23))) (l23 : K.lookup f23 = some ⟨oc23, od23, .func (PySem.W.fnOf "common_factor" "common_factor" (defArgs s_common_factor) (defBody s_common_factor) (defScope s_common_factor) .none kV23 dc23 pm23 an23 cd23 ct23), sl23⟩) (c23 : PySem.W.codeIn K cd23 "common_factor" = true) (k23 : PySem.W.keepIn K (.ref f23) = true)
    {f24 : Addr} {od24 an24 : Option Addr} {sl24 : Array (Option Value)} {oc24 kV24 dc24 pm24 cd24 ct24 : Value} (a24 : PySem.W.nsIn K mainGlobals "unit_of" = some (some (.ref f24))) (l24 : K.lookup f24 = some ⟨oc24, od24, .func (PySem.W.fnOf "unit_of" "unit_of" (defArgs s_unit_of) (defBody s_unit_of) (defScope s_unit_of) .none kV24 dc24 pm24 an24 cd24 ct24), sl24⟩) (c24 : PySem.W.codeIn K cd24 "unit_of" = true) (k24 : PySem.W.keepIn K (.ref f24) = true)
    {f25 : Addr} {od25 an25 : Option Addr} {sl25 : Array (Option Value)} {oc25 kV25 dc25 pm25 cd25 ct25 : Value} (a25 : PySem.W.nsIn K mainGlobals "amount_in" = some (some (.ref f25))) (l25 : K.lookup f25 = some ⟨oc25, od25, .func (PySem.W.fnOf "amount_in" "amount_in" (defArgs s_amount_in) (defBody s_amount_in) (defScope s_amount_in) .none kV25 dc25 pm25 an25 cd25 ct25), sl25⟩) (c25 : PySem.W.codeIn K cd25 "amount_in" = true) (k25 : PySem.W.keepIn K (.ref f25) = true)
    {f26 : Addr} {od26 an26 : Option Addr} {sl26 : Array (Option Value)} {oc26 kV26 dc26 pm26 cd26 ct26 : Value} (a26 : PySem.W.nsIn K mainGlobals "amounts_in" = some (some (.ref f26))) (l26 : K.lookup f26 = some ⟨oc26, od26, .func (PySem.W.fnOf "amounts_in" "amounts_in" (defArgs s_amounts_in) (defBody s_amounts_in) (defScope s_amounts_in) .none kV26 dc26 pm26 an26 cd26 ct26), sl26⟩) (c26 : PySem.W.codeIn K cd26 "amounts_in" = true) (k26 : PySem.W.keepIn K (.ref f26) = true)
    {f27 : Addr} {od27 an27 : Option Addr} {sl27 : Array (Option Value)} {oc27 kV27 dc27 pm27 cd27 ct27 : Value} (a27 : PySem.W.nsIn K mainGlobals "whole_by" = some (some (.ref f27))) (l27 : K.lookup f27 = some ⟨oc27, od27, .func (PySem.W.fnOf "whole_by" "whole_by" (defArgs s_whole_by) (defBody s_whole_by) (defScope s_whole_by) .none kV27 dc27 pm27 an27 cd27 ct27), sl27⟩) (c27 : PySem.W.codeIn K cd27 "whole_by" = true) (k27 : PySem.W.keepIn K (.ref f27) = true)
    {f28 : Addr} {od28 an28 : Option Addr} {sl28 : Array (Option Value)} {oc28 kV28 dc28 pm28 cd28 ct28 : Value} (a28 : PySem.W.nsIn K mainGlobals "numbers_in" = some (some (.ref f28))) (l28 : K.lookup f28 = some ⟨oc28, od28, .func (PySem.W.fnOf "numbers_in" "numbers_in" (defArgs s_numbers_in) (defBody s_numbers_in) (defScope s_numbers_in) .none kV28 dc28 pm28 an28 cd28 ct28), sl28⟩) (c28 : PySem.W.codeIn K cd28 "numbers_in" = true) (k28 : PySem.W.keepIn K (.ref f28) = true)
    {f29 : Addr} {od29 an29 : Option Addr} {sl29 : Array (Option Value)} {oc29 kV29 dc29 pm29 cd29 ct29 : Value} (a29 : PySem.W.nsIn K mainGlobals "read_cover" = some (some (.ref f29))) (l29 : K.lookup f29 = some ⟨oc29, od29, .func (PySem.W.fnOf "read_cover" "read_cover" (defArgs s_read_cover) (defBody s_read_cover) (defScope s_read_cover) .none kV29 dc29 pm29 an29 cd29 ct29), sl29⟩) (c29 : PySem.W.codeIn K cd29 "read_cover" = true) (k29 : PySem.W.keepIn K (.ref f29) = true)
    {f30 : Addr} {od30 an30 : Option Addr} {sl30 : Array (Option Value)} {oc30 kV30 dc30 pm30 cd30 ct30 : Value} (a30 : PySem.W.nsIn K mainGlobals "read_touch" = some (some (.ref f30))) (l30 : K.lookup f30 = some ⟨oc30, od30, .func (PySem.W.fnOf "read_touch" "read_touch" (defArgs s_read_touch) (defBody s_read_touch) (defScope s_read_touch) .none kV30 dc30 pm30 an30 cd30 ct30), sl30⟩) (c30 : PySem.W.codeIn K cd30 "read_touch" = true) (k30 : PySem.W.keepIn K (.ref f30) = true)
    {f31 : Addr} {od31 an31 : Option Addr} {sl31 : Array (Option Value)} {oc31 kV31 dc31 pm31 cd31 ct31 : Value} (a31 : PySem.W.nsIn K mainGlobals "whole_lengths" = some (some (.ref f31))) (l31 : K.lookup f31 = some ⟨oc31, od31, .func (PySem.W.fnOf "whole_lengths" "whole_lengths" (defArgs s_whole_lengths) (defBody s_whole_lengths) (defScope s_whole_lengths) .none kV31 dc31 pm31 an31 cd31 ct31), sl31⟩) (c31 : PySem.W.codeIn K cd31 "whole_lengths" = true) (k31 : PySem.W.keepIn K (.ref f31) = true)
    {f32 : Addr} {od32 an32 : Option Addr} {sl32 : Array (Option Value)} {oc32 kV32 dc32 pm32 cd32 ct32 : Value} (a32 : PySem.W.nsIn K mainGlobals "alike_both_ways" = some (some (.ref f32))) (l32 : K.lookup f32 = some ⟨oc32, od32, .func (PySem.W.fnOf "alike_both_ways" "alike_both_ways" (defArgs s_alike_both_ways) (defBody s_alike_both_ways) (defScope s_alike_both_ways) .none kV32 dc32 pm32 an32 cd32 ct32), sl32⟩) (c32 : PySem.W.codeIn K cd32 "alike_both_ways" = true) (k32 : PySem.W.keepIn K (.ref f32) = true)
    {f33 : Addr} {od33 an33 : Option Addr} {sl33 : Array (Option Value)} {oc33 kV33 dc33 pm33 cd33 ct33 : Value} (a33 : PySem.W.nsIn K mainGlobals "straight_is_least" = some (some (.ref f33))) (l33 : K.lookup f33 = some ⟨oc33, od33, .func (PySem.W.fnOf "straight_is_least" "straight_is_least" (defArgs s_straight_is_least) (defBody s_straight_is_least) (defScope s_straight_is_least) .none kV33 dc33 pm33 an33 cd33 ct33), sl33⟩) (c33 : PySem.W.codeIn K cd33 "straight_is_least" = true) (k33 : PySem.W.keepIn K (.ref f33) = true)
    {f34 : Addr} {od34 an34 : Option Addr} {sl34 : Array (Option Value)} {oc34 kV34 dc34 pm34 cd34 ct34 : Value} (a34 : PySem.W.nsIn K mainGlobals "look_at" = some (some (.ref f34))) (l34 : K.lookup f34 = some ⟨oc34, od34, .func (PySem.W.fnOf "look_at" "look_at" (defArgs s_look_at) (defBody s_look_at) (defScope s_look_at) .none kV34 dc34 pm34 an34 cd34 ct34), sl34⟩) (c34 : PySem.W.codeIn K cd34 "look_at" = true) (k34 : PySem.W.keepIn K (.ref f34) = true)
    {f35 : Addr} {od35 an35 : Option Addr} {sl35 : Array (Option Value)} {oc35 kV35 dc35 pm35 cd35 ct35 : Value} (a35 : PySem.W.nsIn K mainGlobals "read_lengths" = some (some (.ref f35))) (l35 : K.lookup f35 = some ⟨oc35, od35, .func (PySem.W.fnOf "read_lengths" "read_lengths" (defArgs s_read_lengths) (defBody s_read_lengths) (defScope s_read_lengths) .none kV35 dc35 pm35 an35 cd35 ct35), sl35⟩) (c35 : PySem.W.codeIn K cd35 "read_lengths" = true) (k35 : PySem.W.keepIn K (.ref f35) = true)
    {f36 : Addr} {od36 an36 : Option Addr} {sl36 : Array (Option Value)} {oc36 kV36 dc36 pm36 cd36 ct36 : Value} (a36 : PySem.W.nsIn K mainGlobals "read_round" = some (some (.ref f36))) (l36 : K.lookup f36 = some ⟨oc36, od36, .func (PySem.W.fnOf "read_round" "read_round" (defArgs s_read_round) (defBody s_read_round) (defScope s_read_round) .none kV36 dc36 pm36 an36 cd36 ct36), sl36⟩) (c36 : PySem.W.codeIn K cd36 "read_round" = true) (k36 : PySem.W.keepIn K (.ref f36) = true)
    {f37 : Addr} {od37 an37 : Option Addr} {sl37 : Array (Option Value)} {oc37 kV37 dc37 pm37 cd37 ct37 : Value} (a37 : PySem.W.nsIn K mainGlobals "read_places" = some (some (.ref f37))) (l37 : K.lookup f37 = some ⟨oc37, od37, .func (PySem.W.fnOf "read_places" "read_places" (defArgs s_read_places) (defBody s_read_places) (defScope s_read_places) .none kV37 dc37 pm37 an37 cd37 ct37), sl37⟩) (c37 : PySem.W.codeIn K cd37 "read_places" = true) (k37 : PySem.W.keepIn K (.ref f37) = true)
    {f38 : Addr} {od38 an38 : Option Addr} {sl38 : Array (Option Value)} {oc38 kV38 dc38 pm38 cd38 ct38 : Value} (a38 : PySem.W.nsIn K mainGlobals "no_line_behind" = some (some (.ref f38))) (l38 : K.lookup f38 = some ⟨oc38, od38, .func (PySem.W.fnOf "no_line_behind" "no_line_behind" (defArgs s_no_line_behind) (defBody s_no_line_behind) (defScope s_no_line_behind) .none kV38 dc38 pm38 an38 cd38 ct38), sl38⟩) (c38 : PySem.W.codeIn K cd38 "no_line_behind" = true) (k38 : PySem.W.keepIn K (.ref f38) = true)
    {f39 : Addr} {od39 an39 : Option Addr} {sl39 : Array (Option Value)} {oc39 kV39 dc39 pm39 cd39 ct39 : Value} (a39 : PySem.W.nsIn K mainGlobals "read_benches" = some (some (.ref f39))) (l39 : K.lookup f39 = some ⟨oc39, od39, .func (PySem.W.fnOf "read_benches" "read_benches" (defArgs s_read_benches) (defBody s_read_benches) (defScope s_read_benches) .none kV39 dc39 pm39 an39 cd39 ct39), sl39⟩) (c39 : PySem.W.codeIn K cd39 "read_benches" = true) (k39 : PySem.W.keepIn K (.ref f39) = true)
    {f40 : Addr} {od40 an40 : Option Addr} {sl40 : Array (Option Value)} {oc40 kV40 dc40 pm40 cd40 ct40 : Value} (a40 : PySem.W.nsIn K mainGlobals "look_at_sizes" = some (some (.ref f40))) (l40 : K.lookup f40 = some ⟨oc40, od40, .func (PySem.W.fnOf "look_at_sizes" "look_at_sizes" (defArgs s_look_at_sizes) (defBody s_look_at_sizes) (defScope s_look_at_sizes) .none kV40 dc40 pm40 an40 cd40 ct40), sl40⟩) (c40 : PySem.W.codeIn K cd40 "look_at_sizes" = true) (k40 : PySem.W.keepIn K (.ref f40) = true)
    {f41 : Addr} {od41 an41 : Option Addr} {sl41 : Array (Option Value)} {oc41 kV41 dc41 pm41 cd41 ct41 : Value} (a41 : PySem.W.nsIn K mainGlobals "read_bins" = some (some (.ref f41))) (l41 : K.lookup f41 = some ⟨oc41, od41, .func (PySem.W.fnOf "read_bins" "read_bins" (defArgs s_read_bins) (defBody s_read_bins) (defScope s_read_bins) .none kV41 dc41 pm41 an41 cd41 ct41), sl41⟩) (c41 : PySem.W.codeIn K cd41 "read_bins" = true) (k41 : PySem.W.keepIn K (.ref f41) = true)
    {f42 : Addr} {od42 an42 : Option Addr} {sl42 : Array (Option Value)} {oc42 kV42 dc42 pm42 cd42 ct42 : Value} (a42 : PySem.W.nsIn K mainGlobals "read_sack" = some (some (.ref f42))) (l42 : K.lookup f42 = some ⟨oc42, od42, .func (PySem.W.fnOf "read_sack" "read_sack" (defArgs s_read_sack) (defBody s_read_sack) (defScope s_read_sack) .none kV42 dc42 pm42 an42 cd42 ct42), sl42⟩) (c42 : PySem.W.codeIn K cd42 "read_sack" = true) (k42 : PySem.W.keepIn K (.ref f42) = true)
    {f43 : Addr} {od43 an43 : Option Addr} {sl43 : Array (Option Value)} {oc43 kV43 dc43 pm43 cd43 ct43 : Value} (a43 : PySem.W.nsIn K mainGlobals "read_kind" = some (some (.ref f43))) (l43 : K.lookup f43 = some ⟨oc43, od43, .func (PySem.W.fnOf "read_kind" "read_kind" (defArgs s_read_kind) (defBody s_read_kind) (defScope s_read_kind) .none kV43 dc43 pm43 an43 cd43 ct43), sl43⟩) (c43 : PySem.W.codeIn K cd43 "read_kind" = true) (k43 : PySem.W.keepIn K (.ref f43) = true)
    {f44 : Addr} {od44 an44 : Option Addr} {sl44 : Array (Option Value)} {oc44 kV44 dc44 pm44 cd44 ct44 : Value} (a44 : PySem.W.nsIn K mainGlobals "read" = some (some (.ref f44))) (l44 : K.lookup f44 = some ⟨oc44, od44, .func (PySem.W.fnOf "read" "read" (defArgs s_read) (defBody s_read) (defScope s_read) .none kV44 dc44 pm44 an44 cd44 ct44), sl44⟩) (c44 : PySem.W.codeIn K cd44 "read" = true) (k44 : PySem.W.keepIn K (.ref f44) = true)
    {f45 : Addr} {od45 an45 : Option Addr} {sl45 : Array (Option Value)} {oc45 kV45 dc45 pm45 cd45 ct45 : Value} (a45 : PySem.W.nsIn K mainGlobals "_law_alike" = some (some (.ref f45))) (l45 : K.lookup f45 = some ⟨oc45, od45, .func (PySem.W.fnOf "_law_alike" "_law_alike" (defArgs s__law_alike) (defBody s__law_alike) (defScope s__law_alike) .none kV45 dc45 pm45 an45 cd45 ct45), sl45⟩) (c45 : PySem.W.codeIn K cd45 "_law_alike" = true) (k45 : PySem.W.keepIn K (.ref f45) = true)
    {f46 : Addr} {od46 an46 : Option Addr} {sl46 : Array (Option Value)} {oc46 kV46 dc46 pm46 cd46 ct46 : Value} (a46 : PySem.W.nsIn K mainGlobals "law" = some (some (.ref f46))) (l46 : K.lookup f46 = some ⟨oc46, od46, .func (PySem.W.fnOf "law" "law" (defArgs s_law) (defBody s_law) (defScope s_law) .none kV46 dc46 pm46 an46 cd46 ct46), sl46⟩) (c46 : PySem.W.codeIn K cd46 "law" = true) (k46 : PySem.W.keepIn K (.ref f46) = true)
    (z_abs : PySem.W.nsIn K mainGlobals "abs" = some none)
    (z_bool : PySem.W.nsIn K mainGlobals "bool" = some none)
    (z_enumerate : PySem.W.nsIn K mainGlobals "enumerate" = some none)
    (z_int : PySem.W.nsIn K mainGlobals "int" = some none)
    (z_isinstance : PySem.W.nsIn K mainGlobals "isinstance" = some none)
    (z_len : PySem.W.nsIn K mainGlobals "len" = some none)
    (z_list : PySem.W.nsIn K mainGlobals "list" = some none)
    (z_max : PySem.W.nsIn K mainGlobals "max" = some none)
    (z_min : PySem.W.nsIn K mainGlobals "min" = some none)
    (z_range : PySem.W.nsIn K mainGlobals "range" = some none)
    (z_str : PySem.W.nsIn K mainGlobals "str" = some none)
    (z_tuple : PySem.W.nsIn K mainGlobals "tuple" = some none)
    (z_zip : PySem.W.nsIn K mainGlobals "zip" = some none)
    {tk_FIGURES : Tok} (zv_FIGURES : PySem.W.nsIn K mainGlobals "FIGURES" = some (some (.str (Str.ofString "0123456789") tk_FIGURES)))
    {tk_MOST_BENCHES : Tok} (zv_MOST_BENCHES : PySem.W.nsIn K mainGlobals "MOST_BENCHES" = some (some (.int 20 tk_MOST_BENCHES)))
    {tk_MOST_LINES : Tok} (zv_MOST_LINES : PySem.W.nsIn K mainGlobals "MOST_LINES" = some (some (.int 80 tk_MOST_LINES)))
    {tk_MOST_PLACES : Tok} (zv_MOST_PLACES : PySem.W.nsIn K mainGlobals "MOST_PLACES" = some (some (.int 12 tk_MOST_PLACES)))
    {tk_MOST_THINGS : Tok} (zv_MOST_THINGS : PySem.W.nsIn K mainGlobals "MOST_THINGS" = some (some (.int 40 tk_MOST_THINGS)))
    : ∃ fd : FuncData, (∀ (s : Shared) (v : Value), BindsTo s fd ⟨[v], []⟩ [("_law_script", v)]) ∧ ∀ base : Heap, K.In base → base.Ns mainGlobals mg → FnOk l.prog w K mg base CX0 11 fa fd ["_law_script"] (spLaw K) := by
  have e := hfa.symm.trans (PySem.W.mg_of X G a46)
  cases e
  have T : Txt mg := ⟨PySem.W.mg_none_of X G z_abs, PySem.W.mg_none_of X G z_bool, PySem.W.mg_none_of X G z_enumerate, PySem.W.mg_none_of X G z_int, PySem.W.mg_none_of X G z_isinstance, PySem.W.mg_none_of X G z_len, PySem.W.mg_none_of X G z_list, PySem.W.mg_none_of X G z_max, PySem.W.mg_none_of X G z_min, PySem.W.mg_none_of X G z_range, PySem.W.mg_none_of X G z_str, PySem.W.mg_none_of X G z_tuple, PySem.W.mg_none_of X G z_zip, ⟨tk_FIGURES, PySem.W.mg_of X G zv_FIGURES⟩, ⟨tk_MOST_BENCHES, PySem.W.mg_of X G zv_MOST_BENCHES⟩, ⟨tk_MOST_LINES, PySem.W.mg_of X G zv_MOST_LINES⟩, ⟨tk_MOST_PLACES, PySem.W.mg_of X G zv_MOST_PLACES⟩, ⟨tk_MOST_THINGS, PySem.W.mg_of X G zv_MOST_THINGS⟩⟩
  refine ⟨PySem.W.fnOf "law" "law" (defArgs s_law) (defBody s_law) (defScope s_law) .none kV46 dc46 pm46 an46 cd46 ct46, fun s v => .of_eq rfl, fun base _ _ => ?_⟩
  have F0 := fun_mk (st := s__law_number) l0 c0 k0
  have C0 := ok__law_number (P := l.prog) (w := w) (base := base) F0 T  (PySem.W.mg_of X G a0) (F0.binds (ps := ["_law_cell", "_law_k"]) fun _ _ _ _ _ _ us hl => match us, hl with | [_, _], _ => rfl)
  have F1 := fun_mk (st := s__law_divisor) l1 c1 k1
  have C1 := ok__law_divisor (P := l.prog) (w := w) (base := base) F1 T  (PySem.W.mg_of X G a1) (F1.binds (ps := ["_law_one", "_law_other"]) fun _ _ _ _ _ _ us hl => match us, hl with | [_, _], _ => rfl)
  have F2 := fun_mk (st := s__law_parts) l2 c2 k2
  have C2 := ok__law_parts (P := l.prog) (w := w) (base := base) F2 T C1 C0 (PySem.W.mg_of X G a2) (F2.binds (ps := ["_law_cell", "_law_k"]) fun _ _ _ _ _ _ us hl => match us, hl with | [_, _], _ => rfl)
  have F3 := fun_mk (st := s__law_unit) l3 c3 k3
  have C3 := ok__law_unit (P := l.prog) (w := w) (base := base) F3 T C1 (PySem.W.mg_of X G a3) (F3.binds (ps := ["_law_amounts"]) fun _ _ _ _ _ _ us hl => match us, hl with | [_], _ => rfl)
  have F4 := fun_mk (st := s__law_above) l4 c4 k4
  have C4 := ok__law_above (P := l.prog) (w := w) (base := base) F4 T  (PySem.W.mg_of X G a4) (F4.binds (ps := ["_law_one"]) fun _ _ _ _ _ _ us hl => match us, hl with | [_], _ => rfl)
  have F5 := fun_mk (st := s__law_written) l5 c5 k5
  have C5 := ok__law_written (P := l.prog) (w := w) (base := base) F5 T  (PySem.W.mg_of X G a5) (F5.binds (ps := ["_law_one"]) fun _ _ _ _ _ _ us hl => match us, hl with | [_], _ => rfl)
  have F6 := fun_mk (st := s__law_wholes) l6 c6 k6
  have C6 := ok__law_wholes (P := l.prog) (w := w) (base := base) F6 T  (PySem.W.mg_of X G a6) (F6.binds (ps := ["_law_amounts", "_law_unit_here"]) fun _ _ _ _ _ _ us hl => match us, hl with | [_, _], _ => rfl)
  have F7 := fun_mk (st := s__law_sack_made) l7 c7 k7
  have C7 := ok__law_sack_made (P := l.prog) (w := w) (base := base) F7 T C4 C2 C3 C6 C5 (PySem.W.mg_of X G a7) (F7.binds (ps := ["_law_cells", "_law_cell"]) fun _ _ _ _ _ _ us hl => match us, hl with | [_, _], _ => rfl)
  have F8 := fun_mk (st := s__law_bit) l8 c8 k8
  have C8 := ok__law_bit (P := l.prog) (w := w) (base := base) F8 T  (PySem.W.mg_of X G a8) (F8.binds (ps := ["_law_number_here", "_law_place"]) fun _ _ _ _ _ _ us hl => match us, hl with | [_, _], _ => rfl)
  have F9 := fun_mk (st := s__law_has) l9 c9 k9
  have C9 := ok__law_has (P := l.prog) (w := w) (base := base) F9 T C8 C0 (PySem.W.mg_of X G a9) (F9.binds (ps := ["_law_cell", "_law_k", "_law_thing"]) fun _ _ _ _ _ _ us hl => match us, hl with | [_, _, _], _ => rfl)
  have F10 := fun_mk (st := s__law_amount) l10 c10 k10
  have C10 := ok__law_amount (P := l.prog) (w := w) (base := base) F10 T C0 (PySem.W.mg_of X G a10) (F10.binds (ps := ["_law_cell", "_law_k"]) fun _ _ _ _ _ _ us hl => match us, hl with | [_, _], _ => rfl)
  have F11 := fun_mk (st := s__law_sets) l11 c11 k11
  have C11 := ok__law_sets (P := l.prog) (w := w) (base := base) F11 T C10 C9 (PySem.W.mg_of X G a11) (F11.binds (ps := ["_law_cells", "_law_many"]) fun _ _ _ _ _ _ us hl => match us, hl with | [_, _], _ => rfl)
  have F12 := fun_mk (st := s__law_cell_at) l12 c12 k12
  have C12 := ok__law_cell_at (P := l.prog) (w := w) (base := base) F12 T  (PySem.W.mg_of X G a12) (F12.binds (ps := ["_law_script", "_law_k"]) fun _ _ _ _ _ _ us hl => match us, hl with | [_, _], _ => rfl)
  have F13 := fun_mk (st := s__law_cover_made) l13 c13 k13
  have C13 := ok__law_cover_made (P := l.prog) (w := w) (base := base) F13 T C12 C2 C11 C3 C6 C5 (PySem.W.mg_of X G a13) (F13.binds (ps := ["_law_cells", "_law_cell"]) fun _ _ _ _ _ _ us hl => match us, hl with | [_, _], _ => rfl)
  have F14 := fun_mk (st := s__law_touch_made) l14 c14 k14
  have C14 := ok__law_touch_made (P := l.prog) (w := w) (base := base) F14 T C12 C0 C2 C3 C6 C5 (PySem.W.mg_of X G a14) (F14.binds (ps := ["_law_cells", "_law_cell"]) fun _ _ _ _ _ _ us hl => match us, hl with | [_, _], _ => rfl)
  have F15 := fun_mk (st := s__law_between) l15 c15 k15
  have C15 := ok__law_between (P := l.prog) (w := w) (base := base) F15 T  (PySem.W.mg_of X G a15) (F15.binds (ps := ["_law_spots", "_law_one", "_law_other", "_law_least"]) fun _ _ _ _ _ _ us hl => match us, hl with | [_, _, _, _], _ => rfl)
  have F16 := fun_mk (st := s__law_lengths) l16 c16 k16
  have C16 := ok__law_lengths (P := l.prog) (w := w) (base := base) F16 T C15 C12 C0 (PySem.W.mg_of X G a16) (F16.binds (ps := ["_law_cells", "_law_many", "_law_way"]) fun _ _ _ _ _ _ us hl => match us, hl with | [_, _, _], _ => rfl)
  have F17 := fun_mk (st := s__law_line_lengths) l17 c17 k17
  have C17 := ok__law_line_lengths (P := l.prog) (w := w) (base := base) F17 T C1 C16 (PySem.W.mg_of X G a17) (F17.binds (ps := ["_law_cells", "_law_many", "_law_cell"]) fun _ _ _ _ _ _ us hl => match us, hl with | [_, _, _], _ => rfl)
  have F18 := fun_mk (st := s__law_lengths_made) l18 c18 k18
  have C18 := ok__law_lengths_made (P := l.prog) (w := w) (base := base) F18 T C17 C3 C6 C5 (PySem.W.mg_of X G a18) (F18.binds (ps := ["_law_cells", "_law_cell", "_law_word"]) fun _ _ _ _ _ _ us hl => match us, hl with | [_, _, _], _ => rfl)
  have F19 := fun_mk (st := s__law_putting_made) l19 c19 k19
  have C19 := ok__law_putting_made (P := l.prog) (w := w) (base := base) F19 T C4 C2 C3 C6 C5 (PySem.W.mg_of X G a19) (F19.binds (ps := ["_law_cells", "_law_cell", "_law_word"]) fun _ _ _ _ _ _ us hl => match us, hl with | [_, _, _], _ => rfl)
  have F20 := fun_mk (st := s__law_made) l20 c20 k20
  have C20 := ok__law_made (P := l.prog) (w := w) (base := base) F20 T C13 C18 C19 C7 C14 (PySem.W.mg_of X G a20) (F20.binds (ps := ["_law_kind", "_law_cells", "_law_cell"]) fun _ _ _ _ _ _ us hl => match us, hl with | [_, _, _], _ => rfl)
  have F21 := fun_mk (st := s_number_in) l21 c21 k21
  have C21 := ok_number_in (P := l.prog) (w := w) (base := base) F21 T  (PySem.W.mg_of X G a21) (F21.binds (ps := ["text", "least", "most"]) fun _ _ _ _ _ _ us hl => match us, hl with | [_, _, _], _ => rfl)
  have F22 := fun_mk (st := s_one_number) l22 c22 k22
  have C22 := ok_one_number (P := l.prog) (w := w) (base := base) F22 T C21 (PySem.W.mg_of X G a22) (F22.binds (ps := ["words", "line", "most"]) fun _ _ _ _ _ _ us hl => match us, hl with | [_, _, _], _ => rfl)
  have F23 := fun_mk (st := s_common_factor) l23 c23 k23
  have C23 := ok_common_factor (P := l.prog) (w := w) (base := base) F23 T  (PySem.W.mg_of X G a23) (F23.binds (ps := ["high", "low"]) fun _ _ _ _ _ _ us hl => match us, hl with | [_, _], _ => rfl)
  have F24 := fun_mk (st := s_unit_of) l24 c24 k24
  have C24 := ok_unit_of (P := l.prog) (w := w) (base := base) F24 T C23 (PySem.W.mg_of X G a24) (F24.binds (ps := ["amounts"]) fun _ _ _ _ _ _ us hl => match us, hl with | [_], _ => rfl)
  have F25 := fun_mk (st := s_amount_in) l25 c25 k25
  have C25 := ok_amount_in (P := l.prog) (w := w) (base := base) F25 T C23 C21 (PySem.W.mg_of X G a25) (F25.binds (ps := ["text"]) fun _ _ _ _ _ _ us hl => match us, hl with | [_], _ => rfl)
  have F26 := fun_mk (st := s_amounts_in) l26 c26 k26
  have C26 := ok_amounts_in (P := l.prog) (w := w) (base := base) F26 T C25 (PySem.W.mg_of X G a26) (F26.binds (ps := ["words", "line", "least"]) fun _ _ _ _ _ _ us hl => match us, hl with | [_, _, _], _ => rfl)
  have F27 := fun_mk (st := s_whole_by) l27 c27 k27
  have C27 := ok_whole_by (P := l.prog) (w := w) (base := base) F27 T  (PySem.W.mg_of X G a27) (F27.binds (ps := ["one", "unit"]) fun _ _ _ _ _ _ us hl => match us, hl with | [_, _], _ => rfl)
  have F28 := fun_mk (st := s_numbers_in) l28 c28 k28
  have C28 := ok_numbers_in (P := l.prog) (w := w) (base := base) F28 T C21 (PySem.W.mg_of X G a28) (F28.binds (ps := ["words", "line", "most"]) fun _ _ _ _ _ _ us hl => match us, hl with | [_, _, _], _ => rfl)
  have F29 := fun_mk (st := s_read_cover) l29 c29 k29
  have C29 := ok_read_cover (P := l.prog) (w := w) (base := base) F29 T C26 C28 C22 C24 C27 (PySem.W.mg_of X G a29) (F29.binds (ps := ["rows"]) fun _ _ _ _ _ _ us hl => match us, hl with | [_], _ => rfl)
  have F30 := fun_mk (st := s_read_touch) l30 c30 k30
  have C30 := ok_read_touch (P := l.prog) (w := w) (base := base) F30 T C26 C28 C24 C27 (PySem.W.mg_of X G a30) (F30.binds (ps := ["rows"]) fun _ _ _ _ _ _ us hl => match us, hl with | [_], _ => rfl)
  have F31 := fun_mk (st := s_whole_lengths) l31 c31 k31
  have C31 := ok_whole_lengths (P := l.prog) (w := w) (base := base) F31 T C24 C27 (PySem.W.mg_of X G a31) (F31.binds (ps := ["table"]) fun _ _ _ _ _ _ us hl => match us, hl with | [_], _ => rfl)
  have F32 := fun_mk (st := s_alike_both_ways) l32 c32 k32
  have C32 := ok_alike_both_ways (P := l.prog) (w := w) (base := base) F32 T  (PySem.W.mg_of X G a32) (F32.binds (ps := ["lengths", "one", "other"]) fun _ _ _ _ _ _ us hl => match us, hl with | [_, _, _], _ => rfl)
  have F33 := fun_mk (st := s_straight_is_least) l33 c33 k33
  have C33 := ok_straight_is_least (P := l.prog) (w := w) (base := base) F33 T  (PySem.W.mg_of X G a33) (F33.binds (ps := ["lengths", "one", "other"]) fun _ _ _ _ _ _ us hl => match us, hl with | [_, _, _], _ => rfl)
  have F34 := fun_mk (st := s_look_at) l34 c34 k34
  have C34 := ok_look_at (P := l.prog) (w := w) (base := base) F34 T C32 C33 (PySem.W.mg_of X G a34) (F34.binds (ps := ["lengths"]) fun _ _ _ _ _ _ us hl => match us, hl with | [_], _ => rfl)
  have F35 := fun_mk (st := s_read_lengths) l35 c35 k35
  have C35 := ok_read_lengths (P := l.prog) (w := w) (base := base) F35 T C26 (PySem.W.mg_of X G a35) (F35.binds (ps := ["rows"]) fun _ _ _ _ _ _ us hl => match us, hl with | [_], _ => rfl)
  have F36 := fun_mk (st := s_read_round) l36 c36 k36
  have C36 := ok_read_round (P := l.prog) (w := w) (base := base) F36 T C34 C35 C31 (PySem.W.mg_of X G a36) (F36.binds (ps := ["rows"]) fun _ _ _ _ _ _ us hl => match us, hl with | [_], _ => rfl)
  have F37 := fun_mk (st := s_read_places) l37 c37 k37
  have C37 := ok_read_places (P := l.prog) (w := w) (base := base) F37 T C34 C22 C35 C31 (PySem.W.mg_of X G a37) (F37.binds (ps := ["rows"]) fun _ _ _ _ _ _ us hl => match us, hl with | [_], _ => rfl)
  have F38 := fun_mk (st := s_no_line_behind) l38 c38 k38
  have C38 := ok_no_line_behind (P := l.prog) (w := w) (base := base) F38 T  (PySem.W.mg_of X G a38) (F38.binds (ps := ["rows", "most"]) fun _ _ _ _ _ _ us hl => match us, hl with | [_, _], _ => rfl)
  have F39 := fun_mk (st := s_read_benches) l39 c39 k39
  have C39 := ok_read_benches (P := l.prog) (w := w) (base := base) F39 T C26 C38 C22 C24 C27 (PySem.W.mg_of X G a39) (F39.binds (ps := ["rows"]) fun _ _ _ _ _ _ us hl => match us, hl with | [_], _ => rfl)
  have F40 := fun_mk (st := s_look_at_sizes) l40 c40 k40
  have C40 := ok_look_at_sizes (P := l.prog) (w := w) (base := base) F40 T  (PySem.W.mg_of X G a40) (F40.binds (ps := ["sizes", "room"]) fun _ _ _ _ _ _ us hl => match us, hl with | [_, _], _ => rfl)
  have F41 := fun_mk (st := s_read_bins) l41 c41 k41
  have C41 := ok_read_bins (P := l.prog) (w := w) (base := base) F41 T C26 C40 C38 C24 C27 (PySem.W.mg_of X G a41) (F41.binds (ps := ["rows"]) fun _ _ _ _ _ _ us hl => match us, hl with | [_], _ => rfl)
  have F42 := fun_mk (st := s_read_sack) l42 c42 k42
  have C42 := ok_read_sack (P := l.prog) (w := w) (base := base) F42 T C26 C24 C27 (PySem.W.mg_of X G a42) (F42.binds (ps := ["rows"]) fun _ _ _ _ _ _ us hl => match us, hl with | [_], _ => rfl)
  have F43 := fun_mk (st := s_read_kind) l43 c43 k43
  have C43 := ok_read_kind (P := l.prog) (w := w) (base := base) F43 T C39 C41 C29 C37 C36 C42 C30 (PySem.W.mg_of X G a43) (F43.binds (ps := ["kind", "rows"]) fun _ _ _ _ _ _ us hl => match us, hl with | [_, _], _ => rfl)
  have F44 := fun_mk (st := s_read) l44 c44 k44
  have C44 := ok_read (P := l.prog) (w := w) (base := base) F44 T C43 (PySem.W.mg_of X G a44) (F44.binds (ps := ["text"]) fun _ _ _ _ _ _ us hl => match us, hl with | [_], _ => rfl)
  have F45 := fun_mk (st := s__law_alike) l45 c45 k45
  have C45 := ok__law_alike (P := l.prog) (w := w) (base := base) F45 T  (PySem.W.mg_of X G a45) (F45.binds (ps := ["_law_found", "_law_due"]) fun _ _ _ _ _ _ us hl => match us, hl with | [_, _], _ => rfl) 9
  have F46 := fun_mk (st := s_law) l46 c46 k46
  exact ok_law F46 T C45 C12 C20 C0 C44 holds
end Wk
open PySem PySem.W PyProof.Rows
set_option maxRecDepth 100000 in
set_option maxHeartbeats 0 in
theorem PySem.Challenge.cw_goodenough_k52_texts_read_holds : PySem.Challenge.rw_goodenough_k52_texts_read.Holds := by
  w_on; o_law; k_head; (case hw => w_witness2)
  k_fill
  refine L2.walk_of (l := PySem.Challenge.rw_goodenough_k52_texts_read) (n := 63) (k := 11) (x := "_law_script") (CX := fun _ => L2.CX0) (sp := fun w => GM.spLaw _) rfl (by decide) rfl ⟨rfl, by decide, by decide⟩ (fun w h Y => PySem.W.kIn_of Y) ?F (fun _ _ a ns hl _ hS => ⟨a, ns, rfl, hS, hl, fun _ => rfl⟩) (fun _ _ _ _ _ h => h)
  case F =>
    intro w mg fa h KX G hmg
    refine' Wk.all_mk KX G hmg M.law_holds ?a0 ?l0 ?c0 ?k0 ?a1 ?l1 ?c1 ?k1 ?a2 ?l2 ?c2 ?k2 ?a3 ?l3 ?c3 ?k3 ?a4 ?l4 ?c4 ?k4 ?a5 ?l5 ?c5 ?k5 ?a6 ?l6 ?c6 ?k6 ?a7 ?l7 ?c7 ?k7 ?a8 ?l8 ?c8 ?k8 ?a9 ?l9 ?c9 ?k9 ?a10 ?l10 ?c10 ?k10 ?a11 ?l11 ?c11 ?k11 ?a12 ?l12 ?c12 ?k12 ?a13 ?l13 ?c13 ?k13 ?a14 ?l14 ?c14 ?k14 ?a15 ?l15 ?c15 ?k15 ?a16 ?l16 ?c16 ?k16 ?a17 ?l17 ?c17 ?k17 ?a18 ?l18 ?c18 ?k18 ?a19 ?l19 ?c19 ?k19 ?a20 ?l20 ?c20 ?k20 ?a21 ?l21 ?c21 ?k21 ?a22 ?l22 ?c22 ?k22 ?a23 ?l23 ?c23 ?k23 ?a24 ?l24 ?c24 ?k24 ?a25 ?l25 ?c25 ?k25 ?a26 ?l26 ?c26 ?k26 ?a27 ?l27 ?c27 ?k27 ?a28 ?l28 ?c28 ?k28 ?a29 ?l29 ?c29 ?k29 ?a30 ?l30 ?c30 ?k30 ?a31 ?l31 ?c31 ?k31 ?a32 ?l32 ?c32 ?k32 ?a33 ?l33 ?c33 ?k33 ?a34 ?l34 ?c34 ?k34 ?a35 ?l35 ?c35 ?k35 ?a36 ?l36 ?c36 ?k36 ?a37 ?l37 ?c37 ?k37 ?a38 ?l38 ?c38 ?k38 ?a39 ?l39 ?c39 ?k39 ?a40 ?l40 ?c40 ?k40 ?a41 ?l41 ?c41 ?k41 ?a42 ?l42 ?c42 ?k42 ?a43 ?l43 ?c43 ?k43 ?a44 ?l44 ?c44 ?k44 ?a45 ?l45 ?c45 ?k45 ?a46 ?l46 ?c46 ?k46 ?z_abs ?z_bool ?z_enumerate ?z_int ?z_isinstance ?z_len ?z_list ?z_max ?z_min ?z_range ?z_str ?z_tuple ?z_zip ?zv_FIGURES ?zv_MOST_BENCHES ?zv_MOST_LINES ?zv_MOST_PLACES ?zv_MOST_THINGS
    (case a0 => k_is)
    (case l0 => k_is)
    (case c0 => k_is)
    (case k0 => k_is)
    (case a1 => k_is)
    (case l1 => k_is)
    (case c1 => k_is)
    (case k1 => k_is)
    (case a2 => k_is)
    (case l2 => k_is)
    (case c2 => k_is)
    (case k2 => k_is)
    (case a3 => k_is)
    (case l3 => k_is)
    (case c3 => k_is)
    (case k3 => k_is)
    (case a4 => k_is)
    (case l4 => k_is)
    (case c4 => k_is)
    (case k4 => k_is)
    (case a5 => k_is)
    (case l5 => k_is)
    (case c5 => k_is)
    (case k5 => k_is)
    (case a6 => k_is)
    (case l6 => k_is)
    (case c6 => k_is)
    (case k6 => k_is)
    (case a7 => k_is)
    (case l7 => k_is)
    (case c7 => k_is)
    (case k7 => k_is)
    (case a8 => k_is)
    (case l8 => k_is)
    (case c8 => k_is)
    (case k8 => k_is)
    (case a9 => k_is)
    (case l9 => k_is)
    (case c9 => k_is)
    (case k9 => k_is)
    (case a10 => k_is)
    (case l10 => k_is)
    (case c10 => k_is)
    (case k10 => k_is)
    (case a11 => k_is)
    (case l11 => k_is)
    (case c11 => k_is)
    (case k11 => k_is)
    (case a12 => k_is)
    (case l12 => k_is)
    (case c12 => k_is)
    (case k12 => k_is)
    (case a13 => k_is)
    (case l13 => k_is)
    (case c13 => k_is)
    (case k13 => k_is)
    (case a14 => k_is)
    (case l14 => k_is)
    (case c14 => k_is)
    (case k14 => k_is)
    (case a15 => k_is)
    (case l15 => k_is)
    (case c15 => k_is)
    (case k15 => k_is)
    (case a16 => k_is)
    (case l16 => k_is)
    (case c16 => k_is)
    (case k16 => k_is)
    (case a17 => k_is)
    (case l17 => k_is)
    (case c17 => k_is)
    (case k17 => k_is)
    (case a18 => k_is)
    (case l18 => k_is)
    (case c18 => k_is)
    (case k18 => k_is)
    (case a19 => k_is)
    (case l19 => k_is)
    (case c19 => k_is)
    (case k19 => k_is)
    (case a20 => k_is)
    (case l20 => k_is)
    (case c20 => k_is)
    (case k20 => k_is)
    (case a21 => k_is)
    (case l21 => k_is)
    (case c21 => k_is)
    (case k21 => k_is)
    (case a22 => k_is)
    (case l22 => k_is)
    (case c22 => k_is)
    (case k22 => k_is)
    (case a23 => k_is)
    (case l23 => k_is)
    (case c23 => k_is)
    (case k23 => k_is)
    (case a24 => k_is)
    (case l24 => k_is)
    (case c24 => k_is)
    (case k24 => k_is)
    (case a25 => k_is)
    (case l25 => k_is)
    (case c25 => k_is)
    (case k25 => k_is)
    (case a26 => k_is)
    (case l26 => k_is)
    (case c26 => k_is)
    (case k26 => k_is)
    (case a27 => k_is)
    (case l27 => k_is)
    (case c27 => k_is)
    (case k27 => k_is)
    (case a28 => k_is)
    (case l28 => k_is)
    (case c28 => k_is)
    (case k28 => k_is)
    (case a29 => k_is)
    (case l29 => k_is)
    (case c29 => k_is)
    (case k29 => k_is)
    (case a30 => k_is)
    (case l30 => k_is)
    (case c30 => k_is)
    (case k30 => k_is)
    (case a31 => k_is)
    (case l31 => k_is)
    (case c31 => k_is)
    (case k31 => k_is)
    (case a32 => k_is)
    (case l32 => k_is)
    (case c32 => k_is)
    (case k32 => k_is)
    (case a33 => k_is)
    (case l33 => k_is)
    (case c33 => k_is)
    (case k33 => k_is)
    (case a34 => k_is)
    (case l34 => k_is)
    (case c34 => k_is)
    (case k34 => k_is)
    (case a35 => k_is)
    (case l35 => k_is)
    (case c35 => k_is)
    (case k35 => k_is)
    (case a36 => k_is)
    (case l36 => k_is)
    (case c36 => k_is)
    (case k36 => k_is)
    (case a37 => k_is)
    (case l37 => k_is)
    (case c37 => k_is)
    (case k37 => k_is)
    (case a38 => k_is)
    (case l38 => k_is)
    (case c38 => k_is)
    (case k38 => k_is)
    (case a39 => k_is)
    (case l39 => k_is)
    (case c39 => k_is)
    (case k39 => k_is)
    (case a40 => k_is)
    (case l40 => k_is)
    (case c40 => k_is)
    (case k40 => k_is)
    (case a41 => k_is)
    (case l41 => k_is)
    (case c41 => k_is)
    (case k41 => k_is)
    (case a42 => k_is)
    (case l42 => k_is)
    (case c42 => k_is)
    (case k42 => k_is)
    (case a43 => k_is)
    (case l43 => k_is)
    (case c43 => k_is)
    (case k43 => k_is)
    (case a44 => k_is)
    (case l44 => k_is)
    (case c44 => k_is)
    (case k44 => k_is)
    (case a45 => k_is)
    (case l45 => k_is)
    (case c45 => k_is)
    (case k45 => k_is)
    (case a46 => k_is)
    (case l46 => k_is)
    (case c46 => k_is)
    (case k46 => k_is)
    (case z_abs => k_is)
    (case z_bool => k_is)
    (case z_enumerate => k_is)
    (case z_int => k_is)
    (case z_isinstance => k_is)
    (case z_len => k_is)
    (case z_list => k_is)
    (case z_max => k_is)
    (case z_min => k_is)
    (case z_range => k_is)
    (case z_str => k_is)
    (case z_tuple => k_is)
    (case z_zip => k_is)
    (case zv_FIGURES => k_is)
    (case zv_MOST_BENCHES => k_is)
    (case zv_MOST_LINES => k_is)
    (case zv_MOST_PLACES => k_is)
    (case zv_MOST_THINGS => k_is)
