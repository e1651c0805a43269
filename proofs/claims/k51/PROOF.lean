import PyProof.Rows.All
import Wide.All
import OpenK.AllK
import Wide.FinOn
import HandS.ForMost
import HandS.Walk
import HandS.Wide
import HandS.SortInts
import HandS.SortRule
import HandS.SortKw
import HandS.IsInst
import HandS.Conv
import HandS.SetFor
import HandS.WideBits
import HandS.TryOnly
import HandS.Zip
import HandS.Dict
import HandS.Iter
import HandS.Style
import HandS.Deep
import KE.DatumOrd
import HandS.Exc
import HandS.ExcOwn
import HandS.ExcIs
import HandS.ExcValue
import HandS.WordsExc
import HandS.ExcInit
import HandS.ExcField
import HandS.ClsMeth
import KE.KExcIs
import KE.DataMinMax
import KE.DataFind
import KE.GoesMore
import HandS.WordsDict
import KE.KDictList
import KE.GoesEnum
import HandS.TupAny
import HandS.New0
import HandS.Rev
import HandS.RevTup
import HandS.ListItems
import HandS.Defaults
import HandS.Text
import HandS.FStr
import PySem.Challenge.RW_goodenough_k51_amounts_and_units
set_option Elab.async false
set_option linter.all false
set_option maxRecDepth 100000
set_option maxHeartbeats 4000000
namespace GM
open PySem PySem.Spec PyProof.Rows L2

/-- not a rfl theorem on purpose: simp then builds a proof, and the kernel need not unfold -/
theorem obs {α β : Type} (x : α) (f : α → Option β) : (some x).bind f = f x := (Eq.refl ((some x).bind f)).trans rfl
/-! ### what stands for what -/
class Rp (α : Type) where
  rep : Hp → α → V → Prop
  mono : ∀ {H H' : Hp} {x : α} {v : V}, Same H H' → rep H x v → rep H' x v
  nn : ∀ {H : Hp} {x : α} {v : V}, rep H x v → v ≠ .non
abbrev rp {α : Type} [Rp α] (H : Hp) (x : α) (v : V) : Prop := Rp.rep H x v
/-- as Rp, but None may be one of its values -/
class Rq (α : Type) where
  rep : Hp → α → V → Prop
  mono : ∀ {H H' : Hp} {x : α} {v : V}, Same H H' → rep H x v → rep H' x v
abbrev rq {α : Type} [Rq α] (H : Hp) (x : α) (v : V) : Prop := Rq.rep H x v
instance (priority := low) rqOf {α : Type} [Rp α] : Rq α := ⟨Rp.rep, Rp.mono⟩

theorem Paired.mono {α β : Type} {F G : α → β → Prop} : ∀ {l₁ : List α} {l₂ : List β}, Paired F l₁ l₂ → (∀ a b, F a b → G a b) → Paired G l₁ l₂
  | _, _, .nil, _ => .nil
  | _, _, .cons r t, f => .cons (f _ _ r) (Paired.mono t f)

instance : Rp Int := ⟨fun _ x v => v = .int x, fun _ h => h, fun h => by rw [h]; exact fun z => by cases z⟩
instance : Rp Bool := ⟨fun _ x v => v = .bl x, fun _ h => h, fun h => by rw [h]; exact fun z => by cases z⟩
instance : Rp Str := ⟨fun _ x v => v = .str x, fun _ h => h, fun h => by rw [h]; exact fun z => by cases z⟩
instance : Rq Unit := ⟨fun _ _ v => v = .non, fun _ h => h⟩
instance {α : Type} [Rp α] : Rq (Option α) := ⟨fun H x v => match x with | none => v = .non | some y => Rp.rep H y v, fun {H H' x v} e h => by
  cases x with
  | none => exact h
  | some y => exact Rp.mono e h⟩
def repL {α : Type} [Rq α] (H : Hp) (xs : List α) (v : V) : Prop := ∃ a vs, v = .ref a ∧ H a = some (.lst vs) ∧ vs.length ≤ sizeLine ∧ Paired (rq H) xs vs
instance {α : Type} [Rq α] : Rp (List α) := ⟨repL, fun {H H' x v} e h => by
  obtain ⟨a, vs, h1, h2, h3, h4⟩ := h
  exact ⟨a, vs, h1, e _ _ h2, h3, Paired.mono h4 fun _ _ => Rq.mono e⟩, fun h => by
  obtain ⟨a, vs, h1, h2, h3, h4⟩ := h
  rw [h1]; exact fun z => by cases z⟩
def repP {α β : Type} [Rq α] [Rq β] (H : Hp) (x : α × β) (v : V) : Prop := ∃ a v1 v2, v = .ref a ∧ H a = some (.tup [v1, v2]) ∧ rq H x.1 v1 ∧ rq H x.2 v2
instance {α β : Type} [Rq α] [Rq β] : Rp (α × β) := ⟨repP, fun {H H' x v} e h => by
  obtain ⟨a, v1, v2, h1, h2, h3, h4⟩ := h
  exact ⟨a, v1, v2, h1, e _ _ h2, Rq.mono e h3, Rq.mono e h4⟩, fun h => by
  obtain ⟨a, v1, v2, h1, h2, h3, h4⟩ := h
  rw [h1]; exact fun z => by cases z⟩
/-- a tuple of three -/
structure T3 (α β γ : Type) where
  a : α
  b : β
  c : γ
def repT3 {α β γ : Type} [Rq α] [Rq β] [Rq γ] (H : Hp) (x : T3 α β γ) (v : V) : Prop := ∃ a v1 v2 v3, v = .ref a ∧ H a = some (.tup [v1, v2, v3]) ∧ rq H x.a v1 ∧ rq H x.b v2 ∧ rq H x.c v3
instance {α β γ : Type} [Rq α] [Rq β] [Rq γ] : Rp (T3 α β γ) := ⟨repT3, fun {H H' x v} e h => by
  obtain ⟨a, v1, v2, v3, h1, h2, h3, h4, h5⟩ := h
  exact ⟨a, v1, v2, v3, h1, e _ _ h2, Rq.mono e h3, Rq.mono e h4, Rq.mono e h5⟩, fun h => by
  obtain ⟨a, v1, v2, v3, h1, h2, h3, h4, h5⟩ := h
  rw [h1]; exact fun z => by cases z⟩
/-- a tuple of any length, like items -/
structure Tp (α : Type) where
  l : List α
def repTp {α : Type} [Rq α] (H : Hp) (x : Tp α) (v : V) : Prop := ∃ a vs, v = .ref a ∧ H a = some (.tup vs) ∧ vs.length ≤ sizeLine ∧ Paired (rq H) x.l vs
instance {α : Type} [Rq α] : Rp (Tp α) := ⟨repTp, fun {H H' x v} e h => by
  obtain ⟨a, vs, h1, h2, h3, h4⟩ := h
  exact ⟨a, vs, h1, e _ _ h2, h3, Paired.mono h4 fun _ _ => Rq.mono e⟩, fun h => by
  obtain ⟨a, vs, h1, h2, h3, h4⟩ := h
  rw [h1]; exact fun z => by cases z⟩
/-- the script -/
structure Scr (K : PySem.W.Frag) where
  l : List Int
instance {K : PySem.W.Frag} : Rp (Scr K) := ⟨fun H x v => ∃ a, v = .ref a ∧ SqL K H a (x.l.map V.int) ∧ x.l.length ≤ 63, fun {H H' x v} e h => by
  obtain ⟨a, h1, h2, h3⟩ := h
  exact ⟨a, h1, Same.seq e h2, h3⟩, fun h => by
  obtain ⟨a, h1, h2⟩ := h
  rw [h1]; exact fun z => by cases z⟩

/-! ### heaps -/
def del (H : Hp) (p : Addr) : Hp := fun a => if a = p then none else H a
theorem del_same {H : Hp} {p : Addr} : del H p p = none := by unfold del; rw [if_pos rfl]
theorem del_ne {H : Hp} {p a : Addr} (h : a ≠ p) : del H p a = H a := by unfold del; rw [if_neg h]
theorem del_sub {H : Hp} {p : Addr} : Same (del H p) H := fun a o e => by
  by_cases h : a = p
  · rw [h, del_same] at e; cases e
  · rw [del_ne h] at e; exact e
theorem del_some {H : Hp} {p a : Addr} {o : HO} (h : del H p a = some o) : a ≠ p ∧ H a = some o := by
  by_cases e : a = p
  · rw [e, del_same] at h; cases h
  · rw [del_ne e] at h; exact ⟨e, h⟩
theorem del_mono {H H' : Hp} {p : Addr} (h : Same H H') : Same (del H p) (del H' p) := fun a o e => by
  obtain ⟨n, e⟩ := del_some e
  rw [del_ne n]; exact h a o e
theorem del_comm {H : Hp} {p q : Addr} : del (del H p) q = del (del H q) p := by
  funext a
  unfold del
  split <;> split <;> rfl
theorem del_upd {H : Hp} {p : Addr} {o : HO} : del (upd H p o) p = del H p := by
  funext a
  by_cases h : a = p
  · rw [h, del_same, del_same]
  · rw [del_ne h, del_ne h, upd_ne h]
theorem del_upd_ne {H : Hp} {p q : Addr} {o : HO} (n : p ≠ q) : del (upd H p o) q = upd (del H q) p o := by
  funext a
  by_cases h : a = q
  · rw [h, del_same, upd_ne (Ne.symm n), del_same]
  · rw [del_ne h]
    by_cases h2 : a = p
    · rw [h2, upd_same, upd_same]
    · rw [upd_ne h2, upd_ne h2, del_ne h]
theorem del_new {H : Hp} {p : Addr} (h : H p = none) : del H p = H := by
  funext a
  by_cases e : a = p
  · rw [e, del_same, h]
  · rw [del_ne e]
def join (Hi H H' : Hp) : Hp := fun a => match H a with | none => H' a | some _ => Hi a
theorem join_none {Hi H H' : Hp} {a : Addr} (h : H a = none) : join Hi H H' a = H' a := by unfold join; rw [h]
theorem join_some {Hi H H' : Hp} {a : Addr} {o : HO} (h : H a = some o) : join Hi H H' a = Hi a := by unfold join; rw [h]
theorem same_join {Hi H H' : Hp} (h : Same Hi H) : Same Hi (join Hi H H') := fun a o e => by rw [join_some (h a o e)]; exact e
theorem join_same {Hi H H' : Hp} (h : Same Hi H) (h' : Same H H') : Same (join Hi H H') H' := fun a o e => by
  cases q : H a with
  | none => rw [join_none q] at e; exact e
  | some u => rw [join_some q] at e; exact h' _ _ (h _ _ e)
theorem same_new {H : Hp} {p : Addr} {o : HO} (h : H p = none) : Same H (upd H p o) := fun a u e => by rw [upd_ne (ne_of_none e h)]; exact e
theorem same_none {H H' : Hp} {p : Addr} (s : Same H H') (h : H' p = none) : H p = none := s.free h

/-! ### parts of a heap -/
def one (p : Addr) (u : HO) : Hp := fun a => if a = p then some u else none
theorem one_same {p : Addr} {u : HO} : one p u p = some u := by unfold one; rw [if_pos rfl]
theorem one_ne {p a : Addr} {u : HO} (h : a ≠ p) : one p u a = none := by unfold one; rw [if_neg h]
theorem one_is {p a : Addr} {u o : HO} (h : one p u a = some o) : a = p ∧ o = u := by
  by_cases e : a = p
  · subst e; rw [one_same] at h; cases h; exact ⟨rfl, rfl⟩
  · rw [one_ne e] at h; cases h
def minus (H F : Hp) : Hp := fun a => match F a with | none => H a | some _ => none
theorem minus_none {H F : Hp} {a : Addr} (h : F a = none) : minus H F a = H a := by unfold minus; rw [h]
theorem minus_some {H F : Hp} {a : Addr} {o : HO} (h : F a = some o) : minus H F a = none := by unfold minus; rw [h]
theorem minus_is {H F : Hp} {a : Addr} {o : HO} (h : minus H F a = some o) : F a = none ∧ H a = some o := by
  cases q : F a with
  | none => rw [minus_none q] at h; exact ⟨rfl, h⟩
  | some u => rw [minus_some q] at h; cases h
theorem minus_sub {H F : Hp} : Same (minus H F) H := fun a o e => (minus_is e).2
theorem minus_mono {H H' F : Hp} (h : Same H H') : Same (minus H F) (minus H' F) := fun a o e => by
  obtain ⟨n, e⟩ := minus_is e
  rw [minus_none n]; exact h a o e
theorem minus_comm {H F F' : Hp} : minus (minus H F) F' = minus (minus H F') F := by
  funext a
  unfold minus
  cases F a <;> cases F' a <;> rfl
theorem minus_one {H : Hp} {p : Addr} {u : HO} : minus H (one p u) = del H p := by
  funext a
  by_cases e : a = p
  · subst e; rw [minus_some one_same, del_same]
  · rw [minus_none (one_ne e), del_ne e]
def plus (H F : Hp) : Hp := fun a => match F a with | none => H a | some u => some u
theorem plus_none {H F : Hp} {a : Addr} (h : F a = none) : plus H F a = H a := by unfold plus; rw [h]
theorem plus_some {H F : Hp} {a : Addr} {u : HO} (h : F a = some u) : plus H F a = some u := by unfold plus; rw [h]
theorem plus_one {H : Hp} {p : Addr} {u : HO} : plus H (one p u) = upd H p u := by
  funext a
  by_cases e : a = p
  · subst e; rw [plus_some one_same, upd_same]
  · rw [plus_none (one_ne e), upd_ne e]
theorem same_one {H : Hp} {p : Addr} {u : HO} (h : H p = some u) : Same (one p u) H := fun a o e => by
  obtain ⟨rfl, rfl⟩ := one_is e
  exact h
/-! ### the state by slots -/
structure Bk where
  h0 : Hp
  ha : Hp
inductive SV where
  | un
  | fv (φ : Hp → V → Prop) (m : ∀ H H' v, Same H H' → φ H v → φ H' v)
  | ow (φ : Hp → Addr → Hp → Prop) (m : ∀ H H' p F, Same H H' → φ H p F → φ H' p F)
def fz {α : Type} [Rq α] (x : α) : SV := .fv (fun H v => rq H x v) fun _ _ _ e h => Rq.mono e h
/-- our own object, of one part -/
def ow1 (φ : Hp → HO → Prop) (m : ∀ H H' o, Same H H' → φ H o → φ H' o) : SV := .ow (fun H p F => ∃ u, F = one p u ∧ φ H u) fun _ _ _ _ e ⟨u, h1, h2⟩ => ⟨u, h1, m _ _ _ e h2⟩
/-- the same, at a place that is told -/
def owA (p : Addr) (φ : Hp → HO → Prop) (m : ∀ H H' o, Same H H' → φ H o → φ H' o) : SV := .ow (fun H q F => q = p ∧ ∃ u, F = one q u ∧ φ H u) fun _ _ _ _ e ⟨z, u, h1, h2⟩ => ⟨z, u, h1, m _ _ _ e h2⟩
def isL {α : Type} [Rq α] (xs : List α) (H : Hp) (o : HO) : Prop := ∃ vs, o = .lst vs ∧ vs.length ≤ sizeLine ∧ Paired (rq H) xs vs
theorem isL_mono {α : Type} [Rq α] (xs : List α) : ∀ H H' o, Same H H' → isL xs H o → isL xs H' o := fun _ _ _ e ⟨vs, h1, h2, h3⟩ => ⟨vs, h1, h2, Paired.mono h3 fun _ _ => Rq.mono e⟩
def ol {α : Type} [Rq α] (xs : List α) : SV := ow1 (isL xs) fun _ _ _ e ⟨vs, h1, h2, h3⟩ => ⟨vs, h1, h2, Paired.mono h3 fun _ _ => Rq.mono e⟩
def olA {α : Type} [Rq α] (p : Addr) (xs : List α) : SV := owA p (isL xs) fun _ _ _ e ⟨vs, h1, h2, h3⟩ => ⟨vs, h1, h2, Paired.mono h3 fun _ _ => Rq.mono e⟩
def isD {α : Type} [Rq α] (d : List (Key × α)) (H : Hp) (o : HO) : Prop := ∃ kvs, o = .dK kvs ∧ kvs.length ≤ sizeLine ∧ Paired (fun (a : Key × α) (b : Key × V) => a.1 = b.1 ∧ rq H a.2 b.2) d kvs
def od {α : Type} [Rq α] (d : List (Key × α)) : SV := ow1 (isD d) fun _ _ _ e ⟨vs, h1, h2, h3⟩ => ⟨vs, h1, h2, Paired.mono h3 fun _ _ ⟨a, b⟩ => ⟨a, Rq.mono e b⟩⟩

def slotS (Hi : Hp) (c : SV) (o : Option V) (k : Hp → Prop) (H : Hp) : Prop :=
  match c with
  | .un => k H
  | .fv φ _ => (∃ v, o = some v ∧ φ Hi v) ∧ k H
  | .ow φ _ => ∃ p F, o = some (.ref p) ∧ Same F H ∧ φ Hi p F ∧ k (minus H F)
def SatG (B : Bk) (Hi : Hp) : List SV → L2.St → Hp → Prop
  | [], [] => fun H => Same Hi H ∧ Same B.h0 H ∧ Same B.ha Hi ∧ ∀ a o, B.h0 a = some o → Hi a = B.ha a
  | c :: L, o :: s => slotS Hi c o (SatG B Hi L s)
  | [], _ :: _ => fun _ => False
  | _ :: _, [] => fun _ => False
section
variable {B : Bk} {Hi H H' : Hp} {L L' : List SV} {s s' : L2.St} {c d : SV} {o o' : Option V}
theorem SatG.len : ∀ {L : List SV} {s : L2.St} {H : Hp}, SatG B Hi L s H → L.length = s.length
  | [], [], _, _ => rfl
  | c :: L, o :: s, H, h => by
    have q : ∃ H', SatG B Hi L s H' := by
      cases c with
      | un => exact ⟨_, h⟩
      | fv φ m => exact ⟨_, h.2⟩
      | ow φ m => obtain ⟨p, F, _, _, _, k⟩ := h; exact ⟨_, k⟩
    obtain ⟨_, q⟩ := q
    rw [List.length_cons, List.length_cons, SatG.len q]
theorem SatG.sub : ∀ {L : List SV} {s : L2.St} {H : Hp}, SatG B Hi L s H → Same Hi H
  | [], [], _, h => h.1
  | c :: L, o :: s, H, h => by
    cases c with
    | un => exact SatG.sub (L := L) (s := s) h
    | fv φ m => exact SatG.sub (L := L) (s := s) h.2
    | ow φ m => obtain ⟨p, F, _, _, _, k⟩ := h; exact (SatG.sub (L := L) (s := s) k).trans minus_sub
theorem SatG.sub0 : ∀ {L : List SV} {s : L2.St} {H : Hp}, SatG B Hi L s H → Same B.h0 H
  | [], [], _, h => h.2.1
  | c :: L, o :: s, H, h => by
    cases c with
    | un => exact SatG.sub0 (L := L) (s := s) h
    | fv φ m => exact SatG.sub0 (L := L) (s := s) h.2
    | ow φ m => obtain ⟨p, F, _, _, _, k⟩ := h; exact (SatG.sub0 (L := L) (s := s) k).trans minus_sub
theorem SatG.arg : ∀ {L : List SV} {s : L2.St} {H : Hp}, SatG B Hi L s H → Same B.ha Hi ∧ ∀ a o, B.h0 a = some o → Hi a = B.ha a
  | [], [], _, h => h.2.2
  | c :: L, o :: s, H, h => by
    cases c with
    | un => exact SatG.arg (L := L) (s := s) h
    | fv φ m => exact SatG.arg (L := L) (s := s) h.2
    | ow φ m => obtain ⟨p, F, _, _, _, k⟩ := h; exact SatG.arg (L := L) (s := s) k
/-- more stands in the heap -/
theorem SatG.up : ∀ {L : List SV} {s : L2.St} {H H' : Hp}, SatG B Hi L s H → Same H H' → SatG B Hi L s H'
  | [], [], _, _, h, e => ⟨h.1.trans e, h.2.1.trans e, h.2.2⟩
  | c :: L, o :: s, H, H', h, e => by
    cases c with
    | un => exact SatG.up (L := L) (s := s) h e
    | fv φ m => exact ⟨h.1, SatG.up (L := L) (s := s) h.2 e⟩
    | ow φ m => obtain ⟨p, F, h1, h2, h3, k⟩ := h; exact ⟨p, F, h1, h2.trans e, h3, SatG.up (L := L) (s := s) k (minus_mono e)⟩
/-- the heap grew -/
theorem SatG.grow : ∀ {L : List SV} {s : L2.St} {H H' : Hp}, SatG B Hi L s H → Same H H' → SatG B (join Hi H H') L s H'
  | [], [], H, H', h, e => by
    refine ⟨join_same h.1 e, h.2.1.trans e, h.2.2.1.trans (same_join h.1), fun a o q => ?_⟩
    rw [join_some (h.2.1 a o q)]
    exact h.2.2.2 a o q
  | c :: L, o :: s, H, H', h, e => by
    have hs := h.sub
    cases c with
    | un => exact SatG.grow (L := L) (s := s) h e
    | fv φ m =>
      obtain ⟨⟨v, h1, h2⟩, k⟩ := h
      exact ⟨⟨v, h1, m _ _ _ (same_join hs) h2⟩, SatG.grow (L := L) (s := s) k e⟩
    | ow φ m =>
      obtain ⟨p, F, h1, h2, h3, k⟩ := h
      refine ⟨p, F, h1, h2.trans e, m _ _ _ _ (same_join hs) h3, ?_⟩
      have q := SatG.grow (L := L) (s := s) k (minus_mono (F := F) e)
      have ks := SatG.sub (L := L) (s := s) k
      have e2 : join Hi (minus H F) (minus H' F) = join Hi H H' := by
        funext a
        cases z : F a with
        | some u =>
          rw [join_none (minus_some z), minus_some z, join_some (h2 _ _ z)]
          cases w : Hi a with
          | none => rfl
          | some y => have := ks _ _ w; rw [minus_some z] at this; cases this
        | none =>
          cases w : H a with
          | none => rw [join_none w, join_none (by rw [minus_none z]; exact w), minus_none z]
          | some y => rw [join_some w, join_some (o := y) (by rw [minus_none z]; exact w)]
      rw [e2] at q
      exact q
theorem join_new {Hi H : Hp} {p : Addr} {u : HO} (hs : Same Hi H) (h : H p = none) : join Hi H (upd H p u) = upd Hi p u := by
  funext a
  by_cases z : a = p
  · rw [z, join_none h, upd_same, upd_same]
  · rw [upd_ne z]
    cases w : H a with
    | none => rw [join_none w, upd_ne z, w, same_none hs w]
    | some y => rw [join_some w]
/-- a new object that is not to change -/
theorem SatG.newF {p : Addr} {u : HO} (h : SatG B Hi L s H) (n : H p = none) : SatG B (upd Hi p u) L s (upd H p u) := by
  have q := h.grow (same_new (o := u) n)
  rw [join_new h.sub n] at q
  exact q
/-- a new object of our own -/
theorem SatG.newO {p : Addr} {u : HO} {φ : Hp → HO → Prop} {m} (h : SatG B Hi L s H) (n : H p = none) (hu : φ Hi u) : SatG B Hi (ow1 φ m :: L) (some (.ref p) :: s) (upd H p u) := by
  refine ⟨p, one p u, rfl, same_one upd_same, ⟨u, rfl, hu⟩, ?_⟩
  rw [minus_one, del_upd, del_new n]
  exact h
theorem SatG.drop1 (h : SatG B Hi (c :: L) (o :: s) H) : SatG B Hi L s H := by
  cases c with
  | un => exact h
  | fv φ m => exact h.2
  | ow φ m => obtain ⟨p, F, _, _, _, k⟩ := h; exact SatG.up (L := L) (s := s) k minus_sub
theorem SatG.un1 (h : SatG B Hi (c :: L) (o :: s) H) {o' : Option V} : SatG B Hi (.un :: L) (o' :: s) H := h.drop1
/-- our own objects are let go: they are not to change any more -/
theorem SatG.thawF {p : Addr} {φ : Hp → Addr → Hp → Prop} {m} (h : SatG B Hi (.ow φ m :: L) (some (.ref p) :: s) H) : ∃ F, Same F H ∧ φ Hi p F ∧ (∀ a u, F a = some u → Hi a = none) ∧ SatG B (plus Hi F) L s H := by
  obtain ⟨p', F, e, hp, hu, k⟩ := h
  cases e
  have ks := SatG.sub (L := L) (s := s) k
  have n : ∀ a u, F a = some u → Hi a = none := fun a u z => same_none ks (minus_some z)
  refine ⟨F, hp, hu, n, ?_⟩
  have q := SatG.grow (L := L) (s := s) k minus_sub
  have e2 : join Hi (minus H F) H = plus Hi F := by
    funext a
    cases z : F a with
    | some u => rw [join_none (minus_some z), plus_some z, hp _ _ z]
    | none =>
      rw [plus_none z]
      cases w : H a with
      | none =>
        rw [join_none (by rw [minus_none z]; exact w), w]
        exact (same_none ks (by rw [minus_none z]; exact w)).symm
      | some y => rw [join_some (o := y) (by rw [minus_none z]; exact w)]
  rw [e2] at q
  exact q
theorem SatG.thaw {p : Addr} {φ : Hp → HO → Prop} {m} (h : SatG B Hi (ow1 φ m :: L) (some (.ref p) :: s) H) : ∃ u, H p = some u ∧ φ Hi u ∧ Hi p = none ∧ SatG B (upd Hi p u) L s H := by
  obtain ⟨F, h1, ⟨u, rfl, h2⟩, h3, h4⟩ := h.thawF
  rw [plus_one] at h4
  exact ⟨u, h1 _ _ one_same, h2, h3 _ _ one_same, h4⟩
theorem SatG.swap (h : SatG B Hi (c :: d :: L) (o :: o' :: s) H) : SatG B Hi (d :: c :: L) (o' :: o :: s) H := by
  cases c with
  | un => cases d with
    | un => exact h
    | fv φ m => exact h
    | ow φ m => exact h
  | fv φ m => cases d with
    | un => exact h
    | fv ψ n => exact ⟨h.2.1, h.1, h.2.2⟩
    | ow ψ n =>
      obtain ⟨h1, p, F, h2, h3, h4, k⟩ := h
      exact ⟨p, F, h2, h3, h4, h1, k⟩
  | ow φ m => cases d with
    | un => exact h
    | fv ψ n =>
      obtain ⟨p, F, h2, h3, h4, h1, k⟩ := h
      exact ⟨h1, p, F, h2, h3, h4, k⟩
    | ow ψ n =>
      obtain ⟨p, F, h2, h3, h4, q, F', h2', h3', h4', k⟩ := h
      refine ⟨q, F', h2', h3'.trans minus_sub, h4', p, F, h2, fun a u e => ?_, h4, by rw [minus_comm]; exact k⟩
      cases z : F' a with
      | none => rw [minus_none z]; exact h3 a u e
      | some w => have := h3' _ _ z; rw [minus_some e] at this; cases this
theorem slot_map {k k' : Hp → Prop} (h : slotS Hi c o k H) (f : ∀ H, k H → k' H) : slotS Hi c o k' H := by
  cases c with
  | un => exact f _ h
  | fv φ m => exact ⟨h.1, f _ h.2⟩
  | ow φ m => obtain ⟨p, F, h1, h2, h3, q⟩ := h; exact ⟨p, F, h1, h2, h3, f _ q⟩
/-- the front one goes to place i -/
theorem SatG.put : ∀ {L : List SV} {s : L2.St} {H : Hp} {i : Nat}, SatG B Hi (c :: L) (o :: s) H → SatG B Hi (L.set i c) (s.set i o) H
  | [], [], _, _, h => h.drop1
  | [], _ :: _, _, _, h => by
    have := h.len; simp at this
  | _ :: _, [], _, _, h => by
    have := h.len; simp at this
  | d :: L, o' :: s, H, 0, h => by
    have q := h.swap.drop1
    exact q
  | d :: L, o' :: s, H, i + 1, h => by
    have q := h.swap
    show slotS Hi d o' (SatG B Hi (L.set i c) (s.set i o)) H
    exact slot_map q fun H z => SatG.put z
theorem SatG.putT : ∀ {T : List SV} {tv : L2.St} {H : Hp} {i : Nat}, tv.length = T.length → SatG B Hi (c :: (T ++ L)) (o :: (tv ++ s)) H → SatG B Hi (T ++ L.set i c) (tv ++ s.set i o) H
  | [], [], _, _, _, h => h.put
  | [], _ :: _, _, _, e, _ => by simp at e
  | _ :: _, [], _, _, e, _ => by simp at e
  | d :: T, o' :: tv, H, i, e, h => by
    have q := h.swap
    show slotS Hi d o' (SatG B Hi (T ++ L.set i c) (tv ++ s.set i o)) H
    exact slot_map q fun H z => SatG.putT (by simpa using e) z
theorem SatG.get : ∀ {L : List SV} {s : L2.St} {H : Hp} {i : Nat} {φ m}, SatG B Hi L s H → L[i]? = some (.fv φ m) → ∃ v, s[i]? = some (some v) ∧ φ Hi v
  | [], [], _, _, _, _, _, e => by simp at e
  | d :: L, o' :: s, H, 0, φ, m, h, e => by
    have e : d = .fv φ m := by simpa using e
    subst e
    obtain ⟨⟨v, h1, h2⟩, _⟩ := h
    exact ⟨v, by simp [h1], h2⟩
  | d :: L, o' :: s, H, i + 1, φ, m, h, e => by
    have q : ∃ H', SatG B Hi L s H' := by
      cases d with
      | un => exact ⟨_, h⟩
      | fv φ m => exact ⟨_, h.2⟩
      | ow φ m => obtain ⟨p, F, _, _, _, k⟩ := h; exact ⟨_, k⟩
    obtain ⟨_, q⟩ := q
    obtain ⟨v, h1, h2⟩ := SatG.get (i := i) (φ := φ) (m := m) q (by simpa using e)
    exact ⟨v, by simpa using h1, h2⟩
theorem SatG.ownF : ∀ {L : List SV} {s : L2.St} {H : Hp} {i : Nat} {φ m}, SatG B Hi L s H → L[i]? = some (.ow φ m) → ∃ p F, s[i]? = some (some (.ref p)) ∧ Same F H ∧ φ Hi p F ∧ (∀ a u, F a = some u → Hi a = none) ∧
    ∀ F' φ' m' H', φ' Hi p F' → Same F' H' → minus H' F' = minus H F → SatG B Hi (L.set i (.ow φ' m')) s H'
  | [], [], _, _, _, _, _, e => by simp at e
  | d :: L, o' :: s, H, 0, φ, m, h, e => by
    have e : d = .ow φ m := by simpa using e
    subst e
    obtain ⟨p, F, h1, h2, h3, k⟩ := h
    refine ⟨p, F, by simp [h1], h2, h3, fun a u z => same_none (SatG.sub (L := L) (s := s) k) (minus_some z), fun F' φ' m' H' h' e1 e2 => ⟨p, F', h1, e1, h', ?_⟩⟩
    rw [e2]; exact k
  | d :: L, o' :: s, H, i + 1, φ, m, h, e => by
    cases d with
    | un =>
      obtain ⟨p, F, h1, h2, h3, h4, k⟩ := SatG.ownF (L := L) (s := s) (i := i) (φ := φ) (m := m) h (by simpa using e)
      exact ⟨p, F, by simpa using h1, h2, h3, h4, fun F' φ' m' H' h' e1 e2 => k F' φ' m' H' h' e1 e2⟩
    | fv ψ n =>
      obtain ⟨p, F, h1, h2, h3, h4, k⟩ := SatG.ownF (L := L) (s := s) (i := i) (φ := φ) (m := m) h.2 (by simpa using e)
      exact ⟨p, F, by simpa using h1, h2, h3, h4, fun F' φ' m' H' h' e1 e2 => ⟨h.1, k F' φ' m' H' h' e1 e2⟩⟩
    | ow ψ n =>
      obtain ⟨q, W, g1, g2, g3, kk⟩ := h
      obtain ⟨p, F, h1, h2, h3, h4, k⟩ := SatG.ownF (L := L) (s := s) (i := i) (φ := φ) (m := m) kk (by simpa using e)
      refine ⟨p, F, by simpa using h1, h2.trans minus_sub, h3, h4, fun F' φ' m' H' h' e1 e2 => ?_⟩
      -- the other's parts stand as they were
      have dj : ∀ a w, W a = some w → F' a = none ∧ H' a = some w := fun a w z => by
        have n1 : F a = none := by
          cases y : F a with
          | none => rfl
          | some x => have := h2 _ _ y; rw [minus_some z] at this; cases this
        have n2 : minus H F a = some w := by rw [minus_none n1]; exact g2 _ _ z
        rw [← e2] at n2
        exact minus_is n2
      refine ⟨q, W, g1, fun a w z => (dj a w z).2, g3, k F' φ' m' (minus H' W) h' (fun a u z => ?_) ?_⟩
      · cases y : W a with
        | none => rw [minus_none y]; exact e1 _ _ z
        | some x => have := (dj a x y).1; rw [z] at this; cases this
      · rw [minus_comm, e2, minus_comm]
theorem SatG.own {L : List SV} {s : L2.St} {H : Hp} {i : Nat} {φ m} (h : SatG B Hi L s H) (e : L[i]? = some (ow1 φ m)) : ∃ p u, s[i]? = some (some (.ref p)) ∧ H p = some u ∧ φ Hi u ∧ Hi p = none ∧
    ∀ u' φ' m', φ' Hi u' → SatG B Hi (L.set i (ow1 φ' m')) s (upd H p u') := by
  obtain ⟨p, F, h1, h2, ⟨u, rfl, h3⟩, h4, k⟩ := h.ownF e
  refine ⟨p, u, h1, h2 _ _ one_same, h3, h4 _ _ one_same, fun u' φ' m' h' => k (one p u') _ _ (upd H p u') ⟨u', rfl, h'⟩ (same_one upd_same) ?_⟩
  rw [minus_one, minus_one, del_upd]
/-- where our own object stands, told -/
theorem SatG.pin {L : List SV} {s : L2.St} {H : Hp} {i : Nat} {φ m} (h : SatG B Hi L s H) (e : L[i]? = some (ow1 φ m)) : ∃ p, s[i]? = some (some (.ref p)) ∧ SatG B Hi (L.set i (owA p φ m)) s H := by
  obtain ⟨p, F, h1, h2, h3, h4, k⟩ := h.ownF e
  exact ⟨p, h1, k F _ _ H ⟨rfl, h3⟩ h2 rfl⟩
theorem SatG.pinned {L : List SV} {s : L2.St} {H : Hp} {i : Nat} {p : Addr} {φ m} (h : SatG B Hi L s H) (e : L[i]? = some (owA p φ m)) : s[i]? = some (some (.ref p)) ∧ SatG B Hi (L.set i (ow1 φ m)) s H := by
  obtain ⟨q, F, h1, h2, ⟨rfl, h3⟩, h4, k⟩ := h.ownF e
  exact ⟨h1, k F _ _ H h3 h2 rfl⟩
theorem SatG.front : ∀ {L : List SV} {s : L2.St} {H : Hp} {i : Nat}, SatG B Hi L s H → L[i]? = some c → SatG B Hi (c :: L.set i .un) ((s[i]?.getD none) :: s) H
  | [], _, _, _, _, e => by simp at e
  | _ :: _, [], _, _, h, _ => False.elim h
  | d :: L, o :: s, H, 0, h, e => by
    have e : d = c := by simpa using e
    subst e
    exact slot_map h fun H z => z
  | d :: L, o :: s, H, i + 1, h, e => by
    have q : slotS Hi d o (SatG B Hi (c :: L.set i .un) ((s[i]?.getD none) :: s)) H := slot_map h fun H z => SatG.front z (by simpa using e)
    exact SatG.swap (c := d) (d := c) q
theorem get_app {α : Type} {T L : List α} {i : Nat} : (T ++ L)[T.length + i]? = L[i]? := by
  rw [List.getElem?_append_right (Nat.le_add_right _ _), Nat.add_sub_cancel_left]
theorem set_app {α : Type} {T L : List α} {i : Nat} {c : α} : (T ++ L).set (T.length + i) c = T ++ L.set i c := by
  rw [List.set_append_right _ _ (Nat.le_add_right _ _), Nat.add_sub_cancel_left]
theorem SatG.getT {T : List SV} {tv : L2.St} {i : Nat} {φ m} (e : tv.length = T.length) (h : SatG B Hi (T ++ L) (tv ++ s) H) (hi : L[i]? = some (.fv φ m)) : ∃ v, s[i]? = some (some v) ∧ φ Hi v := by
  obtain ⟨v, h1, h2⟩ := h.get (i := T.length + i) (φ := φ) (m := m) (by rw [get_app]; exact hi)
  rw [← e, get_app] at h1
  exact ⟨v, h1, h2⟩
theorem SatG.ownT {T : List SV} {tv : L2.St} {i : Nat} {φ m} (e : tv.length = T.length) (h : SatG B Hi (T ++ L) (tv ++ s) H) (hi : L[i]? = some (ow1 φ m)) : ∃ p u, s[i]? = some (some (.ref p)) ∧ H p = some u ∧ φ Hi u ∧ Hi p = none ∧
    ∀ u' φ' m', φ' Hi u' → SatG B Hi (T ++ L.set i (ow1 φ' m')) (tv ++ s) (upd H p u') := by
  obtain ⟨p, u, h1, h2, h3, h4, k⟩ := h.own (i := T.length + i) (φ := φ) (m := m) (by rw [get_app]; exact hi)
  rw [← e, get_app] at h1
  exact ⟨p, u, h1, h2, h3, h4, fun u' φ' m' h' => by rw [← set_app]; exact k u' φ' m' h'⟩
theorem SatG.ownFT {T : List SV} {tv : L2.St} {i : Nat} {φ m} (e : tv.length = T.length) (h : SatG B Hi (T ++ L) (tv ++ s) H) (hi : L[i]? = some (.ow φ m)) : ∃ p F, s[i]? = some (some (.ref p)) ∧ Same F H ∧ φ Hi p F ∧ (∀ a u, F a = some u → Hi a = none) ∧
    ∀ F' φ' m' H', φ' Hi p F' → Same F' H' → minus H' F' = minus H F → SatG B Hi (T ++ L.set i (.ow φ' m')) (tv ++ s) H' := by
  obtain ⟨p, F, h1, h2, h3, h4, k⟩ := h.ownF (i := T.length + i) (φ := φ) (m := m) (by rw [get_app]; exact hi)
  rw [← e, get_app] at h1
  exact ⟨p, F, h1, h2, h3, h4, fun F' φ' m' H' h' e1 e2 => by rw [← set_app]; exact k F' φ' m' H' h' e1 e2⟩
theorem SatG.pinT {T : List SV} {tv : L2.St} {i : Nat} {φ m} (e : tv.length = T.length) (h : SatG B Hi (T ++ L) (tv ++ s) H) (hi : L[i]? = some (ow1 φ m)) : ∃ p, s[i]? = some (some (.ref p)) ∧ SatG B Hi (T ++ L.set i (owA p φ m)) (tv ++ s) H := by
  obtain ⟨p, h1, k⟩ := h.pin (i := T.length + i) (φ := φ) (m := m) (by rw [get_app]; exact hi)
  rw [← e, get_app] at h1
  exact ⟨p, h1, by rw [← set_app]; exact k⟩
theorem SatG.pinnedT {T : List SV} {tv : L2.St} {i : Nat} {p : Addr} {φ m} (e : tv.length = T.length) (h : SatG B Hi (T ++ L) (tv ++ s) H) (hi : L[i]? = some (owA p φ m)) : s[i]? = some (some (.ref p)) ∧ SatG B Hi (T ++ L.set i (ow1 φ m)) (tv ++ s) H := by
  obtain ⟨h1, k⟩ := h.pinned (i := T.length + i) (φ := φ) (m := m) (p := p) (by rw [get_app]; exact hi)
  rw [← e, get_app] at h1
  exact ⟨h1, by rw [← set_app]; exact k⟩
/-- a slot that is our own list, wherever it stands -/
def OwL {α : Type} [Rq α] (c : SV) (xs : List α) : Prop := ∃ φ m, c = .ow φ m ∧ ∀ H p F, φ H p F → ∃ u, F = one p u ∧ isL xs H u
theorem owl_ol {α : Type} [Rq α] {xs : List α} : OwL (ol xs) xs := ⟨_, _, rfl, fun _ _ _ h => h⟩
theorem owl_A {α : Type} [Rq α] {xs : List α} {p : Addr} : OwL (olA p xs) xs := ⟨_, _, rfl, fun _ _ _ h => h.2⟩
theorem SatG.ownLT {α : Type} [Rq α] {xs : List α} {T : List SV} {tv : L2.St} {i : Nat} (e : tv.length = T.length) (h : SatG B Hi (T ++ L) (tv ++ s) H) (hi : ∃ c, L[i]? = some c ∧ OwL c xs) : ∃ p vs, s[i]? = some (some (.ref p)) ∧ H p = some (.lst vs) ∧ vs.length ≤ sizeLine ∧ Paired (rq Hi) xs vs := by
  obtain ⟨c, hi, φ, m, rfl, f⟩ := hi
  obtain ⟨p, F, h1, h2, h3, h4, k⟩ := h.ownFT e hi
  obtain ⟨u, rfl, vs, rfl, h5, h6⟩ := f _ _ _ h3
  exact ⟨p, vs, h1, h2 _ _ one_same, h5, h6⟩
end
/-- one state by slots is another's -/
inductive Wk : List SV → List SV → Prop
  | nil : Wk [] []
  | same {c L L'} : Wk L L' → Wk (c :: L) (c :: L')
  | drop {c L L'} : Wk L L' → Wk (c :: L) (.un :: L')
  | imp {φ ψ m n L L'} : (∀ H p F, φ H p F → ψ H p F) → Wk L L' → Wk (.ow φ m :: L) (.ow ψ n :: L')
section
variable {B : Bk} {Hi H : Hp}
theorem SatG.wk : ∀ {L L' : List SV} {s : L2.St} {H : Hp}, Wk L L' → SatG B Hi L s H → SatG B Hi L' s H
  | _, _, [], _, .nil, h => h
  | _, _, o :: s, H, .same w, h => slot_map h fun H z => SatG.wk w z
  | _, .un :: L', o :: s, H, .drop w, h => by
    show SatG B Hi L' s H
    exact SatG.wk w h.drop1
  | _, _, o :: s, H, .imp f w, ⟨p, F, h1, h2, h3, k⟩ => ⟨p, F, h1, h2, f _ _ _ h3, SatG.wk w k⟩
  | _, _, [], _, .same w, h => False.elim h
  | _, _, [], _, .drop w, h => False.elim h
  | _, _, [], _, .imp _ w, h => False.elim h
theorem Wk.unpin {p : Addr} {φ m} {L L' : List SV} (w : Wk L L') : Wk (owA p φ m :: L) (ow1 φ m :: L') := .imp (fun _ _ _ h => h.2) w
theorem Wk.refl : ∀ (L : List SV), Wk L L
  | [] => .nil
  | _ :: L => .same (Wk.refl L)
theorem SatG.wkT : ∀ {T : List SV} {tv : L2.St} {L L' : List SV} {s : L2.St} {H : Hp}, tv.length = T.length → Wk L L' → SatG B Hi (T ++ L) (tv ++ s) H → SatG B Hi (T ++ L') (tv ++ s) H
  | [], [], _, _, _, _, _, w, h => h.wk w
  | [], _ :: _, _, _, _, _, e, _, _ => by simp at e
  | _ :: _, [], _, _, _, _, e, _, _ => by simp at e
  | _ :: T, _ :: tv, L, L', s, H, e, w, h => slot_map h fun H z => SatG.wkT (by simpa using e) w z
/-- all but the front is let go -/
theorem SatG.bare : ∀ {L : List SV} {s : L2.St} {H : Hp}, SatG B Hi L s H → SatG B Hi [] [] H
  | [], [], _, h => h
  | _ :: _, _ :: _, _, h => SatG.bare h.drop1
theorem SatG.bare1 {c : SV} {o : Option V} {L : List SV} {s : L2.St} (h : SatG B Hi (c :: L) (o :: s) H) : SatG B Hi [c] [o] H := slot_map h fun H z => SatG.bare z
end
end GM
namespace GM
open PySem PySem.Spec PyProof.Rows L2

/-! ### expressions -/
def EvJ {α : Type} [Rq α] (t : TE) (G : List SV) (m : Option α) : Prop :=
  ∀ (B : Bk) (Hi : Hp) (T : List SV) (tv s : L2.St) (H : Hp) (Q : VK) (x : α), m = some x → tv.length = T.length → SatG B Hi (T ++ G) (tv ++ s) H →
    (∀ v Hi' H', SatG B Hi' (T ++ G) (tv ++ s) H' → rq Hi' x v → Q v H') → t s H Q
structure EJ {α : Type} [Rq α] (X : Cx) (e : Expr) (t : TE) (G : List SV) (m : Option α) : Prop where
  pe : PE X e t
  ev : EvJ t G m
def lstH {α : Type} [Rq α] (Hi H : Hp) (xs : List α) (v : V) : Prop := ∃ a vs, v = .ref a ∧ H a = some (.lst vs) ∧ vs.length ≤ sizeLine ∧ Paired (rq Hi) xs vs
def lstK {α : Type} [Rq α] (K : PySem.W.Frag) (Hi H : Hp) (xs : List α) (v : V) : Prop := ∃ a vs, v = .ref a ∧ SqL K H a vs ∧ vs.length ≤ sizeLine ∧ Paired (rq Hi) xs vs
theorem lstH.K {α : Type} [Rq α] {K : PySem.W.Frag} {Hi H : Hp} {xs : List α} {v : V} (h : lstH Hi H xs v) : lstK K Hi H xs v := by
  obtain ⟨a, vs, h1, h2, h3⟩ := h
  exact ⟨a, vs, h1, SqL.of h2, h3⟩
/-- something that is read later on, by P: the stack may have grown -/
def StJ {α : Type} (P : Hp → Hp → α → V → Prop) (t : TE) (G : List SV) (m : Option α) : Prop :=
  ∀ (B : Bk) (Hi : Hp) (T : List SV) (tv s : L2.St) (H : Hp) (Q : VK) (x : α), m = some x → tv.length = T.length → SatG B Hi (T ++ G) (tv ++ s) H →
    (∀ v T' tv' Hi' H', tv'.length = T'.length → SatG B Hi' (T' ++ G) (tv' ++ s) H' → (∀ Hi2 H2, SatG B Hi2 (T' ++ G) (tv' ++ s) H2 → SatG B Hi2 (T ++ G) (tv ++ s) H2 ∧ P Hi2 H2 x v) → Q v H') → t s H Q
structure SJ {α : Type} (P : Hp → Hp → α → V → Prop) (X : Cx) (e : Expr) (t : TE) (G : List SV) (m : Option α) : Prop where
  pe : PE X e t
  ev : StJ P t G m
/-- a list that is read, ours or not -/
abbrev LJ {α : Type} [Rq α] (X : Cx) (e : Expr) (t : TE) (G : List SV) (m : Option (List α)) : Prop := SJ lstH X e t G m
abbrev LK {α : Type} [Rq α] (X : Cx) (e : Expr) (t : TE) (G : List SV) (m : Option (List α)) : Prop := SJ (lstK X.K) X e t G m
/-- a new list of our own -/
def OvJ {α : Type} [Rq α] (t : TE) (G : List SV) (m : Option (List α)) : Prop :=
  ∀ (B : Bk) (Hi : Hp) (T : List SV) (tv s : L2.St) (H : Hp) (Q : VK) (x : List α), m = some x → tv.length = T.length → SatG B Hi (T ++ G) (tv ++ s) H →
    (∀ p Hi' H', SatG B Hi' (ol x :: (T ++ G)) (some (.ref p) :: (tv ++ s)) H' → Q (.ref p) H') → t s H Q
structure OJ {α : Type} [Rq α] (X : Cx) (e : Expr) (t : TE) (G : List SV) (m : Option (List α)) : Prop where
  pe : PE X e t
  ev : OvJ t G m
def TvJ (t : TT) (G : List SV) (m : Option Bool) : Prop :=
  ∀ (B : Bk) (Hi : Hp) (T : List SV) (tv s : L2.St) (H : Hp) (Q : Bool → Hp → Prop) (x : Bool), m = some x → tv.length = T.length → SatG B Hi (T ++ G) (tv ++ s) H →
    (∀ Hi' H', SatG B Hi' (T ++ G) (tv ++ s) H' → Q x H') → t s H Q
structure TJ (X : Cx) (e : Expr) (t : TT) (G : List SV) (m : Option Bool) : Prop where
  pt : PT X e t
  ev : TvJ t G m
structure TW (X : Cx) (e : Expr) (t : TT) (G : List SV) (m : Option Bool) : Prop where
  pw : PW X e t
  ev : TvJ t G m

section
variable {X : Cx} {e a b c : Expr} {t ta tb tc : TE} {G : List SV} {α β γ : Type} {pos : Pos}
theorem bind_some {α β : Type} {m : Option α} {f : α → Option β} {z : β} (h : m.bind f = some z) : ∃ x, m = some x ∧ f x = some z := by
  cases m with
  | none => cases h
  | some x => exact ⟨x, rfl, h⟩
theorem lstH_of {α : Type} [Rq α] {Hi H : Hp} {xs : List α} {v : V} (e : Same Hi H) (h : rq Hi xs v) : lstH Hi H xs v := by
  obtain ⟨a, vs, h1, h2, h3, h4⟩ := h
  exact ⟨a, vs, h1, e _ _ h2, h3, h4⟩
/-- frozen: read later by anything that it stands for -/
theorem StJ.ofE [Rq α] {P : Hp → Hp → α → V → Prop} {m : Option α} (hP : ∀ Hi H x v, Same Hi H → rq Hi x v → P Hi H x v) (h : EvJ t G m) : StJ P t G m := fun B Hi T tv s H Q x hx hl hs k =>
  h B Hi T tv s H Q x hx hl hs fun v Hi' H' s' r => k v (fz x :: T) (some v :: tv) Hi' H' (by simp [hl]) ⟨⟨v, rfl, r⟩, s'⟩ fun Hi2 H2 s2 => by
    have s3 : SatG B Hi2 (T ++ G) (tv ++ s) H2 := s2.2
    obtain ⟨⟨v', e1, r'⟩, _⟩ := s2
    cases e1
    exact ⟨s3, hP _ _ _ _ s3.sub r'⟩
theorem lj_e [Rq α] {m : Option (List α)} (h : EJ X e t G m) : LJ X e t G m := ⟨h.pe, StJ.ofE (fun _ _ _ _ => lstH_of) h.ev⟩
theorem lk_l [Rq α] {m : Option (List α)} (h : LJ X e t G m) : LK X e t G m := ⟨h.pe, fun B Hi T tv s H Q x hx hl hs k =>
  h.ev B Hi T tv s H Q x hx hl hs fun v T' tv' Hi' H' l' s' r => k v T' tv' Hi' H' l' s' fun Hi2 H2 s2 => ⟨(r Hi2 H2 s2).1, (r Hi2 H2 s2).2.K⟩⟩
/-- our own new list is let go -/
theorem sat_thawL [Rq α] {B : Bk} {Hi H : Hp} {L : List SV} {s : L2.St} {p : Addr} {xs : List α} (h : SatG B Hi (ol xs :: L) (some (.ref p) :: s) H) : ∃ Hi', SatG B Hi' L s H ∧ rq Hi' xs (.ref p) := by
  obtain ⟨u, h1, ⟨vs, e, h2, h3⟩, hn, k⟩ := h.thaw
  subst e
  exact ⟨_, k, p, vs, rfl, upd_same, h2, Paired.mono h3 fun _ _ => Rq.mono (same_new hn)⟩
theorem ej_o [Rq α] {m : Option (List α)} (h : OJ X e t G m) : EJ X e t G m := ⟨h.pe, fun B Hi T tv s H Q x hx hl hs k =>
  h.ev B Hi T tv s H Q x hx hl hs fun p Hi' H' s' => by
    obtain ⟨Hi2, s2, r⟩ := sat_thawL s'
    exact k _ Hi2 H' s2 r⟩
/-- a name whose value stands still -/
theorem ej_n [Rq α] {x : α} (i : Nat) (hi : G[i]? = some (fz x)) {n : Str} (hN : X.N[i]? = some n := by rfl) (hv : Vis X.env.scope n := by first | exact Or.inl rfl | exact Or.inr (Or.inl rfl) | exact Or.inr (Or.inr rfl))
    (hd : (n == ("__debug__" : Str)) = false := by decide) (hcd : (n == ("__classdict__" : Str)) = false := by decide) : EJ X (.Name n pos) (tVar i) G (some x) :=
  ⟨pe_var hN hv hd hcd, fun B Hi T tv s H Q y hx hl hs k => by
    cases hx
    obtain ⟨v, h1, h2⟩ := hs.getT hl hi
    exact ⟨v, h1, k v Hi H hs h2⟩⟩
/-- a name that holds a list of our own -/
theorem lj_nO [Rq α] {xs : List α} (i : Nat) (hi : ∃ c, G[i]? = some c ∧ OwL c xs) {n : Str} (hN : X.N[i]? = some n := by rfl) (hv : Vis X.env.scope n := by first | exact Or.inl rfl | exact Or.inr (Or.inl rfl) | exact Or.inr (Or.inr rfl))
    (hd : (n == ("__debug__" : Str)) = false := by decide) (hcd : (n == ("__classdict__" : Str)) = false := by decide) : LJ X (.Name n pos) (tVar i) G (some xs) :=
  ⟨pe_var hN hv hd hcd, fun B Hi T tv s H Q y hx hl hs k => by
    cases hx
    obtain ⟨p, vs0, h1, h2, h3, h4⟩ := hs.ownLT hl hi
    refine ⟨.ref p, h1, k _ T tv Hi H hl hs fun Hi2 H2 s2 => ⟨s2, ?_⟩⟩
    obtain ⟨p', vs, g1, g2, g5, g6⟩ := s2.ownLT hl hi
    rw [h1] at g1
    cases g1
    exact ⟨p, vs, rfl, g2, g5, g6⟩⟩
theorem lj_n [Rq α] {xs : List α} (i : Nat) (hi : G[i]? = some (ol xs)) {n : Str} (hN : X.N[i]? = some n := by rfl) (hv : Vis X.env.scope n := by first | exact Or.inl rfl | exact Or.inr (Or.inl rfl) | exact Or.inr (Or.inr rfl))
    (hd : (n == ("__debug__" : Str)) = false := by decide) (hcd : (n == ("__classdict__" : Str)) = false := by decide) : LJ X (.Name n pos) (tVar i) G (some xs) := lj_nO i ⟨_, hi, owl_ol⟩ hN hv hd hcd
theorem lj_nA [Rq α] {xs : List α} {q : Addr} (i : Nat) (hi : G[i]? = some (olA q xs)) {n : Str} (hN : X.N[i]? = some n := by rfl) (hv : Vis X.env.scope n := by first | exact Or.inl rfl | exact Or.inr (Or.inl rfl) | exact Or.inr (Or.inr rfl))
    (hd : (n == ("__debug__" : Str)) = false := by decide) (hcd : (n == ("__classdict__" : Str)) = false := by decide) : LJ X (.Name n pos) (tVar i) G (some xs) := lj_nO i ⟨_, hi, owl_A⟩ hN hv hd hcd
/-- the script -/
theorem lk_s {K : PySem.W.Frag} {x : Scr K} (hK : K = X.K) (i : Nat) (hi : G[i]? = some (fz x)) {n : Str} (hN : X.N[i]? = some n := by rfl) (hv : Vis X.env.scope n := by first | exact Or.inl rfl | exact Or.inr (Or.inl rfl) | exact Or.inr (Or.inr rfl))
    (hd : (n == ("__debug__" : Str)) = false := by decide) (hcd : (n == ("__classdict__" : Str)) = false := by decide) : LK X (.Name n pos) (tVar i) G (some x.l) :=
  ⟨pe_var hN hv hd hcd, fun B Hi T tv s H Q y hx hl hs k => by
    subst hK
    cases hx
    obtain ⟨v, h1, h2⟩ := hs.getT hl hi
    refine ⟨v, h1, k v (fz x :: T) (some v :: tv) Hi H (by simp [hl]) ⟨⟨v, rfl, h2⟩, hs⟩ fun Hi2 H2 s2 => ?_⟩
    have s3 : SatG B Hi2 (T ++ G) (tv ++ s) H2 := s2.2
    obtain ⟨⟨v', e1, a, h3, h4, h5⟩, _⟩ := s2
    cases e1
    refine ⟨s3, a, _, h3, Same.seq s3.sub h4, ?_, ?_⟩
    · rw [List.length_map]; exact Nat.le_trans h5 (by decide)
    · have : ∀ l : List Int, Paired (rq Hi2) l (l.map V.int) := fun l => by
        induction l with
        | nil => exact .nil
        | cons z l ih => exact .cons rfl ih
      exact this _⟩
theorem ej_c [Rq α] {x : α} {v : V} (h : PE X e (tC v)) (r : ∀ H, rq H x v) : EJ X e (tC v) G (some x) := ⟨h, fun B Hi T tv s H Q y hx hl hs k => by
  cases hx
  exact k v Hi H hs (r Hi)⟩
theorem ej_int {i : Int} {j} : EJ X (.Constant (.int i) j pos) (tC (.int i)) G (some i) := ej_c pe_int fun _ => rfl
theorem ej_bl {i : Bool} {j} : EJ X (.Constant (.bool i) j pos) (tC (.bl i)) G (some i) := ej_c pe_bl fun _ => rfl
theorem ej_str {i : Str} {j} : EJ X (.Constant (.str i) j pos) (tC (.str i)) G (some i) := ej_c pe_str fun _ => rfl
theorem ej_unit {j} : EJ X (.Constant .none j pos) (tC .non) G (some ()) := ej_c pe_non fun _ => rfl
/-- None, where something else might stand -/
theorem ej_none {j} [Rp α] : EJ X (.Constant .none j pos) (tC .non) G (some (none : Option α)) := ej_c pe_non fun _ => rfl
/-- x where None might stand -/
theorem ej_some [Rp α] {m : Option α} (h : EJ X e t G m) : EJ X e t G (m.bind fun x => some (some x)) := ⟨h.pe, fun B Hi T tv s H Q y hx hl hs k => by
  obtain ⟨x, e1, e2⟩ := bind_some hx
  cases e2
  exact h.ev B Hi T tv s H Q x e1 hl hs fun v Hi' H' s' r => k v Hi' H' s' r⟩

/-! ### operators that make nothing new -/
def Op2 [Rq α] [Rq β] [Rq γ] (r : R2) (f : α → β → Option γ) : Prop := ∀ (Hi H : Hp) (x : α) (y : β) (vx vy : V) (z : γ) (Q : VK), Same Hi H → rq Hi x vx → rq Hi y vy → f x y = some z → (∀ v, rq Hi z v → Q v H) → r vx vy H Q
theorem ev_op2 [Rq α] [Rq β] [Rq γ] {r : R2} {f : α → β → Option γ} (hf : Op2 r f) {m1 : Option α} {m2 : Option β} (ha : EvJ ta G m1) (hb : EvJ tb G m2) : EvJ (tOp r ta tb) G (m1.bind fun x => m2.bind fun y => f x y) :=
  fun B Hi T tv s H Q z hx hl hs k => by
    obtain ⟨x, e1, hx⟩ := bind_some hx
    obtain ⟨y, e2, e3⟩ := bind_some hx
    refine ha B Hi T tv s H _ x e1 hl hs fun vx Hi1 H1 s1 r1 => ?_
    refine hb B Hi1 (fz x :: T) (some vx :: tv) s H1 _ y e2 (by simp [hl]) ⟨⟨vx, rfl, r1⟩, s1⟩ fun vy Hi2 H2 s2 r2 => ?_
    obtain ⟨⟨v', e4, r1'⟩, s2⟩ := s2
    cases e4
    exact hf Hi2 H2 x y vx vy z Q s2.sub r1' r2 e3 fun v r => k v Hi2 H2 s2 r
theorem ej_op [Rq α] [Rq β] [Rq γ] {op : Operator} {r : R2} {f : α → β → Option γ} (ho : OpR X (binaryOp op) r) (hf : Op2 r f) {m1 : Option α} {m2 : Option β} (ha : EJ X a ta G m1) (hb : EJ X b tb G m2) :
    EJ X (.BinOp a op b pos) (tOp r ta tb) G (m1.bind fun x => m2.bind fun y => f x y) := ⟨pe_op ho ha.pe hb.pe, ev_op2 hf ha.ev hb.ev⟩
theorem ej_cmp [Rq α] [Rq β] [Rq γ] {op : CmpOp} {r : R2} {f : α → β → Option γ} (ho : OpR X (compareOp op) r) (hf : Op2 r f) {m1 : Option α} {m2 : Option β} (ha : EJ X a ta G m1) (hb : EJ X b tb G m2) (hm : behindInMarks op b = false := by first | exact nomark _ | rfl) :
    EJ X (.Compare a [op] [b] pos) (tOp r ta tb) G (m1.bind fun x => m2.bind fun y => f x y) := ⟨pe_cmpR ho ha.pe hb.pe hm, ev_op2 hf ha.ev hb.ev⟩
theorem tv_test {m : Option Bool} (h : EvJ t G m) : TvJ (tTest t) G m := fun B Hi T tv s H Q x hx hl hs k =>
  h B Hi T tv s H _ x hx hl hs fun v Hi' H' s' r => ⟨x, r, k Hi' H' s'⟩
theorem tv_b {m : Option Bool} (h : EvJ t G m) : TvJ (tB t) G m := fun B Hi T tv s H Q x hx hl hs k =>
  h B Hi T tv s H _ x hx hl hs fun v Hi' H' s' r => ⟨x, r, k Hi' H' s'⟩
theorem tj_cmp [Rq α] [Rq β] {op : CmpOp} {r : R2} {f : α → β → Option Bool} (ho : OpR X (compareOp op) r) (hf : Op2 r f) {m1 : Option α} {m2 : Option β} (ha : EJ X a ta G m1) (hb : EJ X b tb G m2) (hm : behindInMarks op b = false := by first | exact nomark _ | rfl) :
    TJ X (.Compare a [op] [b] pos) (tTest (tOp r ta tb)) G (m1.bind fun x => m2.bind fun y => f x y) := ⟨pt_cmpR ho ha.pe hb.pe hm, tv_test (ev_op2 hf ha.ev hb.ev)⟩
/-- a value that is True or False, as a test -/
theorem tj_v {m : Option Bool} (h : EJ X e t G m) (he : ∀ whole, isTrue e X.env whole = (do let v ← whole; standAt e.pos; holding [v] (truthy v)) := by intro _; rfl) : TJ X e (tB t) G m := ⟨pt_val h.pe he, tv_b h.ev⟩
theorem ej_un [Rq α] [Rq β] {op : UnaryOp} {r : V → Hp → VK → Prop} {f : α → Option β} (ho : UnR X (unaryOp op) r) (hf : ∀ Hi H x v z (Q : VK), Same Hi H → rq Hi x v → f x = some z → (∀ u, rq Hi z u → Q u H) → r v H Q) {m : Option α} (ha : EJ X a ta G m) :
    EJ X (.UnaryOp op a pos) (tUn r ta) G (m.bind f) := ⟨pe_un ho ha.pe, fun B Hi T tv s H Q z hx hl hs k => by
    obtain ⟨x, e1, e2⟩ := bind_some hx
    refine ha.ev B Hi T tv s H _ x e1 hl hs fun v Hi1 H1 s1 r1 => ?_
    exact hf Hi1 H1 x v z Q s1.sub r1 e2 fun u ru => k u Hi1 H1 s1 ru⟩
theorem ej_neg {m : Option Int} (ha : EJ X a ta G m) : EJ X (.UnaryOp .USub a pos) (tUn (rU fun i => .int (-i)) ta) G (m.bind fun x => some (-x)) :=
  ej_un (f := fun x : Int => some (-x)) un_neg (fun Hi H x v z Q _ r e k => by cases r; cases e; exact ⟨_, rfl, k _ rfl⟩) ha

theorem o2_add : Op2 (rI0 fun i j => .int (i + j)) (fun x y : Int => some (x + y)) := fun Hi H x y vx vy z Q _ r1 r2 e k => by
  cases r1; cases r2; cases e; exact ⟨x, y, rfl, rfl, k _ rfl⟩
theorem o2_sub : Op2 (rI0 fun i j => .int (i - j)) (fun x y : Int => some (x - y)) := fun Hi H x y vx vy z Q _ r1 r2 e k => by
  cases r1; cases r2; cases e; exact ⟨x, y, rfl, rfl, k _ rfl⟩
def mulC (x y : Int) : Option Int := if x.natAbs.log2 + y.natAbs.log2 < 1000000 then some (x * y) else none
theorem o2_mul : Op2 (rI CMulW fun i j => .int (i * j)) mulC := fun Hi H x y vx vy z Q _ r1 r2 e k => by
  cases r1; cases r2
  unfold mulC at e
  by_cases h : x.natAbs.log2 + y.natAbs.log2 < 1000000
  · rw [if_pos h] at e
    cases e
    exact ⟨x, y, rfl, rfl, h, k _ rfl⟩
  · rw [if_neg h] at e; cases e
def divC (x y : Int) : Option Int := if 0 < y ∧ y.natAbs.log2 < 9000 then some (x / y) else none
theorem o2_div : Op2 (rI CDivW fun i j => .int (i / j)) divC := fun Hi H x y vx vy z Q _ r1 r2 e k => by
  cases r1; cases r2
  unfold divC at e
  by_cases h : 0 < y ∧ y.natAbs.log2 < 9000
  · rw [if_pos h] at e
    cases e
    exact ⟨x, y, rfl, rfl, h, k _ rfl⟩
  · rw [if_neg h] at e; cases e
def modC (x y : Int) : Option Int := if 0 < y then some (x % y) else none
theorem o2_mod : Op2 (rI (fun _ j => 0 < j) fun i j => .int (i % j)) modC := fun Hi H x y vx vy z Q _ r1 r2 e k => by
  cases r1; cases r2
  unfold modC at e
  by_cases h : 0 < y
  · rw [if_pos h] at e
    cases e
    exact ⟨x, y, rfl, rfl, h, k _ rfl⟩
  · rw [if_neg h] at e; cases e
def powC (x y : Int) : Option Int := if 0 ≤ y ∧ y ≤ 1000000 ∧ x.natAbs < 2 ^ 64 then some (x ^ y.toNat) else none
theorem o2_pow : Op2 (rI CPow fun i j => .int (i ^ j.toNat)) powC := fun Hi H x y vx vy z Q _ r1 r2 e k => by
  cases r1; cases r2
  unfold powC at e
  by_cases h : 0 ≤ y ∧ y ≤ 1000000 ∧ x.natAbs < 2 ^ 64
  · rw [if_pos h] at e
    cases e
    exact ⟨x, y, rfl, rfl, h, k _ rfl⟩
  · rw [if_neg h] at e; cases e
def shlC (x y : Int) : Option Int := if 0 ≤ y ∧ y ≤ 1000000 ∧ x.natAbs < 2 ^ 64 then some (x * 2 ^ y.toNat) else none
theorem o2_shl : Op2 (rI CPow fun i j => .int (i * 2 ^ j.toNat)) shlC := fun Hi H x y vx vy z Q _ r1 r2 e k => by
  cases r1; cases r2
  unfold shlC at e
  by_cases h : 0 ≤ y ∧ y ≤ 1000000 ∧ x.natAbs < 2 ^ 64
  · rw [if_pos h] at e
    cases e
    exact ⟨x, y, rfl, rfl, h, k _ rfl⟩
  · rw [if_neg h] at e; cases e
/-- by a written number -/
theorem ej_opK [Rq γ] {op : Operator} {r : R2} {f : Int → γ} {k : Int} {j} (ho : OpR X (binaryOp op) r) (hf : ∀ (H : Hp) (x : Int) (Q : VK), (∀ v, (∀ Hi, rq Hi (f x) v) → Q v H) → r (.int x) (.int k) H Q) {m1 : Option Int} (ha : EJ X a ta G m1) {p2 : Pos} :
    EJ X (.BinOp a op (.Constant (.int k) j p2) pos) (tOp r ta (tC (.int k))) G (m1.bind fun x => some (f x)) := ⟨pe_op ho ha.pe pe_int, fun B Hi T tv s H Q z hx hl hs kk => by
    obtain ⟨x, e1, e2⟩ := bind_some hx
    cases e2
    refine ha.ev B Hi T tv s H _ x e1 hl hs fun vx Hi1 H1 s1 r1 => ?_
    cases r1
    exact hf H1 x Q fun v r => kk v Hi1 H1 s1 (r Hi1)⟩
theorem ej_modK {k : Int} {j} (hk : 0 < k) {m1 : Option Int} (ha : EJ X a ta G m1) {p2 : Pos} : EJ X (.BinOp a .Mod (.Constant (.int k) j p2) pos) (tOp (rI (fun _ j => 0 < j) fun i j => .int (i % j)) ta (tC (.int k))) G (m1.bind fun x => some (x % k)) :=
  ej_opK (f := fun x => x % k) op_mod (fun H x Q h => ⟨x, k, rfl, rfl, hk, h _ fun _ => rfl⟩) ha
theorem ej_divK {k : Int} {j} (hk : CDiv 0 k) {m1 : Option Int} (ha : EJ X a ta G m1) {p2 : Pos} : EJ X (.BinOp a .FloorDiv (.Constant (.int k) j p2) pos) (tOp (rI CDiv fun i j => .int (i / j)) ta (tC (.int k))) G (m1.bind fun x => some (x / k)) :=
  ej_opK (f := fun x => x / k) op_fdiv (fun H x Q h => ⟨x, k, rfl, rfl, hk, h _ fun _ => rfl⟩) ha
theorem ej_mulK {k : Int} {j} (hk : -(2 ^ 64) < k ∧ k < 2 ^ 64) {m1 : Option Int} (ha : EJ X a ta G m1) {p2 : Pos} : EJ X (.BinOp a .Mult (.Constant (.int k) j p2) pos) (tOp (rI CMul fun i j => .int (i * j)) ta (tC (.int k))) G (m1.bind fun x => some (x * k)) :=
  ej_opK (f := fun x => x * k) op_mul (fun H x Q h => ⟨x, k, rfl, rfl, .inr hk, h _ fun _ => rfl⟩) ha
theorem ej_mulKL {k : Int} {j} (hk : -(2 ^ 64) < k ∧ k < 2 ^ 64) {m1 : Option Int} (ha : EJ X a ta G m1) {p2 : Pos} : EJ X (.BinOp (.Constant (.int k) j p2) .Mult a pos) (tOp (rI CMul fun i j => .int (i * j)) (tC (.int k)) ta) G (m1.bind fun x => some (k * x)) :=
  ⟨pe_op op_mul pe_int ha.pe, fun B Hi T tv s H Q z hx hl hs kk => by
    obtain ⟨x, e1, e2⟩ := bind_some hx
    cases e2
    refine ha.ev B Hi T tv s H _ x e1 hl hs fun vx Hi1 H1 s1 r1 => ?_
    cases r1
    exact ⟨k, x, rfl, rfl, .inl hk, kk _ Hi1 H1 s1 rfl⟩⟩
/-- a power of two written numbers -/
theorem ej_powKK {k n : Int} {j j'} {p1 p2 : Pos} {z : Int} (h : CPow k n) (hz : k ^ n.toNat = z) : EJ X (.BinOp (.Constant (.int k) j p1) .Pow (.Constant (.int n) j' p2) pos) (tOp (rI CPow fun i j => .int (i ^ j.toNat)) (tC (.int k)) (tC (.int n))) G (some z) :=
  ⟨pe_op op_pow pe_int pe_int, fun B Hi T tv s H Q z' hx hl hs kk => by
    cases hx
    exact ⟨k, n, rfl, rfl, h, kk _ Hi H hs (by subst hz; rfl)⟩⟩

theorem o2_lt : Op2 (rI0 fun i j => .bl (decide (i < j))) (fun x y : Int => some (decide (x < y))) := fun Hi H x y vx vy z Q _ r1 r2 e k => by
  cases r1; cases r2; cases e; exact ⟨x, y, rfl, rfl, k _ rfl⟩
theorem o2_le : Op2 (rI0 fun i j => .bl (decide (i ≤ j))) (fun x y : Int => some (decide (x ≤ y))) := fun Hi H x y vx vy z Q _ r1 r2 e k => by
  cases r1; cases r2; cases e; exact ⟨x, y, rfl, rfl, k _ rfl⟩
theorem o2_gt : Op2 (rI0 fun i j => .bl (decide (j < i))) (fun x y : Int => some (decide (y < x))) := fun Hi H x y vx vy z Q _ r1 r2 e k => by
  cases r1; cases r2; cases e; exact ⟨x, y, rfl, rfl, k _ rfl⟩
theorem o2_ge : Op2 (rI0 fun i j => .bl (decide (j ≤ i))) (fun x y : Int => some (decide (y ≤ x))) := fun Hi H x y vx vy z Q _ r1 r2 e k => by
  cases r1; cases r2; cases e; exact ⟨x, y, rfl, rfl, k _ rfl⟩
/-- values that == compares at once -/
class Sc (α : Type) [Rp α] [DecidableEq α] where
  eq : ∀ {H : Hp} {x y : α} {v u : V}, Rp.rep H x v → Rp.rep H y u → scal v u = true ∧ decide (v = u) = decide (x = y)
  flat : ∀ {H : Hp} {x : α} {v : V}, Rp.rep H x v → flatV v = true
  eqv : ∀ {H : Hp} {x y : α} {v u : V}, Rp.rep H x v → Rp.rep H y u → eqV v u = decide (x = y)
theorem dec_iff {p q : Prop} [Decidable p] [Decidable q] (h : p ↔ q) : decide p = decide q := by
  by_cases hp : p
  · rw [decide_eq_true hp, decide_eq_true (h.mp hp)]
  · rw [decide_eq_false hp, decide_eq_false fun z => hp (h.mpr z)]
instance : Sc Int := ⟨fun h h' => by cases h; cases h'; exact ⟨rfl, dec_iff ⟨fun z => V.int.inj z, fun z => by rw [z]⟩⟩, fun h => by cases h; rfl, fun h h' => by cases h; cases h'; exact Bool.beq_eq_decide_eq _ _⟩
instance : Sc Bool := ⟨fun h h' => by cases h; cases h'; exact ⟨rfl, dec_iff ⟨fun z => V.bl.inj z, fun z => by rw [z]⟩⟩, fun h => by cases h; rfl, fun h h' => by cases h; cases h'; exact Bool.beq_eq_decide_eq _ _⟩
instance : Sc Str := ⟨fun h h' => by cases h; cases h'; exact ⟨rfl, dec_iff ⟨fun z => V.str.inj z, fun z => by rw [z]⟩⟩, fun h => by cases h; rfl, fun h h' => by cases h; cases h'; exact Bool.beq_eq_decide_eq _ _⟩
theorem o2_eq [Rp α] [DecidableEq α] [Sc α] : Op2 rEq (fun x y : α => some (decide (x = y))) := fun Hi H x y vx vy z Q _ r1 r2 e k => by
  cases e
  obtain ⟨h1, h2⟩ := Sc.eq r1 r2
  exact ⟨h1, k _ (by rw [h2]; rfl)⟩
theorem o2_ne [Rp α] [DecidableEq α] [Sc α] : Op2 rNe (fun x y : α => some (!decide (x = y))) := fun Hi H x y vx vy z Q _ r1 r2 e k => by
  cases e
  obtain ⟨h1, h2⟩ := Sc.eq r1 r2
  exact ⟨h1, k _ (by rw [h2]; rfl)⟩
/-- is None -/
theorem ev_isN [Rp α] {m : Option (Option α)} (h : EvJ ta G m) : EvJ (tIsN ta) G (m.bind fun x => some x.isNone) := fun B Hi T tv s H Q z hx hl hs k => by
  obtain ⟨x, e1, e2⟩ := bind_some hx
  cases e2
  refine h B Hi T tv s H _ x e1 hl hs fun v Hi1 H1 s1 r1 => k _ Hi1 H1 s1 ?_
  cases x with
  | none => cases (show v = .non from r1); rfl
  | some y =>
    have n : v ≠ .non := Rp.nn r1
    show V.bl (decide (v = .non)) = V.bl false
    rw [decide_eq_false n]
theorem ev_notN [Rp α] {m : Option (Option α)} (h : EvJ ta G m) : EvJ (tNotN ta) G (m.bind fun x => some x.isSome) := fun B Hi T tv s H Q z hx hl hs k => by
  obtain ⟨x, e1, e2⟩ := bind_some hx
  cases e2
  refine h B Hi T tv s H _ x e1 hl hs fun v Hi1 H1 s1 r1 => k _ Hi1 H1 s1 ?_
  cases x with
  | none => cases (show v = .non from r1); rfl
  | some y =>
    have n : v ≠ .non := Rp.nn r1
    show V.bl (!decide (v = .non)) = V.bl true
    rw [decide_eq_false n]; rfl
theorem ej_isN [Rp α] {j p'} {m : Option (Option α)} (h : EJ X a ta G m) : EJ X (.Compare a [.Is] [.Constant .none j p'] pos) (tIsN ta) G (m.bind fun x => some x.isNone) := ⟨pe_cmp (pc_isN h.pe) (by rfl), ev_isN h.ev⟩
theorem ej_notN [Rp α] {j p'} {m : Option (Option α)} (h : EJ X a ta G m) : EJ X (.Compare a [.IsNot] [.Constant .none j p'] pos) (tNotN ta) G (m.bind fun x => some x.isSome) := ⟨pe_cmp (pc_notN h.pe) (by rfl), ev_notN h.ev⟩
/-- x where it is known not to be None -/
def unN (x : Option α) : Option α := x
theorem ej_un_n [Rp α] {m : Option (Option α)} (h : EJ X e t G m) : EJ X e t G (m.bind fun x => unN x) := ⟨h.pe, fun B Hi T tv s H Q z hx hl hs k => by
  obtain ⟨x, e1, e2⟩ := bind_some hx
  have e2 : x = some z := e2
  subst e2
  exact h.ev B Hi T tv s H _ _ e1 hl hs fun v Hi1 H1 s1 r1 => k v Hi1 H1 s1 r1⟩

/-! ### and, or, not -/
variable {tA tB' : TT} {rest : List Expr}
theorem tj_w {m : Option Bool} (h : TW X e tA G m) : TJ X e tA G m := ⟨h.pw.pt, h.ev⟩
theorem tw_and1 {m : Option Bool} (h : TJ X a tA G m) : TW X (.BoolOp .And [a] pos) tA G m := ⟨pw_and1 h.pt, h.ev⟩
theorem tw_or1 {m : Option Bool} (h : TJ X a tA G m) : TW X (.BoolOp .Or [a] pos) tA G m := ⟨pw_or1 h.pt, h.ev⟩
theorem tw_and {m m2 : Option Bool} (h : TJ X a tA G m) (h2 : TW X (.BoolOp .And (b :: rest) pos) tB' G m2) : TW X (.BoolOp .And (a :: b :: rest) pos) (tAnd tA tB') G (m.bind fun x => if x = true then m2 else some false) :=
  ⟨pw_and h.pt h2.pw, fun B Hi T tv s H Q z hx hl hs k => by
    obtain ⟨x, e1, e2⟩ := bind_some hx
    refine h.ev B Hi T tv s H _ x e1 hl hs fun Hi1 H1 s1 => ?_
    cases x with
    | true =>
      rw [if_pos rfl]
      rw [if_pos rfl] at e2
      exact h2.ev B Hi1 T tv s H1 Q z e2 hl s1 k
    | false =>
      rw [if_neg Bool.false_ne_true]
      rw [if_neg Bool.false_ne_true] at e2
      cases e2
      exact k Hi1 H1 s1⟩
theorem tw_or {m m2 : Option Bool} (h : TJ X a tA G m) (h2 : TW X (.BoolOp .Or (b :: rest) pos) tB' G m2) : TW X (.BoolOp .Or (a :: b :: rest) pos) (tOr tA tB') G (m.bind fun x => if x = true then some true else m2) :=
  ⟨pw_or h.pt h2.pw, fun B Hi T tv s H Q z hx hl hs k => by
    obtain ⟨x, e1, e2⟩ := bind_some hx
    refine h.ev B Hi T tv s H _ x e1 hl hs fun Hi1 H1 s1 => ?_
    cases x with
    | true =>
      rw [if_pos rfl]
      rw [if_pos rfl] at e2
      cases e2
      exact k Hi1 H1 s1
    | false =>
      rw [if_neg Bool.false_ne_true]
      rw [if_neg Bool.false_ne_true] at e2
      exact h2.ev B Hi1 T tv s H1 Q z e2 hl s1 k⟩
theorem tw_andP {x y : Bool} (h : TJ X a tA G (some x)) (h2 : TW X (.BoolOp .And (b :: rest) pos) tB' G (some y)) : TW X (.BoolOp .And (a :: b :: rest) pos) (tAnd tA tB') G (some (x && y)) := by
  have q := tw_and h h2
  have e : ((some x : Option Bool).bind fun x => if x = true then some y else some false) = some (x && y) := by cases x <;> rfl
  rw [e] at q
  exact q
theorem tw_orP {x y : Bool} (h : TJ X a tA G (some x)) (h2 : TW X (.BoolOp .Or (b :: rest) pos) tB' G (some y)) : TW X (.BoolOp .Or (a :: b :: rest) pos) (tOr tA tB') G (some (x || y)) := by
  have q := tw_or h h2
  have e : ((some x : Option Bool).bind fun x => if x = true then some true else some y) = some (x || y) := by cases x <;> rfl
  rw [e] at q
  exact q
theorem tj_isN [Rp α] {j p'} {m : Option (Option α)} (h : EJ X a ta G m) : TJ X (.Compare a [.Is] [.Constant .none j p'] pos) (tB (tIsN ta)) G (m.bind fun x => some x.isNone) := ⟨pt_cmp (pc_isN h.pe) (by rfl), tv_b (ev_isN h.ev)⟩
theorem tj_notN [Rp α] {j p'} {m : Option (Option α)} (h : EJ X a ta G m) : TJ X (.Compare a [.IsNot] [.Constant .none j p'] pos) (tB (tNotN ta)) G (m.bind fun x => some x.isSome) := ⟨pt_cmp (pc_notN h.pe) (by rfl), tv_b (ev_notN h.ev)⟩
theorem tj_not {m : Option Bool} (h : TJ X a tA G m) : TJ X (.UnaryOp .Not a pos) (tNot tA) G (m.bind fun x => some !x) := ⟨pt_not h.pt, fun B Hi T tv s H Q z hx hl hs k => by
  obtain ⟨x, e1, e2⟩ := bind_some hx
  cases e2
  exact h.ev B Hi T tv s H _ x e1 hl hs fun Hi1 H1 s1 => k Hi1 H1 s1⟩
/-- as values -/
theorem ej_one {op} {m : Option Bool} (h : EJ X a ta G m) : EJ X (.BoolOp op [a] pos) ta G m := ⟨pe_one h.pe, h.ev⟩
theorem ej_and {m m2 : Option Bool} (h : EJ X a ta G m) (h2 : EJ X (.BoolOp .And (b :: rest) pos) tb G m2) : EJ X (.BoolOp .And (a :: b :: rest) pos) (tAndV ta tb) G (m.bind fun x => if x = true then m2 else some false) :=
  ⟨pe_and h.pe h2.pe, fun B Hi T tv s H Q z hx hl hs k => by
    obtain ⟨x, e1, e2⟩ := bind_some hx
    refine h.ev B Hi T tv s H _ x e1 hl hs fun v Hi1 H1 s1 r1 => ⟨x, r1, ?_⟩
    cases x with
    | true =>
      rw [if_pos rfl]
      rw [if_pos rfl] at e2
      exact h2.ev B Hi1 T tv s H1 Q z e2 hl s1 k
    | false =>
      rw [if_neg Bool.false_ne_true]
      rw [if_neg Bool.false_ne_true] at e2
      cases e2
      exact k _ Hi1 H1 s1 rfl⟩
theorem ej_or {m m2 : Option Bool} (h : EJ X a ta G m) (h2 : EJ X (.BoolOp .Or (b :: rest) pos) tb G m2) : EJ X (.BoolOp .Or (a :: b :: rest) pos) (tOrV ta tb) G (m.bind fun x => if x = true then some true else m2) :=
  ⟨pe_or h.pe h2.pe, fun B Hi T tv s H Q z hx hl hs k => by
    obtain ⟨x, e1, e2⟩ := bind_some hx
    refine h.ev B Hi T tv s H _ x e1 hl hs fun v Hi1 H1 s1 r1 => ⟨x, r1, ?_⟩
    cases x with
    | true =>
      rw [if_pos rfl]
      rw [if_pos rfl] at e2
      cases e2
      exact k _ Hi1 H1 s1 rfl
    | false =>
      rw [if_neg Bool.false_ne_true]
      rw [if_neg Bool.false_ne_true] at e2
      exact h2.ev B Hi1 T tv s H1 Q z e2 hl s1 k⟩
theorem ej_andP {x y : Bool} (h : EJ X a ta G (some x)) (h2 : EJ X (.BoolOp .And (b :: rest) pos) tb G (some y)) : EJ X (.BoolOp .And (a :: b :: rest) pos) (tAndV ta tb) G (some (x && y)) := by
  have q := ej_and h h2
  have e : ((some x : Option Bool).bind fun x => if x = true then some y else some false) = some (x && y) := by cases x <;> rfl
  rw [e] at q
  exact q
theorem ej_orP {x y : Bool} (h : EJ X a ta G (some x)) (h2 : EJ X (.BoolOp .Or (b :: rest) pos) tb G (some y)) : EJ X (.BoolOp .Or (a :: b :: rest) pos) (tOrV ta tb) G (some (x || y)) := by
  have q := ej_or h h2
  have e : ((some x : Option Bool).bind fun x => if x = true then some true else some y) = some (x || y) := by cases x <;> rfl
  rw [e] at q
  exact q
theorem ej_ifEP [Rq α] {x : Bool} {y z : α} (h : TJ X c tA G (some x)) (ha : EJ X a ta G (some y)) (hb : EJ X b tb G (some z)) : EJ X (.IfExp c a b pos) (tIf tA ta tb) G (some (if x = true then y else z)) :=
  ⟨pe_ifExp h.pt ha.pe hb.pe, fun B Hi T tv s H Q w hx hl hs k => by
    cases hx
    refine h.ev B Hi T tv s H _ x rfl hl hs fun Hi1 H1 s1 => ?_
    cases x with
    | true => rw [if_pos rfl]; exact ha.ev B Hi1 T tv s H1 Q _ rfl hl s1 k
    | false => rw [if_neg Bool.false_ne_true]; exact hb.ev B Hi1 T tv s H1 Q _ rfl hl s1 k⟩
theorem ej_not {m : Option Bool} (h : EJ X a ta G m) : EJ X (.UnaryOp .Not a pos) (tNotV ta) G (m.bind fun x => some !x) := ⟨pe_not h.pe, fun B Hi T tv s H Q z hx hl hs k => by
  obtain ⟨x, e1, e2⟩ := bind_some hx
  cases e2
  exact h.ev B Hi T tv s H _ x e1 hl hs fun v Hi1 H1 s1 r1 => ⟨x, r1, k _ Hi1 H1 s1 rfl⟩⟩
theorem ej_ifE [Rq α] {m : Option Bool} {m1 m2 : Option α} (h : TJ X c tA G m) (ha : EJ X a ta G m1) (hb : EJ X b tb G m2) : EJ X (.IfExp c a b pos) (tIf tA ta tb) G (m.bind fun x => if x = true then m1 else m2) :=
  ⟨pe_ifExp h.pt ha.pe hb.pe, fun B Hi T tv s H Q z hx hl hs k => by
    obtain ⟨x, e1, e2⟩ := bind_some hx
    refine h.ev B Hi T tv s H _ x e1 hl hs fun Hi1 H1 s1 => ?_
    cases x with
    | true =>
      rw [if_pos rfl]
      rw [if_pos rfl] at e2
      exact ha.ev B Hi1 T tv s H1 Q z e2 hl s1 k
    | false =>
      rw [if_neg Bool.false_ne_true]
      rw [if_neg Bool.false_ne_true] at e2
      exact hb.ev B Hi1 T tv s H1 Q z e2 hl s1 k⟩
end
end GM
namespace GM
open PySem PySem.Spec PyProof.Rows L2

/-! ### argument lists -/
class RpL (τ : Type) where
  reps : Hp → τ → List V → Prop
  mono : ∀ {H H' : Hp} {x : τ} {v : List V}, Same H H' → reps H x v → reps H' x v
  n : Nat
  len : ∀ {H : Hp} {x : τ} {v : List V}, reps H x v → v.length = n
  svs : τ → List SV
  sat : ∀ {B : Bk} {Hi H : Hp} {x : τ} {vs : List V} {L : List SV} {s : L2.St}, reps Hi x vs → SatG B Hi L s H → SatG B Hi (svs x ++ L) (vs.map some ++ s) H
instance : RpL Unit := ⟨fun _ _ vs => vs = [], fun _ h => h, 0, fun h => by rw [h]; rfl, fun _ => [], fun h s => by subst h; exact s⟩
instance {α τ : Type} [Rq α] [RpL τ] : RpL (α × τ) := ⟨fun H x vs => ∃ v us, vs = v :: us ∧ rq H x.1 v ∧ RpL.reps H x.2 us, fun e ⟨v, us, h1, h2, h3⟩ => ⟨v, us, h1, Rq.mono e h2, RpL.mono e h3⟩, RpL.n τ + 1, fun ⟨v, us, h1, h2, h3⟩ => by
  rw [h1, List.length_cons, RpL.len h3], fun x => fz x.1 :: RpL.svs x.2, fun ⟨v, us, h1, h2, h3⟩ s => by
  subst h1; exact ⟨⟨v, rfl, h2⟩, RpL.sat h3 s⟩⟩
def AvJ {τ : Type} [RpL τ] (P : Hp → Hp → τ → List V → Prop) (t : TA) (G : List SV) (m : Option τ) : Prop :=
  ∀ (B : Bk) (Hi : Hp) (T : List SV) (tv s : L2.St) (H : Hp) (Q : List V → Hp → Prop) (x : τ), m = some x → tv.length = T.length → SatG B Hi (T ++ G) (tv ++ s) H →
    (∀ vs Hi' H', SatG B Hi' (T ++ G) (tv ++ s) H' → P Hi' H' x vs → Q vs H') → t s H Q
/-- all stand still -/
structure AJ {τ : Type} [RpL τ] (X : Cx) (es : List Expr) (t : TA) (G : List SV) (m : Option τ) : Prop where
  pa : PA X es t
  ev : AvJ (fun Hi _ x vs => RpL.reps Hi x vs) t G m
/-- what stands still, and all lists -/
def wide (Hi H : Hp) : Hp := fun a => match Hi a with
  | some o => some o
  | none => match H a with
    | some (.lst vs) => some (.lst vs)
    | some (.dK vs) => some (.dK vs)
    | some (.dT vs) => some (.dT vs)
    | _ => none
theorem wide_some {Hi H : Hp} {a : Addr} {o : HO} (h : Hi a = some o) : wide Hi H a = some o := by unfold wide; rw [h]
theorem wide_of {Hi H : Hp} : Same Hi (wide Hi H) := fun _ _ h => wide_some h
theorem wide_lst {Hi H : Hp} {a : Addr} {vs : List V} (e : Same Hi H) (h : H a = some (.lst vs)) : wide Hi H a = some (.lst vs) := by
  cases q : Hi a with
  | some o => rw [wide_some q, ← e _ _ q, h]
  | none => unfold wide; rw [q, h]
theorem wide_sub {Hi H : Hp} (e : Same Hi H) : Same (wide Hi H) H := fun a o h => by
  cases q : Hi a with
  | some u => rw [wide_some q] at h; cases h; exact e _ _ q
  | none =>
    unfold wide at h
    rw [q] at h
    cases w : H a with
    | none => rw [w] at h; cases h
    | some u =>
      rw [w] at h
      cases u <;> first | exact h | cases h
theorem wide_tup {Hi H : Hp} {a : Addr} {xs : List V} (h : wide Hi H a = some (.tup xs)) : Hi a = some (.tup xs) := by
  cases q : Hi a with
  | some u => rw [wide_some q] at h; exact h
  | none =>
    unfold wide at h
    rw [q] at h
    cases w : H a with
    | none => rw [w] at h; cases h
    | some u =>
      rw [w] at h
      cases u <;> cases h
def wideU {α : Type} [Rq α] (Hi H : Hp) (x : α) (v : V) : Prop := rq (wide Hi H) x v
abbrev WJ {α : Type} [Rq α] (X : Cx) (e : Expr) (t : TE) (G : List SV) (m : Option α) : Prop := SJ wideU X e t G m
structure AW {τ : Type} [RpL τ] (X : Cx) (es : List Expr) (t : TA) (G : List SV) (m : Option τ) : Prop where
  pa : PA X es t
  ev : AvJ (fun Hi H x vs => RpL.reps (wide Hi H) x vs) t G m
section
variable {X : Cx} {e a b c : Expr} {es : List Expr} {t ta tb tc : TE} {tr : TA} {G : List SV} {α β γ τ : Type} {pos : Pos}
theorem wj_e [Rq α] {m : Option α} (h : EJ X e t G m) : WJ X e t G m := ⟨h.pe, StJ.ofE (fun _ _ _ _ e r => Rq.mono wide_of r) h.ev⟩
theorem wj_l [Rq α] {m : Option (List α)} (h : LJ X e t G m) : WJ X e t G m := ⟨h.pe, fun B Hi T tv s H Q x hx hl hs k =>
  h.ev B Hi T tv s H Q x hx hl hs fun v T' tv' Hi' H' l' s' r => k v T' tv' Hi' H' l' s' fun Hi2 H2 s2 => by
    obtain ⟨s3, a, vs, h1, h2, h3, h4⟩ := r Hi2 H2 s2
    exact ⟨s3, a, vs, h1, wide_lst s3.sub h2, h3, Paired.mono h4 fun _ _ => Rq.mono wide_of⟩⟩
theorem aj_nil : AJ X [] tNil G (some ()) := ⟨pa_nil, fun B Hi T tv s H Q x hx hl hs k => k [] Hi H hs rfl⟩
theorem aj_cons [Rq α] [RpL τ] {m : Option α} {m2 : Option τ} (h : EJ X e t G m) (hr : AJ X es tr G m2) (hst : starEach (e :: es) X.env = (false, eval e X.env) :: starEach es X.env := by rfl) :
    AJ X (e :: es) (tCons t tr) G (m.bind fun x => m2.bind fun y => some (x, y)) := ⟨pa_cons h.pe hr.pa hst, fun B Hi T tv s H Q z hx hl hs k => by
    obtain ⟨x, e1, hx⟩ := bind_some hx
    obtain ⟨y, e2, e3⟩ := bind_some hx
    cases e3
    refine h.ev B Hi T tv s H _ x e1 hl hs fun v Hi1 H1 s1 r1 => ?_
    refine hr.ev B Hi1 (fz x :: T) (some v :: tv) s H1 _ y e2 (by simp [hl]) ⟨⟨v, rfl, r1⟩, s1⟩ fun vs Hi2 H2 s2 r2 => ?_
    obtain ⟨⟨v', e4, r1'⟩, s2⟩ := s2
    cases e4
    exact k (v :: vs) Hi2 H2 s2 ⟨v, vs, rfl, r1', r2⟩⟩
theorem aw_nil : AW X [] tNil G (some ()) := ⟨pa_nil, fun B Hi T tv s H Q x hx hl hs k => k [] Hi H hs rfl⟩
theorem aw_cons [Rq α] [RpL τ] {m : Option α} {m2 : Option τ} (h : WJ X e t G m) (hr : AW X es tr G m2) (hst : starEach (e :: es) X.env = (false, eval e X.env) :: starEach es X.env := by rfl) :
    AW X (e :: es) (tCons t tr) G (m.bind fun x => m2.bind fun y => some (x, y)) := ⟨pa_cons h.pe hr.pa hst, fun B Hi T tv s H Q z hx hl hs k => by
    obtain ⟨x, e1, hx⟩ := bind_some hx
    obtain ⟨y, e2, e3⟩ := bind_some hx
    cases e3
    refine h.ev B Hi T tv s H _ x e1 hl hs fun v T' tv' Hi1 H1 l1 s1 r1 => ?_
    refine hr.ev B Hi1 T' tv' s H1 _ y e2 l1 s1 fun vs Hi2 H2 s2 r2 => ?_
    obtain ⟨s3, r3⟩ := r1 Hi2 H2 s2
    exact k (v :: vs) Hi2 H2 s3 ⟨v, vs, rfl, r3, r2⟩⟩

/-! ### calls of defs -/
end
class NoL (α : Type) [Rq α] : Prop where
  tr : ∀ {H H' : Hp} {x : α} {v : V}, (∀ a xs, H a = some (.tup xs) → H' a = some (.tup xs)) → rq H x v → rq H' x v
instance : NoL Int := ⟨fun _ h => h⟩
instance : NoL Bool := ⟨fun _ h => h⟩
instance : NoL Str := ⟨fun _ h => h⟩
instance : NoL Unit := ⟨fun _ h => h⟩
instance {α : Type} [Rp α] [NoL α] : NoL (Option α) := ⟨fun {H H' x v} e h => by
  cases x with
  | none => exact h
  | some y => exact NoL.tr (α := α) (x := y) e h⟩
instance {α β : Type} [Rq α] [Rq β] [NoL α] [NoL β] : NoL (α × β) := ⟨fun e h => by
  obtain ⟨a, v1, v2, h1, h2, h3, h4⟩ := h
  exact ⟨a, v1, v2, h1, e _ _ h2, NoL.tr e h3, NoL.tr e h4⟩⟩
instance {α β γ : Type} [Rq α] [Rq β] [Rq γ] [NoL α] [NoL β] [NoL γ] : NoL (T3 α β γ) := ⟨fun e h => by
  obtain ⟨a, v1, v2, v3, h1, h2, h3, h4, h5⟩ := h
  exact ⟨a, v1, v2, v3, h1, e _ _ h2, NoL.tr e h3, NoL.tr e h4, NoL.tr e h5⟩⟩
instance {α : Type} [Rq α] [NoL α] : NoL (Tp α) := ⟨fun e h => by
  obtain ⟨a, vs, h1, h2, h3, h4⟩ := h
  exact ⟨a, vs, h1, e _ _ h2, h3, Paired.mono h4 fun _ _ => NoL.tr e⟩⟩
def SpR {τ ρ : Type} [RpL τ] [Rq ρ] (F : τ → Option ρ) : Sp := fun vs H Q _ => ∃ (Ha : Hp) (x : τ) (r : ρ), Same Ha H ∧ RpL.reps Ha x vs ∧ F x = some r ∧ ∀ v H', Same H H' → rq (join Ha H H') r v → Q v H'
def SpO {τ ρ : Type} [RpL τ] [Rq ρ] (F : τ → Option (List ρ)) : Sp := fun vs H Q _ => ∃ (Ha : Hp) (x : τ) (r : List ρ), Same Ha H ∧ RpL.reps Ha x vs ∧ F x = some r ∧
  ∀ p us H', Same H H' → H p = none → H' p = some (.lst us) → us.length ≤ sizeLine → Paired (rq (del (join Ha H H') p)) r us → Q (.ref p) H'
/-- all that a call of a def wants to know -/
structure Cal (X : Cx) (x : Str) (sp : Sp) : Prop where
  ok : ∃ (k : Nat) (f : Addr) (fd : FuncData) (ps : List Str), FnOk X.prog X.w X.K X.mg X.base CX0 k f fd ps sp ∧ Room k X.A ∧ X.mg x = some (.ref f) ∧ PySem.W.keepIn X.K (.ref f) = true ∧ Binds X.K fd ps []
section
variable {X : Cx} {e a b c : Expr} {es : List Expr} {t ta tb tc : TE} {tr : TA} {G : List SV} {α β γ τ ρ : Type} {pos p : Pos} {n : Str}
theorem cal_pe {sp : Sp} (C : Cal X n sp) (hg : Gl X n) (ha : PA X (e :: es) tr) (hdb : (n == ("__debug__" : Str)) = false := by decide) (he : starEach (e :: es) X.env = (false, eval e X.env) :: starEach es X.env := by rfl)
    (hpl : (backTo pos (starEach es X.env)).any (·.1) = false := by rfl) : PE X (.Call (.Name n p) (e :: es) [] pos) (tCall sp [] E0 tr) := by
  obtain ⟨k, f, fd, ps, F, hr, hm, hk, hb⟩ := C.ok
  exact pe_call F hr hg hm hk hb .nil pass0 ha hdb he hpl
theorem cal_pe0 {sp : Sp} (C : Cal X n sp) (hg : Gl X n) (hdb : (n == ("__debug__" : Str)) = false := by decide) : PE X (.Call (.Name n p) [] [] pos) (tCall sp [] E0 tNil) := by
  obtain ⟨k, f, fd, ps, F, hr, hm, hk, hb⟩ := C.ok
  exact pe_call0 F hr hg hm hk hb .nil pass0 hdb
theorem ev_callR [RpL τ] [Rq ρ] {F : τ → Option ρ} {m : Option τ} (ha : AvJ (fun Hi _ x vs => RpL.reps Hi x vs) tr G m) : EvJ (tCall (SpR F) [] E0 tr) G (m.bind F) := fun B Hi T tv s H Q z hx hl hs k => by
  obtain ⟨x, e1, e2⟩ := bind_some hx
  refine ha B Hi T tv s H _ x e1 hl hs fun vs Hi1 H1 s1 r1 => ?_
  refine ⟨Hi1, x, z, s1.sub, by rw [List.append_nil]; exact r1, e2, fun v H' sm r => ?_⟩
  exact k v _ H' (s1.grow sm) r
theorem ev_callO [RpL τ] [Rq ρ] {F : τ → Option (List ρ)} {m : Option τ} (ha : AvJ (fun Hi _ x vs => RpL.reps Hi x vs) tr G m) : OvJ (tCall (SpO F) [] E0 tr) G (m.bind F) := fun B Hi T tv s H Q z hx hl hs k => by
  obtain ⟨x, e1, e2⟩ := bind_some hx
  refine ha B Hi T tv s H _ x e1 hl hs fun vs Hi1 H1 s1 r1 => ?_
  refine ⟨Hi1, x, z, s1.sub, by rw [List.append_nil]; exact r1, e2, fun p us H' sm hn hp hz r => ?_⟩
  have sm2 : Same H1 (del H' p) := fun a o h => by rw [del_ne (ne_of_none h hn)]; exact sm _ _ h
  have s2 := s1.grow sm2
  have e3 : join Hi1 H1 (del H' p) = del (join Hi1 H1 H') p := by
    funext a
    by_cases z : a = p
    · rw [z, del_same, join_none hn, del_same]
    · rw [del_ne z]
      cases w : H1 a with
      | none => rw [join_none w, join_none w, del_ne z]
      | some y => rw [join_some w, join_some w]
  rw [e3] at s2
  exact k p _ H' ⟨p, one p (.lst us), rfl, same_one hp, ⟨_, rfl, us, rfl, hz, r⟩, by rw [minus_one]; exact s2⟩
theorem ev_callW [RpL τ] [Rq ρ] [NoL ρ] {F : τ → Option ρ} {m : Option τ} (ha : AvJ (fun Hi H x vs => RpL.reps (wide Hi H) x vs) tr G m) : EvJ (tCall (SpR F) [] E0 tr) G (m.bind F) := fun B Hi T tv s H Q z hx hl hs k => by
  obtain ⟨x, e1, e2⟩ := bind_some hx
  refine ha B Hi T tv s H _ x e1 hl hs fun vs Hi1 H1 s1 r1 => ?_
  refine ⟨wide Hi1 H1, x, z, wide_sub s1.sub, by rw [List.append_nil]; exact r1, e2, fun v H' sm r => ?_⟩
  refine k v _ H' (s1.grow sm) (NoL.tr (fun a xs q => ?_) r)
  cases w : H1 a with
  | none => rw [join_none w] at q ⊢; exact q
  | some y => rw [join_some w] at q ⊢; exact wide_tup q
theorem ej_call [RpL τ] [Rq ρ] {F : τ → Option ρ} {m : Option τ} (C : Cal X n (SpR F)) (ha : AJ X (e :: es) tr G m) (hg : Gl X n := by rfl) (hdb : (n == ("__debug__" : Str)) = false := by decide) (he : starEach (e :: es) X.env = (false, eval e X.env) :: starEach es X.env := by rfl)
    (hpl : (backTo pos (starEach es X.env)).any (·.1) = false := by rfl) : EJ X (.Call (.Name n p) (e :: es) [] pos) (tCall (SpR F) [] E0 tr) G (m.bind F) := ⟨cal_pe C hg ha.pa hdb he hpl, ev_callR ha.ev⟩
theorem ej_callW [RpL τ] [Rq ρ] [NoL ρ] {F : τ → Option ρ} {m : Option τ} (C : Cal X n (SpR F)) (ha : AW X (e :: es) tr G m) (hg : Gl X n := by rfl) (hdb : (n == ("__debug__" : Str)) = false := by decide) (he : starEach (e :: es) X.env = (false, eval e X.env) :: starEach es X.env := by rfl)
    (hpl : (backTo pos (starEach es X.env)).any (·.1) = false := by rfl) : EJ X (.Call (.Name n p) (e :: es) [] pos) (tCall (SpR F) [] E0 tr) G (m.bind F) := ⟨cal_pe C hg ha.pa hdb he hpl, ev_callW ha.ev⟩
theorem oj_call [RpL τ] [Rq ρ] {F : τ → Option (List ρ)} {m : Option τ} (C : Cal X n (SpO F)) (ha : AJ X (e :: es) tr G m) (hg : Gl X n := by rfl) (hdb : (n == ("__debug__" : Str)) = false := by decide) (he : starEach (e :: es) X.env = (false, eval e X.env) :: starEach es X.env := by rfl)
    (hpl : (backTo pos (starEach es X.env)).any (·.1) = false := by rfl) : OJ X (.Call (.Name n p) (e :: es) [] pos) (tCall (SpO F) [] E0 tr) G (m.bind F) := ⟨cal_pe C hg ha.pa hdb he hpl, ev_callO ha.ev⟩

/-! ### displays -/
/-- items of one kind -/
def LvJ [Rq α] (t : TA) (G : List SV) (m : Option (List α)) : Prop :=
  ∀ (B : Bk) (Hi : Hp) (T : List SV) (tv s : L2.St) (H : Hp) (Q : List V → Hp → Prop) (x : List α), m = some x → tv.length = T.length → SatG B Hi (T ++ G) (tv ++ s) H →
    (∀ vs Hi' H', SatG B Hi' (T ++ G) (tv ++ s) H' → Paired (rq Hi') x vs → Q vs H') → t s H Q
structure IL [Rq α] (X : Cx) (es : List Expr) (t : TA) (G : List SV) (m : Option (List α)) : Prop where
  pa : PA X es t
  ev : LvJ t G m
  ln : ∀ x, m = some x → x.length = es.length
theorem il_nil [Rq α] : IL X [] tNil G (some ([] : List α)) := ⟨pa_nil, fun B Hi T tv s H Q x hx hl hs k => by cases hx; exact k [] Hi H hs .nil, fun x h => by cases h; rfl⟩
theorem il_cons [Rq α] {m : Option α} {m2 : Option (List α)} (h : EJ X e t G m) (hr : IL X es tr G m2) (hst : starEach (e :: es) X.env = (false, eval e X.env) :: starEach es X.env := by rfl) :
    IL X (e :: es) (tCons t tr) G (m.bind fun x => m2.bind fun y => some (x :: y)) := ⟨pa_cons h.pe hr.pa hst, fun B Hi T tv s H Q z hx hl hs k => by
    obtain ⟨x, e1, hx⟩ := bind_some hx
    obtain ⟨y, e2, e3⟩ := bind_some hx
    cases e3
    refine h.ev B Hi T tv s H _ x e1 hl hs fun v Hi1 H1 s1 r1 => ?_
    refine hr.ev B Hi1 (fz x :: T) (some v :: tv) s H1 _ y e2 (by simp [hl]) ⟨⟨v, rfl, r1⟩, s1⟩ fun vs Hi2 H2 s2 r2 => ?_
    obtain ⟨⟨v', e4, r1'⟩, s2⟩ := s2
    cases e4
    exact k (v :: vs) Hi2 H2 s2 (.cons r1' r2), fun z hz => by
    obtain ⟨x, e1, hx⟩ := bind_some hz
    obtain ⟨y, e2, e3⟩ := bind_some hx
    cases e3
    rw [List.length_cons, List.length_cons, hr.ln y e2]⟩
theorem oj_lst [Rq α] {m : Option (List α)} (h : IL X es tr G m) (hn : es.length ≤ 1000 := by decide) : OJ X (.List es pos) (tLst tr) G m := ⟨pe_lst h.pa, fun B Hi T tv s H Q z hx hl hs k => by
  refine h.ev B Hi T tv s H _ z hx hl hs fun vs Hi1 H1 s1 r1 => ?_
  have l1 := Paired.length r1
  have l2 := h.ln z hx
  have l3 : vs.length ≤ sizeLine := Nat.le_trans (by omega : vs.length ≤ 1000) (by decide)
  exact ⟨l3, fun p hp => k p Hi1 _ (s1.newO (φ := isL z) hp ⟨vs, rfl, l3, r1⟩)⟩⟩
theorem sat_tup {B : Bk} {Hi H : Hp} {L : List SV} {s : L2.St} {p : Addr} {vs : List V} (h : SatG B Hi L s H) (hp : H p = none) : SatG B (upd Hi p (.tup vs)) L s (upd H p (.tup vs)) ∧ Same Hi (upd Hi p (.tup vs)) :=
  ⟨h.newF hp, same_new (same_none h.sub hp)⟩
theorem ej_tup2 [Rq α] [Rq β] {m : Option (α × β × Unit)} {x1} (h : AJ X [a, b] tr G m) : EJ X (.Tuple [a, b] x1 pos) (tTup tr) G (m.bind fun x => some (x.1, x.2.1)) := ⟨pe_tup h.pa, fun B Hi T tv s H Q z hx hl hs k => by
  obtain ⟨x, e1, e2⟩ := bind_some hx
  cases e2
  refine h.ev B Hi T tv s H _ x e1 hl hs fun vs Hi1 H1 s1 r1 => ?_
  obtain ⟨v1, us, rfl, h1, v2, us2, rfl, h2, h3⟩ := r1
  cases h3
  refine ⟨by show 2 ≤ sizeLine; decide, fun p hp => ?_⟩
  obtain ⟨s2, sm⟩ := sat_tup (vs := [v1, v2]) s1 hp
  exact k _ _ _ s2 ⟨p, v1, v2, rfl, upd_same, Rq.mono sm h1, Rq.mono sm h2⟩⟩
theorem ej_tup3 [Rq α] [Rq β] [Rq γ] {m : Option (α × β × γ × Unit)} {x1} (h : AJ X [a, b, c] tr G m) : EJ X (.Tuple [a, b, c] x1 pos) (tTup tr) G (m.bind fun x => some (T3.mk x.1 x.2.1 x.2.2.1)) := ⟨pe_tup h.pa, fun B Hi T tv s H Q z hx hl hs k => by
  obtain ⟨x, e1, e2⟩ := bind_some hx
  cases e2
  refine h.ev B Hi T tv s H _ x e1 hl hs fun vs Hi1 H1 s1 r1 => ?_
  obtain ⟨v1, us, rfl, h1, v2, us2, rfl, h2, v3, us3, rfl, h3, h4⟩ := r1
  cases h4
  refine ⟨by show 3 ≤ sizeLine; decide, fun p hp => ?_⟩
  obtain ⟨s2, sm⟩ := sat_tup (vs := [v1, v2, v3]) s1 hp
  exact k _ _ _ s2 ⟨p, v1, v2, v3, rfl, upd_same, Rq.mono sm h1, Rq.mono sm h2, Rq.mono sm h3⟩⟩
theorem ej_tupN [Rq α] {m : Option (List α)} {x1} (h : IL X es tr G m) (hn : es.length ≤ 1000 := by decide) : EJ X (.Tuple es x1 pos) (tTup tr) G (m.bind fun x => some (Tp.mk x)) := ⟨pe_tup h.pa, fun B Hi T tv s H Q z hx hl hs k => by
  obtain ⟨x, e1, e2⟩ := bind_some hx
  cases e2
  refine h.ev B Hi T tv s H _ x e1 hl hs fun vs Hi1 H1 s1 r1 => ?_
  have l1 := Paired.length r1
  have l2 := h.ln x e1
  have l3 : vs.length ≤ sizeLine := Nat.le_trans (by omega : vs.length ≤ 1000) (by decide)
  refine ⟨l3, fun p hp => ?_⟩
  obtain ⟨s2, sm⟩ := sat_tup (vs := vs) s1 hp
  exact k _ _ _ s2 ⟨p, vs, rfl, upd_same, l3, Paired.mono r1 fun _ _ => Rq.mono sm⟩⟩

/-! ### places, lengths -/
theorem Paired.get {F : α → β → Prop} : ∀ {l : List α} {m : List β} {i : Nat} {x : α}, Paired F l m → l[i]? = some x → ∃ y, m[i]? = some y ∧ F x y
  | _, _, _, _, .nil, e => by simp at e
  | _, _, 0, x, .cons r _, e => by
    simp at e; subst e; exact ⟨_, rfl, r⟩
  | _, _, i + 1, x, .cons _ t, e => by
    obtain ⟨y, h1, h2⟩ := Paired.get (i := i) (x := x) t (by simpa using e)
    exact ⟨y, by simpa using h1, h2⟩
theorem Paired.atI {F : α → β → Prop} {l : List α} {m : List β} {i : Int} {x : α} (h : Paired F l m) (e : L2.atI l i = some x) : ∃ y, L2.atI m i = some y ∧ F x y := by
  unfold L2.atI at e ⊢
  rw [← Paired.length h]
  cases q : L2.ixN l.length i with
  | none => rw [q] at e; cases e
  | some j =>
    rw [q] at e
    exact Paired.get h e
/-- a list, then something else, by values -/
theorem ev_ljop [Rq α] [Rq β] [Rq γ] {P : Hp → Hp → List α → V → Prop} {r : R2} {f : List α → β → Option γ} (hf : ∀ Hi H xs y vx vy z (Q : VK), Same Hi H → P Hi H xs vx → rq Hi y vy → f xs y = some z → (∀ v, rq Hi z v → Q v H) → r vx vy H Q)
    {m1 : Option (List α)} {m2 : Option β} (ha : StJ P ta G m1) (hb : EvJ tb G m2) : EvJ (tOp r ta tb) G (m1.bind fun x => m2.bind fun y => f x y) := fun B Hi T tv s H Q z hx hl hs k => by
  obtain ⟨x, e1, hx⟩ := bind_some hx
  obtain ⟨y, e2, e3⟩ := bind_some hx
  refine ha B Hi T tv s H _ x e1 hl hs fun vx T' tv' Hi1 H1 l1 s1 r1 => ?_
  refine hb B Hi1 T' tv' s H1 _ y e2 l1 s1 fun vy Hi2 H2 s2 r2 => ?_
  obtain ⟨s3, r3⟩ := r1 Hi2 H2 s2
  exact hf Hi2 H2 x y vx vy z Q s3.sub r3 r2 e3 fun v r => k v Hi2 H2 s3 r
theorem ej_ix [Rq α] {m1 : Option (List α)} {m2 : Option Int} (ha : LK X a ta G m1) (hb : EJ X b tb G m2) (hs : PlainIx b := by exact fun _ _ => rfl) : EJ X (.Subscript a b pos) (tOp (rIxL X.K) ta tb) G (m1.bind fun x => m2.bind fun y => atI x y) :=
  ⟨pe_ix ix_list ha.pe hb.pe hs, ev_ljop (fun Hi H xs y vx vy z Q sm h r e k => by
    obtain ⟨a, vs, h1, h2, h3, h4⟩ := h
    cases r
    obtain ⟨v, h5, h6⟩ := Paired.atI h4 e
    exact ⟨a, vs, y, v, h1, rfl, h2, h5, k v h6⟩) ha.ev hb.ev⟩
theorem ej_ix0 [Rq α] [Rq β] {m : Option (α × β)} {j} {p2 : Pos} (ha : EJ X a ta G m) : EJ X (.Subscript a (.Constant (.int 0) j p2) pos) (tOp (rIxT X.K) ta (tC (.int 0))) G (m.bind fun x => some x.1) :=
  ⟨pe_ix ix_tup ha.pe pe_int (fun _ _ => rfl), fun B Hi T tv s H Q z hx hl hs k => by
    obtain ⟨x, e1, e2⟩ := bind_some hx
    cases e2
    refine ha.ev B Hi T tv s H _ x e1 hl hs fun v Hi1 H1 s1 r1 => ?_
    obtain ⟨q, v1, v2, h1, h2, h3, h4⟩ := r1
    exact ⟨q, [v1, v2], 0, v1, h1, rfl, SqT.of (s1.sub _ _ h2), atI_nat (j := 0) rfl, k v1 Hi1 H1 s1 h3⟩⟩
theorem ej_ix1 [Rq α] [Rq β] {m : Option (α × β)} {j} {p2 : Pos} (ha : EJ X a ta G m) : EJ X (.Subscript a (.Constant (.int 1) j p2) pos) (tOp (rIxT X.K) ta (tC (.int 1))) G (m.bind fun x => some x.2) :=
  ⟨pe_ix ix_tup ha.pe pe_int (fun _ _ => rfl), fun B Hi T tv s H Q z hx hl hs k => by
    obtain ⟨x, e1, e2⟩ := bind_some hx
    cases e2
    refine ha.ev B Hi T tv s H _ x e1 hl hs fun v Hi1 H1 s1 r1 => ?_
    obtain ⟨q, v1, v2, h1, h2, h3, h4⟩ := r1
    exact ⟨q, [v1, v2], 1, v2, h1, rfl, SqT.of (s1.sub _ _ h2), atI_nat (j := 1) rfl, k v2 Hi1 H1 s1 h4⟩⟩
theorem ej_ix30 [Rq α] [Rq β] [Rq γ] {m : Option (T3 α β γ)} {j} {p2 : Pos} (ha : EJ X a ta G m) : EJ X (.Subscript a (.Constant (.int 0) j p2) pos) (tOp (rIxT X.K) ta (tC (.int 0))) G (m.bind fun x => some x.a) :=
  ⟨pe_ix ix_tup ha.pe pe_int (fun _ _ => rfl), fun B Hi T tv s H Q z hx hl hs k => by
    obtain ⟨x, e1, e2⟩ := bind_some hx
    cases e2
    refine ha.ev B Hi T tv s H _ x e1 hl hs fun v Hi1 H1 s1 r1 => ?_
    obtain ⟨q, v1, v2, v3, h1, h2, h3, h4, h5⟩ := r1
    exact ⟨q, [v1, v2, v3], 0, v1, h1, rfl, SqT.of (s1.sub _ _ h2), atI_nat (j := 0) rfl, k v1 Hi1 H1 s1 h3⟩⟩
theorem ej_ix31 [Rq α] [Rq β] [Rq γ] {m : Option (T3 α β γ)} {j} {p2 : Pos} (ha : EJ X a ta G m) : EJ X (.Subscript a (.Constant (.int 1) j p2) pos) (tOp (rIxT X.K) ta (tC (.int 1))) G (m.bind fun x => some x.b) :=
  ⟨pe_ix ix_tup ha.pe pe_int (fun _ _ => rfl), fun B Hi T tv s H Q z hx hl hs k => by
    obtain ⟨x, e1, e2⟩ := bind_some hx
    cases e2
    refine ha.ev B Hi T tv s H _ x e1 hl hs fun v Hi1 H1 s1 r1 => ?_
    obtain ⟨q, v1, v2, v3, h1, h2, h3, h4, h5⟩ := r1
    exact ⟨q, [v1, v2, v3], 1, v2, h1, rfl, SqT.of (s1.sub _ _ h2), atI_nat (j := 1) rfl, k v2 Hi1 H1 s1 h4⟩⟩
theorem ej_ix32 [Rq α] [Rq β] [Rq γ] {m : Option (T3 α β γ)} {j} {p2 : Pos} (ha : EJ X a ta G m) : EJ X (.Subscript a (.Constant (.int 2) j p2) pos) (tOp (rIxT X.K) ta (tC (.int 2))) G (m.bind fun x => some x.c) :=
  ⟨pe_ix ix_tup ha.pe pe_int (fun _ _ => rfl), fun B Hi T tv s H Q z hx hl hs k => by
    obtain ⟨x, e1, e2⟩ := bind_some hx
    cases e2
    refine ha.ev B Hi T tv s H _ x e1 hl hs fun v Hi1 H1 s1 r1 => ?_
    obtain ⟨q, v1, v2, v3, h1, h2, h3, h4, h5⟩ := r1
    exact ⟨q, [v1, v2, v3], 2, v3, h1, rfl, SqT.of (s1.sub _ _ h2), atI_nat (j := 2) rfl, k v3 Hi1 H1 s1 h5⟩⟩
/-- a builtin of one argument that is read -/
theorem ev_s1 {P : Hp → Hp → α → V → Prop} [Rq γ] {r : List V → Hp → VK → Prop} {f : α → Option γ} (hf : ∀ Hi H x v z (Q : VK), Same Hi H → P Hi H x v → f x = some z → (∀ u, rq Hi z u → Q u H) → r [v] H Q)
    {m1 : Option α} (ha : StJ P ta G m1) : EvJ (tCB r (tCons ta tNil)) G (m1.bind f) := fun B Hi T tv s H Q z hx hl hs k => by
  obtain ⟨x, e1, e2⟩ := bind_some hx
  refine ha B Hi T tv s H _ x e1 hl hs fun vx T' tv' Hi1 H1 l1 s1 r1 => ?_
  obtain ⟨s3, r3⟩ := r1 Hi1 H1 s1
  exact hf Hi1 H1 x vx z Q s3.sub r3 e2 fun v r => k v Hi1 H1 s3 r
theorem ej_len [Rq α] {m1 : Option (List α)} (ha : LK X a ta G m1) (hm : X.mg "len" = none) (hg : Gl X "len" := by rfl) (he : starEach [a] X.env = (false, eval a X.env) :: starEach [] X.env := by rfl) :
    EJ X (.Call (.Name "len" p) [a] [] pos) (tCB (fun xs H Q => ∃ p ys, xs = [.ref p] ∧ (SqL X.K H p ys ∨ SqT X.K H p ys) ∧ Q (.int ys.length) H) (tCons ta tNil)) G (m1.bind fun x => some (x.length : Int)) :=
  ⟨pe_callB call_len_seq hg hm PySem.boot_len (pa_cons ha.pe pa_nil he) (by decide) (by decide) he rfl, ev_s1 (f := fun x : List α => some (x.length : Int)) (fun Hi H xs v z Q sm h e k => by
    obtain ⟨q, vs, h1, h2, h3, h4⟩ := h
    cases e
    exact ⟨q, vs, by rw [h1], .inl h2, k _ (by rw [Paired.length h4]; rfl)⟩) ha.ev⟩
theorem ej_lenT [Rq α] {m1 : Option (Tp α)} (ha : EJ X a ta G m1) (hm : X.mg "len" = none) (hg : Gl X "len" := by rfl) (he : starEach [a] X.env = (false, eval a X.env) :: starEach [] X.env := by rfl) :
    EJ X (.Call (.Name "len" p) [a] [] pos) (tCB (fun xs H Q => ∃ p ys, xs = [.ref p] ∧ (SqL X.K H p ys ∨ SqT X.K H p ys) ∧ Q (.int ys.length) H) (tCons ta tNil)) G (m1.bind fun x => some (x.l.length : Int)) :=
  ⟨pe_callB call_len_seq hg hm PySem.boot_len (pa_cons ha.pe pa_nil he) (by decide) (by decide) he rfl, ev_s1 (P := fun Hi H x v => rq H x v) (f := fun x : Tp α => some (x.l.length : Int)) (fun Hi H xs v z Q sm h e k => by
    obtain ⟨q, vs, h1, h2, h3, h4⟩ := h
    cases e
    exact ⟨q, vs, by rw [h1], .inr (SqT.of h2), k _ (by rw [Paired.length h4]; rfl)⟩) (StJ.ofE (fun _ _ _ _ e r => Rq.mono e r) ha.ev)⟩
/-- the length of a pair -/
theorem ej_lenP [Rq α] [Rq β] {m1 : Option (α × β)} (ha : EJ X a ta G m1) (hm : X.mg "len" = none) (hg : Gl X "len" := by rfl) (he : starEach [a] X.env = (false, eval a X.env) :: starEach [] X.env := by rfl) :
    EJ X (.Call (.Name "len" p) [a] [] pos) (tCB (fun xs H Q => ∃ p ys, xs = [.ref p] ∧ (SqL X.K H p ys ∨ SqT X.K H p ys) ∧ Q (.int ys.length) H) (tCons ta tNil)) G (m1.bind fun _ => some (2 : Int)) :=
  ⟨pe_callB call_len_seq hg hm PySem.boot_len (pa_cons ha.pe pa_nil he) (by decide) (by decide) he rfl, ev_s1 (P := fun Hi H x v => rq H x v) (f := fun _ : α × β => some (2 : Int)) (fun Hi H xs v z Q sm h e k => by
    obtain ⟨q, v1, v2, h1, h2, h3, h4⟩ := h
    cases e
    exact ⟨q, [v1, v2], by rw [h1], .inr (SqT.of h2), k _ rfl⟩) (StJ.ofE (fun _ _ _ _ e r => Rq.mono e r) ha.ev)⟩
/-- ints in a list -/
theorem paired_ints {H : Hp} : ∀ {ns : List Int} {vs : List V}, Paired (rq H) ns vs → vs = ns.map V.int
  | _, _, .nil => rfl
  | _, _, .cons r t => by rw [List.map_cons, paired_ints t]; cases r; rfl
theorem ints_paired {H : Hp} : ∀ ns : List Int, Paired (rq H) ns (ns.map V.int)
  | [] => .nil
  | _ :: l => .cons rfl (ints_paired l)
theorem ej_sum {m1 : Option (List Int)} (hc : X.calm = true) (ha : LK X a ta G m1) (hm : X.mg "sum" = none) (hg : Gl X "sum" := by rfl) (he : starEach [a] X.env = (false, eval a X.env) :: starEach [] X.env := by rfl) :
    EJ X (.Call (.Name "sum" p) [a] [] pos) (tCB (rSum X.K) (tCons ta tNil)) G (m1.bind fun x => some x.sum) :=
  ⟨pe_callB (cr_sum hc) hg hm (by decide +kernel) (pa_cons ha.pe pa_nil he) (by decide) (by decide) he rfl, ev_s1 (f := fun x : List Int => some x.sum) (fun Hi H xs v z Q sm h e k => by
    obtain ⟨q, vs, h1, h2, h3, h4⟩ := h
    cases e
    rw [paired_ints h4] at h2
    exact ⟨q, xs, by rw [h1], h2, k _ rfl⟩) ha.ev⟩
/-- the greatest, the least -/
def maxL : List Int → Option Int
  | [] => none
  | x :: xs => some (xs.foldl (fun a b => if b > a then b else a) x)
def minL : List Int → Option Int
  | [] => none
  | x :: xs => some (xs.foldl (fun a b => if b < a then b else a) x)
theorem foldmax : ∀ (xs : List Int) (x : Int), (xs.foldl (fun a b => if b > a then b else a) x ∈ x :: xs) ∧ ∀ y ∈ x :: xs, y ≤ xs.foldl (fun a b => if b > a then b else a) x
  | [], x => ⟨by simp, fun y hy => by simp at hy; rw [hy]; exact Int.le_refl _⟩
  | z :: xs, x => by
    obtain ⟨h1, h2⟩ := foldmax xs (if z > x then z else x)
    rw [List.foldl_cons]
    refine ⟨?_, fun y hy => ?_⟩
    · rcases List.mem_cons.mp h1 with e | e
      · rw [e]; split <;> simp
      · exact List.mem_cons_of_mem _ (List.mem_cons_of_mem _ e)
    · have h3 := h2 _ List.mem_cons_self
      rcases List.mem_cons.mp hy with e | e
      · subst e; split at h3 <;> split <;> omega
      · rcases List.mem_cons.mp e with e | e
        · subst e; split at h3 <;> split <;> omega
        · exact h2 y (List.mem_cons_of_mem _ e)
theorem foldmin : ∀ (xs : List Int) (x : Int), (xs.foldl (fun a b => if b < a then b else a) x ∈ x :: xs) ∧ ∀ y ∈ x :: xs, xs.foldl (fun a b => if b < a then b else a) x ≤ y
  | [], x => ⟨by simp, fun y hy => by simp at hy; rw [hy]; exact Int.le_refl _⟩
  | z :: xs, x => by
    obtain ⟨h1, h2⟩ := foldmin xs (if z < x then z else x)
    rw [List.foldl_cons]
    refine ⟨?_, fun y hy => ?_⟩
    · rcases List.mem_cons.mp h1 with e | e
      · rw [e]; split <;> simp
      · exact List.mem_cons_of_mem _ (List.mem_cons_of_mem _ e)
    · have h3 := h2 _ List.mem_cons_self
      rcases List.mem_cons.mp hy with e | e
      · subst e; split at h3 <;> split <;> omega
      · rcases List.mem_cons.mp e with e | e
        · subst e; split at h3 <;> split <;> omega
        · exact h2 y (List.mem_cons_of_mem _ e)
theorem maxL_is {xs : List Int} {m : Int} (h : maxL xs = some m) : m ∈ xs ∧ ∀ y ∈ xs, y ≤ m := by
  cases xs with
  | nil => cases h
  | cons x xs => cases h; exact foldmax xs x
theorem minL_is {xs : List Int} {m : Int} (h : minL xs = some m) : m ∈ xs ∧ ∀ y ∈ xs, m ≤ y := by
  cases xs with
  | nil => cases h
  | cons x xs => cases h; exact foldmin xs x
theorem ej_max {m1 : Option (List Int)} (hc : X.calm = true) (ha : LK X a ta G m1) (hm : X.mg "max" = none) (hg : Gl X "max" := by rfl) (he : starEach [a] X.env = (false, eval a X.env) :: starEach [] X.env := by rfl) :
    EJ X (.Call (.Name "max" p) [a] [] pos) (tCB (rMax X.K) (tCons ta tNil)) G (m1.bind maxL) :=
  ⟨pe_callB (cr_max hc) hg hm (by decide +kernel) (pa_cons ha.pe pa_nil he) (by decide) (by decide) he rfl, ev_s1 (f := maxL) (fun Hi H xs v z Q sm h e k => by
    obtain ⟨q, vs, h1, h2, h3, h4⟩ := h
    obtain ⟨e1, e2⟩ := maxL_is e
    rw [paired_ints h4] at h2
    refine ⟨q, xs, by rw [h1], h2, List.length_pos_of_mem e1, fun m g1 g2 => k _ ?_⟩
    have : m = z := Int.le_antisymm (e2 _ g1) (g2 _ e1)
    rw [this]; rfl) ha.ev⟩
theorem ej_min {m1 : Option (List Int)} (hc : X.calm = true) (ha : LK X a ta G m1) (hm : X.mg "min" = none) (hg : Gl X "min" := by rfl) (he : starEach [a] X.env = (false, eval a X.env) :: starEach [] X.env := by rfl) :
    EJ X (.Call (.Name "min" p) [a] [] pos) (tCB (rMin X.K) (tCons ta tNil)) G (m1.bind minL) :=
  ⟨pe_callB (cr_min hc) hg hm (by decide +kernel) (pa_cons ha.pe pa_nil he) (by decide) (by decide) he rfl, ev_s1 (f := minL) (fun Hi H xs v z Q sm h e k => by
    obtain ⟨q, vs, h1, h2, h3, h4⟩ := h
    obtain ⟨e1, e2⟩ := minL_is e
    rw [paired_ints h4] at h2
    refine ⟨q, xs, by rw [h1], h2, List.length_pos_of_mem e1, fun m g1 g2 => k _ ?_⟩
    have : m = z := Int.le_antisymm (g2 _ e1) (e2 _ g1)
    rw [this]; rfl) ha.ev⟩
/-- builtins upon ints -/
theorem ev_b1 [Rq α] [Rq γ] {r : List V → Hp → VK → Prop} {f : α → Option γ} (hf : ∀ Hi H x v z (Q : VK), Same Hi H → rq Hi x v → f x = some z → (∀ u, rq Hi z u → Q u H) → r [v] H Q)
    {m1 : Option α} (ha : EvJ ta G m1) : EvJ (tCB r (tCons ta tNil)) G (m1.bind f) := fun B Hi T tv s H Q z hx hl hs k => by
  obtain ⟨x, e1, e2⟩ := bind_some hx
  refine ha B Hi T tv s H _ x e1 hl hs fun vx Hi1 H1 s1 r1 => ?_
  exact hf Hi1 H1 x vx z Q s1.sub r1 e2 fun v r => k v Hi1 H1 s1 r
theorem ev_b2 [Rq α] [Rq β] [Rq γ] {r : List V → Hp → VK → Prop} {f : α → β → Option γ} (hf : ∀ Hi H x y v u z (Q : VK), Same Hi H → rq Hi x v → rq Hi y u → f x y = some z → (∀ u, rq Hi z u → Q u H) → r [v, u] H Q)
    {m1 : Option α} {m2 : Option β} (ha : EvJ ta G m1) (hb : EvJ tb G m2) : EvJ (tCB r (tCons ta (tCons tb tNil))) G (m1.bind fun x => m2.bind fun y => f x y) := fun B Hi T tv s H Q z hx hl hs k => by
  obtain ⟨x, e1, hx⟩ := bind_some hx
  obtain ⟨y, e2, e3⟩ := bind_some hx
  refine ha B Hi T tv s H _ x e1 hl hs fun vx Hi1 H1 s1 r1 => ?_
  refine hb B Hi1 (fz x :: T) (some vx :: tv) s H1 _ y e2 (by simp [hl]) ⟨⟨vx, rfl, r1⟩, s1⟩ fun vy Hi2 H2 s2 r2 => ?_
  obtain ⟨⟨v', e4, r1'⟩, s2⟩ := s2
  cases e4
  exact hf Hi2 H2 x y vx vy z Q s2.sub r1' r2 e3 fun v r => k v Hi2 H2 s2 r
theorem ej_abs {m1 : Option Int} (ha : EJ X a ta G m1) (hm : X.mg "abs" = none) (hg : Gl X "abs" := by rfl) (he : starEach [a] X.env = (false, eval a X.env) :: starEach [] X.env := by rfl) :
    EJ X (.Call (.Name "abs" p) [a] [] pos) (tCB (fun xs H Q => ∃ i, xs = [.int i] ∧ Q (.int (if i < 0 then -i else i)) H) (tCons ta tNil)) G (m1.bind fun x => some (if x < 0 then -x else x)) :=
  ⟨pe_callB call_abs hg hm (by decide +kernel) (pa_cons ha.pe pa_nil he) (by decide) (by decide) he rfl, ev_b1 (f := fun x : Int => some (if x < 0 then -x else x)) (fun Hi H x v z Q sm h e k => by
    cases h; cases e
    exact ⟨x, rfl, k _ rfl⟩) ha.ev⟩
theorem ej_intB {m1 : Option Bool} (ha : EJ X a ta G m1) (hm : X.mg "int" = none) (hg : Gl X "int" := by rfl) (he : starEach [a] X.env = (false, eval a X.env) :: starEach [] X.env := by rfl) :
    EJ X (.Call (.Name "int" p) [a] [] pos) (tCB (fun xs H Q => (∃ i, xs = [.int i] ∧ Q (.int i) H) ∨ ∃ k, xs = [.bl k] ∧ Q (.int (if k then 1 else 0)) H) (tCons ta tNil)) G (m1.bind fun x => some (if x = true then 1 else 0 : Int)) :=
  ⟨pe_callTy call_int1 hg hm (by decide +kernel) (pa_cons ha.pe pa_nil he) (by decide) (by decide) he rfl, ev_b1 (f := fun x : Bool => some (if x = true then 1 else 0 : Int)) (fun Hi H x v z Q sm h e k => by
    cases h; cases e
    exact .inr ⟨x, rfl, k _ rfl⟩) ha.ev⟩
theorem ej_max2 {m1 m2 : Option Int} (hc : X.calm = true) (ha : EJ X a ta G m1) (hb : EJ X b tb G m2) (hm : X.mg "max" = none) (hg : Gl X "max" := by rfl) (he : starEach [a, b] X.env = (false, eval a X.env) :: starEach [b] X.env := by rfl) (he2 : starEach [b] X.env = (false, eval b X.env) :: starEach [] X.env := by rfl)
    (hpl : (backTo pos (starEach [b] X.env)).any (·.1) = false := by rfl) :
    EJ X (.Call (.Name "max" p) [a, b] [] pos) (tCB (fun xs H Q => ∃ i j, xs = [.int i, .int j] ∧ Q (.int (if j > i then j else i)) H) (tCons ta (tCons tb tNil))) G (m1.bind fun x => m2.bind fun y => some (if y > x then y else x)) :=
  ⟨pe_callB (call_max2 hc) hg hm (by decide +kernel) (pa_cons ha.pe (pa_cons hb.pe pa_nil he2) he) (by decide) (by decide) he hpl, ev_b2 (f := fun x y : Int => some (if y > x then y else x)) (fun Hi H x y v u z Q sm h h' e k => by
    cases h; cases h'; cases e
    exact ⟨x, y, rfl, k _ rfl⟩) ha.ev hb.ev⟩
theorem ej_min2 {m1 m2 : Option Int} (hc : X.calm = true) (ha : EJ X a ta G m1) (hb : EJ X b tb G m2) (hm : X.mg "min" = none) (hg : Gl X "min" := by rfl) (he : starEach [a, b] X.env = (false, eval a X.env) :: starEach [b] X.env := by rfl) (he2 : starEach [b] X.env = (false, eval b X.env) :: starEach [] X.env := by rfl)
    (hpl : (backTo pos (starEach [b] X.env)).any (·.1) = false := by rfl) :
    EJ X (.Call (.Name "min" p) [a, b] [] pos) (tCB (fun xs H Q => ∃ i j, xs = [.int i, .int j] ∧ Q (.int (if j < i then j else i)) H) (tCons ta (tCons tb tNil))) G (m1.bind fun x => m2.bind fun y => some (if y < x then y else x)) :=
  ⟨pe_callB (call_min2 hc) hg hm (by decide +kernel) (pa_cons ha.pe (pa_cons hb.pe pa_nil he2) he) (by decide) (by decide) he hpl, ev_b2 (f := fun x y : Int => some (if y < x then y else x)) (fun Hi H x y v u z Q sm h h' e k => by
    cases h; cases h'; cases e
    exact ⟨x, y, rfl, k _ rfl⟩) ha.ev hb.ev⟩
/-- isinstance, by the kind of the value -/
class TyN (α : Type) [Rq α] where
  n : String
  ty : ∀ {K : PySem.W.Frag} {H : Hp} {x : α} {v : V}, rq H x v → TyX K H v (.type n)
instance : TyN Int := ⟨"int", fun h => by cases h; exact .base (.int _)⟩
instance : TyN Bool := ⟨"bool", fun h => by cases h; exact .base (.bl _)⟩
instance : TyN Str := ⟨"str", fun h => by cases h; exact .base (.str _)⟩
instance : TyN Unit := ⟨"NoneType", fun h => by cases h; exact .base .non⟩
instance {α : Type} [Rq α] : TyN (List α) := ⟨"list", fun h => by obtain ⟨a, vs, h1, h2, _⟩ := h; subst h1; exact .base (.lst h2)⟩
instance {α β : Type} [Rq α] [Rq β] : TyN (α × β) := ⟨"tuple", fun h => by obtain ⟨a, v1, v2, h1, h2, _⟩ := h; subst h1; exact .base (.tup h2)⟩
instance {α β γ : Type} [Rq α] [Rq β] [Rq γ] : TyN (T3 α β γ) := ⟨"tuple", fun h => by obtain ⟨a, v1, v2, v3, h1, h2, _⟩ := h; subst h1; exact .base (.tup h2)⟩
instance {α : Type} [Rq α] : TyN (Tp α) := ⟨"tuple", fun h => by obtain ⟨a, vs, h1, h2, _⟩ := h; subst h1; exact .base (.tup h2)⟩
theorem ej_isi [Rq α] [TyN α] {m1 : Option α} {tn : Str} {cn : String} {r : Bool} (ha : WJ X a ta G m1) (hk : kitB (TyN.n α) cn = some r) (hv : bootBuiltins tn = some (.type cn)) (hm : X.mg "isinstance" = none) (hmt : X.mg tn = none) (hg : Gl X "isinstance" := by rfl) (hgt : Gl X tn := by rfl)
    (hn : tn ≠ "__name__" := by decide) (hdb : (tn == ("__debug__" : Str)) = false := by decide) {p2 : Pos}
    (he : starEach [a, .Name tn p2] X.env = (false, eval a X.env) :: starEach [.Name tn p2] X.env := by rfl) (he2 : starEach [.Name tn p2] X.env = (false, eval (.Name tn p2) X.env) :: starEach [] X.env := by rfl) (hpl : (backTo pos (starEach [.Name tn p2] X.env)).any (·.1) = false := by rfl) :
    EJ X (.Call (.Name "isinstance" p) [a, .Name tn p2] [] pos) (tCB (rIsi X.K) (tCons ta (tCons (tC (.ty cn)) tNil))) G (m1.bind fun _ => some r) :=
  ⟨pe_callB call_isi hg hm (by decide +kernel) (pa_cons ha.pe (pa_cons (pe_bltn (v := .ty cn) hgt hmt hv rfl hn hdb) pa_nil he2) he) (by decide) (by decide) he hpl, fun B Hi T tv s H Q z hx hl hs k => by
    obtain ⟨x, e1, e2⟩ := bind_some hx
    cases e2
    refine ha.ev B Hi T tv s H _ x e1 hl hs fun v T' tv' Hi1 H1 l1 s1 r1 => ?_
    obtain ⟨s3, r3⟩ := r1 Hi1 H1 s1
    exact ⟨v, .ty cn, .type (TyN.n α), .type cn, r, rfl, .ty cn, TyN.ty (Rq.mono (wide_sub s3.sub) r3), kit_ty hk, k _ Hi1 H1 s3 rfl⟩⟩
end
end GM
namespace GM
open PySem PySem.Spec PyProof.Rows L2

section
variable {X : Cx} {e a b c : Expr} {es : List Expr} {t ta tb tc : TE} {tr : TA} {G : List SV} {α β γ τ ρ : Type} {pos p : Pos} {n : Str}
/-! ### new lists -/
theorem Paired.take {F : α → β → Prop} : ∀ {l : List α} {m : List β} (k : Nat), Paired F l m → Paired F (l.take k) (m.take k)
  | _, _, 0, _ => .nil
  | _, _, _ + 1, .nil => .nil
  | _, _, k + 1, .cons r t => .cons r (Paired.take k t)
theorem Paired.drop {F : α → β → Prop} : ∀ {l : List α} {m : List β} (k : Nat), Paired F l m → Paired F (l.drop k) (m.drop k)
  | _, _, 0, r => r
  | _, _, _ + 1, .nil => .nil
  | _, _, k + 1, .cons _ t => Paired.drop k t
theorem Paired.append {F : α → β → Prop} : ∀ {l l' : List α} {m m' : List β}, Paired F l m → Paired F l' m' → Paired F (l ++ l') (m ++ m')
  | _, _, _, _, .nil, s => s
  | _, _, _, _, .cons r t, s => .cons r (Paired.append t s)
theorem Paired.set {F : α → β → Prop} {x : α} {y : β} (r : F x y) : ∀ {l : List α} {m : List β} (i : Nat), Paired F l m → Paired F (l.set i x) (m.set i y)
  | _, _, _, .nil => .nil
  | _, _, 0, .cons _ t => .cons r t
  | _, _, i + 1, .cons q t => .cons q (Paired.set r i t)
theorem Paired.rep {F : α → β → Prop} {l : List α} {m : List β} (h : Paired F l m) : ∀ k : Nat, Paired F (List.replicate k l).flatten (List.replicate k m).flatten
  | 0 => .nil
  | k + 1 => by rw [List.replicate_succ, List.replicate_succ, List.flatten_cons, List.flatten_cons]; exact Paired.append h (Paired.rep h k)
theorem Paired.dropLast {F : α → β → Prop} {l : List α} {m : List β} (h : Paired F l m) : Paired F l.dropLast m.dropLast := by
  rw [List.dropLast_eq_take, List.dropLast_eq_take, Paired.length h]
  exact Paired.take _ h
theorem Paired.erase {F : α → β → Prop} : ∀ {l : List α} {m : List β} (i : Nat), Paired F l m → Paired F (l.eraseIdx i) (m.eraseIdx i)
  | _, _, _, .nil => .nil
  | _, _, 0, .cons _ t => t
  | _, _, i + 1, .cons r t => .cons r (Paired.erase i t)
theorem Paired.reverse {F : α → β → Prop} {l : List α} {m : List β} (h : Paired F l m) : Paired F l.reverse m.reverse := by
  induction h with
  | nil => exact .nil
  | cons r t ih => rw [List.reverse_cons, List.reverse_cons]; exact Paired.append ih (.cons r .nil)
/-- xs[lo:hi] -/
def cutL (xs : List α) (lo hi : Option Int) : List α := (xs.drop (HT.sIx xs.length 0 lo)).take (HT.sIx xs.length xs.length hi - HT.sIx xs.length 0 lo)
theorem Paired.cut {F : α → β → Prop} {l : List α} {m : List β} (h : Paired F l m) (lo hi : Option Int) {xs : List V} : Paired F (cutL l lo hi) (cutL m lo hi) := by
  unfold cutL
  rw [Paired.length h]
  exact Paired.take _ (Paired.drop _ h)
def OxJ (t : TO) (G : List SV) (m : Option (Option Int)) : Prop :=
  ∀ (B : Bk) (Hi : Hp) (T : List SV) (tv s : L2.St) (H : Hp) (Q : Option Int → Hp → Prop) (x : Option Int), m = some x → tv.length = T.length → SatG B Hi (T ++ G) (tv ++ s) H →
    (∀ Hi' H', SatG B Hi' (T ++ G) (tv ++ s) H' → Q x H') → t s H Q
structure PX (X : Cx) (e : Option Expr) (t : TO) (G : List SV) (m : Option (Option Int)) : Prop where
  po : PO X e t
  ev : OxJ t G m
theorem px_none : PX X none tNoPart G (some none) := ⟨po_none, fun B Hi T tv s H Q x hx hl hs k => by cases hx; exact k Hi H hs⟩
theorem px_some {m : Option Int} (h : EJ X e t G m) : PX X (some e) (tPart t) G (m.bind fun x => some (some x)) := ⟨po_some h.pe, fun B Hi T tv s H Q z hx hl hs k => by
  obtain ⟨x, e1, e2⟩ := bind_some hx
  cases e2
  exact h.ev B Hi T tv s H _ x e1 hl hs fun v Hi1 H1 s1 r1 => ⟨x, r1, k Hi1 H1 s1⟩⟩
/-- something new out of a list that is read -/
theorem ov_s1 [Rq β] {P : Hp → Hp → α → V → Prop} {r : List V → Hp → VK → Prop} {f : α → Option (List β)} (hf : ∀ Hi H x v z (Q : VK), Same Hi H → P Hi H x v → f x = some z → (∀ q vs, H q = none → vs.length ≤ sizeLine → Paired (rq Hi) z vs → Q (.ref q) (upd H q (.lst vs))) → r [v] H Q)
    {m1 : Option α} (ha : StJ P ta G m1) : OvJ (tCB r (tCons ta tNil)) G (m1.bind f) := fun B Hi T tv s H Q z hx hl hs k => by
  obtain ⟨x, e1, e2⟩ := bind_some hx
  refine ha B Hi T tv s H _ x e1 hl hs fun vx T' tv' Hi1 H1 l1 s1 r1 => ?_
  obtain ⟨s3, r3⟩ := r1 Hi1 H1 s1
  exact hf Hi1 H1 x vx z Q s3.sub r3 e2 fun q vs hq hz hp => k q Hi1 _ (s3.newO (φ := isL z) hq ⟨vs, rfl, hz, hp⟩)
theorem oj_slice [Rq α] {lo hi : Option Expr} {tl th : TO} {m : Option (List α)} {m1 m2 : Option (Option Int)} {p2 : Pos} (h : LK X e t G m) (h1 : PX X lo tl G m1) (h2 : PX X hi th G m2) :
    OJ X (.Subscript e (.Slice lo hi none p2) pos) (tSl (rSlL X.K) t tl th) G (m.bind fun x => m1.bind fun l => m2.bind fun u => some (cutL x l u)) := ⟨pe_slice sl_list h.pe h1.po h2.po, fun B Hi T tv s H Q z hx hl hs k => by
  obtain ⟨x, e1, hx⟩ := bind_some hx
  obtain ⟨l, e2, hx⟩ := bind_some hx
  obtain ⟨u, e3, e4⟩ := bind_some hx
  cases e4
  refine h.ev B Hi T tv s H _ x e1 hl hs fun vx T' tv' Hi1 H1 l1 s1 r1 => ?_
  refine h1.ev B Hi1 T' tv' s H1 _ l e2 l1 s1 fun Hi2 H2 s2 => ?_
  refine h2.ev B Hi2 T' tv' s H2 _ u e3 l1 s2 fun Hi3 H3 s3 => ?_
  obtain ⟨s4, a, vs, g1, g2, g3, g4⟩ := r1 Hi3 H3 s3
  refine ⟨a, vs, g1, g2, fun q hq => k q Hi3 _ (s4.newO (φ := isL _) hq ⟨_, rfl, ?_, Paired.cut (xs := vs) g4 l u⟩)⟩
  exact Nat.le_trans (cutV_length vs l u) g3⟩
theorem oj_list [Rq α] {m1 : Option (List α)} (ha : LK X a ta G m1) (hm : X.mg "list" = none) (hg : Gl X "list" := by rfl) (he : starEach [a] X.env = (false, eval a X.env) :: starEach [] X.env := by rfl) :
    OJ X (.Call (.Name "list" p) [a] [] pos) (tCB (fun xs H Q => ∃ p ys, xs = [.ref p] ∧ (SqL X.K H p ys ∨ SqT X.K H p ys) ∧ ∀ l, H l = none → Q (.ref l) (upd H l (.lst ys))) (tCons ta tNil)) G (m1.bind fun x => some x) :=
  ⟨pe_callTy call_list_of hg hm (by decide +kernel) (pa_cons ha.pe pa_nil he) (by decide) (by decide) he rfl, ov_s1 (f := fun x : List α => some x) (fun Hi H x v z Q sm h e k => by
    obtain ⟨q, vs, h1, h2, h3, h4⟩ := h
    cases e
    exact ⟨q, vs, by rw [h1], .inl h2, fun l hl => k l vs hl h3 h4⟩) ha.ev⟩
theorem oj_listT [Rq α] {m1 : Option (Tp α)} (ha : EJ X a ta G m1) (hm : X.mg "list" = none) (hg : Gl X "list" := by rfl) (he : starEach [a] X.env = (false, eval a X.env) :: starEach [] X.env := by rfl) :
    OJ X (.Call (.Name "list" p) [a] [] pos) (tCB (fun xs H Q => ∃ p ys, xs = [.ref p] ∧ (SqL X.K H p ys ∨ SqT X.K H p ys) ∧ ∀ l, H l = none → Q (.ref l) (upd H l (.lst ys))) (tCons ta tNil)) G (m1.bind fun x => some x.l) :=
  ⟨pe_callTy call_list_of hg hm (by decide +kernel) (pa_cons ha.pe pa_nil he) (by decide) (by decide) he rfl, ov_s1 (P := fun Hi H x v => rq Hi x v) (f := fun x : Tp α => some x.l) (fun Hi H x v z Q sm h e k => by
    obtain ⟨q, vs, h1, h2, h3, h4⟩ := h
    cases e
    exact ⟨q, vs, by rw [h1], .inr (SqT.of (sm _ _ h2)), fun l hl => k l vs hl h3 h4⟩) (StJ.ofE (fun _ _ _ _ _ r => r) ha.ev)⟩
/-- the ints lo, .., hi - 1 -/
def irange (lo hi : Int) : List Int := (List.range (hi - lo).toNat).map fun i => lo + (i : Nat)
def rngC (lo hi : Int) : Option (List Int) := if -(2 ^ 62) ≤ lo ∧ lo < 2 ^ 62 ∧ -(2 ^ 62) ≤ hi ∧ hi < 2 ^ 62 ∧ (hi - lo).toNat ≤ 2 ^ 24 then some (irange lo hi) else none
theorem rgV_ints (lo hi : Int) : rgV lo hi = (irange lo hi).map V.int := by unfold rgV irange; rw [List.map_map]; rfl
theorem irange_len (lo hi : Int) : (irange lo hi).length = (hi - lo).toNat := by unfold irange; rw [List.length_map, List.length_range]
theorem rngC_is {lo hi : Int} {z : List Int} (h : rngC lo hi = some z) : (-(2 ^ 62) ≤ lo ∧ lo < 2 ^ 62 ∧ -(2 ^ 62) ≤ hi ∧ hi < 2 ^ 62 ∧ (hi - lo).toNat ≤ 2 ^ 24) ∧ z = irange lo hi := by
  unfold rngC at h
  by_cases q : -(2 ^ 62) ≤ lo ∧ lo < 2 ^ 62 ∧ -(2 ^ 62) ≤ hi ∧ hi < 2 ^ 62 ∧ (hi - lo).toNat ≤ 2 ^ 24
  · rw [if_pos q] at h; cases h; exact ⟨q, rfl⟩
  · rw [if_neg q] at h; cases h
theorem rngC_small {lo hi : Int} {z : List Int} (h : rngC lo hi = some z) : z.length ≤ sizeLine := by
  obtain ⟨h1, h2⟩ := rngC_is h
  rw [h2, irange_len, sizeLine_eq]; omega
theorem oj_listRg {m : Option Int} {p1 p2 : Pos} (hc : X.calm = true) (ha : EJ X a ta G m) (hm : X.mg "list" = none) (hmr : X.mg "range" = none) (hg : Gl X "list" := by rfl) (hgr : Gl X "range" := by rfl) (na : starEach [a] X.env = (false, eval a X.env) :: starEach [] X.env := by rfl)
    (nb : starEach [.Call (.Name "range" p1) [a] [] p2] X.env = (false, eval (.Call (.Name "range" p1) [a] [] p2) X.env) :: starEach [] X.env := by rfl) :
    OJ X (.Call (.Name "list" p) [.Call (.Name "range" p1) [a] [] p2] [] pos) (tLstRg (tRg1 ta)) G (m.bind fun x => rngC 0 x) :=
  ⟨pe_listRg hc hg hm (prg_1 hgr hmr ha.pe na) nb, fun B Hi T tv s H Q z hx hl hs k => by
    obtain ⟨x, e1, e2⟩ := bind_some hx
    refine ha.ev B Hi T tv s H _ x e1 hl hs fun vx Hi1 H1 s1 r1 => ⟨x, r1, ?_⟩
    obtain ⟨h1, h2⟩ := rngC_is e2
    have h3 := rngC_small e2
    refine ⟨h1, fun q hq => ?_⟩
    rw [rgV_ints, ← h2]
    exact k q Hi1 _ (s1.newO (φ := isL z) hq ⟨_, rfl, by rw [List.length_map]; exact h3, ints_paired z⟩)⟩
/-- ints sorted -/
def sortI (xs : List Int) : List Int := xs.mergeSort fun a b => decide (a ≤ b)
theorem perm_sorted_eq : ∀ {l m : List Int}, l.Perm m → l.Pairwise (· ≤ ·) → m.Pairwise (· ≤ ·) → l = m
  | [], m, h, _, _ => (List.Perm.eq_nil h.symm).symm
  | x :: l, [], h, _, _ => absurd h.length_eq (by simp)
  | x :: l, y :: m, h, hl, hm => by
    have h1 : x = y := by
      have a := h.mem_iff.mp (List.mem_cons_self (a := x) (l := l))
      have b := h.mem_iff.mpr (List.mem_cons_self (a := y) (l := m))
      have hl' := List.pairwise_cons.mp hl
      have hm' := List.pairwise_cons.mp hm
      rcases List.mem_cons.mp a with e | e
      · exact e
      · rcases List.mem_cons.mp b with e2 | e2
        · exact e2.symm
        · exact Int.le_antisymm (hl'.1 _ e2) (hm'.1 _ e)
    subst h1
    rw [perm_sorted_eq h.cons_inv (List.pairwise_cons.mp hl).2 (List.pairwise_cons.mp hm).2]
theorem sortI_perm (xs : List Int) : (sortI xs).Perm xs := List.mergeSort_perm _ _
theorem sortI_sorted (xs : List Int) : (sortI xs).Pairwise (· ≤ ·) := by
  have h := List.pairwise_mergeSort (le := fun a b : Int => decide (a ≤ b)) (fun a b c h1 h2 => by
    rw [decide_eq_true_eq] at h1 h2 ⊢; omega) (fun a b => by
    rw [Bool.or_eq_true, decide_eq_true_eq, decide_eq_true_eq]; omega) xs
  exact h.imp fun q => of_decide_eq_true q
theorem oj_sorted {m1 : Option (List Int)} (ha : LK X a ta G m1) (hm : X.mg "sorted" = none) (hg : Gl X "sorted" := by rfl) (he : starEach [a] X.env = (false, eval a X.env) :: starEach [] X.env := by rfl) :
    OJ X (.Call (.Name "sorted" p) [a] [] pos) (tCB (rSortedI X.K) (tCons ta tNil)) G (m1.bind fun x => some (sortI x)) :=
  ⟨pe_callB cr_sortedI hg hm (by decide +kernel) (pa_cons ha.pe pa_nil he) (by decide) (by decide) he rfl, ov_s1 (f := fun x : List Int => some (sortI x)) (fun Hi H x v z Q sm h e k => by
    obtain ⟨q, vs, h1, h2, h3, h4⟩ := h
    cases e
    have h5 := Paired.length h4
    rw [paired_ints h4] at h2
    refine ⟨q, x, by rw [h1], h2, fun ns' l g1 g2 g3 => ?_⟩
    have e2 : ns' = sortI x := perm_sorted_eq (g1.trans (sortI_perm x).symm) g2 (sortI_sorted x)
    subst e2
    exact k l _ g3 (by rw [List.length_map, (sortI_perm x).length_eq, h5]; exact h3) (ints_paired _)) ha.ev⟩
/-- sorted(xs, reverse=True) -/
theorem perm_sorted_eqD {l m : List Int} (h : l.Perm m) (hl : l.Pairwise (· ≥ ·)) (hm : m.Pairwise (· ≥ ·)) : l = m := by
  have e := perm_sorted_eq (l := l.reverse) (m := m.reverse) ((List.reverse_perm l).trans (h.trans (List.reverse_perm m).symm)) (List.pairwise_reverse.mpr hl) (List.pairwise_reverse.mpr hm)
  have := congrArg List.reverse e
  rwa [List.reverse_reverse, List.reverse_reverse] at this
def sortD (xs : List Int) : List Int := (sortI xs).reverse
theorem sortD_perm (xs : List Int) : (sortD xs).Perm xs := (List.reverse_perm _).trans (sortI_perm xs)
theorem sortD_sorted (xs : List Int) : (sortD xs).Pairwise (· ≥ ·) := List.pairwise_reverse.mpr (sortI_sorted xs)
theorem oj_sortedD {m1 : Option (List Int)} {kp kp2 : Pos} {j} (ha : LK X a ta G m1) (hm : X.mg "sorted" = none) (hg : Gl X "sorted" := by rfl) (hst : starEach [a] X.env = (false, eval a X.env) :: starEach [] X.env := by rfl)
    (he : backTo pos (starEach [a] X.env) = (false, eval a X.env) :: backTo pos (starEach [] X.env) := by rfl) (hpl : (backTo pos (starEach [a] X.env)).any (·.1) = false := by rfl)
    (hall : (backToKw pos (keywordEach [⟨some (Str.ofString "reverse"), .Constant (.bool true) j kp, kp2⟩] X.env)).all (·.1.isSome) = true := by rfl) (hnone : (backToKw pos (keywordEach [⟨some (Str.ofString "reverse"), .Constant (.bool true) j kp, kp2⟩] X.env)).any (·.1.isNone) = false := by rfl)
    (hks : (backToKw pos (keywordEach [⟨some (Str.ofString "reverse"), .Constant (.bool true) j kp, kp2⟩] X.env)).filterMap (·.1) = [Str.ofString "reverse"] := by rfl) :
    OJ X (.Call (.Name "sorted" p) [a] [⟨some (Str.ofString "reverse"), .Constant (.bool true) j kp, kp2⟩] pos) (tCKw (rSortedKw X.K true [.bl true]) (tCons ta tNil) (tCons (tC (.bl true)) tNil)) G (m1.bind fun x => some (sortD x)) :=
  ⟨pe_callBK cr_sortedRev hg hm (by decide +kernel) (pa_cons ha.pe pa_nil hst) (pk_cons pe_bl pk_nil) (by decide) (by decide) he hpl hall hnone hks, fun B Hi T tv s H Q z hx hl hs k => by
    obtain ⟨x, e1, e2⟩ := bind_some hx
    cases e2
    refine ha.ev B Hi T tv s H _ x e1 hl hs fun vx T' tv' Hi1 H1 l1 s1 r1 => ?_
    obtain ⟨s3, a, vs, h1, h2, h3, h4⟩ := r1 Hi1 H1 s1
    have h5 := Paired.length h4
    rw [paired_ints h4] at h2
    refine ⟨a, x, by rw [h1], rfl, h2, fun ns' l g1 g2 g3 => ?_⟩
    have e2 : ns' = sortD x := perm_sorted_eqD (g1.trans (sortD_perm x).symm) g2 (sortD_sorted x)
    subst e2
    exact k l Hi1 _ (s3.newO (φ := isL _) g3 ⟨_, rfl, by rw [List.length_map, (sortD_perm x).length_eq, h5]; exact h3, ints_paired _⟩)⟩
/-- xs + ys -/
def catC (xs ys : List α) : Option (List α) := if xs.length + ys.length ≤ sizeLine then some (xs ++ ys) else none
theorem oj_cat [Rq α] {m1 m2 : Option (List α)} (ha : LJ X a ta G m1) (hb : LJ X b tb G m2) : OJ X (.BinOp a .Add b pos) (tOp rCat ta tb) G (m1.bind fun x => m2.bind fun y => catC x y) := ⟨pe_op op_cat ha.pe hb.pe, fun B Hi T tv s H Q z hx hl hs k => by
  obtain ⟨x, e1, hx⟩ := bind_some hx
  obtain ⟨y, e2, e3⟩ := bind_some hx
  refine ha.ev B Hi T tv s H _ x e1 hl hs fun vx T' tv' Hi1 H1 l1 s1 r1 => ?_
  refine hb.ev B Hi1 T' tv' s H1 _ y e2 l1 s1 fun vy T'' tv'' Hi2 H2 l2 s2 r2 => ?_
  obtain ⟨s3, r3⟩ := r2 Hi2 H2 s2
  obtain ⟨s4, r4⟩ := r1 Hi2 H2 s3
  obtain ⟨a, vs, g1, g2, g3, g4⟩ := r4
  obtain ⟨b, us, h1, h2, h3, h4⟩ := r3
  unfold catC at e3
  by_cases hz : x.length + y.length ≤ sizeLine
  · rw [if_pos hz] at e3
    cases e3
    rw [Paired.length g4, Paired.length h4] at hz
    exact ⟨a, b, vs, us, g1, h1, g2, h2, hz, fun q hq => k q Hi2 _ (s4.newO (φ := isL _) hq ⟨_, rfl, by rw [List.length_append]; exact hz, Paired.append g4 h4⟩)⟩
  · rw [if_neg hz] at e3; cases e3⟩
/-- [x] * n -/
def repC (xs : List α) (n : Int) : Option (List α) := if -(2 ^ 63) ≤ n ∧ n < 2 ^ 63 ∧ xs.length * n.toNat ≤ sizeLine then some (List.replicate n.toNat xs).flatten else none
theorem flat_len (xs : List α) : ∀ k : Nat, ((List.replicate k xs).flatten).length = xs.length * k
  | 0 => rfl
  | k + 1 => by rw [List.replicate_succ, List.flatten_cons, List.length_append, flat_len xs k, Nat.mul_succ, Nat.add_comm]
theorem oj_rep [Rq α] {m1 : Option (List α)} {m2 : Option Int} (ha : LJ X a ta G m1) (hb : EJ X b tb G m2) : OJ X (.BinOp a .Mult b pos) (tOp rRep ta tb) G (m1.bind fun x => m2.bind fun y => repC x y) := ⟨pe_op op_rep ha.pe hb.pe, fun B Hi T tv s H Q z hx hl hs k => by
  obtain ⟨x, e1, hx⟩ := bind_some hx
  obtain ⟨y, e2, e3⟩ := bind_some hx
  refine ha.ev B Hi T tv s H _ x e1 hl hs fun vx T' tv' Hi1 H1 l1 s1 r1 => ?_
  refine hb.ev B Hi1 T' tv' s H1 _ y e2 l1 s1 fun vy Hi2 H2 s2 r2 => ?_
  obtain ⟨s4, a, vs, g1, g2, g3, g4⟩ := r1 Hi2 H2 s2
  unfold repC at e3
  by_cases hz : -(2 ^ 63) ≤ y ∧ y < 2 ^ 63 ∧ x.length * y.toNat ≤ sizeLine
  · rw [if_pos hz] at e3
    cases e3
    obtain ⟨z1, z2, z3⟩ := hz
    rw [Paired.length g4] at z3
    exact ⟨a, y, vs, g1, r2, g2, z1, z2, z3, fun q hq => k q Hi2 _ (s4.newO (φ := isL _) hq ⟨_, rfl, by rw [flat_len]; exact z3, Paired.rep g4 _⟩)⟩
  · rw [if_neg hz] at e3; cases e3⟩
/-- x in xs -/
theorem in_pair [Rp α] [DecidableEq α] [Sc α] {H : Hp} {x : α} {v : V} (r : rq H x v) : ∀ {xs : List α} {vs : List V}, Paired (rq H) xs vs → inV v vs = decide (x ∈ xs) ∧ vs.all flatV = true
  | _, _, .nil => ⟨rfl, rfl⟩
  | y :: xs, u :: vs, .cons q t => by
    obtain ⟨h1, h2⟩ := in_pair r t
    unfold inV at h1 ⊢
    rw [List.any_cons, List.all_cons, h1, h2, Sc.eqv q r, Sc.flat (α := α) q]
    refine ⟨?_, rfl⟩
    rw [← Bool.decide_or]
    exact dec_iff (by rw [List.mem_cons]; exact ⟨fun z => z.imp (fun e => e.symm) id, fun z => z.imp (fun e => e.symm) id⟩)
theorem ev_inL [Rp α] [DecidableEq α] [Sc α] {K : PySem.W.Frag} {neg : Bool} {m1 : Option α} {m2 : Option (List α)} (ha : EvJ ta G m1) (hb : StJ (lstK K) tb G m2) : EvJ (tOp (rIn K neg) ta tb) G (m1.bind fun x => m2.bind fun y => some (if neg then !decide (x ∈ y) else decide (x ∈ y))) := fun B Hi T tv s H Q z hx hl hs k => by
  obtain ⟨x, e1, hx⟩ := bind_some hx
  obtain ⟨y, e2, e3⟩ := bind_some hx
  cases e3
  refine ha B Hi T tv s H _ x e1 hl hs fun vx Hi1 H1 s1 r1 => ?_
  refine hb B Hi1 (fz x :: T) (some vx :: tv) s H1 _ y e2 (by simp [hl]) ⟨⟨vx, rfl, r1⟩, s1⟩ fun vy T' tv' Hi2 H2 l2 s2 r2 => ?_
  obtain ⟨s3, a, vs, h1, h2, h3, h4⟩ := r2 Hi2 H2 s2
  obtain ⟨⟨v', e4, r1'⟩, s3⟩ := s3
  cases e4
  obtain ⟨g1, g2⟩ := in_pair r1' h4
  exact ⟨a, vs, h1, .inl h2, Sc.flat (α := α) r1', g2, k _ Hi2 H2 s3 (by rw [g1]; rfl)⟩
theorem ej_in [Rp α] [DecidableEq α] [Sc α] {m1 : Option α} {m2 : Option (List α)} (ha : EJ X a ta G m1) (hb : LK X b tb G m2) (hm : behindInMarks .In b = false := by with_unfolding_all rfl) :
    EJ X (.Compare a [.In] [b] pos) (tOp (rIn X.K false) ta tb) G (m1.bind fun x => m2.bind fun y => some (decide (x ∈ y))) := ⟨pe_cmpR op_in_seq ha.pe hb.pe hm, ev_inL (neg := false) ha.ev hb.ev⟩
theorem ej_notin [Rp α] [DecidableEq α] [Sc α] {m1 : Option α} {m2 : Option (List α)} (ha : EJ X a ta G m1) (hb : LK X b tb G m2) (hm : behindInMarks .NotIn b = false := by with_unfolding_all rfl) :
    EJ X (.Compare a [.NotIn] [b] pos) (tOp (rIn X.K true) ta tb) G (m1.bind fun x => m2.bind fun y => some (!decide (x ∈ y))) := ⟨pe_cmpR op_notIn_seq ha.pe hb.pe hm, ev_inL (neg := true) ha.ev hb.ev⟩
theorem tj_in [Rp α] [DecidableEq α] [Sc α] {m1 : Option α} {m2 : Option (List α)} (ha : EJ X a ta G m1) (hb : LK X b tb G m2) (hm : behindInMarks .In b = false := by with_unfolding_all rfl) :
    TJ X (.Compare a [.In] [b] pos) (tTest (tOp (rIn X.K false) ta tb)) G (m1.bind fun x => m2.bind fun y => some (decide (x ∈ y))) := ⟨pt_cmpR op_in_seq ha.pe hb.pe hm, tv_test (ev_inL (neg := false) ha.ev hb.ev)⟩
theorem tj_notin [Rp α] [DecidableEq α] [Sc α] {m1 : Option α} {m2 : Option (List α)} (ha : EJ X a ta G m1) (hb : LK X b tb G m2) (hm : behindInMarks .NotIn b = false := by with_unfolding_all rfl) :
    TJ X (.Compare a [.NotIn] [b] pos) (tTest (tOp (rIn X.K true) ta tb)) G (m1.bind fun x => m2.bind fun y => some (!decide (x ∈ y))) := ⟨pt_cmpR op_notIn_seq ha.pe hb.pe hm, tv_test (ev_inL (neg := true) ha.ev hb.ev)⟩

/-! ### what is walked -/
/-- C: what must be so of the slots for the walk to go on -/
def IvJ [Rq α] (C : List SV → L2.St → L2.St → Prop) (w : TI) (G : List SV) (m : Option (List α)) : Prop :=
  ∀ (B : Bk) (Hi : Hp) (T : List SV) (tv s : L2.St) (H : Hp) (R : It → Hp → Prop) (xs : List α), m = some xs → tv.length = T.length → SatG B Hi (T ++ G) (tv ++ s) H →
    (∀ J T' tv' Hi' H', tv'.length = T'.length → SatG B Hi' (T' ++ G) (tv' ++ s) H' → xs.length ≤ sizeLine →
      (∀ G2 s2 Hi2 H2, SatG B Hi2 (T' ++ G2) (tv' ++ s2) H2 → SatG B Hi2 (T ++ G2) (tv ++ s2) H2) →
      (∀ F fv G2 s2 Hi2 H2, fv.length = F.length → C G2 s s2 → SatG B Hi2 (F ++ (T' ++ G2)) (fv ++ (tv' ++ s2)) H2 → J.stop xs.length H2 ∧ ∀ i x, xs[i]? = some x → J.go i H2 ∧ ∀ v H3, J.yld i H2 v H3 → ∃ Hi3, SatG B Hi3 (F ++ (T' ++ G2)) (fv ++ (tv' ++ s2)) H3 ∧ rq Hi3 x v) → R J H') → w s H R
structure IJ [Rq α] (C : List SV → L2.St → L2.St → Prop) (X : Cx) (tg e : Expr) (w : TI) (G : List SV) (m : Option (List α)) : Prop where
  pi : PI X tg e w
  ev : IvJ C w G m
  c : ∀ s, C G s s
theorem SatG.dropF {B : Bk} {Hi : Hp} : ∀ {F : List SV} {fv : L2.St} {L : List SV} {s : L2.St} {H : Hp}, fv.length = F.length → SatG B Hi (F ++ L) (fv ++ s) H → SatG B Hi L s H
  | [], [], _, _, _, _, h => h
  | [], _ :: _, _, _, _, e, _ => by simp at e
  | _ :: _, [], _, _, _, e, _ => by simp at e
  | _ :: F, _ :: fv, _, _, _, e, h => SatG.dropF (by simpa using e) h.drop1
/-- nothing is asked of the slots -/
abbrev C0 : List SV → L2.St → L2.St → Prop := fun _ _ _ => True
/-- our own list at place j stays -/
def CO [Rq α] (j : Nat) (xs : List α) : List SV → L2.St → L2.St → Prop := fun G2 s s2 => (∃ c, G2[j]? = some c ∧ OwL c xs) ∧ s2[j]? = s[j]?
variable {tg : Expr}
theorem irange_get {lo hi : Int} {i : Nat} {x : Int} (h : (irange lo hi)[i]? = some x) : x = lo + i ∧ i < (hi - lo).toNat := by
  unfold irange at h
  rw [List.getElem?_map] at h
  cases q : (List.range (hi - lo).toNat)[i]? with
  | none => rw [q] at h; cases h
  | some j =>
    rw [q] at h
    obtain ⟨h1, h2⟩ := List.getElem?_eq_some_iff.mp q
    rw [List.getElem_range] at h2
    rw [List.length_range] at h1
    subst h2
    exact ⟨(Option.some.inj h).symm, h1⟩
theorem iv_rng {B : Bk} {T : List SV} {tv : L2.St} {lo hi : Int} : ∀ (F : List SV) (fv : L2.St) (G2 : List SV) (s2 : L2.St) (Hi2 H2 : Hp), fv.length = F.length → True → SatG B Hi2 (F ++ (T ++ G2)) (fv ++ (tv ++ s2)) H2 → (Itr lo (hi - lo).toNat).stop (irange lo hi).length H2 ∧
    ∀ i x, (irange lo hi)[i]? = some x → (Itr lo (hi - lo).toNat).go i H2 ∧ ∀ v H3, (Itr lo (hi - lo).toNat).yld i H2 v H3 → ∃ Hi3, SatG B Hi3 (F ++ (T ++ G2)) (fv ++ (tv ++ s2)) H3 ∧ rq Hi3 x v := fun F fv G2 s2 Hi2 H2 _ _ z => by
  refine ⟨Nat.le_of_eq (irange_len lo hi).symm, fun i x hi => ?_⟩
  obtain ⟨e1, e2⟩ := irange_get hi
  refine ⟨e2, fun v H3 y => ?_⟩
  obtain ⟨y1, y2⟩ := y
  subst y1 e1
  exact ⟨Hi2, z, y2⟩
theorem ij_rng1 {m : Option Int} {p1 : Pos} (ha : EJ X a ta G m) (hm : X.mg "range" = none) (hg : Gl X "range" := by rfl) (na : starEach [a] X.env = (false, eval a X.env) :: starEach [] X.env := by rfl) (hs : starEach [a] X.env = [(false, eval a X.env)] := by rfl) :
    IJ C0 X tg (.Call (.Name "range" p1) [a] [] pos) (iRng1 (tCons ta tNil)) G (m.bind fun x => rngC 0 x) := ⟨pi_range1 hg hm (pa_cons ha.pe pa_nil na) hs, fun B Hi T tv s H R xs hx hl hs k => by
  obtain ⟨x, e1, e2⟩ := bind_some hx
  have hz := rngC_small e2
  obtain ⟨⟨h1, h2, h3, h4, h5⟩, h6⟩ := rngC_is e2
  subst h6
  refine ha.ev B Hi T tv s H _ x e1 hl hs fun v Hi1 H1 s1 r1 => ?_
  cases r1
  refine ⟨x, rfl, h3, h4, ?_⟩
  have e3 : x.toNat = (x - 0).toNat := by omega
  rw [e3]
  exact k _ T tv Hi1 H1 hl s1 hz (fun G2 s2 Hi2 H2 z => z) iv_rng, fun _ => trivial⟩
theorem ij_rng2 {m m2 : Option Int} {p1 : Pos} (ha : EJ X a ta G m) (hb : EJ X b tb G m2) (hm : X.mg "range" = none) (hg : Gl X "range" := by rfl) (na : starEach [a, b] X.env = (false, eval a X.env) :: starEach [b] X.env := by rfl) (nb : starEach [b] X.env = (false, eval b X.env) :: starEach [] X.env := by rfl)
    (hs : starEach [a, b] X.env = [(false, eval a X.env), (false, eval b X.env)] := by rfl) (hs2 : starEach [b] X.env = [(false, eval b X.env)] := by rfl) :
    IJ C0 X tg (.Call (.Name "range" p1) [a, b] [] pos) (iRng2 (tCons ta (tCons tb tNil))) G (m.bind fun x => m2.bind fun y => rngC x y) := ⟨pi_range2 hg hm (pa_cons ha.pe (pa_cons hb.pe pa_nil nb) na) hs hs2, fun B Hi T tv s H R xs hx hl hs k => by
  obtain ⟨x, e1, hx⟩ := bind_some hx
  obtain ⟨y, e2, e3⟩ := bind_some hx
  have hz := rngC_small e3
  obtain ⟨⟨h1, h2, h3, h4, h5⟩, h6⟩ := rngC_is e3
  subst h6
  refine ha.ev B Hi T tv s H _ x e1 hl hs fun v Hi1 H1 s1 r1 => ?_
  cases r1
  refine hb.ev B Hi1 T tv s H1 _ y e2 hl s1 fun u Hi2 H2 s2 r2 => ?_
  cases r2
  exact ⟨x, y, rfl, ⟨h1, h2, h3, h4⟩, k _ T tv Hi2 H2 hl s2 hz (fun G2 s2 Hi2 H2 z => z) iv_rng⟩, fun _ => trivial⟩
/-- numbered -/
def enumL (xs : List α) : List (Int × α) := xs.zipIdx.map fun p => ((p.2 : Nat), p.1)
theorem enumL_len (xs : List α) : (enumL xs).length = xs.length := by unfold enumL; rw [List.length_map, List.length_zipIdx]
theorem enumL_get {xs : List α} {i : Nat} {z : Int × α} (h : (enumL xs)[i]? = some z) : xs[i]? = some z.2 ∧ z.1 = (i : Int) := by
  unfold enumL at h
  rw [List.getElem?_map, List.getElem?_zipIdx] at h
  cases q : xs[i]? with
  | none => rw [q] at h; cases h
  | some x =>
    rw [q] at h
    have h : ((((0 + i : Nat) : Int), x) : Int × α) = z := Option.some.inj h
    subst h
    exact ⟨rfl, by simp⟩
theorem sat_pair {B : Bk} {Hi H : Hp} {L : List SV} {s : L2.St} {q : Addr} {x y : V} [Rq α] [Rq β] {z : α × β} (h : SatG B Hi L s H) (hq : H q = none) (h1 : rq Hi z.1 x) (h2 : rq Hi z.2 y) : ∃ Hi3, SatG B Hi3 L s (upd H q (.tup [x, y])) ∧ rq Hi3 z (.ref q) := by
  obtain ⟨s2, sm⟩ := sat_tup (vs := [x, y]) h hq
  exact ⟨_, s2, q, x, y, rfl, upd_same, Rq.mono sm h1, Rq.mono sm h2⟩
/-- a list that is read through a walk: where it stands and what it holds at each turn -/
def rdJ [Rq α] (K : PySem.W.Frag) (C : List SV → L2.St → L2.St → Prop) (t : TE) (G : List SV) (m : Option (List α)) : Prop :=
  ∀ (B : Bk) (Hi : Hp) (T : List SV) (tv s : L2.St) (H : Hp) (Q : VK) (xs : List α), m = some xs → tv.length = T.length → SatG B Hi (T ++ G) (tv ++ s) H →
    (∀ a T' tv' Hi' H', tv'.length = T'.length → SatG B Hi' (T' ++ G) (tv' ++ s) H' → xs.length ≤ sizeLine →
      (∀ G2 s2 Hi2 H2, SatG B Hi2 (T' ++ G2) (tv' ++ s2) H2 → SatG B Hi2 (T ++ G2) (tv ++ s2) H2) →
      (∀ G2 s2 Hi2 H2, C G2 s s2 → SatG B Hi2 (T' ++ G2) (tv' ++ s2) H2 → ∃ vs, SqL K H2 a vs ∧ Paired (rq Hi2) xs vs) → (∃ vs, SqL K H' a vs) → Q (.ref a) H') → t s H Q
theorem rd_lst [Rq α] {K : PySem.W.Frag} {m : Option (List α)} (h : EJ X e t G m) : rdJ K C0 t G m := fun B Hi T tv s H Q xs hx hl hs k => by
  refine h.ev B Hi T tv s H _ xs hx hl hs fun v Hi1 H1 s1 r1 => ?_
  obtain ⟨a, vs, h1, h2, h3, h4⟩ := id r1
  subst h1
  refine k a (fz xs :: T) (some (.ref a) :: tv) Hi1 H1 (by simp [hl]) ⟨⟨_, rfl, r1⟩, s1⟩ (by rw [Paired.length h4]; exact h3) (fun G2 s2 Hi2 H2 z => z.2) (fun G2 s2 Hi2 H2 _ z => ?_) ⟨vs, SqL.of (s1.sub _ _ h2)⟩
  obtain ⟨⟨v', e1, a', us, g1, g2, g3, g4⟩, z2⟩ := z
  cases e1; cases g1
  exact ⟨us, SqL.of (z2.sub _ _ g2), g4⟩
theorem rd_own [Rq α] {K : PySem.W.Frag} {xs : List α} (j : Nat) (hi : ∃ c, G[j]? = some c ∧ OwL c xs) : rdJ K (CO j xs) (tVar j) G (some xs) := fun B Hi T tv s H Q ys hx hl hs k => by
  cases hx
  obtain ⟨q, vs, h1, h2, h4, h5⟩ := hs.ownLT hl hi
  refine ⟨.ref q, h1, k q T tv Hi H hl hs (by rw [Paired.length h5]; exact h4) (fun G2 s2 Hi2 H2 z => z) (fun G2 s2 Hi2 H2 c z => ?_) ⟨vs, SqL.of h2⟩⟩
  obtain ⟨q', us, g1, g2, g4, g5⟩ := z.ownLT hl c.1
  rw [c.2, h1] at g1
  cases g1
  exact ⟨us, SqL.of g2, g5⟩
theorem rd_scr {K : PySem.W.Frag} {x : Scr K} (i : Nat) (hi : G[i]? = some (fz x) := by rfl) : rdJ K C0 (tVar i) G (some x.l) := fun B Hi T tv s H Q ys hx hl hs k => by
  cases hx
  obtain ⟨v, h1, h2⟩ := hs.getT hl hi
  obtain ⟨a, g1, g2, g3⟩ := id h2
  subst g1
  refine ⟨_, h1, k a (fz x :: T) (some (.ref a) :: tv) Hi H (by simp [hl]) ⟨⟨_, rfl, h2⟩, hs⟩ (Nat.le_trans g3 (by decide)) (fun G2 s2 Hi2 H2 z => z.2) (fun G2 s2 Hi2 H2 _ z => ?_) ⟨_, Same.seq hs.sub g2⟩⟩
  obtain ⟨⟨v', e1, a', f1, f2, f3⟩, z2⟩ := z
  cases e1; cases f1
  exact ⟨_, Same.seq z2.sub f2, ints_paired _⟩
structure RJ [Rq α] (C : List SV → L2.St → L2.St → Prop) (X : Cx) (e : Expr) (t : TE) (G : List SV) (m : Option (List α)) : Prop where
  pe : PE X e t
  ev : rdJ X.K C t G m
  c : ∀ s, C G s s
theorem rj_e [Rq α] {m : Option (List α)} (h : EJ X e t G m) : RJ C0 X e t G m := ⟨h.pe, rd_lst h, fun _ => trivial⟩
theorem rj_own [Rq α] {xs : List α} (j : Nat) (hi : G[j]? = some (ol xs)) (hN : X.N[j]? = some n := by rfl) (hv : Vis X.env.scope n := by first | exact Or.inl rfl | exact Or.inr (Or.inl rfl) | exact Or.inr (Or.inr rfl))
    (hd : (n == ("__debug__" : Str)) = false := by decide) (hcd : (n == ("__classdict__" : Str)) = false := by decide) : RJ (CO j xs) X (.Name n pos) (tVar j) G (some xs) := ⟨pe_var hN hv hd hcd, rd_own j ⟨_, hi, owl_ol⟩, fun _ => ⟨⟨_, hi, owl_ol⟩, rfl⟩⟩
theorem rj_ownA [Rq α] {xs : List α} {q : Addr} (j : Nat) (hi : G[j]? = some (olA q xs)) (hN : X.N[j]? = some n := by rfl) (hv : Vis X.env.scope n := by first | exact Or.inl rfl | exact Or.inr (Or.inl rfl) | exact Or.inr (Or.inr rfl))
    (hd : (n == ("__debug__" : Str)) = false := by decide) (hcd : (n == ("__classdict__" : Str)) = false := by decide) : RJ (CO j xs) X (.Name n pos) (tVar j) G (some xs) := ⟨pe_var hN hv hd hcd, rd_own j ⟨_, hi, owl_A⟩, fun _ => ⟨⟨_, hi, owl_A⟩, rfl⟩⟩
theorem rj_scr {K : PySem.W.Frag} {x : Scr K} (hK : K = X.K) (i : Nat) (hi : G[i]? = some (fz x)) (hN : X.N[i]? = some n := by rfl) (hv : Vis X.env.scope n := by first | exact Or.inl rfl | exact Or.inr (Or.inl rfl) | exact Or.inr (Or.inr rfl))
    (hd : (n == ("__debug__" : Str)) = false := by decide) (hcd : (n == ("__classdict__" : Str)) = false := by decide) : RJ C0 X (.Name n pos) (tVar i) G (some x.l) := ⟨pe_var hN hv hd hcd, by subst hK; exact rd_scr i hi, fun _ => trivial⟩
theorem ij_l [Rq α] {C} {m : Option (List α)} (h : RJ C X e t G m) : IJ C X tg e (iList X.K t) G m := ⟨pi_list h.pe, fun B Hi T tv s H R xs hx hl hs k => by
  refine h.ev B Hi T tv s H _ xs hx hl hs fun a T' tv' Hi1 H1 l1 s1 hz hT hw hq => ?_
  refine ⟨a, rfl, hq, k _ T' tv' Hi1 H1 l1 s1 hz hT fun F fv G2 s2 Hi2 H2 lf c z => ?_⟩
  obtain ⟨us, hq2, pr⟩ := hw G2 s2 Hi2 H2 c (z.dropF lf)
  refine ⟨⟨us, hq2, by rw [Paired.length pr]; exact Nat.le_refl _⟩, fun i x hi => ?_⟩
  obtain ⟨u, hu, ru⟩ := Paired.get pr hi
  refine ⟨⟨us, u, hq2, hu⟩, fun v H3 y => ?_⟩
  obtain ⟨y1, y2⟩ := y
  subst y1
  have e3 := y2 us hq2
  rw [hu] at e3
  cases e3
  exact ⟨Hi2, z, ru⟩, h.c⟩
theorem ij_enum [Rq α] {C} {m : Option (List α)} {p1 tpos : Pos} {elts : List Expr} {kk : Nat} (h : RJ C X e t G m) (hm : X.mg "enumerate" = none) (hg : Gl X "enumerate" := by rfl) (na : starEach [e] X.env = (false, eval e X.env) :: starEach [] X.env := by rfl) (hs : starEach [e] X.env = [(false, eval e X.env)] := by rfl) :
    IJ C X (.Tuple elts kk tpos) (.Call (.Name "enumerate" p1) [e] [] pos) (iEnum X.K (tCons t tNil)) G (m.bind fun x => some (enumL x)) := ⟨pi_enum hg hm (pa_cons h.pe pa_nil na) hs, fun B Hi T tv s H R zs hx hl hs k => by
  obtain ⟨xs, e1, e2⟩ := bind_some hx
  cases e2
  refine h.ev B Hi T tv s H _ xs e1 hl hs fun a T' tv' Hi1 H1 l1 s1 hz hT hw hq => ?_
  obtain ⟨vs, hq⟩ := hq
  refine ⟨a, vs, rfl, hq, k _ T' tv' Hi1 H1 l1 s1 (by rw [enumL_len]; exact hz) hT fun F fv G2 s2 Hi2 H2 lf c z => ?_⟩
  obtain ⟨us, hq2, pr⟩ := hw G2 s2 Hi2 H2 c (z.dropF lf)
  refine ⟨⟨us, hq2, by rw [enumL_len, Paired.length pr]; exact Nat.le_refl _⟩, fun i x hi => ?_⟩
  obtain ⟨f1, f2⟩ := enumL_get hi
  obtain ⟨u, hu, ru⟩ := Paired.get pr f1
  refine ⟨⟨us, u, hq2, hu⟩, fun v H3 y => ?_⟩
  obtain ⟨q, w, y1, y2, y3, y4⟩ := y
  have e3 := y4 us hq2
  rw [hu] at e3
  cases e3
  subst y1 y3
  exact sat_pair z y2 (by rw [f2]; rfl) ru, h.c⟩
theorem ij_rev [Rq α] {C} {m : Option (List α)} {p1 : Pos} (h : RJ C X e t G m) (hm : X.mg "reversed" = none) (hg : Gl X "reversed" := by rfl) (na : starEach [e] X.env = (false, eval e X.env) :: starEach [] X.env := by rfl) (hs : starEach [e] X.env = [(false, eval e X.env)] := by rfl) :
    IJ C X tg (.Call (.Name "reversed" p1) [e] [] pos) (iRev X.K (tCons t tNil)) G (m.bind fun x => some x.reverse) := ⟨pi_reversed hg hm (pa_cons h.pe pa_nil na) hs, fun B Hi T tv s H R zs hx hl hs k => by
  obtain ⟨xs, e1, e2⟩ := bind_some hx
  cases e2
  refine h.ev B Hi T tv s H _ xs e1 hl hs fun a T' tv' Hi1 H1 l1 s1 hz hT hw hq => ?_
  obtain ⟨vs, hq, pr0⟩ := hw G s Hi1 H1 (h.c s) s1
  refine ⟨a, vs, rfl, hq, k _ T' tv' Hi1 H1 l1 s1 (by rw [List.length_reverse]; exact hz) hT fun F fv G2 s2 Hi2 H2 lf c z => ?_⟩
  obtain ⟨us, hq2, pr⟩ := hw G2 s2 Hi2 H2 c (z.dropF lf)
  have el : us.length = vs.length := (Paired.length pr).symm.trans (Paired.length pr0)
  refine ⟨by rw [List.length_reverse, Paired.length pr0]; exact Nat.le_refl _, fun i x hi => ?_⟩
  obtain ⟨u, hu, ru⟩ := Paired.get (Paired.reverse pr) hi
  have hlt : i < us.length := by
    have := (List.getElem?_eq_some_iff.mp hu).1
    rwa [List.length_reverse] at this
  rw [List.getElem?_reverse hlt] at hu
  refine ⟨⟨by omega, us, u, hq2, by rw [← el]; exact hu⟩, fun v H3 y => ?_⟩
  obtain ⟨y1, y2⟩ := y
  subst y1
  have e3 := y2 us hq2
  rw [← el, hu] at e3
  cases e3
  exact ⟨Hi2, z, ru⟩, h.c⟩
theorem zip_get {xs : List α} {ys : List β} {i : Nat} {z : α × β} (h : (xs.zip ys)[i]? = some z) : xs[i]? = some z.1 ∧ ys[i]? = some z.2 := by
  rw [List.getElem?_zip_eq_some] at h
  exact h
theorem ij_zip [Rq α] [Rq β] {C C'} {m1 : Option (List α)} {m2 : Option (List β)} {p1 tpos : Pos} {elts : List Expr} {kk : Nat} {e2 : Expr} {t2 : TE} (h : RJ C X e t G m1) (h' : RJ C' X e2 t2 G m2) (hm : X.mg "zip" = none) (hg : Gl X "zip" := by rfl) (na : starEach [e, e2] X.env = (false, eval e X.env) :: starEach [e2] X.env := by rfl) (nb : starEach [e2] X.env = (false, eval e2 X.env) :: starEach [] X.env := by rfl)
    (hpl : (backTo pos (starEach [e2] X.env)).any (·.1) = false := by rfl) :
    IJ (fun G2 s s2 => C G2 s s2 ∧ C' G2 s s2) X (.Tuple elts kk tpos) (.Call (.Name "zip" p1) [e, e2] [] pos) (iZip X.K (tCons t (tCons t2 tNil))) G (m1.bind fun x => m2.bind fun y => some (x.zip y)) := ⟨pi_zip hg hm (pa_cons h.pe (pa_cons h'.pe pa_nil nb) na) na hpl, fun B Hi T tv s H R zs hx hl hs k => by
  obtain ⟨xs, e1, hx⟩ := bind_some hx
  obtain ⟨ys, e2, e3⟩ := bind_some hx
  cases e3
  refine h.ev B Hi T tv s H _ xs e1 hl hs fun a T' tv' Hi1 H1 l1 s1 hz hT hw hq => ?_
  refine h'.ev B Hi1 T' tv' s H1 _ ys e2 l1 s1 fun b T'' tv'' Hi2 H2 l2 s2 hz2 hT2 hw2 hq2 => ?_
  obtain ⟨us, gq2, pr2⟩ := hw2 G s Hi2 H2 (h'.c s) s2
  obtain ⟨vs, gq, pr⟩ := hw G s Hi2 H2 (h.c s) (hT2 G s Hi2 H2 s2)
  refine ⟨a, b, vs, us, rfl, gq, gq2, k _ T'' tv'' Hi2 H2 l2 s2 (by rw [List.length_zip]; omega) (fun G2 s2 Hi2 H2 z => hT _ _ _ _ (hT2 _ _ _ _ z)) fun F fv G3 s3 Hi3 H3 lf c z => ?_⟩
  obtain ⟨us, gq2, pr2⟩ := hw2 G3 s3 Hi3 H3 c.2 (z.dropF lf)
  obtain ⟨vs, gq, pr⟩ := hw G3 s3 Hi3 H3 c.1 (hT2 _ _ _ _ (z.dropF lf))
  refine ⟨⟨vs, us, gq, gq2, by rw [List.length_zip, Paired.length pr, Paired.length pr2]; omega⟩, fun i x hi => ?_⟩
  obtain ⟨f1, f2⟩ := zip_get hi
  obtain ⟨u, hu, ru⟩ := Paired.get pr f1
  obtain ⟨w, hw', rw'⟩ := Paired.get pr2 f2
  refine ⟨⟨vs, us, u, w, gq, gq2, hu, hw'⟩, fun v H4 y => ?_⟩
  obtain ⟨q, u', w', y1, y2, y3, y4, y5⟩ := y
  have e3 := y4 vs gq
  rw [hu] at e3
  cases e3
  have e4 := y5 us gq2
  rw [hw'] at e4
  cases e4
  subst y1 y3
  exact sat_pair z y2 ru rw', fun s => ⟨h.c s, h'.c s⟩⟩
end
end GM
namespace GM
open PySem PySem.Spec PyProof.Rows L2

/-! ### targets -/
structure GJ {α : Type} [Rq α] (X : Cx) (tg : Expr) (g : TG) (f : α → List SV → List SV) (ids : List Nat) : Prop where
  pg : PG X tg g
  ev : ∀ (B : Bk) (Hi : Hp) (T : List SV) (tv s : L2.St) (H : Hp) (G : List SV) (v : V) (x : α) (Q : L2.St → Hp → Prop), tv.length = T.length → SatG B Hi (T ++ G) (tv ++ s) H → rq Hi x v →
    (∀ s', SatG B Hi (T ++ f x G) (tv ++ s') H → (∀ vs, (∀ i ∈ ids, i ∈ vs) → wipe s' vs = wipe s vs) → Q s' H) → g v s H Q
section
variable {X : Cx} {e a b c : Expr} {es : List Expr} {t ta tb tc te : TE} {tr : TA} {G : List SV} {α β γ τ ρ : Type} {pos p : Pos} {n : Str}
theorem set_set_same {γ : Type} (l : List γ) (i : Nat) (a b : γ) : (l.set i a).set i b = l.set i b := by rw [List.set_set]
theorem wipe_set {s : L2.St} {i : Nat} {o : Option V} : ∀ {vs : List Nat}, i ∈ vs → wipe (s.set i o) vs = wipe s vs
  | [], h => by simp at h
  | w :: vs, h => by
    show (wipe (s.set i o) vs).set w none = (wipe s vs).set w none
    by_cases hi : i ∈ vs
    · rw [wipe_set hi]
    · have e : i = w := by
        rcases List.mem_cons.mp h with e | e
        · exact e
        · exact absurd e hi
      subst e
      have k : ∀ (s : L2.St) (us : List Nat), i ∉ us → (wipe (s.set i o) us).set i none = (wipe s us).set i none := fun s us => by
        induction us with
        | nil => intro _; exact set_set_same _ _ _ _
        | cons w us ih =>
          intro hn
          have h1 : i ≠ w := fun z => hn (by rw [z]; exact List.mem_cons_self)
          have h2 : i ∉ us := fun z => hn (List.mem_cons_of_mem _ z)
          show ((wipe (s.set i o) us).set w none).set i none = ((wipe s us).set w none).set i none
          rw [List.set_comm _ _ (Ne.symm h1), ih h2, List.set_comm _ _ h1]
      exact k s vs hi
theorem gj_name [Rq α] (hN : X.N.Nodup) (i : Nat) (hi : X.N[i]? = some n := by rfl) (hx : Loc X.env.scope n := by first | exact Or.inl rfl | exact Or.inr rfl) (hf : X.fn n = true ∨ X.env.scope.names.lookup n = some .local := by first | exact .inl rfl | exact .inr rfl | assumption) :
    GJ (α := α) X (.Name n pos) (gName i) (fun x G => G.set i (fz x)) [i] := ⟨pg_name hN hi hx hf, fun B Hi T tv s H G v x Q hl hs r k => by
  have h1 : SatG B Hi (fz x :: (T ++ G)) (some v :: (tv ++ s)) H := ⟨⟨v, rfl, r⟩, hs⟩
  exact k _ (h1.putT hl) fun vs h => wipe_set (h i List.mem_cons_self)⟩
theorem gj_pair [Rq α] [Rq β] {g1 g2 : TG} {f1 : α → List SV → List SV} {f2 : β → List SV → List SV} {i1 i2 : List Nat} {k : Nat} (hc : X.calm = true) (h1 : GJ X a g1 f1 i1) (h2 : GJ X b g2 f2 i2)
    (hs1 : (assignEach [a, b] X.env).map (·.2) = assign a X.env :: (assignEach [b] X.env).map (·.2) := by rfl) (hs2 : (assignEach [b] X.env).map (·.2) = assign b X.env :: (assignEach [] X.env).map (·.2) := by rfl)
    (hn : (assignEach [a, b] X.env).length = 2 := by rfl) (hst : (assignEach [a, b] X.env).findIdx? (·.1) = none := by rfl) :
    GJ (α := α × β) X (.Tuple [a, b] k pos) (gTup X.K 2 (gCons g1 (gCons g2 gNil))) (fun x G => f2 x.2 (f1 x.1 G)) (i1 ++ i2) := ⟨pg_tup hc (pgs_cons h1.pg (pgs_cons h2.pg pgs_nil hs2) hs1) hn hst, fun B Hi T tv s H G v x Q hl hs r kk => by
  obtain ⟨q, v1, v2, e1, e2, r1, r2⟩ := r
  refine ⟨q, [v1, v2], e1, SqT.of (hs.sub _ _ e2), rfl, v1, [v2], rfl, ?_⟩
  refine h1.ev B Hi T tv s H G v1 x.1 _ hl hs r1 fun s' s2 w1 => ⟨v2, [], rfl, ?_⟩
  refine h2.ev B Hi T tv s' H _ v2 x.2 _ hl s2 r2 fun s'' s3 w2 => ⟨rfl, kk s'' s3 fun vs hv => ?_⟩
  rw [w2 vs fun i hi => hv i (List.mem_append_right _ hi), w1 vs fun i hi => hv i (List.mem_append_left _ hi)]⟩
theorem gj_trip [Rq α] [Rq β] [Rq γ] {g1 g2 g3 : TG} {f1 : α → List SV → List SV} {f2 : β → List SV → List SV} {f3 : γ → List SV → List SV} {i1 i2 i3 : List Nat} {k : Nat} (hc : X.calm = true) (h1 : GJ X a g1 f1 i1) (h2 : GJ X b g2 f2 i2) (h3 : GJ X c g3 f3 i3)
    (hs1 : (assignEach [a, b, c] X.env).map (·.2) = assign a X.env :: (assignEach [b, c] X.env).map (·.2) := by rfl) (hs2 : (assignEach [b, c] X.env).map (·.2) = assign b X.env :: (assignEach [c] X.env).map (·.2) := by rfl) (hs3 : (assignEach [c] X.env).map (·.2) = assign c X.env :: (assignEach [] X.env).map (·.2) := by rfl)
    (hn : (assignEach [a, b, c] X.env).length = 3 := by rfl) (hst : (assignEach [a, b, c] X.env).findIdx? (·.1) = none := by rfl) :
    GJ (α := T3 α β γ) X (.Tuple [a, b, c] k pos) (gTup X.K 3 (gCons g1 (gCons g2 (gCons g3 gNil)))) (fun x G => f3 x.c (f2 x.b (f1 x.a G))) (i1 ++ (i2 ++ i3)) := ⟨pg_tup hc (pgs_cons h1.pg (pgs_cons h2.pg (pgs_cons h3.pg pgs_nil hs3) hs2) hs1) hn hst, fun B Hi T tv s H G v x Q hl hs r kk => by
  obtain ⟨q, v1, v2, v3, e1, e2, r1, r2, r3⟩ := r
  refine ⟨q, [v1, v2, v3], e1, SqT.of (hs.sub _ _ e2), rfl, v1, [v2, v3], rfl, ?_⟩
  refine h1.ev B Hi T tv s H G v1 x.a _ hl hs r1 fun s' s2 w1 => ⟨v2, [v3], rfl, ?_⟩
  refine h2.ev B Hi T tv s' H _ v2 x.b _ hl s2 r2 fun s'' s3 w2 => ⟨v3, [], rfl, ?_⟩
  refine h3.ev B Hi T tv s'' H _ v3 x.c _ hl s3 r3 fun s4 s5 w3 => ⟨rfl, kk s4 s5 fun vs hv => ?_⟩
  rw [w3 vs fun i hi => hv i (List.mem_append_right _ (List.mem_append_right _ hi)), w2 vs fun i hi => hv i (List.mem_append_right _ (List.mem_append_left _ hi)), w1 vs fun i hi => hv i (List.mem_append_left _ hi)]⟩

/-! ### comprehensions -/
def wipeG (G : List SV) : List Nat → List SV
  | [] => G
  | v :: vs => (wipeG G vs).set v .un
theorem sat_unset {B : Bk} {Hi : Hp} : ∀ {L : List SV} {s : L2.St} {H : Hp} {i : Nat} {o : Option V}, SatG B Hi L s H → SatG B Hi (L.set i .un) (s.set i o) H
  | [], [], _, _, _, h => h
  | [], _ :: _, _, _, _, h => False.elim h
  | _ :: _, [], _, _, _, h => False.elim h
  | c :: L, x :: s, H, 0, o, h => h.drop1
  | c :: L, x :: s, H, i + 1, o, h => slot_map h fun H z => sat_unset z
theorem sat_unsetT {B : Bk} {Hi : Hp} {T : List SV} {tv : L2.St} {L : List SV} {s : L2.St} {H : Hp} {i : Nat} {o : Option V} (e : tv.length = T.length) (h : SatG B Hi (T ++ L) (tv ++ s) H) : SatG B Hi (T ++ L.set i .un) (tv ++ s.set i o) H := by
  have q := sat_unset (i := T.length + i) (o := o) h
  rw [set_app, ← e, set_app] at q
  exact q
theorem sat_wipe {B : Bk} {Hi : Hp} {T : List SV} {tv : L2.St} {L : List SV} {s : L2.St} {H : Hp} (e : tv.length = T.length) (h : SatG B Hi (T ++ L) (tv ++ s) H) : ∀ vs, SatG B Hi (T ++ wipeG L vs) (tv ++ wipe s vs) H
  | [] => h
  | v :: vs => sat_unsetT e (sat_wipe e h vs)
theorem set_get_self {γ : Type} : ∀ (l : List γ) (i : Nat) (x : γ), l[i]? = some x → l.set i x = l
  | [], _, _, h => by simp at h
  | y :: l, 0, x, h => by simp at h; rw [h]; rfl
  | y :: l, i + 1, x, h => by
    have := set_get_self l i x (by simpa using h)
    rw [List.set_cons_succ, this]
theorem sat_unwipe {B : Bk} {Hi : Hp} {T : List SV} {tv : L2.St} {L : List SV} {s : L2.St} {H : Hp} (e : tv.length = T.length) : ∀ {vs : List Nat}, SatG B Hi (T ++ wipeG L vs) (tv ++ wipe s vs) H → SatG B Hi (T ++ wipeG L vs) (tv ++ s) H := by
  intro vs
  induction vs generalizing L with
  | nil => intro h; exact h
  | cons v vs ih =>
    intro h
    have hl := h.len
    by_cases hv : v < (wipe s vs).length
    · have q := sat_unsetT (i := v) (o := (wipe s vs)[v]) e h
      have e1 : (wipeG L (v :: vs)).set v .un = wipeG L (v :: vs) := by
        show ((wipeG L vs).set v .un).set v .un = _
        rw [List.set_set]; rfl
      have e2 : (wipe s (v :: vs)).set v (wipe s vs)[v] = wipe s vs := by
        show ((wipe s vs).set v none).set v _ = _
        rw [List.set_set]
        exact set_get_self _ _ _ (by simp [hv])
      rw [e1, e2] at q
      have e3 : wipeG L (v :: vs) = wipeG (L.set v .un) vs := by
        have k : ∀ (L : List SV) (us : List Nat), (wipeG L us).set v .un = wipeG (L.set v .un) us := fun L us => by
          induction us generalizing L with
          | nil => rfl
          | cons w us ih2 =>
            show ((wipeG L us).set w .un).set v .un = (wipeG (L.set v .un) us).set w .un
            rw [← ih2]
            by_cases z : w = v
            · rw [z]
            · rw [List.set_comm _ _ z]
        exact k L vs
      rw [e3] at q ⊢
      exact ih q
    · have e2 : wipe s (v :: vs) = wipe s vs := by
        show (wipe s vs).set v none = _
        exact List.set_eq_of_length_le (Nat.le_of_not_lt hv)
      have e1 : wipeG L (v :: vs) = wipeG L vs := by
        show (wipeG L vs).set v .un = _
        refine List.set_eq_of_length_le ?_
        have : (wipeG L vs).length = L.length := by
          have k : ∀ us : List Nat, (wipeG L us).length = L.length := fun us => by
            induction us with
            | nil => rfl
            | cons w us ih2 => show ((wipeG L us).set w .un).length = _; rw [List.length_set]; exact ih2
          exact k vs
        rw [e2] at h
        have hl2 := h.len
        rw [List.length_append, List.length_append] at hl2
        have : (wipeG L (v :: vs)).length = (wipeG L vs).length := by show ((wipeG L vs).set v .un).length = _; rw [List.length_set]
        omega
      rw [e1, e2] at h
      rw [e1]
      exact ih h
/-- the lists that the items give, one behind another -/
def colO (xs : List α) (g : α → Option (List β)) : Option (List β) := match xs with
  | [] => some []
  | x :: xs => (g x).bind fun ys => (colO xs g).bind fun zs => some (ys ++ zs)
def mapO (xs : List α) (f : α → Option β) : Option (List β) := match xs with
  | [] => some []
  | x :: xs => (f x).bind fun y => (mapO xs f).bind fun ys => some (y :: ys)
def filO (xs : List α) (c : α → Option Bool) (f : α → Option β) : Option (List β) := match xs with
  | [] => some []
  | x :: xs => (c x).bind fun b => if b = true then (f x).bind fun y => (filO xs c f).bind fun ys => some (y :: ys) else filO xs c f
theorem colO_snoc {g : α → Option (List β)} : ∀ {xs : List α} {x : α} {ys zs : List β}, colO xs g = some ys → g x = some zs → colO (xs ++ [x]) g = some (ys ++ zs)
  | [], x, ys, zs, h, h2 => by
    cases h
    show (g x).bind _ = _
    rw [h2]
    show some (zs ++ []) = some ([] ++ zs)
    rw [List.append_nil, List.nil_append]
  | y :: xs, x, ys, zs, h, h2 => by
    obtain ⟨us, e1, h⟩ := bind_some h
    obtain ⟨ws, e2, e3⟩ := bind_some h
    cases e3
    show (g y).bind _ = _
    rw [e1]
    show (colO (xs ++ [x]) g).bind _ = _
    rw [colO_snoc e2 h2]
    show some (us ++ (ws ++ zs)) = some ((us ++ ws) ++ zs)
    rw [List.append_assoc]
theorem colO_take {g : α → Option (List β)} : ∀ {xs : List α} {zs : List β} (i : Nat), colO xs g = some zs → ∃ ys, colO (xs.take i) g = some ys
  | [], zs, i, h => ⟨[], by simp [colO]⟩
  | x :: xs, zs, 0, h => ⟨[], rfl⟩
  | x :: xs, zs, i + 1, h => by
    obtain ⟨us, e1, h⟩ := bind_some h
    obtain ⟨ws, e2, e3⟩ := bind_some h
    obtain ⟨ys, e4⟩ := colO_take i e2
    exact ⟨us ++ ys, by rw [List.take_succ_cons]; show (g x).bind _ = _; rw [e1]; show (colO (xs.take i) g).bind _ = _; rw [e4]; rfl⟩
theorem colO_at {g : α → Option (List β)} : ∀ {xs : List α} {zs : List β} {i : Nat} {x : α}, colO xs g = some zs → xs[i]? = some x → ∃ ys, g x = some ys
  | [], zs, i, x, h, e => by simp at e
  | y :: xs, zs, 0, x, h, e => by
    obtain ⟨us, e1, h⟩ := bind_some h
    simp at e
    subst e
    exact ⟨us, e1⟩
  | y :: xs, zs, i + 1, x, h, e => by
    obtain ⟨us, e1, h⟩ := bind_some h
    obtain ⟨ws, e2, e3⟩ := bind_some h
    exact colO_at e2 (by simpa using e)
theorem colO_len {g : α → Option (List β)} (hg : ∀ x ys, g x = some ys → ys.length ≤ 1) : ∀ {xs : List α} {zs : List β}, colO xs g = some zs → zs.length ≤ xs.length
  | [], zs, h => by cases h; exact Nat.le_refl _
  | x :: xs, zs, h => by
    obtain ⟨us, e1, h⟩ := bind_some h
    obtain ⟨ws, e2, e3⟩ := bind_some h
    cases e3
    have h1 := hg _ _ e1
    have h2 := colO_len hg e2
    rw [List.length_append, List.length_cons]; omega
theorem mapO_col {f : α → Option β} : ∀ xs : List α, mapO xs f = colO xs fun x => (f x).bind fun y => some [y]
  | [] => rfl
  | x :: xs => by
    show (f x).bind _ = ((f x).bind fun y => some [y]).bind _
    rw [mapO_col xs]
    cases f x <;> rfl
theorem filO_col {c : α → Option Bool} {f : α → Option β} : ∀ xs : List α, filO xs c f = colO xs fun x => (c x).bind fun b => if b = true then (f x).bind fun y => some [y] else some []
  | [] => rfl
  | x :: xs => by
    show (c x).bind _ = ((c x).bind fun b => if b = true then (f x).bind fun y => some [y] else some []).bind _
    rw [filO_col xs]
    cases c x with
    | none => rfl
    | some b =>
      cases b with
      | true =>
        show (f x).bind _ = ((f x).bind fun y => some [y]).bind _
        cases f x <;> rfl
      | false =>
        show colO xs _ = (colO xs _).bind fun zs => some zs
        cases colO xs _ <;> rfl
/-- tests: none, one -/
structure TsJ (X : Cx) (ifs : List Expr) (t : TT) (G : List SV) (m : Option Bool) : Prop where
  pts : PTs X ifs t
  ev : TvJ t G m
theorem ts_nil : TsJ X [] tYes G (some true) := ⟨pts_nil, fun B Hi T tv s H Q x hx hl hs k => by cases hx; exact k Hi H hs⟩
theorem ts_one {tt : TT} {m : Option Bool} (h : TJ X c tt G m) : TsJ X [c] tt G m := ⟨pts_one h.pt, h.ev⟩
variable {elt tg iter : Expr} {ifs : List Expr} {scope : Scope} {own : List (Str × Nat)} {w : TI} {g : TG} {tt : TT}
theorem ov_lc [Rq α] [Rq β] {C} {m1 : Option (List α)} {f : α → List SV → List SV} {ids : List Nat} {mc : α → Option Bool} {me : α → Option β} (hi : IvJ C w G m1) (hc : ∀ s, C G s s)
    (hg : ∀ (B : Bk) (Hi : Hp) (T : List SV) (tv s : L2.St) (H : Hp) (G : List SV) (v : V) (x : α) (Q : L2.St → Hp → Prop), tv.length = T.length → SatG B Hi (T ++ G) (tv ++ s) H → rq Hi x v → (∀ s', SatG B Hi (T ++ f x G) (tv ++ s') H → (∀ vs, (∀ i ∈ ids, i ∈ vs) → wipe s' vs = wipe s vs) → Q s' H) → g v s H Q)
    (ht : ∀ x, TvJ tt (f x G) (mc x)) (he : ∀ x, EvJ te (f x G) (me x)) (hids : ∀ i ∈ ids, i ∈ own.map (·.2)) (hw0 : wipeG G (own.map (·.2)) = G) (hw : ∀ x, wipeG (f x G) (own.map (·.2)) = G) :
    OvJ (tLc w g tt te (own.map (·.2))) G (m1.bind fun xs => colO xs fun x => (mc x).bind fun b => if b = true then (me x).bind fun y => some [y] else some []) := fun B Hi T tv s H Q zs hx hl hs k => by
  obtain ⟨xs, e1, e2⟩ := bind_some hx
  refine hi B Hi T tv s H _ xs e1 hl hs fun J T' tv' Hi1 H1 l1 s1 hz hT hwalk => ?_
  intro D hD
  refine ⟨fun i m H2 => m = xs.length - i ∧ i ≤ xs.length ∧ ∃ Hi2 done, colO (xs.take i) (fun x => (mc x).bind fun b => if b = true then (me x).bind fun y => some [y] else some []) = some done ∧ SatG B Hi2 (ol done :: (T' ++ G)) (some (.ref D) :: (tv' ++ s)) H2,
    ⟨xs.length, by simp, Nat.zero_le _, Hi1, [], rfl, s1.newO (φ := isL []) hD ⟨[], rfl, Nat.zero_le _, .nil⟩⟩, ?_⟩
  rintro i m H2 ⟨rfl, hi, Hi2, done, hd, s2⟩
  obtain ⟨stp, go⟩ := hwalk [ol done] [some (.ref D)] G s Hi2 H2 rfl (hc s) s2
  by_cases hlt : i < xs.length
  · refine .inr ?_
    have hxi : xs[i]? = some xs[i] := by simp [hlt]
    obtain ⟨go1, go2⟩ := go i xs[i] hxi
    refine ⟨go1, fun H3 => ∃ Hi3 done3, colO (xs.take (i + 1)) (fun x => (mc x).bind fun b => if b = true then (me x).bind fun y => some [y] else some []) = some done3 ∧ SatG B Hi3 (ol done3 :: (T' ++ G)) (some (.ref D) :: (tv' ++ s)) H3, fun H3 ⟨Hi3, done3, h3, h4⟩ => ⟨xs.length - (i + 1), by omega, rfl, hlt, Hi3, done3, h3, h4⟩, fun v H3 hy => ?_⟩
    obtain ⟨Hi3, s3, r3⟩ := go2 v H3 hy
    have l3 : (some (V.ref D) :: tv').length = (ol done :: T').length := by simp [l1]
    have s3' : SatG B Hi3 ((ol done :: T') ++ G) ((some (.ref D) :: tv') ++ wipe s (own.map (·.2))) H3 := by
      have q := sat_wipe (T := ol done :: T') (tv := some (.ref D) :: tv') l3 s3 (own.map (·.2))
      rw [hw0] at q
      exact q
    refine hg B Hi3 (ol done :: T') (some (.ref D) :: tv') (wipe s (own.map (·.2))) H3 G v xs[i] _ l3 s3' r3 fun s4 q4 w4 => ?_
    have wid : wipe s4 (own.map (·.2)) = wipe s (own.map (·.2)) := by
      rw [w4 _ hids]
      have k : ∀ (s : L2.St) (vs : List Nat), (∀ us : List Nat, True) → wipe (wipe s vs) vs = wipe s vs := fun s vs _ => by
        have kk : ∀ (us vs : List Nat), (∀ i ∈ us, i ∈ vs) → ∀ s : L2.St, wipe (wipe s us) vs = wipe s vs := fun us => by
          induction us with
          | nil => intro vs _ s; rfl
          | cons u us ih =>
            intro vs hv s
            show wipe ((wipe s us).set u none) vs = _
            rw [wipe_set (hv u List.mem_cons_self)]
            exact ih vs (fun i hi => hv i (List.mem_cons_of_mem _ hi)) s
        exact kk vs vs (fun _ h => h) s
      exact k s _ fun _ => trivial
    refine ⟨wid, ?_⟩
    obtain ⟨ys, hys⟩ := colO_at e2 hxi
    have hsn : xs.take (i + 1) = xs.take i ++ [xs[i]] := by rw [List.take_add_one, hxi]; rfl
    obtain ⟨bb, hb1, hb2⟩ := bind_some hys
    refine ht xs[i] B Hi3 (ol done :: T') (some (.ref D) :: tv') s4 H3 _ bb hb1 l3 q4 fun Hi5 H5 s5 => ?_
    have back : ∀ {Hi6 H6 : Hp} {d : List β}, SatG B Hi6 ((ol d :: T') ++ f xs[i] G) ((some (.ref D) :: tv') ++ s4) H6 → SatG B Hi6 (ol d :: (T' ++ G)) (some (.ref D) :: (tv' ++ s)) H6 := fun {Hi6 H6 d} q => by
      have q1 := sat_wipe (T := ol d :: T') (tv := some (.ref D) :: tv') (by simp [l1]) q (own.map (·.2))
      rw [wid, hw] at q1
      have q2 : SatG B Hi6 ((ol d :: T') ++ wipeG G (own.map (·.2))) ((some (.ref D) :: tv') ++ wipe s (own.map (·.2))) H6 := by rw [hw0]; exact q1
      have q3 := sat_unwipe (T := ol d :: T') (tv := some (.ref D) :: tv') (by simp [l1]) q2
      rw [hw0] at q3
      exact q3
    cases bb with
    | true =>
      rw [if_pos rfl]
      rw [if_pos rfl] at hb2
      obtain ⟨y, hy1, hy2⟩ := bind_some hb2
      cases hy2
      refine he xs[i] B Hi5 (ol done :: T') (some (.ref D) :: tv') s4 H5 _ y hy1 l3 s5 fun u Hi6 H6 s6 r6 => ?_
      obtain ⟨p', F', e3, hp, ⟨_, rfl, acc, rfl, hz4, pr⟩, rest⟩ := s6
      cases e3
      have hp := hp _ _ one_same
      rw [minus_one] at rest
      have hlen : acc.length < sizeLine := by
        rw [← Paired.length pr]
        have h5 := colO_len (fun x ys h => by
          obtain ⟨b5, g1, g2⟩ := bind_some h
          cases b5 with
          | true =>
            rw [if_pos rfl] at g2
            obtain ⟨y5, g3, g4⟩ := bind_some g2
            cases g4
            exact Nat.le_refl _
          | false =>
            rw [if_neg Bool.false_ne_true] at g2
            cases g2
            exact Nat.zero_le _) hd
        rw [List.length_take] at h5
        omega
      refine ⟨acc, hp, hlen, Hi6, done ++ [y], by rw [hsn]; exact colO_snoc hd hys, ?_⟩
      have s7 : SatG B Hi6 ((ol (done ++ [y]) :: T') ++ f xs[i] G) ((some (.ref D) :: tv') ++ s4) (upd H6 D (.lst (acc ++ [u]))) := by
        refine ⟨D, one D (.lst (acc ++ [u])), rfl, same_one upd_same, ⟨_, rfl, acc ++ [u], rfl, by rw [List.length_append]; exact hlen, Paired.snoc pr r6⟩, ?_⟩
        rw [minus_one, del_upd]
        exact rest
      exact back s7
    | false =>
      rw [if_neg Bool.false_ne_true]
      rw [if_neg Bool.false_ne_true] at hb2
      cases hb2
      refine ⟨Hi5, done, by rw [hsn, colO_snoc hd hys, List.append_nil], ?_⟩
      exact back s5
  · have e : i = xs.length := by omega
    subst e
    rw [List.take_length] at hd
    rw [e2] at hd
    cases hd
    refine .inl ⟨stp, ?_⟩
    obtain ⟨p', u', e3, hp, hu, rest⟩ := s2
    cases e3
    refine k D Hi2 H2 ⟨D, u', rfl, hp, hu, ?_⟩
    exact hT G s Hi2 _ rest
theorem oj_lc0 [Rq α] [Rq β] {C} {m1 : Option (List α)} {f : α → List SV → List SV} {ids : List Nat} {mc : α → Option Bool} {me : α → Option β} (hcalm : X.calm = true) (hN : X.N.Nodup) (hi : IJ C X tg iter w G m1) (ok : BlkOk X.N X.env.scope scope own)
    (hg : ∀ (s : Shared) (H : Hp) (C : Addr) (cl : List (Str × Addr)) (fp : List Addr), GJ (X.blk s H scope (compEnvC scope cl C X.env) fp) tg g f ids)
    (ht : ∀ (x : α) (s : Shared) (H : Hp) (C : Addr) (cl : List (Str × Addr)) (fp : List Addr), TsJ (X.blk s H scope (compEnvC scope cl C X.env) fp) ifs tt (f x G) (mc x))
    (he : ∀ (x : α) (s : Shared) (H : Hp) (C : Addr) (cl : List (Str × Addr)) (fp : List Addr), EJ (X.blk s H scope (compEnvC scope cl C X.env) fp) elt te (f x G) (me x)) (x0 : α)
    (hids : ∀ i ∈ ids, i ∈ own.map (·.2)) (hw0 : wipeG G (own.map (·.2)) = G) (hw : ∀ x, wipeG (f x G) (own.map (·.2)) = G) (hs : ∀ x, foldedSetIterable iter X.env x = pure x := by intro _; rfl) :
    OJ X (.ListComp elt [⟨tg, iter, ifs, 0⟩] scope pos) (tLc w g tt te (own.map (·.2))) G (m1.bind fun xs => colO xs fun x => (mc x).bind fun b => if b = true then (me x).bind fun y => some [y] else some []) :=
  ⟨pe_lc hcalm hN hi.pi ok (fun s H C cl fp => (hg s H C cl fp).pg) (fun s H C cl fp => (ht x0 s H C cl fp).pts) (fun s H C cl fp => (he x0 s H C cl fp).pe) hs,
    ov_lc hi.ev hi.c (hg X.s_0 X.H_0 0 [] []).ev (fun x => (ht x X.s_0 X.H_0 0 [] []).ev) (fun x => (he x X.s_0 X.H_0 0 [] []).ev) hids hw0 hw⟩
theorem oj_lc [Rq α] [Rq β] {C} {m1 : Option (List α)} {f : α → List SV → List SV} {ids : List Nat} {me : α → Option β} (x0 : α) (hcalm : X.calm = true) (hN : X.N.Nodup) (hi : IJ C X tg iter w G m1) (ok : BlkOk X.N X.env.scope scope own)
    (hg : ∀ (s : Shared) (H : Hp) (C : Addr) (cl : List (Str × Addr)) (fp : List Addr), GJ (X.blk s H scope (compEnvC scope cl C X.env) fp) tg g f ids)
    (he : ∀ (x : α) (s : Shared) (H : Hp) (C : Addr) (cl : List (Str × Addr)) (fp : List Addr), EJ (X.blk s H scope (compEnvC scope cl C X.env) fp) elt te (f x G) (me x))
    (hids : ∀ i ∈ ids, i ∈ own.map (·.2) := by decide) (hw0 : wipeG G (own.map (·.2)) = G := by rfl) (hw : ∀ x, wipeG (f x G) (own.map (·.2)) = G := by intro _; rfl) (hs : ∀ x, foldedSetIterable iter X.env x = pure x := by intro _; rfl) :
    OJ X (.ListComp elt [⟨tg, iter, [], 0⟩] scope pos) (tLc w g tYes te (own.map (·.2))) G (m1.bind fun xs => mapO xs me) := by
  have h := oj_lc0 (pos := pos) hcalm hN hi ok hg (fun x s H C cl fp => ts_nil) he x0 hids hw0 hw hs
  have e : (fun xs => mapO xs me) = fun xs => colO xs fun x => (some true : Option Bool).bind fun b => if b = true then (me x).bind fun y => some [y] else some [] := funext fun xs => mapO_col xs
  rw [e]
  exact h
theorem oj_lcT [Rq α] [Rq β] {C} {m1 : Option (List α)} {f : α → List SV → List SV} {ids : List Nat} {mc : α → Option Bool} {me : α → Option β} (x0 : α) (hcalm : X.calm = true) (hN : X.N.Nodup) (hi : IJ C X tg iter w G m1) (ok : BlkOk X.N X.env.scope scope own)
    (hg : ∀ (s : Shared) (H : Hp) (C : Addr) (cl : List (Str × Addr)) (fp : List Addr), GJ (X.blk s H scope (compEnvC scope cl C X.env) fp) tg g f ids)
    (ht : ∀ (x : α) (s : Shared) (H : Hp) (C : Addr) (cl : List (Str × Addr)) (fp : List Addr), TJ (X.blk s H scope (compEnvC scope cl C X.env) fp) c tt (f x G) (mc x))
    (he : ∀ (x : α) (s : Shared) (H : Hp) (C : Addr) (cl : List (Str × Addr)) (fp : List Addr), EJ (X.blk s H scope (compEnvC scope cl C X.env) fp) elt te (f x G) (me x))
    (hids : ∀ i ∈ ids, i ∈ own.map (·.2) := by decide) (hw0 : wipeG G (own.map (·.2)) = G := by rfl) (hw : ∀ x, wipeG (f x G) (own.map (·.2)) = G := by intro _; rfl) (hs : ∀ x, foldedSetIterable iter X.env x = pure x := by intro _; rfl) :
    OJ X (.ListComp elt [⟨tg, iter, [c], 0⟩] scope pos) (tLc w g tt te (own.map (·.2))) G (m1.bind fun xs => filO xs mc me) := by
  have h := oj_lc0 (pos := pos) hcalm hN hi ok hg (fun x s H C cl fp => ts_one (ht x s H C cl fp)) he x0 hids hw0 hw hs
  have e : (fun xs => filO xs mc me) = fun xs => colO xs fun x => (mc x).bind fun b => if b = true then (me x).bind fun y => some [y] else some [] := funext fun xs => filO_col xs
  rw [e]
  exact h
end
end GM
namespace GM
open PySem PySem.Spec PyProof.Rows L2

/-! ### statements -/
abbrev Post (O : Type) := O → Bk → List SV → L2.St → Ends → Prop
structure BJ {O : Type} (X : Cx) (ss : List Stmt) (t : TS) (G : List SV) (m : Option O) (P : Post O) : Prop where
  ps : PSs X ss t
  ev : ∀ (B : Bk) (Hi : Hp) (T : List SV) (tv s : L2.St) (H : Hp) (D : Ends) (o : O), m = some o → tv.length = T.length → SatG B Hi (T ++ G) (tv ++ s) H → P o B T tv D → t D s H
inductive Fl (S R : Type) where
  | go (s : S)
  | stop (s : S)
  | ret (r : R)
/-- handed back: what stands still -/
def PR {ρ : Type} [Rq ρ] : Post ρ := fun r B _ _ D => ∀ v Hi H', SatG B Hi [] [] H' → rq Hi r v → D.rt v H'
/-- handed back: a new list -/
def PO {ρ : Type} [Rq ρ] : Post (List ρ) := fun r B _ _ D => ∀ p Hi H', SatG B Hi [ol r] [some (.ref p)] H' → D.rt (.ref p) H'
/-- nothing is handed back -/
def PU : Post Unit := fun _ B _ _ D => (∀ Hi H', SatG B Hi [] [] H' → D.rt .non H') ∧ ∀ s Hi H', SatG B Hi [] [] H' → D.nx s H'
/-- goes on -/
def PN {S : Type} (N : S → List SV) : Post S := fun o B T tv D => ∀ s Hi H', SatG B Hi (T ++ N o) (tv ++ s) H' → D.nx s H'
/-- a loop's turn -/
def PP {S : Type} (N : S → List SV) : Post S := fun o B T tv D => ∀ s Hi H', SatG B Hi (T ++ N o) (tv ++ s) H' → D.nx s H' ∧ D.ct s H'
def PPx {S : Type} (N : S → List SV) : Post S := fun o B T tv D => ∀ s Hi H', SatG B Hi (T ++ N o) (tv ++ s) H' → D.ct s H'
def PL {S R : Type} (N : S → List SV) (Pr : Post R) : Post (Fl S R) := fun o B T tv D => match o with
  | .go st => ∀ s Hi H', SatG B Hi (T ++ N st) (tv ++ s) H' → D.nx s H' ∧ D.ct s H'
  | .stop st => ∀ s Hi H', SatG B Hi (T ++ N st) (tv ++ s) H' → D.bk s H'
  | .ret r => Pr r B T tv D
def PLx {S R : Type} (N : S → List SV) (Pr : Post R) : Post (Fl S R) := fun o B T tv D => match o with
  | .go st => ∀ s Hi H', SatG B Hi (T ++ N st) (tv ++ s) H' → D.ct s H'
  | .stop st => ∀ s Hi H', SatG B Hi (T ++ N st) (tv ++ s) H' → D.bk s H'
  | .ret r => Pr r B T tv D
/-- what the ways out ask does not hang on what follows -/
class Out {O : Type} (P : Post O) (Px : outParam (Post O)) : Prop where
  out : ∀ (o : O) (B : Bk) (T : List SV) (tv : L2.St) (D : Ends) (u : L2.St → Hp → Prop), P o B T tv D → Px o B T tv { D with nx := u }
instance {ρ : Type} [Rq ρ] : Out (PR (ρ := ρ)) PR := ⟨fun _ _ _ _ _ _ h => h⟩
instance {ρ : Type} [Rq ρ] : Out (PO (ρ := ρ)) PO := ⟨fun _ _ _ _ _ _ h => h⟩
instance {S : Type} {N : S → List SV} : Out (PP N) (PPx N) := ⟨fun _ _ _ _ _ _ h s Hi H' q => (h s Hi H' q).2⟩
instance {S : Type} {N : S → List SV} : Out (PPx N) (PPx N) := ⟨fun _ _ _ _ _ _ h => h⟩
instance {S R : Type} {N : S → List SV} {Pr : Post R} [Out Pr Pr] : Out (PL N Pr) (PLx N Pr) := ⟨fun o _ _ _ _ _ h => by
  cases o with
  | go st => exact fun s Hi H' q => (h s Hi H' q).2
  | stop st => exact h
  | ret r => exact Out.out (P := Pr) _ _ _ _ _ _ h⟩
instance {S R : Type} {N : S → List SV} {Pr : Post R} [Out Pr Pr] : Out (PLx N Pr) (PLx N Pr) := ⟨fun o _ _ _ _ _ h => by
  cases o with
  | go st => exact h
  | stop st => exact h
  | ret r => exact Out.out (P := Pr) _ _ _ _ _ _ h⟩
/-- handing back r is one of the ways -/
class Rt {O ρ : Type} (P : Post O) (Pr : Post ρ) (inj : ρ → O) : Prop where
  rt : ∀ (r : ρ) (B : Bk) (T : List SV) (tv : L2.St) (D : Ends), P (inj r) B T tv D → Pr r B T tv D
instance {ρ : Type} {P : Post ρ} : Rt P P id := ⟨fun _ _ _ _ _ h => h⟩
instance {S R : Type} {N : S → List SV} {Pr : Post R} : Rt (PL N Pr) Pr Fl.ret := ⟨fun _ _ _ _ _ h => h⟩
instance {S R : Type} {N : S → List SV} {Pr : Post R} : Rt (PLx N Pr) Pr Fl.ret := ⟨fun _ _ _ _ _ h => h⟩
/-- ways that hang on the returned value alone -/
class RtOnly {R : Type} (Pr : Post R) : Prop where
  mv : ∀ (r : R) (B : Bk) (T T' : List SV) (tv tv' : L2.St) (D D' : Ends), D'.rt = D.rt → Pr r B T tv D → Pr r B T' tv' D'
instance {ρ : Type} [Rq ρ] : RtOnly (PR (ρ := ρ)) := ⟨fun r B T T' tv tv' D D' e h v Hi H' q1 q2 => by rw [e]; exact h v Hi H' q1 q2⟩
instance {ρ : Type} [Rq ρ] : RtOnly (PO (ρ := ρ)) := ⟨fun r B T T' tv tv' D D' e h p Hi H' q1 => by rw [e]; exact h p Hi H' q1⟩

section
variable {X : Cx} {e a b c : Expr} {es : List Expr} {t ta tb tc te : TE} {tr : TA} {G : List SV} {α β γ τ ρ O S R : Type} {pos p : Pos} {n : Str} {rest : List Stmt} {u ts : TS} {P Px : Post O}
/-- nothing more: it goes on with st -/
theorem bj_nilN {N : S → List SV} (st : S) (w : Wk G (N st)) : BJ X [] tNext G (some st) (PN N) := ⟨pss_nil, fun B Hi T tv s H D o hx hl hs k => by cases hx; exact k s Hi H (hs.wkT hl w)⟩
theorem bj_nilP {N : S → List SV} (st : S) (w : Wk G (N st)) : BJ X [] tNext G (some st) (PP N) := ⟨pss_nil, fun B Hi T tv s H D o hx hl hs k => by cases hx; exact (k s Hi H (hs.wkT hl w)).1⟩
theorem bj_nilL {N : S → List SV} {Pr : Post R} (st : S) (w : Wk G (N st)) : BJ X [] tNext G (some (.go st)) (PL N Pr) := ⟨pss_nil, fun B Hi T tv s H D o hx hl hs k => by cases hx; exact (k s Hi H (hs.wkT hl w)).1⟩
theorem bj_nilU : BJ X [] tNext G (some ()) PU := ⟨pss_nil, fun B Hi T tv s H D o hx hl hs k => k.2 s Hi H hs.bare⟩
theorem bj_contP {N : S → List SV} (st : S) (w : Wk G (N st)) : BJ X [.Continue pos] (tSeq tCont tNext) G (some st) (PP N) := ⟨pss_cons ps_continue pss_nil, fun B Hi T tv s H D o hx hl hs k => by cases hx; exact (k s Hi H (hs.wkT hl w)).2⟩
theorem bj_contPx {N : S → List SV} (st : S) (w : Wk G (N st)) : BJ X [.Continue pos] (tSeq tCont tNext) G (some st) (PPx N) := ⟨pss_cons ps_continue pss_nil, fun B Hi T tv s H D o hx hl hs k => by cases hx; exact k s Hi H (hs.wkT hl w)⟩
theorem bj_contL {N : S → List SV} {Pr : Post R} (st : S) (w : Wk G (N st)) : BJ X [.Continue pos] (tSeq tCont tNext) G (some (.go st)) (PL N Pr) := ⟨pss_cons ps_continue pss_nil, fun B Hi T tv s H D o hx hl hs k => by cases hx; exact (k s Hi H (hs.wkT hl w)).2⟩
theorem bj_contLx {N : S → List SV} {Pr : Post R} (st : S) (w : Wk G (N st)) : BJ X [.Continue pos] (tSeq tCont tNext) G (some (.go st)) (PLx N Pr) := ⟨pss_cons ps_continue pss_nil, fun B Hi T tv s H D o hx hl hs k => by cases hx; exact k s Hi H (hs.wkT hl w)⟩
theorem bj_brkL {N : S → List SV} {Pr : Post R} (st : S) (w : Wk G (N st)) : BJ X [.Break pos] (tSeq tBreak tNext) G (some (.stop st)) (PL N Pr) := ⟨pss_cons ps_break pss_nil, fun B Hi T tv s H D o hx hl hs k => by cases hx; exact k s Hi H (hs.wkT hl w)⟩
theorem bj_brkLx {N : S → List SV} {Pr : Post R} (st : S) (w : Wk G (N st)) : BJ X [.Break pos] (tSeq tBreak tNext) G (some (.stop st)) (PLx N Pr) := ⟨pss_cons ps_break pss_nil, fun B Hi T tv s H D o hx hl hs k => by cases hx; exact k s Hi H (hs.wkT hl w)⟩
/-- a step of the proof alone: our own list is let go -/
theorem bj_thaw [Rq α] {xs : List α} (i : Nat) {m : Option O} (h : BJ X rest u (G.set i (fz xs)) m P) (hi : G[i]? = some (ol xs) := by rfl) : BJ X rest u G m P := ⟨h.ps, fun B Hi T tv s H D o hx hl hs k => by
  obtain ⟨q, w, h1, h2, ⟨vs, h3, h4, h5⟩, h6, up⟩ := hs.ownT hl hi
  subst h3
  have s1 := up (.lst vs) (isL xs) (fun _ _ _ e ⟨vs, h1, h2, h3⟩ => ⟨vs, h1, h2, Paired.mono h3 fun _ _ => Rq.mono e⟩) ⟨vs, rfl, h4, h5⟩
  have z := hs.front (i := T.length + i) (by rw [get_app]; exact hi)
  rw [set_app, ← hl, get_app, h1] at z
  obtain ⟨Hi', s2, r⟩ := sat_thawL z
  have s3 : SatG B Hi' (fz xs :: (T ++ G.set i .un)) (some (.ref q) :: (tv ++ s)) H := ⟨⟨_, rfl, r⟩, s2⟩
  have s4 := s3.putT hl (i := i)
  rw [List.set_set] at s4
  have hsi : s.set i (some (.ref q)) = s := set_get_self _ _ _ h1
  rw [hsi] at s4
  exact h.ev B Hi' T tv s H D o hx hl s4 k⟩
theorem bj_wk {G' : List SV} {m : Option O} (w : Wk G G') (h : BJ X rest u G' m P) : BJ X rest u G m P := ⟨h.ps, fun B Hi T tv s H D o hx hl hs k => h.ev B Hi T tv s H D o hx hl (hs.wkT hl w) k⟩
theorem bj_m {m m' : Option O} (h : BJ X rest u G m P) (e : m = m') : BJ X rest u G m' P := by rw [← e]; exact h
theorem bj_doc {x j pos'} {m : Option O} (h : BJ X rest u G m P) : BJ X (.Expr (.Constant (.str x) j pos) pos' :: rest) (tSeq tNext u) G m P := ⟨pss_cons ps_doc h.ps, fun B Hi T tv s H D o hx hl hs k => h.ev B Hi T tv s H D o hx hl hs k⟩
theorem bj_pass {m : Option O} (h : BJ X rest u G m P) : BJ X (.Pass pos :: rest) (tSeq tNext u) G m P := ⟨pss_cons ps_pass h.ps, fun B Hi T tv s H D o hx hl hs k => h.ev B Hi T tv s H D o hx hl hs k⟩
/-- never reached -/
theorem bj_never {ss : List Stmt} : BJ X ss tNever G (none : Option O) P := ⟨pss_never, fun B Hi T tv s H D o hx => by cases hx⟩
/-- return e -/
theorem bj_ret [Rq ρ] {inj : ρ → O} [Rt P (PR (ρ := ρ)) inj] {m : Option ρ} (h : EJ X e t G m) : BJ X (.Return (some e) pos :: []) (tSeq (tRet t) tNext) G (m.bind fun r => some (inj r)) P := ⟨pss_cons (ps_ret h.pe) pss_nil, fun B Hi T tv s H D o hx hl hs k => by
  obtain ⟨r, e1, e2⟩ := bind_some hx
  cases e2
  exact h.ev B Hi T tv s H _ r e1 hl hs fun v Hi' H' s' rr => Rt.rt (P := P) (Pr := PR (ρ := ρ)) (inj := inj) r B T tv D k v Hi' H' s'.bare rr⟩
theorem bj_retO [Rq ρ] {inj : List ρ → O} [Rt P (PO (ρ := ρ)) inj] {m : Option (List ρ)} (h : OJ X e t G m) : BJ X (.Return (some e) pos :: []) (tSeq (tRet t) tNext) G (m.bind fun r => some (inj r)) P := ⟨pss_cons (ps_ret h.pe) pss_nil, fun B Hi T tv s H D o hx hl hs k => by
  obtain ⟨r, e1, e2⟩ := bind_some hx
  cases e2
  exact h.ev B Hi T tv s H _ r e1 hl hs fun q Hi' H' s' => Rt.rt (P := P) (Pr := PO (ρ := ρ)) (inj := inj) r B T tv D k q Hi' H' s'.bare1⟩
/-- return of our own list by its name -/
theorem bj_retV [Rq ρ] {xs : List ρ} {inj : List ρ → O} [Rt P (PO (ρ := ρ)) inj] (i : Nat) (hi : G[i]? = some (ol xs) := by rfl) (hN : X.N[i]? = some n := by rfl) (hv : Vis X.env.scope n := by first | exact Or.inl rfl | exact Or.inr (Or.inl rfl) | exact Or.inr (Or.inr rfl))
    (hd : (n == ("__debug__" : Str)) = false := by decide) (hcd : (n == ("__classdict__" : Str)) = false := by decide) {p2 : Pos} : BJ X (.Return (some (.Name n p2)) pos :: []) (tSeq (tRet (tVar i)) tNext) G (some (inj xs)) P := ⟨pss_cons (ps_ret (pe_var hN hv hd hcd)) pss_nil, fun B Hi T tv s H D o hx hl hs k => by
  cases hx
  obtain ⟨q, w, h1, h2, h3, h6, up⟩ := hs.ownT hl hi
  have z := hs.front (i := T.length + i) (by rw [get_app]; exact hi)
  rw [set_app, ← hl, get_app, h1] at z
  exact ⟨.ref q, h1, Rt.rt (P := P) (Pr := PO (ρ := ρ)) (inj := inj) xs B T tv D k q Hi H z.bare1⟩⟩
/-- return e, e a list that stands still or that is new, into a list that is wanted still -/
theorem bj_retU {j p2} {inj : Unit → O} [Rt P PU inj] : BJ X (.Return (some (.Constant .none j p2)) pos :: []) (tSeq (tRet (tC .non)) tNext) G (some (inj ())) P := ⟨pss_cons (ps_ret pe_non) pss_nil, fun B Hi T tv s H D o hx hl hs k => by
  cases hx
  exact (Rt.rt (P := P) (Pr := PU) (inj := inj) () B T tv D k).1 Hi H hs.bare⟩
/-- target = e -/
theorem bj_asgG [Rq α] {tg : Expr} {g : TG} {f : α → List SV → List SV} {ids : List Nat} {m1 : Option α} {m2 : α → Option O} (hg : GJ X tg g f ids) (h : EJ X e t G m1) (hr : ∀ x, BJ X rest u (f x G) (m2 x) P)
    (hs : swapsWithSole [tg] e pos.line X.env = pure false := by rfl) (hw : swappedStores [tg] e X.env = pure none := by rfl) (h1 : (assignEach [tg] X.env).map (·.2) = [assign tg X.env] := by rfl) (x0 : α) :
    BJ X (.Assign [tg] e pos :: rest) (tSeq (tAsg t g) u) G (m1.bind m2) P := ⟨pss_cons (ps_asg h.pe hg.pg hs hw h1) (hr x0).ps, fun B Hi T tv s H D o hx hl hs k => by
  obtain ⟨x, e1, e2⟩ := bind_some hx
  refine h.ev B Hi T tv s H _ x e1 hl hs fun v Hi1 H1 s1 r1 => ?_
  refine hg.ev B Hi1 T tv s H1 G v x _ hl s1 r1 fun s' s2 _ => ?_
  exact (hr x).ev B Hi1 T tv s' H1 D o e2 hl s2 k⟩
/-- name = e -/
theorem bj_asg [Rq α] {m1 : Option α} {m2 : α → Option O} (hN : X.N.Nodup) (i : Nat) (h : EJ X e t G m1) (x0 : α) (hr : ∀ x, BJ X rest u (G.set i (fz x)) (m2 x) P) {p2 : Pos}
    (hi : X.N[i]? = some n := by rfl) (hx : Loc X.env.scope n := by first | exact Or.inl rfl | exact Or.inr rfl) (hs : swapsWith e (some (.Name n p2)) pos.line X.env = pure false := by rfl) (hf : X.fn n = true ∨ X.env.scope.names.lookup n = some .local := by first | exact .inl rfl | exact .inr rfl | assumption) :
    BJ X (.Assign [.Name n p2] e pos :: rest) (tSeq (tAsg t (gName i)) u) G (m1.bind m2) P := ⟨pss_cons (ps_set hN hi hx h.pe hs hf) (hr x0).ps, fun B Hi T tv s H D o hx hl hs k => by
  obtain ⟨x, e1, e2⟩ := bind_some hx
  refine h.ev B Hi T tv s H _ x e1 hl hs fun v Hi1 H1 s1 r1 => ?_
  have s2 : SatG B Hi1 (fz x :: (T ++ G)) (some v :: (tv ++ s)) H1 := ⟨⟨v, rfl, r1⟩, s1⟩
  exact (hr x).ev B Hi1 T tv _ H1 D o e2 hl (s2.putT hl) k⟩
theorem bj_asgO [Rq α] {m1 : Option (List α)} {m2 : List α → Option O} (hN : X.N.Nodup) (i : Nat) (h : OJ X e t G m1) (hr : ∀ x, BJ X rest u (G.set i (ol x)) (m2 x) P) {p2 : Pos}
    (hi : X.N[i]? = some n := by rfl) (hx : Loc X.env.scope n := by first | exact Or.inl rfl | exact Or.inr rfl) (hs : swapsWith e (some (.Name n p2)) pos.line X.env = pure false := by rfl) (hf : X.fn n = true ∨ X.env.scope.names.lookup n = some .local := by first | exact .inl rfl | exact .inr rfl | assumption) :
    BJ X (.Assign [.Name n p2] e pos :: rest) (tSeq (tAsg t (gName i)) u) G (m1.bind m2) P := ⟨pss_cons (ps_set hN hi hx h.pe hs hf) (hr []).ps, fun B Hi T tv s H D o hx hl hs k => by
  obtain ⟨x, e1, e2⟩ := bind_some hx
  refine h.ev B Hi T tv s H _ x e1 hl hs fun q Hi1 H1 s1 => ?_
  exact (hr x).ev B Hi1 T tv _ H1 D o e2 hl (s1.putT hl) k⟩
/-- name = [..] -/
structure LCJ [Rq β] (X : Cx) (i : Nat) (y : Str) (py : Pos) (e : Expr) (spos : Pos) (t : TE) (G : List SV) (m : Option (List β)) : Prop where
  ps : PS X (.Assign [.Name y py] e spos) (tAsg t (gName i))
  ev : OvJ t G m
theorem bj_asgLc [Rq α] {m1 : Option (List α)} {m2 : List α → Option O} {i : Nat} {p2 : Pos} (h : LCJ X i n p2 e pos t G m1) (hr : ∀ x, BJ X rest u (G.set i (ol x)) (m2 x) P) :
    BJ X (.Assign [.Name n p2] e pos :: rest) (tSeq (tAsg t (gName i)) u) G (m1.bind m2) P := ⟨pss_cons h.ps (hr []).ps, fun B Hi T tv s H D o hx hl hs k => by
  obtain ⟨x, e1, e2⟩ := bind_some hx
  refine h.ev B Hi T tv s H _ x e1 hl hs fun q Hi1 H1 s1 => ?_
  exact (hr x).ev B Hi1 T tv _ H1 D o e2 hl (s1.putT hl) k⟩
variable {elt tg iter : Expr} {ifs : List Expr} {scope : Scope} {own : List (Str × Nat)} {w : TI} {g : TG} {tt : TT}
theorem lcj [Rq α] [Rq β] {C} {m1 : Option (List α)} {f : α → List SV → List SV} {ids : List Nat} {me : α → Option β} {i : Nat} {y : Str} {py spos : Pos} (x0 : α) (hcalm : X.calm = true) (hN : X.N.Nodup) (hy : X.N[i]? = some y) (hyl : X.env.scope.names.lookup y = some .local) (hsw : swapsWith (.ListComp elt [⟨tg, iter, [], 0⟩] scope pos) (some (.Name y py)) spos.line X.env = pure true)
    (hi : IJ C X tg iter w G m1) (ok : BlkOk X.N X.env.scope scope own)
    (hg : ∀ (s : Shared) (H : Hp) (C : Addr) (cl : List (Str × Addr)) (fp : List Addr), GJ (X.blk s H scope (compEnvC scope cl C X.env) fp) tg g f ids)
    (he : ∀ (x : α) (s : Shared) (H : Hp) (C : Addr) (cl : List (Str × Addr)) (fp : List Addr), EJ (X.blk s H scope (compEnvC scope cl C X.env) fp) elt te (f x G) (me x))
    (hids : ∀ i ∈ ids, i ∈ own.map (·.2) := by decide) (hw0 : wipeG G (own.map (·.2)) = G := by rfl) (hw : ∀ x, wipeG (f x G) (own.map (·.2)) = G := by intro _; rfl) (hs : ∀ x, foldedSetIterable iter X.env x = pure x := by intro _; rfl) :
    LCJ X i y py (.ListComp elt [⟨tg, iter, [], 0⟩] scope pos) spos (tLc w g tYes te (own.map (·.2))) G (m1.bind fun xs => mapO xs me) :=
  ⟨ps_setLc hcalm hN hy hyl hsw hi.pi ok (fun s H C cl fp => (hg s H C cl fp).pg) (fun s H C cl fp => pts_nil) (fun s H C cl fp => (he x0 s H C cl fp).pe) hs, (oj_lc (pos := pos) x0 hcalm hN hi ok hg he hids hw0 hw hs).ev⟩
theorem lcjT [Rq α] [Rq β] {C} {m1 : Option (List α)} {f : α → List SV → List SV} {ids : List Nat} {mc : α → Option Bool} {me : α → Option β} {i : Nat} {y : Str} {py spos : Pos} (x0 : α) (hcalm : X.calm = true) (hN : X.N.Nodup) (hy : X.N[i]? = some y) (hyl : X.env.scope.names.lookup y = some .local) (hsw : swapsWith (.ListComp elt [⟨tg, iter, [c], 0⟩] scope pos) (some (.Name y py)) spos.line X.env = pure true)
    (hi : IJ C X tg iter w G m1) (ok : BlkOk X.N X.env.scope scope own)
    (hg : ∀ (s : Shared) (H : Hp) (C : Addr) (cl : List (Str × Addr)) (fp : List Addr), GJ (X.blk s H scope (compEnvC scope cl C X.env) fp) tg g f ids)
    (ht : ∀ (x : α) (s : Shared) (H : Hp) (C : Addr) (cl : List (Str × Addr)) (fp : List Addr), TJ (X.blk s H scope (compEnvC scope cl C X.env) fp) c tt (f x G) (mc x))
    (he : ∀ (x : α) (s : Shared) (H : Hp) (C : Addr) (cl : List (Str × Addr)) (fp : List Addr), EJ (X.blk s H scope (compEnvC scope cl C X.env) fp) elt te (f x G) (me x))
    (hids : ∀ i ∈ ids, i ∈ own.map (·.2) := by decide) (hw0 : wipeG G (own.map (·.2)) = G := by rfl) (hw : ∀ x, wipeG (f x G) (own.map (·.2)) = G := by intro _; rfl) (hs : ∀ x, foldedSetIterable iter X.env x = pure x := by intro _; rfl) :
    LCJ X i y py (.ListComp elt [⟨tg, iter, [c], 0⟩] scope pos) spos (tLc w g tt te (own.map (·.2))) G (m1.bind fun xs => filO xs mc me) :=
  ⟨ps_setLc hcalm hN hy hyl hsw hi.pi ok (fun s H C cl fp => (hg s H C cl fp).pg) (fun s H C cl fp => pts_one (ht x0 s H C cl fp).pt) (fun s H C cl fp => (he x0 s H C cl fp).pe) hs, (oj_lcT (pos := pos) x0 hcalm hN hi ok hg ht he hids hw0 hw hs).ev⟩
/-- a, b = e1, e2 -/
theorem bj_par [Rq α] [Rq β] {m : Option (α × β × Unit)} {m2 : α × β × Unit → Option O} (hc : X.calm = true) (hN : X.N.Nodup) (i j : Nat) {x y : Str} {px py pt : Pos} {kt k2 pt2} (ha : AJ X [a, b] tr G m) (x0 : α × β × Unit) (hr : ∀ z, BJ X rest u ((G.set i (fz z.1)).set j (fz z.2.1)) (m2 z) P)
    (hi : X.N[i]? = some x := by rfl) (hj : X.N[j]? = some y := by rfl) (hij : i ≠ j := by decide) (hx : X.env.scope.names.lookup x = some .local := by rfl) (hy : X.env.scope.names.lookup y = some .local := by rfl)
    (hw : swappedStores [.Tuple [.Name x px, .Name y py] kt pt] (.Tuple [a, b] k2 pt2) X.env = pure (some [x, y]) := by rfl) (hs : swapsWithSole [.Tuple [.Name x px, .Name y py] kt pt] (.Tuple [a, b] k2 pt2) pos.line X.env = pure false := by rfl) :
    BJ X (.Assign [.Tuple [.Name x px, .Name y py] kt pt] (.Tuple [a, b] k2 pt2) pos :: rest) (tSeq (tPar i j tr) u) G (m.bind m2) P := ⟨pss_cons (ps_par hc hN hi hj hij hx hy ha.pa hw hs) (hr x0).ps, fun B Hi T tv s H D o hx hl hs k => by
  obtain ⟨z, e1, e2⟩ := bind_some hx
  refine ha.ev B Hi T tv s H _ z e1 hl hs fun vs Hi1 H1 s1 r1 => ?_
  obtain ⟨v1, us, rfl, h1, v2, us2, rfl, h2, h3⟩ := r1
  cases h3
  refine ⟨v1, v2, rfl, ?_⟩
  have s2 : SatG B Hi1 (fz z.1 :: (T ++ G)) (some v1 :: (tv ++ s)) H1 := ⟨⟨v1, rfl, h1⟩, s1⟩
  have s3 : SatG B Hi1 (fz z.2.1 :: (T ++ G.set i (fz z.1))) (some v2 :: (tv ++ s.set i (some v1))) H1 := ⟨⟨v2, rfl, h2⟩, s2.putT hl⟩
  exact (hr z).ev B Hi1 T tv _ H1 D o e2 hl (s3.putT hl) k⟩
/-- name op= e, ints -/
theorem bj_augI {x : Int} {op : Operator} {fo : Int → Int → Int} {m1 : Option Int} {m2 : Int → Option O} (hN : X.N.Nodup) (i : Nat) (hop : PIp X op (ipI fo)) (h : EJ X e t G m1) (hr : ∀ y, BJ X rest u (G.set i (fz (fo x y))) (m2 y) P) {p2 : Pos} (hg : G[i]? = some (fz x) := by rfl)
    (hi : X.N[i]? = some n := by rfl) (hx : Loc X.env.scope n := by first | exact Or.inl rfl | exact Or.inr rfl) (hf : X.fn n = true ∨ X.env.scope.names.lookup n = some .local := by first | exact .inl rfl | exact .inr rfl | assumption) :
    BJ X (.AugAssign (.Name n p2) op e pos :: rest) (tSeq (tAug i t (ipI fo)) u) G (m1.bind m2) P := ⟨pss_cons (ps_aug hN hi hx h.pe hop hf) (hr 0).ps, fun B Hi T tv s H D o hx hl hs k => by
  obtain ⟨y, e1, e2⟩ := bind_some hx
  obtain ⟨v, h1, h2⟩ := hs.getT hl hg
  refine ⟨v, h1, ?_⟩
  refine h.ev B Hi T tv s H _ y e1 hl hs fun w Hi1 H1 s1 r1 => ?_
  refine ⟨x, y, h2, r1, ?_⟩
  have s2 : SatG B Hi1 (fz (fo x y) :: (T ++ G)) (some (.int (fo x y)) :: (tv ++ s)) H1 := ⟨⟨_, rfl, rfl⟩, s1⟩
  exact (hr y).ev B Hi1 T tv _ H1 D o e2 hl (s2.putT hl) k⟩
/-- xs[i] = e, xs our own -/
def setC (xs : List α) (i : Int) (x : α) : Option (List α) := (ixN xs.length i).bind fun j => some (xs.set j x)
theorem setC_is {xs : List α} {i : Int} {x : α} {ys : List α} (h : setC xs i x = some ys) : ∃ j, ixN xs.length i = some j ∧ ys = xs.set j x := by
  obtain ⟨j, h1, h2⟩ := bind_some h
  cases h2
  exact ⟨j, h1, rfl⟩
theorem bj_setI [Rq α] {xs : List α} {m1 : Option α} {m2 : Option Int} {m3 : List α → Option O} (l : Nat) (h : EJ X e t G m1) (hix : EJ X b tb G m2) (hr : ∀ ys, BJ X rest u (G.set l (ol ys)) (m3 ys) P) {p2 p3 : Pos} (hg : G[l]? = some (ol xs) := by rfl)
    (hN : X.N[l]? = some n := by rfl) (hv : Vis X.env.scope n := by first | exact Or.inl rfl | exact Or.inr (Or.inl rfl) | exact Or.inr (Or.inr rfl)) (hd : (n == ("__debug__" : Str)) = false := by decide) (hcd : (n == ("__classdict__" : Str)) = false := by decide)
    (hs : swapsWithSole [.Subscript (.Name n p2) b p3] e pos.line X.env = pure false := by rfl) (hw : swappedStores [.Subscript (.Name n p2) b p3] e X.env = pure none := by rfl) (h1 : (assignEach [.Subscript (.Name n p2) b p3] X.env).map (·.2) = [assign (.Subscript (.Name n p2) b p3) X.env] := by rfl)
    (ha : ∀ v, assign (.Subscript (.Name n p2) b p3) X.env v = (do
      let ov ← holding [v] (eval (.Name n p2) X.env)
      let iv ← holding [v, ov] (eval b X.env)
      standAt p3
      holding [v, ov, iv] (setItem ov iv v)
      release [v, ov, iv] []) := by intro _; rfl) :
    BJ X (.Assign [.Subscript (.Name n p2) b p3] e pos :: rest) (tSeq (tAsg t (gSub (tVar l) tb rSetL)) u) G (m1.bind fun x => m2.bind fun i => (setC xs i x).bind m3) P :=
  ⟨pss_cons (ps_asg h.pe (pg_sub (pe_var hN hv hd hcd) hix.pe set_list ha) hs hw h1) (hr []).ps, fun B Hi T tv s H D o hx hl hs k => by
  obtain ⟨x, e1, hx⟩ := bind_some hx
  obtain ⟨i, e2, hx⟩ := bind_some hx
  obtain ⟨ys, e3, e4⟩ := bind_some hx
  refine h.ev B Hi T tv s H _ x e1 hl hs fun v Hi1 H1 s1 r1 => ?_
  obtain ⟨q, w, h1, h2, ⟨vs, h3, h4, h5⟩, h6, up⟩ := s1.ownT hl hg
  refine ⟨.ref q, h1, ?_⟩
  refine hix.ev B Hi1 (fz x :: T) (some v :: tv) s H1 _ i e2 (by simp [hl]) ⟨⟨v, rfl, r1⟩, s1⟩ fun iv Hi2 H2 s2 r2 => ?_
  obtain ⟨⟨v', e5, r1'⟩, s2⟩ := s2
  cases e5
  obtain ⟨q', w', g1, g2, ⟨us, g3, g4, g5⟩, g6, up⟩ := s2.ownT hl hg
  rw [h1] at g1
  cases g1
  subst g3
  obtain ⟨j, f1, f2⟩ := setC_is e3
  subst f2
  refine ⟨q, us, i, j, rfl, r2, g2, by rw [← Paired.length g5]; exact f1, ?_⟩
  have s3 := up (.lst (us.set j v)) (isL (xs.set j x)) (fun _ _ _ e ⟨vs, h1, h2, h3⟩ => ⟨vs, h1, h2, Paired.mono h3 fun _ _ => Rq.mono e⟩) ⟨_, rfl, by rw [List.length_set]; exact g4, Paired.set r1' j g5⟩
  exact (hr _).ev B Hi2 T tv s _ D o e4 hl s3 k⟩
/-- xs.append(e) -/
def appC (xs : List α) (x : α) : Option (List α) := if xs.length < sizeLine then some (xs ++ [x]) else none
theorem appC_is {xs ys : List α} {x : α} (h : appC xs x = some ys) : xs.length < sizeLine ∧ ys = xs ++ [x] := by
  unfold appC at h
  by_cases q : xs.length < sizeLine
  · rw [if_pos q] at h; cases h; exact ⟨q, rfl⟩
  · rw [if_neg q] at h; cases h
/-- a method of our own list that changes it: by its rule -/
theorem bj_meth1 [Rq α] [Rq β] {xs : List α} {m1 : Option β} {m3 : List α → Option O} {f : List α → β → Option (List α)} {name : Str} {id : String} {r : V → List V → Hp → VK → Prop} (l : Nat) (slot : Slot "list" name id) (hty : typeOf (.builtin id) = pure (.type "method_descriptor")) (hm : MtR X id r)
    (hf : ∀ q Hi H xs y vs v ys (Q : VK), Same Hi H → H q = some (.lst vs) → vs.length ≤ sizeLine → Paired (rq Hi) xs vs → rq Hi y v → f xs y = some ys → (∀ us w, us.length ≤ sizeLine → Paired (rq Hi) ys us → Q w (upd H q (.lst us))) → r (.ref q) [v] H Q)
    (h : EJ X e t G m1) (hr : ∀ ys, BJ X rest u (G.set l (ol ys)) (m3 ys) P) {p2 apos cpos : Pos} (hg : G[l]? = some (ol xs) := by rfl)
    (hN : X.N[l]? = some n := by rfl) (hv : Vis X.env.scope n := by first | exact Or.inl rfl | exact Or.inr (Or.inl rfl) | exact Or.inr (Or.inr rfl)) (hd : (n == ("__debug__" : Str)) = false := by decide) (hcd : (n == ("__classdict__" : Str)) = false := by decide)
    (hbase : attributeBase (.Name n p2) name X.env (eval (.Name n p2) X.env) = eval (.Name n p2) X.env := by rfl)
    (hfew : ((backTo cpos (starEach [e] X.env)).all (fun x => !x.1) && (backToKw cpos (keywordEach [] X.env)).all (fun x => x.1.isSome) && decide ([e].length + ([] : List Keyword).length + (if ([] : List Keyword).isEmpty then 0 else 1) < 30)) = true := by rfl)
    (hline : (apos.endLine == cpos.line) = true := by rfl) (hst : starEach [e] X.env = (false, eval e X.env) :: starEach [] X.env := by rfl) (hplain : (backTo cpos (starEach [] X.env)).any (·.1) = false := by rfl) (hsw : swapsWith (.Call (.Attribute (.Name n p2) name apos) [e] [] cpos) none pos.line X.env = pure false := by rfl) :
    BJ X (.Expr (.Call (.Attribute (.Name n p2) name apos) [e] [] cpos) pos :: rest) (tSeq (tDrop (tBM X.K "list" r (tVar l) (tCons t tNil))) u) G (m1.bind fun y => (f xs y).bind m3) P :=
  ⟨pss_cons (ps_expr (pe_bm PySem.F.plainAttrs_list slot hty hm (pe_var hN hv hd hcd) (pa_cons h.pe pa_nil hst) hbase hfew hline hst hplain) hsw) (hr []).ps, fun B Hi T tv s H D o hx hl hs k => by
  obtain ⟨y, e1, hx⟩ := bind_some hx
  obtain ⟨ys, e3, e4⟩ := bind_some hx
  obtain ⟨q, w, h1, h2, ⟨vs, h3, h4, h5⟩, h6, up⟩ := hs.ownT hl hg
  subst h3
  refine ⟨.ref q, h1, .inl ⟨rfl, _, SqL.of h2⟩, ?_⟩
  refine h.ev B Hi T tv s H _ y e1 hl hs fun v Hi2 H2 s2 r2 => ?_
  obtain ⟨q', w', g1, g2, ⟨us, g3, g4, g5⟩, g6, up⟩ := s2.ownT hl hg
  rw [h1] at g1
  cases g1
  subst g3
  refine hf q Hi2 H2 xs y us v ys _ s2.sub g2 g4 g5 r2 e3 fun ws z z1 z2 => ?_
  have s3 := up (.lst ws) (isL ys) (fun _ _ _ e ⟨vs, h1, h2, h3⟩ => ⟨vs, h1, h2, Paired.mono h3 fun _ _ => Rq.mono e⟩) ⟨_, rfl, z1, z2⟩
  exact (hr _).ev B Hi2 T tv s _ D o e4 hl s3 k⟩
theorem app_ok [Rq α] (q : Addr) (Hi H : Hp) (xs : List α) (y : α) (vs : List V) (v : V) (ys : List α) (Q : VK) (sm : Same Hi H) (h : H q = some (.lst vs)) (hz : vs.length ≤ sizeLine) (hp : Paired (rq Hi) xs vs) (r : rq Hi y v) (hf : appC xs y = some ys)
    (k : ∀ us w, us.length ≤ sizeLine → Paired (rq Hi) ys us → Q w (upd H q (.lst us))) : rAppend (.ref q) [v] H Q := by
  obtain ⟨h1, h2⟩ := appC_is hf
  subst h2
  rw [Paired.length hp] at h1
  exact ⟨q, vs, v, rfl, rfl, h, h1, k _ _ (by rw [List.length_append]; exact h1) (Paired.snoc hp r)⟩
/-- xs.remove(y), ints -/
def remC (xs : List Int) (y : Int) : Option (List Int) := if y ∈ xs then some (xs.erase y) else none
theorem erase_at : ∀ {xs : List Int} {y : Int}, y ∈ xs → ∃ j, xs[j]? = some y ∧ (∀ m : Nat, m < j → xs[m]? ≠ some y) ∧ xs.erase y = xs.eraseIdx j
  | x :: xs, y, h => by
    by_cases e : x = y
    · subst e
      exact ⟨0, rfl, fun m hm => absurd hm (Nat.not_lt_zero _), by simp⟩
    · have h' : y ∈ xs := by
        rcases List.mem_cons.mp h with q | q
        · exact absurd q.symm e
        · exact q
      obtain ⟨j, h1, h2, h3⟩ := erase_at h'
      refine ⟨j + 1, by simpa using h1, fun m hm => ?_, ?_⟩
      · cases m with
        | zero => simp [e]
        | succ m => simpa using h2 m (by omega)
      · rw [List.erase_cons_tail (by simpa using e), h3]; rfl
theorem rem_ok (q : Addr) (Hi H : Hp) (xs : List Int) (y : Int) (vs : List V) (v : V) (ys : List Int) (Q : VK) (sm : Same Hi H) (h : H q = some (.lst vs)) (hz : vs.length ≤ sizeLine) (hp : Paired (rq Hi) xs vs) (r : rq Hi y v) (hf : remC xs y = some ys)
    (k : ∀ us w, us.length ≤ sizeLine → Paired (rq Hi) ys us → Q w (upd H q (.lst us))) : rRemI (.ref q) [v] H Q := by
  unfold remC at hf
  have hvs := paired_ints hp
  by_cases hm : y ∈ xs
  · rw [if_pos hm] at hf
    cases hf
    obtain ⟨j, h1, h2, h3⟩ := erase_at hm
    rw [hvs] at h
    refine ⟨q, xs, y, j, rfl, by rw [(show v = .int y from r)], h, h1, h2, ?_⟩
    rw [← h3]
    refine k _ _ ?_ (ints_paired _)
    rw [List.length_map]
    have := Paired.length hp
    have h4 := List.length_erase_of_mem hm
    omega
  · rw [if_neg hm] at hf; cases hf
/-- xs.extend(ys) -/
theorem ext_ok {xs ys zs : List α} (h : catC xs ys = some zs) : xs.length + ys.length ≤ sizeLine ∧ zs = xs ++ ys := by
  unfold catC at h
  by_cases q : xs.length + ys.length ≤ sizeLine
  · rw [if_pos q] at h; cases h; exact ⟨q, rfl⟩
  · rw [if_neg q] at h; cases h
theorem bj_extend [Rq α] {xs : List α} {m1 : Option (List α)} {m3 : List α → Option O} (l : Nat) (h : EJ X e t G m1) (hr : ∀ ys, BJ X rest u (G.set l (ol ys)) (m3 ys) P) {p2 apos cpos : Pos} (hg : G[l]? = some (ol xs) := by rfl)
    (hN : X.N[l]? = some n := by rfl) (hv : Vis X.env.scope n := by first | exact Or.inl rfl | exact Or.inr (Or.inl rfl) | exact Or.inr (Or.inr rfl)) (hd : (n == ("__debug__" : Str)) = false := by decide) (hcd : (n == ("__classdict__" : Str)) = false := by decide)
    (hbase : attributeBase (.Name n p2) "extend" X.env (eval (.Name n p2) X.env) = eval (.Name n p2) X.env := by rfl)
    (hfew : ((backTo cpos (starEach [e] X.env)).all (fun x => !x.1) && (backToKw cpos (keywordEach [] X.env)).all (fun x => x.1.isSome) && decide ([e].length + ([] : List Keyword).length + (if ([] : List Keyword).isEmpty then 0 else 1) < 30)) = true := by rfl)
    (hline : (apos.endLine == cpos.line) = true := by rfl) (hst : starEach [e] X.env = (false, eval e X.env) :: starEach [] X.env := by rfl) (hplain : (backTo cpos (starEach [] X.env)).any (·.1) = false := by rfl) (hsw : swapsWith (.Call (.Attribute (.Name n p2) "extend" apos) [e] [] cpos) none pos.line X.env = pure false := by rfl) :
    BJ X (.Expr (.Call (.Attribute (.Name n p2) "extend" apos) [e] [] cpos) pos :: rest) (tSeq (tDrop (tBM X.K "list" rExtend (tVar l) (tCons t tNil))) u) G (m1.bind fun y => (catC xs y).bind m3) P :=
  bj_meth1 (f := catC) l PySem.F.slot_list_extend PySem.F.type_list_extend mt_extend (fun q Hi H xs y vs v ys Q sm h1 h2 h3 h4 h5 k => by
    obtain ⟨hz, e5⟩ := ext_ok h5
    subst e5
    obtain ⟨b, us, g1, g2, g3, g4⟩ := h4
    rw [Paired.length h3, Paired.length g4] at hz
    exact ⟨q, b, vs, us, rfl, by rw [g1], h1, sm _ _ g2, hz, k _ _ (by rw [List.length_append]; exact hz) (Paired.append h3 g4)⟩) h hr hg hN hv hd hcd hbase hfew hline hst hplain hsw
/-- xs.pop() for its effect is rare; y = xs.pop() -/
def popC (xs : List α) : Option (α × List α) := match xs.getLast? with
  | some y => some (y, xs.dropLast)
  | none => none
/-- if -/
theorem bj_if {tc' : TT} {tA tB : TS} {aS bS : List Stmt} {mc : Option Bool} {ma mb : Option O} (hc : TJ X c tc' G mc) (ha : BJ X aS tA G ma P) (hb : BJ X bS tB G mb P) : BJ X (.If c aS bS pos :: []) (tSeq (tIfS tc' tA tB) tNext) G (mc.bind fun x => if x = true then ma else mb) P :=
  ⟨by
    have h := pss_cons (ps_if (pos := pos) hc.pt ha.ps hb.ps) (pss_nil (X := X))
    exact h, fun B Hi T tv s H D o hx hl hs k => by
    obtain ⟨x, e1, e2⟩ := bind_some hx
    refine hc.ev B Hi T tv s H _ x e1 hl hs fun Hi1 H1 s1 => ?_
    cases x with
    | true =>
      rw [if_pos rfl] at e2 ⊢
      exact ha.ev B Hi1 T tv s H1 D o e2 hl s1 k
    | false =>
      rw [if_neg Bool.false_ne_true] at e2 ⊢
      exact hb.ev B Hi1 T tv s H1 D o e2 hl s1 k⟩
/-- if, the first way never goes on -/
theorem bj_ifX {tc' : TT} {tA : TS} {aS : List Stmt} {mc : Option Bool} {ma mr : Option O} [Out P Px] (hc : TJ X c tc' G mc) (ha : BJ X aS tA G ma Px) (hr : BJ X rest u G mr P) : BJ X (.If c aS [] pos :: rest) (tSeq (tIfS tc' tA tNext) u) G (mc.bind fun x => if x = true then ma else mr) P :=
  ⟨pss_cons (ps_if hc.pt ha.ps pss_nil) hr.ps, fun B Hi T tv s H D o hx hl hs k => by
    obtain ⟨x, e1, e2⟩ := bind_some hx
    refine hc.ev B Hi T tv s H _ x e1 hl hs fun Hi1 H1 s1 => ?_
    cases x with
    | true =>
      rw [if_pos rfl] at e2 ⊢
      exact ha.ev B Hi1 T tv s H1 _ o e2 hl s1 (Out.out (P := P) (Px := Px) o B T tv D _ k)
    | false =>
      rw [if_neg Bool.false_ne_true] at e2 ⊢
      exact hr.ev B Hi1 T tv s H1 D o e2 hl s1 k⟩
/-- if, both ways meet -/
theorem bj_ifJ {tc' : TT} {tA tB : TS} {aS bS : List Stmt} {N : S → List SV} {mc : Option Bool} {ma mb : Option S} {mr : S → Option O} (hc : TJ X c tc' G mc) (ha : BJ X aS tA G ma (PN N)) (hb : BJ X bS tB G mb (PN N)) (s0 : S) (hr : ∀ st, BJ X rest u (N st) (mr st) P) :
    BJ X (.If c aS bS pos :: rest) (tSeq (tIfS tc' tA tB) u) G ((mc.bind fun x => if x = true then ma else mb).bind mr) P :=
  ⟨pss_cons (ps_if hc.pt ha.ps hb.ps) (hr s0).ps, fun B Hi T tv s H D o hx hl hs k => by
    obtain ⟨st, hx, e3⟩ := bind_some hx
    obtain ⟨x, e1, e2⟩ := bind_some hx
    refine hc.ev B Hi T tv s H _ x e1 hl hs fun Hi1 H1 s1 => ?_
    cases x with
    | true =>
      rw [if_pos rfl] at e2 ⊢
      exact ha.ev B Hi1 T tv s H1 _ st e2 hl s1 fun s' Hi' H' q => (hr st).ev B Hi' T tv s' H' D o e3 hl q k
    | false =>
      rw [if_neg Bool.false_ne_true] at e2 ⊢
      exact hb.ev B Hi1 T tv s H1 _ st e2 hl s1 fun s' Hi' H' q => (hr st).ev B Hi' T tv s' H' D o e3 hl q k⟩

/-! ### loops -/
def forF (xs : List α) (s : S) (f : α → S → Option (Fl S R)) : Option (Fl S R) := match xs with
  | [] => some (.go s)
  | x :: xs => (f x s).bind fun r => match r with
    | .go s' => forF xs s' f
    | .stop s' => some (.stop s')
    | .ret r => some (.ret r)
def forS (xs : List α) (s : S) (f : α → S → Option S) : Option S := match xs with
  | [] => some s
  | x :: xs => (f x s).bind fun s' => forS xs s' f
theorem forF_go {f : α → S → Option S} : ∀ (xs : List α) (s : S), forF xs s (fun x s => (f x s).bind fun s' => some (Fl.go s' : Fl S R)) = (forS xs s f).bind fun s' => some (.go s')
  | [], s => rfl
  | x :: xs, s => by
    show ((f x s).bind fun s' => some (Fl.go s' : Fl S R)).bind _ = ((f x s).bind _).bind _
    cases f x s with
    | none => rfl
    | some s' => exact forF_go xs s'
/-- behind a loop -/
def flR (A : S → Option O) (inj : R → O) : Fl S R → Option O
  | .go s => A s
  | .stop s => A s
  | .ret r => some (inj r)
theorem bj_forF {C} {tB : TS} {body : List Stmt} [Rq α] {f : α → List SV → List SV} {ids : List Nat} {N : S → List SV} {Pr : Post R} [RtOnly Pr] {m1 : Option (List α)} {mb : α → S → Option (Fl S R)} {mr : S → Option O} {inj : R → O} [Rt P Pr inj] (hc : X.calm = true) (s0 : S) (x0 : α)
    (hi : IJ C X tg iter w G m1) (hC : ∀ L s s', C L s s') (hg : GJ X tg g f ids) (w0 : Wk G (N s0)) (hb : ∀ x st, BJ X body tB (f x (N st)) (mb x st) (PL N Pr)) (hr : ∀ st, BJ X rest u (N st) (mr st) P)
    (hp : PassesOwn (model X.prog X.w) X.A X.env X.xe) (hs : ∀ x, foldedSetIterable iter X.env x = pure x := by intro _; rfl) :
    BJ X (.For tg iter body [] pos :: rest) (tSeq (tFor w g tB) u) G (m1.bind fun xs => (forF xs s0 mb).bind (flR mr inj)) P :=
  ⟨pss_cons (ps_for hp hc hi.pi hg.pg (hb x0 s0).ps hs) (hr s0).ps, fun B Hi T tv s H D o hx hl hs k => by
    obtain ⟨xs, e1, hx⟩ := bind_some hx
    obtain ⟨fr, e2, e3⟩ := bind_some hx
    refine hi.ev B Hi T tv s H _ xs e1 hl hs fun J T' tv' Hi1 H1 l1 s1 hz hT hwalk => ?_
    -- a state from which what is left of the loop gives fr
    refine ⟨fun i m σ H2 => m = xs.length - i ∧ i ≤ xs.length ∧ ∃ Hi2 st, SatG B Hi2 (T' ++ N st) (tv' ++ σ) H2 ∧ forF (xs.drop i) st mb = some fr, ⟨xs.length, by simp, Nat.zero_le _, Hi1, s0, s1.wkT l1 w0, by simpa using e2⟩, ?_⟩
    rintro i m σ H2 ⟨rfl, hi2, Hi2, st, s2, e4⟩
    obtain ⟨stp, go⟩ := hwalk [] [] (N st) σ Hi2 H2 rfl (hC _ _ _) s2
    have after : ∀ {Hi3 H3 : Hp} {σ3 : L2.St} {st3 : S}, SatG B Hi3 (T' ++ N st3) (tv' ++ σ3) H3 → mr st3 = some o → u D σ3 H3 := fun {Hi3 H3 σ3 st3} q eq => (hr st3).ev B Hi3 T tv σ3 H3 D o eq hl (hT _ _ _ _ q) k
    by_cases hlt : i < xs.length
    · refine .inr ?_
      have hxi : xs[i]? = some xs[i] := by simp [hlt]
      obtain ⟨go1, go2⟩ := go i xs[i] hxi
      have hdr : xs.drop i = xs[i] :: xs.drop (i + 1) := by rw [List.drop_eq_getElem_cons hlt]
      rw [hdr] at e4
      obtain ⟨r, e5, e6⟩ := bind_some e4
      refine ⟨go1, fun σ3 H3 => ∃ Hi3 st3, SatG B Hi3 (T' ++ N st3) (tv' ++ σ3) H3 ∧ forF (xs.drop (i + 1)) st3 mb = some fr, fun σ3 H3 ⟨Hi3, st3, q1, q2⟩ => ⟨xs.length - (i + 1), by omega, rfl, hlt, Hi3, st3, q1, q2⟩, fun v H3 hy => ?_⟩
      obtain ⟨Hi3, s3, r3⟩ := go2 v H3 hy
      refine hg.ev B Hi3 T' tv' σ H3 (N st) v xs[i] _ l1 s3 r3 fun s' s4 _ => ?_
      refine (hb xs[i] st).ev B Hi3 T' tv' s' H3 _ r e5 l1 s4 ?_
      cases r with
      | go st3 => exact fun s5 Hi5 H5 q => ⟨⟨Hi5, st3, q, e6⟩, ⟨Hi5, st3, q, e6⟩⟩
      | stop st3 =>
        cases e6
        exact fun s5 Hi5 H5 q => after q e3
      | ret rr =>
        cases e6
        cases e3
        exact RtOnly.mv (Pr := Pr) rr B T T' tv tv' D _ rfl (Rt.rt (P := P) (Pr := Pr) (inj := inj) rr B T tv D k)
    · have e : i = xs.length := by omega
      subst e
      rw [List.drop_length] at e4
      cases e4
      exact .inl ⟨stp, after s2 e3⟩⟩
theorem bj_for {C} {tB : TS} {body : List Stmt} [Rq α] {f : α → List SV → List SV} {ids : List Nat} {N : S → List SV} {m1 : Option (List α)} {mb : α → S → Option S} {mr : S → Option O} (hc : X.calm = true) (s0 : S) (x0 : α)
    (hi : IJ C X tg iter w G m1) (hC : ∀ L s s', C L s s') (hg : GJ X tg g f ids) (w0 : Wk G (N s0)) (hb : ∀ x st, BJ X body tB (f x (N st)) (mb x st) (PP N)) (hr : ∀ st, BJ X rest u (N st) (mr st) P)
    (hp : PassesOwn (model X.prog X.w) X.A X.env X.xe) (hs : ∀ x, foldedSetIterable iter X.env x = pure x := by intro _; rfl) :
    BJ X (.For tg iter body [] pos :: rest) (tSeq (tFor w g tB) u) G (m1.bind fun xs => (forS xs s0 mb).bind mr) P :=
  ⟨pss_cons (ps_for hp hc hi.pi hg.pg (hb x0 s0).ps hs) (hr s0).ps, fun B Hi T tv s H D o hx hl hs k => by
    obtain ⟨xs, e1, hx⟩ := bind_some hx
    obtain ⟨fr, e2, e3⟩ := bind_some hx
    refine hi.ev B Hi T tv s H _ xs e1 hl hs fun J T' tv' Hi1 H1 l1 s1 hz hT hwalk => ?_
    refine ⟨fun i m σ H2 => m = xs.length - i ∧ i ≤ xs.length ∧ ∃ Hi2 st, SatG B Hi2 (T' ++ N st) (tv' ++ σ) H2 ∧ forS (xs.drop i) st mb = some fr, ⟨xs.length, by simp, Nat.zero_le _, Hi1, s0, s1.wkT l1 w0, by simpa using e2⟩, ?_⟩
    rintro i m σ H2 ⟨rfl, hi2, Hi2, st, s2, e4⟩
    obtain ⟨stp, go⟩ := hwalk [] [] (N st) σ Hi2 H2 rfl (hC _ _ _) s2
    by_cases hlt : i < xs.length
    · refine .inr ?_
      have hxi : xs[i]? = some xs[i] := by simp [hlt]
      obtain ⟨go1, go2⟩ := go i xs[i] hxi
      have hdr : xs.drop i = xs[i] :: xs.drop (i + 1) := by rw [List.drop_eq_getElem_cons hlt]
      rw [hdr] at e4
      obtain ⟨r, e5, e6⟩ := bind_some e4
      refine ⟨go1, fun σ3 H3 => ∃ Hi3 st3, SatG B Hi3 (T' ++ N st3) (tv' ++ σ3) H3 ∧ forS (xs.drop (i + 1)) st3 mb = some fr, fun σ3 H3 ⟨Hi3, st3, q1, q2⟩ => ⟨xs.length - (i + 1), by omega, rfl, hlt, Hi3, st3, q1, q2⟩, fun v H3 hy => ?_⟩
      obtain ⟨Hi3, s3, r3⟩ := go2 v H3 hy
      refine hg.ev B Hi3 T' tv' σ H3 (N st) v xs[i] _ l1 s3 r3 fun s' s4 _ => ?_
      exact (hb xs[i] st).ev B Hi3 T' tv' s' H3 _ r e5 l1 s4 fun s5 Hi5 H5 q => ⟨⟨Hi5, r, q, e6⟩, ⟨Hi5, r, q, e6⟩⟩
    · have e : i = xs.length := by omega
      subst e
      rw [List.drop_length] at e4
      cases e4
      exact .inl ⟨stp, (hr fr).ev B Hi2 T tv σ H2 D o e3 hl (hT _ _ _ _ s2) k⟩⟩
/-- what stands for the walk to go on: our own list that is walked stays where it is -/
def PinC {S : Type} (C : List SV → L2.St → L2.St → Prop) (G : List SV) (N : S → List SV) : Prop :=
  ∀ (B : Bk) (Hi Hi' H H' : Hp) (T T' : List SV) (tv tv' : L2.St) (s σ : L2.St), tv.length = T.length → SatG B Hi (T ++ G) (tv ++ s) H → tv'.length = T'.length → ∀ {st : S}, SatG B Hi' (T' ++ N st) (tv' ++ σ) H' → C (N st) s σ
theorem pin_0 {S : Type} {G : List SV} {N : S → List SV} : PinC C0 G N := fun _ _ _ _ _ _ _ _ _ _ _ _ _ _ _ _ => trivial
theorem pin_o {S α : Type} [Rq α] {G : List SV} {N : S → List SV} {q : Addr} {xs : List α} (j : Nat) (h : G[j]? = some (olA q xs)) (h' : ∀ st, (N st)[j]? = some (olA q xs)) : PinC (CO j xs) G N := fun B Hi Hi' H H' T T' tv tv' s σ l1 s1 l2 st s2 => by
  obtain ⟨e1, _⟩ := s1.pinnedT l1 h
  obtain ⟨e2, _⟩ := s2.pinnedT l2 (h' st)
  exact ⟨⟨_, h' st, owl_A⟩, e2.trans e1.symm⟩
theorem pin_and {S : Type} {C C' : List SV → L2.St → L2.St → Prop} {G : List SV} {N : S → List SV} (h : PinC C G N) (h' : PinC C' G N) : PinC (fun G2 s s2 => C G2 s s2 ∧ C' G2 s s2) G N := fun B Hi Hi' H H' T T' tv tv' s σ l1 s1 l2 st s2 =>
  ⟨h B Hi Hi' H H' T T' tv tv' s σ l1 s1 l2 s2, h' B Hi Hi' H H' T T' tv tv' s σ l1 s1 l2 s2⟩
/-- a step of the proof alone: where our own list stands is told -/
theorem bj_pin [Rq α] {xs : List α} (i : Nat) {m : Option O} (h : ∀ q : Addr, BJ X rest u (G.set i (olA q xs)) m P) (hi : G[i]? = some (ol xs) := by rfl) : BJ X rest u G m P := ⟨(h 0).ps, fun B Hi T tv s H D o hx hl hs k => by
  obtain ⟨q, _, s1⟩ := hs.pinT hl hi
  exact (h q).ev B Hi T tv s H D o hx hl s1 k⟩
theorem bj_forFP {C} {tB : TS} {body : List Stmt} [Rq α] {f : α → List SV → List SV} {ids : List Nat} {N : S → List SV} {Pr : Post R} [RtOnly Pr] {m1 : Option (List α)} {mb : α → S → Option (Fl S R)} {mr : S → Option O} {inj : R → O} [Rt P Pr inj] (hc : X.calm = true) (s0 : S) (x0 : α)
    (hi : IJ C X tg iter w G m1) (hC : PinC C G N) (hg : GJ X tg g f ids) (w0 : Wk G (N s0)) (hb : ∀ x st, BJ X body tB (f x (N st)) (mb x st) (PL N Pr)) (hr : ∀ st, BJ X rest u (N st) (mr st) P)
    (hp : PassesOwn (model X.prog X.w) X.A X.env X.xe) (hs : ∀ x, foldedSetIterable iter X.env x = pure x := by intro _; rfl) :
    BJ X (.For tg iter body [] pos :: rest) (tSeq (tFor w g tB) u) G (m1.bind fun xs => (forF xs s0 mb).bind (flR mr inj)) P :=
  ⟨pss_cons (ps_for hp hc hi.pi hg.pg (hb x0 s0).ps hs) (hr s0).ps, fun B Hi T tv s H D o hx hl hs k => by
    obtain ⟨xs, e1, hx⟩ := bind_some hx
    obtain ⟨fr, e2, e3⟩ := bind_some hx
    refine hi.ev B Hi T tv s H _ xs e1 hl hs fun J T' tv' Hi1 H1 l1 s1 hz hT hwalk => ?_
    -- a state from which what is left of the loop gives fr
    refine ⟨fun i m σ H2 => m = xs.length - i ∧ i ≤ xs.length ∧ ∃ Hi2 st, SatG B Hi2 (T' ++ N st) (tv' ++ σ) H2 ∧ forF (xs.drop i) st mb = some fr, ⟨xs.length, by simp, Nat.zero_le _, Hi1, s0, s1.wkT l1 w0, by simpa using e2⟩, ?_⟩
    rintro i m σ H2 ⟨rfl, hi2, Hi2, st, s2, e4⟩
    obtain ⟨stp, go⟩ := hwalk [] [] (N st) σ Hi2 H2 rfl (hC _ _ _ _ _ _ _ _ _ _ _ hl hs l1 s2) s2
    have after : ∀ {Hi3 H3 : Hp} {σ3 : L2.St} {st3 : S}, SatG B Hi3 (T' ++ N st3) (tv' ++ σ3) H3 → mr st3 = some o → u D σ3 H3 := fun {Hi3 H3 σ3 st3} q eq => (hr st3).ev B Hi3 T tv σ3 H3 D o eq hl (hT _ _ _ _ q) k
    by_cases hlt : i < xs.length
    · refine .inr ?_
      have hxi : xs[i]? = some xs[i] := by simp [hlt]
      obtain ⟨go1, go2⟩ := go i xs[i] hxi
      have hdr : xs.drop i = xs[i] :: xs.drop (i + 1) := by rw [List.drop_eq_getElem_cons hlt]
      rw [hdr] at e4
      obtain ⟨r, e5, e6⟩ := bind_some e4
      refine ⟨go1, fun σ3 H3 => ∃ Hi3 st3, SatG B Hi3 (T' ++ N st3) (tv' ++ σ3) H3 ∧ forF (xs.drop (i + 1)) st3 mb = some fr, fun σ3 H3 ⟨Hi3, st3, q1, q2⟩ => ⟨xs.length - (i + 1), by omega, rfl, hlt, Hi3, st3, q1, q2⟩, fun v H3 hy => ?_⟩
      obtain ⟨Hi3, s3, r3⟩ := go2 v H3 hy
      refine hg.ev B Hi3 T' tv' σ H3 (N st) v xs[i] _ l1 s3 r3 fun s' s4 _ => ?_
      refine (hb xs[i] st).ev B Hi3 T' tv' s' H3 _ r e5 l1 s4 ?_
      cases r with
      | go st3 => exact fun s5 Hi5 H5 q => ⟨⟨Hi5, st3, q, e6⟩, ⟨Hi5, st3, q, e6⟩⟩
      | stop st3 =>
        cases e6
        exact fun s5 Hi5 H5 q => after q e3
      | ret rr =>
        cases e6
        cases e3
        exact RtOnly.mv (Pr := Pr) rr B T T' tv tv' D _ rfl (Rt.rt (P := P) (Pr := Pr) (inj := inj) rr B T tv D k)
    · have e : i = xs.length := by omega
      subst e
      rw [List.drop_length] at e4
      cases e4
      exact .inl ⟨stp, after s2 e3⟩⟩
theorem bj_forP {C} {tB : TS} {body : List Stmt} [Rq α] {f : α → List SV → List SV} {ids : List Nat} {N : S → List SV} {m1 : Option (List α)} {mb : α → S → Option S} {mr : S → Option O} (hc : X.calm = true) (s0 : S) (x0 : α)
    (hi : IJ C X tg iter w G m1) (hC : PinC C G N) (hg : GJ X tg g f ids) (w0 : Wk G (N s0)) (hb : ∀ x st, BJ X body tB (f x (N st)) (mb x st) (PP N)) (hr : ∀ st, BJ X rest u (N st) (mr st) P)
    (hp : PassesOwn (model X.prog X.w) X.A X.env X.xe) (hs : ∀ x, foldedSetIterable iter X.env x = pure x := by intro _; rfl) :
    BJ X (.For tg iter body [] pos :: rest) (tSeq (tFor w g tB) u) G (m1.bind fun xs => (forS xs s0 mb).bind mr) P :=
  ⟨pss_cons (ps_for hp hc hi.pi hg.pg (hb x0 s0).ps hs) (hr s0).ps, fun B Hi T tv s H D o hx hl hs k => by
    obtain ⟨xs, e1, hx⟩ := bind_some hx
    obtain ⟨fr, e2, e3⟩ := bind_some hx
    refine hi.ev B Hi T tv s H _ xs e1 hl hs fun J T' tv' Hi1 H1 l1 s1 hz hT hwalk => ?_
    refine ⟨fun i m σ H2 => m = xs.length - i ∧ i ≤ xs.length ∧ ∃ Hi2 st, SatG B Hi2 (T' ++ N st) (tv' ++ σ) H2 ∧ forS (xs.drop i) st mb = some fr, ⟨xs.length, by simp, Nat.zero_le _, Hi1, s0, s1.wkT l1 w0, by simpa using e2⟩, ?_⟩
    rintro i m σ H2 ⟨rfl, hi2, Hi2, st, s2, e4⟩
    obtain ⟨stp, go⟩ := hwalk [] [] (N st) σ Hi2 H2 rfl (hC _ _ _ _ _ _ _ _ _ _ _ hl hs l1 s2) s2
    by_cases hlt : i < xs.length
    · refine .inr ?_
      have hxi : xs[i]? = some xs[i] := by simp [hlt]
      obtain ⟨go1, go2⟩ := go i xs[i] hxi
      have hdr : xs.drop i = xs[i] :: xs.drop (i + 1) := by rw [List.drop_eq_getElem_cons hlt]
      rw [hdr] at e4
      obtain ⟨r, e5, e6⟩ := bind_some e4
      refine ⟨go1, fun σ3 H3 => ∃ Hi3 st3, SatG B Hi3 (T' ++ N st3) (tv' ++ σ3) H3 ∧ forS (xs.drop (i + 1)) st3 mb = some fr, fun σ3 H3 ⟨Hi3, st3, q1, q2⟩ => ⟨xs.length - (i + 1), by omega, rfl, hlt, Hi3, st3, q1, q2⟩, fun v H3 hy => ?_⟩
      obtain ⟨Hi3, s3, r3⟩ := go2 v H3 hy
      refine hg.ev B Hi3 T' tv' σ H3 (N st) v xs[i] _ l1 s3 r3 fun s' s4 _ => ?_
      exact (hb xs[i] st).ev B Hi3 T' tv' s' H3 _ r e5 l1 s4 fun s5 Hi5 H5 q => ⟨⟨Hi5, r, q, e6⟩, ⟨Hi5, r, q, e6⟩⟩
    · have e : i = xs.length := by omega
      subst e
      rw [List.drop_length] at e4
      cases e4
      exact .inl ⟨stp, (hr fr).ev B Hi2 T tv σ H2 D o e3 hl (hT _ _ _ _ s2) k⟩⟩
/-- while, by fuel -/
def whileF (n : Nat) (s : S) (c : S → Option Bool) (f : S → Option (Fl S R)) : Option (Fl S R) := match n with
  | 0 => none
  | n + 1 => (c s).bind fun b => if b = true then (f s).bind fun r => match r with
      | .go s' => whileF n s' c f
      | .stop s' => some (.stop s')
      | .ret r => some (.ret r)
    else some (.go s)
def whileS (n : Nat) (s : S) (c : S → Option Bool) (f : S → Option S) : Option S := match n with
  | 0 => none
  | n + 1 => (c s).bind fun b => if b = true then (f s).bind fun s' => whileS n s' c f else some s
theorem bj_whileF {tc' : TT} {tB : TS} {body : List Stmt} {N : S → List SV} {Pr : Post R} [RtOnly Pr] {mc : S → Option Bool} {mb : S → Option (Fl S R)} {mr : S → Option O} {inj : R → O} [Rt P Pr inj] (n : Nat) (s0 : S)
    (w0 : Wk G (N s0)) (hc : ∀ st, TJ X c tc' (N st) (mc st)) (hb : ∀ st, BJ X body tB (N st) (mb st) (PL N Pr)) (hr : ∀ st, BJ X rest u (N st) (mr st) P)
    (hp : PassesOwn (model X.prog X.w) X.A X.env X.xe) :
    BJ X (.While c body [] pos :: rest) (tSeq (tWhile tc' tB) u) G ((whileF n s0 mc mb).bind (flR mr inj)) P :=
  ⟨pss_cons (ps_while hp (hc s0).pt (hb s0).ps) (hr s0).ps, fun B Hi T tv s H D o hx hl hs k => by
    obtain ⟨fr, e2, e3⟩ := bind_some hx
    refine ⟨fun m σ H2 => ∃ Hi2 st, SatG B Hi2 (T ++ N st) (tv ++ σ) H2 ∧ whileF m st mc mb = some fr, ⟨n, Hi, s0, hs.wkT hl w0, e2⟩, ?_⟩
    rintro m σ H2 ⟨Hi2, st, s2, e4⟩
    cases m with
    | zero => cases e4
    | succ m =>
      obtain ⟨bb, e5, e6⟩ := bind_some e4
      refine (hc st).ev B Hi2 T tv σ H2 _ bb e5 hl s2 fun Hi3 H3 s3 => ?_
      cases bb with
      | true =>
        rw [if_pos rfl] at e6 ⊢
        obtain ⟨r, e7, e8⟩ := bind_some e6
        refine ⟨fun σ4 H4 => ∃ Hi4 st4, SatG B Hi4 (T ++ N st4) (tv ++ σ4) H4 ∧ whileF m st4 mc mb = some fr, fun σ4 H4 ⟨Hi4, st4, q1, q2⟩ => ⟨m, Nat.lt_succ_self _, Hi4, st4, q1, q2⟩, ?_⟩
        refine (hb st).ev B Hi3 T tv σ H3 _ r e7 hl s3 ?_
        cases r with
        | go st3 => exact fun s5 Hi5 H5 q => ⟨⟨Hi5, st3, q, e8⟩, ⟨Hi5, st3, q, e8⟩⟩
        | stop st3 =>
          cases e8
          exact fun s5 Hi5 H5 q => (hr st3).ev B Hi5 T tv s5 H5 D o e3 hl q k
        | ret rr =>
          cases e8
          cases e3
          exact RtOnly.mv (Pr := Pr) rr B T T tv tv D _ rfl (Rt.rt (P := P) (Pr := Pr) (inj := inj) rr B T tv D k)
      | false =>
        rw [if_neg Bool.false_ne_true] at e6 ⊢
        cases e6
        exact (hr st).ev B Hi3 T tv σ H3 D o e3 hl s3 k⟩
theorem bj_while {tc' : TT} {tB : TS} {body : List Stmt} {N : S → List SV} {mc : S → Option Bool} {mb : S → Option S} {mr : S → Option O} (n : Nat) (s0 : S)
    (w0 : Wk G (N s0)) (hc : ∀ st, TJ X c tc' (N st) (mc st)) (hb : ∀ st, BJ X body tB (N st) (mb st) (PP N)) (hr : ∀ st, BJ X rest u (N st) (mr st) P) (hp : PassesOwn (model X.prog X.w) X.A X.env X.xe) :
    BJ X (.While c body [] pos :: rest) (tSeq (tWhile tc' tB) u) G ((whileS n s0 mc mb).bind mr) P :=
  ⟨pss_cons (ps_while hp (hc s0).pt (hb s0).ps) (hr s0).ps, fun B Hi T tv s H D o hx hl hs k => by
    obtain ⟨fr, e2, e3⟩ := bind_some hx
    refine ⟨fun m σ H2 => ∃ Hi2 st, SatG B Hi2 (T ++ N st) (tv ++ σ) H2 ∧ whileS m st mc mb = some fr, ⟨n, Hi, s0, hs.wkT hl w0, e2⟩, ?_⟩
    rintro m σ H2 ⟨Hi2, st, s2, e4⟩
    cases m with
    | zero => cases e4
    | succ m =>
      obtain ⟨bb, e5, e6⟩ := bind_some e4
      refine (hc st).ev B Hi2 T tv σ H2 _ bb e5 hl s2 fun Hi3 H3 s3 => ?_
      cases bb with
      | true =>
        rw [if_pos rfl] at e6 ⊢
        obtain ⟨r, e7, e8⟩ := bind_some e6
        refine ⟨fun σ4 H4 => ∃ Hi4 st4, SatG B Hi4 (T ++ N st4) (tv ++ σ4) H4 ∧ whileS m st4 mc mb = some fr, fun σ4 H4 ⟨Hi4, st4, q1, q2⟩ => ⟨m, Nat.lt_succ_self _, Hi4, st4, q1, q2⟩, ?_⟩
        exact (hb st).ev B Hi3 T tv σ H3 _ r e7 hl s3 fun s5 Hi5 H5 q => ⟨⟨Hi5, r, q, e8⟩, ⟨Hi5, r, q, e8⟩⟩
      | false =>
        rw [if_neg Bool.false_ne_true] at e6 ⊢
        cases e6
        exact (hr _).ev B Hi3 T tv σ H3 D o e3 hl s3 k⟩
end
end GM
namespace GM
open PySem PySem.Spec PyProof.Rows L2

/-! ### defs -/
structure CalB (P : Program) (w : World) (K : PySem.W.Frag) (mg : Str → Option Value) (base : Heap) (k : Nat) (x : Str) (sp : Sp) : Prop where
  ok : ∃ (f : Addr) (fd : FuncData) (ps : List Str), FnOk P w K mg base CX0 k f fd ps sp ∧ mg x = some (.ref f) ∧ PySem.W.keepIn K (.ref f) = true ∧ Binds K fd ps []
theorem CalB.at {X : Cx} {k : Nat} {x : Str} {sp : Sp} (C : CalB X.prog X.w X.K X.mg X.base k x sp) (hr : Room k X.A) : Cal X x sp := by
  obtain ⟨f, fd, ps, h1, h2, h3, h4⟩ := C.ok
  exact ⟨k, f, fd, ps, h1, hr, h2, h3, h4⟩
theorem CalB.mono {P : Program} {w : World} {K : PySem.W.Frag} {mg : Str → Option Value} {base : Heap} {j k : Nat} {x : Str} {sp : Sp} (C : CalB P w K mg base j x sp) (h : j ≤ k) : CalB P w K mg base k x sp := by
  obtain ⟨f, fd, ps, h1, h2, h3, h4⟩ := C.ok
  exact ⟨f, fd, ps, h1.mono h, h2, h3, h4⟩
theorem sat_uns {B : Bk} {Hi H : Hp} (h : SatG B Hi [] [] H) : ∀ n : Nat, SatG B Hi (List.replicate n .un) (List.replicate n none) H
  | 0 => h
  | n + 1 => sat_uns h n
section
variable {P : Program} {w : World} {K : PySem.W.Frag} {mg : Str → Option Value} {base : Heap} {x qual : Str} {st : Stmt} {f : Addr} {fd : FuncData} {N ps : List Str} {k : Nat} {τ ρ : Type}
/-- the slots at the entry -/
def gam [RpL τ] (N : List Str) (x : τ) : List SV := RpL.svs x ++ List.replicate (N.length - RpL.n τ) .un
theorem sat_start [RpL τ] {H Ha : Hp} {x : τ} {vs : List V} (e : Same Ha H) (h : RpL.reps Ha x vs) : SatG ⟨H, Ha⟩ Ha (gam N x) (start N vs) H := by
  unfold gam L2.start
  rw [RpL.len h]
  exact RpL.sat h (sat_uns ⟨e, Same.refl H, Same.refl Ha, fun _ _ _ => rfl⟩ _)
theorem fun_R [RpL τ] [Rq ρ] {F : τ → Option ρ} (Fn : Fun K x qual st f fd) (S : FnScope N ps (defScope st)) (hn : RpL.n τ = ps.length)
    (body : ∀ (cdv : Value) (A : Around) (outer : List Env) (s : Shared) (H : Hp) (E : XK), Room k (A.deeper (envOfC qual (defScope st) s.heap.objs.size f cdv)) →
      ∀ z : τ, ∃ t m, BJ (cxOf CX0 P w K mg base N qual (defScope st) f cdv A outer s H E).nox (defBody st) t (gam N z) m PR ∧ m = F z)
    (hm : mg x = some (.ref f)) (hb : Binds K fd ps []) : CalB P w K mg base (k + 1) x (SpR F) := by
  refine ⟨f, fd, ps, Fn.ok S (fun vs H Q E h => ?_) (fun cdv A outer s H vs Q E hr h => ?_), hm, Fn.kp, hb⟩
  · obtain ⟨Ha, z, r, h1, h2, _⟩ := h
    rw [RpL.len h2, hn]
  · obtain ⟨Ha, z, r, h1, h2, h3, h4⟩ := h
    obtain ⟨t, m, b, e⟩ := body cdv A outer s H E hr z
    subst e
    refine ⟨t, b.ps, b.ev ⟨H, Ha⟩ Ha [] [] (start N vs) H _ r h3 rfl (sat_start h1 h2) fun v Hi H' q1 q2 => ?_⟩
    obtain ⟨g1, g2, g3, g4⟩ := q1
    refine h4 v H' g2 (Rq.mono (fun a o e => ?_) q2)
    cases q : H a with
    | none => rw [join_none q]; exact g1 _ _ e
    | some u => rw [join_some q]; exact (g4 _ _ q).symm.trans e
theorem fun_O [RpL τ] [Rq ρ] {F : τ → Option (List ρ)} (Fn : Fun K x qual st f fd) (S : FnScope N ps (defScope st)) (hn : RpL.n τ = ps.length)
    (body : ∀ (cdv : Value) (A : Around) (outer : List Env) (s : Shared) (H : Hp) (E : XK), Room k (A.deeper (envOfC qual (defScope st) s.heap.objs.size f cdv)) →
      ∀ z : τ, ∃ t m, BJ (cxOf CX0 P w K mg base N qual (defScope st) f cdv A outer s H E).nox (defBody st) t (gam N z) m PO ∧ m = F z)
    (hm : mg x = some (.ref f)) (hb : Binds K fd ps []) : CalB P w K mg base (k + 1) x (SpO F) := by
  refine ⟨f, fd, ps, Fn.ok S (fun vs H Q E h => ?_) (fun cdv A outer s H vs Q E hr h => ?_), hm, Fn.kp, hb⟩
  · obtain ⟨Ha, z, r, h1, h2, _⟩ := h
    rw [RpL.len h2, hn]
  · obtain ⟨Ha, z, r, h1, h2, h3, h4⟩ := h
    obtain ⟨t, m, b, e⟩ := body cdv A outer s H E hr z
    subst e
    refine ⟨t, b.ps, b.ev ⟨H, Ha⟩ Ha [] [] (start N vs) H _ r h3 rfl (sat_start h1 h2) fun p Hi H' q1 => ?_⟩
    obtain ⟨p', F', e1, e2, ⟨_, rfl, us, rfl, e4, e5⟩, g1, g2, g3, g4⟩ := q1
    cases e1
    have e2 := e2 _ _ one_same
    rw [minus_one] at g1 g2
    have g2' : Same H (del H' p) := g2
    have hp : H p = none := same_none g2' del_same
    refine h4 p us H' (g2'.trans del_sub) hp e2 e4 (Paired.mono e5 fun _ _ => Rq.mono fun a o e => ?_)
    have ne : a ≠ p := fun z => by have := g1 _ _ e; rw [z, del_same] at this; cases this
    rw [del_ne ne]
    cases q : H a with
    | none => rw [join_none q]; exact del_sub _ _ (g1 _ _ e)
    | some u => rw [join_some q]; exact (g4 _ _ q).symm.trans e
/-- the law itself -/
def spLaw (K : PySem.W.Frag) : Sp := fun vs H Q _ => ∃ (a : Addr) (ns : List Int), vs = [.ref a] ∧ SqL K H a (ns.map V.int) ∧ ns.length ≤ 63 ∧ ∀ H', Q (.bl true) H'
theorem fun_law {F : List Int → Option Bool} (Fn : Fun K x qual st f fd) (S : FnScope N ps (defScope st)) (hn : 1 = ps.length)
    (body : ∀ (cdv : Value) (A : Around) (outer : List Env) (s : Shared) (H : Hp) (E : XK), Room k (A.deeper (envOfC qual (defScope st) s.heap.objs.size f cdv)) →
      ∀ z : Scr K × Unit, ∃ t m, BJ (cxOf CX0 P w K mg base N qual (defScope st) f cdv A outer s H E).nox (defBody st) t (gam N z) m PR ∧ m = F z.1.l)
    (holds : ∀ ns : List Int, ns.length ≤ 63 → F ns = some true) : FnOk P w K mg base CX0 (k + 1) f fd ps (spLaw K) := by
  refine Fn.ok S (fun vs H Q E h => ?_) (fun cdv A outer s H vs Q E hr h => ?_)
  · obtain ⟨a, ns, rfl, _⟩ := h
    exact hn
  · obtain ⟨a, ns, rfl, h1, h2, h3⟩ := h
    obtain ⟨t, m, b, e⟩ := body cdv A outer s H E hr (⟨ns⟩, ())
    have hz := holds ns h2
    refine ⟨t, b.ps, b.ev ⟨H, H⟩ H [] [] (start N [.ref a]) H _ true (e.trans hz) rfl (sat_start (x := ((⟨ns⟩ : Scr K), ())) (Same.refl H) ⟨.ref a, [], rfl, ⟨a, rfl, h1, h2⟩, rfl⟩) fun v Hi H' q1 q2 => ?_⟩
    cases q2
    exact h3 H'
end
end GM
namespace GM
open PySem PySem.Spec PyProof.Rows L2

instance {α β γ : Type} [Inhabited α] [Inhabited β] [Inhabited γ] : Inhabited (T3 α β γ) := ⟨⟨default, default, default⟩⟩
instance {α : Type} : Inhabited (Tp α) := ⟨⟨[]⟩⟩
instance {K : PySem.W.Frag} : Inhabited (Scr K) := ⟨⟨[]⟩⟩
instance {α β γ : Type} [DecidableEq α] [DecidableEq β] [DecidableEq γ] : DecidableEq (T3 α β γ) := fun x y =>
  if h : x.a = y.a ∧ x.b = y.b ∧ x.c = y.c then isTrue (by cases x; cases y; obtain ⟨h1, h2, h3⟩ := h; cases h1; cases h2; cases h3; rfl) else isFalse (fun e => h (by rw [e]; exact ⟨rfl, rfl, rfl⟩))
instance {α : Type} [DecidableEq α] : DecidableEq (Tp α) := fun x y => if h : x.l = y.l then isTrue (by cases x; cases y; cases h; rfl) else isFalse (fun e => h (by rw [e]))
def FU : Nat := 10 ^ 1000

/-! ### == of data -/
class Da (α : Type) [Rq α] [DecidableEq α] where
  dat : α → PyData
  dep : Nat
  dp : ∀ {K : PySem.W.Frag} {H : Hp} {x : α} {v : V}, rq H x v → Dp K H v (dat x)
  hd : ∀ x : α, (dat x).depth ≤ dep
  lay : ∀ x : α, (dat x).canLay0 = true
  eqv : ∀ x y : α, PyData.eqv (dat x) (dat y) = decide (x = y)
instance : Da Int := ⟨.int, 0, fun h => by cases h; exact .int _, fun _ => Nat.le_refl _, fun _ => rfl, fun x y => Bool.beq_eq_decide_eq _ _⟩
instance : Da Bool := ⟨.bool, 0, fun h => by cases h; exact .bl _, fun _ => Nat.le_refl _, fun _ => rfl, fun x y => Bool.beq_eq_decide_eq _ _⟩
theorem da_all {α : Type} [Rq α] [DecidableEq α] [Da α] {K : PySem.W.Frag} {H : Hp} : ∀ {xs : List α} {vs : List V}, Paired (rq H) xs vs → DpAll K H vs (xs.map Da.dat)
  | _, _, .nil => .nil
  | _, _, .cons r t => .cons (Da.dp r) (da_all t)
theorem da_dep {α : Type} [Rq α] [DecidableEq α] [Da α] : ∀ xs : List α, PyData.depthAll (xs.map Da.dat) ≤ Da.dep α
  | [] => Nat.zero_le _
  | x :: xs => by
    show max (PyData.depth (Da.dat x)) (PyData.depthAll (xs.map Da.dat)) ≤ _
    exact Nat.max_le.mpr ⟨Da.hd x, da_dep xs⟩
theorem da_lay {α : Type} [Rq α] [DecidableEq α] [Da α] : ∀ xs : List α, PyData.canLayAll0 (xs.map Da.dat) = true
  | [] => rfl
  | x :: xs => by
    show (PyData.canLay0 (Da.dat x) && PyData.canLayAll0 (xs.map Da.dat)) = true
    rw [Da.lay, da_lay xs]; rfl
theorem da_eqv {α : Type} [Rq α] [DecidableEq α] [Da α] : ∀ xs ys : List α, PyData.eqvAll (xs.map Da.dat) (ys.map Da.dat) = decide (xs = ys)
  | [], [] => rfl
  | [], y :: ys => by rw [decide_eq_false (by intro h; cases h)]; rfl
  | x :: xs, [] => by rw [decide_eq_false (by intro h; cases h)]; rfl
  | x :: xs, y :: ys => by
    show (PyData.eqv (Da.dat x) (Da.dat y) && PyData.eqvAll (xs.map Da.dat) (ys.map Da.dat)) = _
    rw [Da.eqv, da_eqv xs ys, ← Bool.decide_and]
    exact dec_iff (by rw [List.cons.injEq])
instance {α : Type} [Rq α] [DecidableEq α] [Da α] : Da (List α) := ⟨fun xs => .list (xs.map Da.dat), Da.dep α + 1, fun h => by
    obtain ⟨a, vs, h1, h2, h3, h4⟩ := h
    subst h1
    exact .lst (SqL.of h2) (da_all h4), fun xs => by
    show PyData.depthAll (xs.map Da.dat) + 1 ≤ _
    exact Nat.succ_le_succ (da_dep xs), da_lay, fun xs ys => (da_eqv xs ys).trans rfl⟩
instance {α : Type} [Rq α] [DecidableEq α] [Da α] : Da (Tp α) := ⟨fun xs => .tuple (xs.l.map Da.dat), Da.dep α + 1, fun h => by
    obtain ⟨a, vs, h1, h2, h3, h4⟩ := h
    subst h1
    exact .tup (SqT.of h2) (da_all h4), fun xs => by
    show PyData.depthAll (xs.l.map Da.dat) + 1 ≤ _
    exact Nat.succ_le_succ (da_dep xs.l), fun xs => da_lay xs.l, fun xs ys => (da_eqv xs.l ys.l).trans (dec_iff ⟨fun h => by cases xs; cases ys; cases h; rfl, fun h => by rw [h]⟩)⟩
instance {α β : Type} [Rq α] [Rq β] [DecidableEq α] [DecidableEq β] [Da α] [Da β] : Da (α × β) := ⟨fun x => .tuple [Da.dat x.1, Da.dat x.2], max (Da.dep α) (Da.dep β) + 1, fun h => by
    obtain ⟨a, v1, v2, h1, h2, h3, h4⟩ := h
    subst h1
    exact .tup (SqT.of h2) (.cons (Da.dp h3) (.cons (Da.dp h4) .nil)), fun x => by
    show max (PyData.depth (Da.dat x.1)) (max (PyData.depth (Da.dat x.2)) 0) + 1 ≤ _
    have := Da.hd x.1
    have := Da.hd x.2
    omega, fun x => by
    show (PyData.canLay0 (Da.dat x.1) && (PyData.canLay0 (Da.dat x.2) && true)) = true
    rw [Da.lay, Da.lay]; rfl, fun x y => by
    show (PyData.eqv (Da.dat x.1) (Da.dat y.1) && (PyData.eqv (Da.dat x.2) (Da.dat y.2) && true)) = _
    rw [Da.eqv, Da.eqv, Bool.and_true, ← Bool.decide_and]
    exact dec_iff (by rw [Prod.ext_iff])⟩
section
variable {X : Cx} {e a b c : Expr} {es : List Expr} {t ta tb tc te : TE} {tr : TA} {G : List SV} {α β γ τ ρ O S R : Type} {pos p : Pos} {n : Str} {rest : List Stmt} {u ts : TS} {P Px : Post O}
theorem ev_eqD [Rq α] [DecidableEq α] [Da α] {K : PySem.W.Frag} {r : R2} {g : Bool → Bool} (hr : ∀ x y H Q, (∃ d e, Dp K H x d ∧ Dp K H y e ∧ SeqAt.shaped d = true ∧ SeqAt.shaped e = true ∧ Q (.bl (g (PyData.eqv d e))) H) → r x y H Q) (hd : Da.dep α ≤ 64) {m1 m2 : Option α} (ha : StJ wideU ta G m1) (hb : StJ wideU tb G m2) :
    EvJ (tOp r ta tb) G (m1.bind fun x => m2.bind fun y => some (g (decide (x = y)))) := fun B Hi T tv s H Q z hx hl hs k => by
  obtain ⟨x, e1, hx⟩ := bind_some hx
  obtain ⟨y, e2, e3⟩ := bind_some hx
  cases e3
  refine ha B Hi T tv s H _ x e1 hl hs fun vx T' tv' Hi1 H1 l1 s1 r1 => ?_
  refine hb B Hi1 T' tv' s H1 _ y e2 l1 s1 fun vy T'' tv'' Hi2 H2 l2 s2 r2 => ?_
  obtain ⟨s3, r3⟩ := r2 Hi2 H2 s2
  obtain ⟨s4, r4⟩ := r1 Hi2 H2 s3
  have w := wide_sub s4.sub
  have sh : ∀ x : α, SeqAt.shaped (Da.dat x) = true := fun x => by
    unfold SeqAt.shaped
    rw [Da.lay, decide_eq_true (Nat.le_trans (Da.hd x) hd)]; rfl
  exact hr _ _ _ _ ⟨Da.dat x, Da.dat y, Da.dp (Rq.mono w r4), Da.dp (Rq.mono w r3), sh x, sh y, k _ Hi2 H2 s4 (by rw [Da.eqv]; rfl)⟩
theorem ej_eqD [Rq α] [DecidableEq α] [Da α] {m1 m2 : Option α} (hu : X.A.units + 64 < cLine) (ha : WJ X a ta G m1) (hb : WJ X b tb G m2) (hd : Da.dep α ≤ 64 := by decide) : EJ X (.Compare a [.Eq] [b] pos) (tOp (rEqD X.K) ta tb) G (m1.bind fun x => m2.bind fun y => some (decide (x = y))) :=
  ⟨pe_cmpR (op_eqD hu) ha.pe hb.pe (nomark _), ev_eqD (g := id) (fun _ _ _ _ h => h) hd ha.ev hb.ev⟩
theorem ej_neD [Rq α] [DecidableEq α] [Da α] {m1 m2 : Option α} (hu : X.A.units + 64 < cLine) (ha : WJ X a ta G m1) (hb : WJ X b tb G m2) (hd : Da.dep α ≤ 64 := by decide) : EJ X (.Compare a [.NotEq] [b] pos) (tOp (rNeD X.K) ta tb) G (m1.bind fun x => m2.bind fun y => some (!decide (x = y))) :=
  ⟨pe_cmpR (op_neD hu) ha.pe hb.pe (nomark _), ev_eqD (g := not) (fun _ _ _ _ h => h) hd ha.ev hb.ev⟩
theorem tj_eqD [Rq α] [DecidableEq α] [Da α] {m1 m2 : Option α} (hu : X.A.units + 64 < cLine) (ha : WJ X a ta G m1) (hb : WJ X b tb G m2) (hd : Da.dep α ≤ 64 := by decide) : TJ X (.Compare a [.Eq] [b] pos) (tTest (tOp (rEqD X.K) ta tb)) G (m1.bind fun x => m2.bind fun y => some (decide (x = y))) :=
  ⟨pt_cmpR (op_eqD hu) ha.pe hb.pe (nomark _), tv_test (ej_eqD (pos := pos) hu ha hb hd).ev⟩
theorem tj_neD [Rq α] [DecidableEq α] [Da α] {m1 m2 : Option α} (hu : X.A.units + 64 < cLine) (ha : WJ X a ta G m1) (hb : WJ X b tb G m2) (hd : Da.dep α ≤ 64 := by decide) : TJ X (.Compare a [.NotEq] [b] pos) (tTest (tOp (rNeD X.K) ta tb)) G (m1.bind fun x => m2.bind fun y => some (!decide (x = y))) :=
  ⟨pt_cmpR (op_neD hu) ha.pe hb.pe (nomark _), tv_test (ej_neD (pos := pos) hu ha hb hd).ev⟩
/-! ### more of the small words -/
theorem ej_modP {k : Int} (hk : 0 < k) {m1 : Option Int} (ha : EJ X a ta G m1) (hb : EJ X b tb G (some k)) : EJ X (.BinOp a .Mod b pos) (tOp (rI (fun _ j => 0 < j) fun i j => .int (i % j)) ta tb) G (m1.bind fun x => some (x % k)) :=
  ⟨pe_op op_mod ha.pe hb.pe, fun B Hi T tv s H Q z hx hl hs kk => by
    obtain ⟨x, e1, e2⟩ := bind_some hx
    cases e2
    refine (ej_op (pos := pos) op_mod o2_mod ha hb).ev B Hi T tv s H Q _ ?_ hl hs kk
    rw [e1]
    show modC x k = _
    unfold modC
    rw [if_pos hk]⟩
def dmC (x y : Int) : Option (Int × Int) := if 0 < y ∧ y.natAbs.log2 < 9000 then some (x / y, x % y) else none
theorem ej_divmod {m1 m2 : Option Int} (ha : EJ X a ta G m1) (hb : EJ X b tb G m2) (hm : X.mg "divmod" = none) (hg : Gl X "divmod" := by rfl) (he : starEach [a, b] X.env = (false, eval a X.env) :: starEach [b] X.env := by rfl) (he2 : starEach [b] X.env = (false, eval b X.env) :: starEach [] X.env := by rfl)
    (hpl : (backTo pos (starEach [b] X.env)).any (·.1) = false := by rfl) :
    EJ X (.Call (.Name "divmod" p) [a, b] [] pos) (tCB (fun xs H Q => ∃ i j, xs = [.int i, .int j] ∧ CDivP i j ∧ ∀ p, H p = none → Q (.ref p) (upd H p (.tup [.int (i / j), .int (i % j)]))) (tCons ta (tCons tb tNil))) G (m1.bind fun x => m2.bind fun y => dmC x y) :=
  ⟨pe_callB call_divmodW hg hm (by decide +kernel) (pa_cons ha.pe (pa_cons hb.pe pa_nil he2) he) (by decide) (by decide) he hpl, fun B Hi T tv s H Q z hx hl hs k => by
    obtain ⟨x, e1, hx⟩ := bind_some hx
    obtain ⟨y, e2, e3⟩ := bind_some hx
    refine ha.ev B Hi T tv s H _ x e1 hl hs fun vx Hi1 H1 s1 r1 => ?_
    cases r1
    refine hb.ev B Hi1 T tv s H1 _ y e2 hl s1 fun vy Hi2 H2 s2 r2 => ?_
    cases r2
    unfold dmC at e3
    by_cases h : 0 < y ∧ y.natAbs.log2 < 9000
    · rw [if_pos h] at e3
      cases e3
      refine ⟨x, y, rfl, ⟨h.1, PyProof.noPylong_of_log2 h.2⟩, fun q hq => ?_⟩
      obtain ⟨s3, sm⟩ := sat_tup (vs := [.int (x / y), .int (x % y)]) s2 hq
      exact k _ _ _ s3 ⟨q, _, _, rfl, upd_same, rfl, rfl⟩
    · rw [if_neg h] at e3; cases e3⟩
/-- range(len(xs)) -/
theorem ev_len [Rq α] {K : PySem.W.Frag} {m1 : Option (List α)} (ha : StJ (lstK K) ta G m1) : ∀ (B : Bk) (Hi : Hp) (T : List SV) (tv s : L2.St) (H : Hp) (Q : VK) (x : List α), m1 = some x → tv.length = T.length → SatG B Hi (T ++ G) (tv ++ s) H →
    (x.length ≤ sizeLine → ∀ Hi' H', SatG B Hi' (T ++ G) (tv ++ s) H' → Q (.int (x.length : Int)) H') → tCB (fun xs H Q => ∃ p ys, xs = [.ref p] ∧ (SqL K H p ys ∨ SqT K H p ys) ∧ Q (.int ys.length) H) (tCons ta tNil) s H Q := fun B Hi T tv s H Q x hx hl hs k => by
  refine ha B Hi T tv s H _ x hx hl hs fun vx T' tv' Hi1 H1 l1 s1 r1 => ?_
  obtain ⟨s3, q, vs, h1, h2, h3, h4⟩ := r1 Hi1 H1 s1
  have e := Paired.length h4
  exact ⟨q, vs, by rw [h1], .inl h2, by rw [← e]; exact k (by omega) Hi1 H1 s3⟩
theorem pe_len {m1 : Option (List α)} [Rq α] (ha : LK X a ta G m1) (hm : X.mg "len" = none) (hg : Gl X "len" := by rfl) (he : starEach [a] X.env = (false, eval a X.env) :: starEach [] X.env := by rfl) :
    PE X (.Call (.Name "len" p) [a] [] pos) (tCB (fun xs H Q => ∃ p ys, xs = [.ref p] ∧ (SqL X.K H p ys ∨ SqT X.K H p ys) ∧ Q (.int ys.length) H) (tCons ta tNil)) := pe_callB call_len_seq hg hm PySem.boot_len (pa_cons ha.pe pa_nil he) (by decide) (by decide) he rfl
theorem ij_rngL [Rq α] {m : Option (List α)} {tg : Expr} {p1 p2 p3 : Pos} (ha : LK X a ta G m) (hm : X.mg "range" = none) (hml : X.mg "len" = none) (hg : Gl X "range" := by rfl) (hgl : Gl X "len" := by rfl) (hel : starEach [a] X.env = (false, eval a X.env) :: starEach [] X.env := by rfl)
    (na : starEach [.Call (.Name "len" p2) [a] [] p3] X.env = (false, eval (.Call (.Name "len" p2) [a] [] p3) X.env) :: starEach [] X.env := by rfl) (hs : starEach [.Call (.Name "len" p2) [a] [] p3] X.env = [(false, eval (.Call (.Name "len" p2) [a] [] p3) X.env)] := by rfl) :
    IJ C0 X tg (.Call (.Name "range" p1) [.Call (.Name "len" p2) [a] [] p3] [] pos) (iRng1 (tCons (tCB (fun xs H Q => ∃ p ys, xs = [.ref p] ∧ (SqL X.K H p ys ∨ SqT X.K H p ys) ∧ Q (.int ys.length) H) (tCons ta tNil)) tNil)) G (m.bind fun x => some (irange 0 x.length)) :=
  ⟨pi_range1 hg hm (pa_cons (pe_len ha hml hgl hel) pa_nil na) hs, fun B Hi T tv s H R xs hx hl hs k => by
  obtain ⟨x, e1, e2⟩ := bind_some hx
  cases e2
  refine ev_len ha.ev B Hi T tv s H (fun v H1 => iRng1 (fun _ H Q => Q [v] H) s H1 R) x e1 hl hs fun hz Hi1 H1 s1 => ?_
  rw [sizeLine_eq] at hz
  refine ⟨(x.length : Int), rfl, by omega, by omega, ?_⟩
  have e3 : ((x.length : Int)).toNat = ((x.length : Int) - 0).toNat := by omega
  rw [e3]
  exact k _ T tv Hi1 H1 hl s1 (by rw [irange_len, sizeLine_eq]; omega) (fun G2 s2 Hi2 H2 z => z) iv_rng, fun _ => trivial⟩
theorem ij_rngL2 [Rq α] {m : Option (List α)} {tg : Expr} {p1 p2 p3 p4 : Pos} {lo : Int} {j} (hlo : 0 ≤ lo ∧ lo < 1000) (ha : LK X a ta G m) (hm : X.mg "range" = none) (hml : X.mg "len" = none) (hg : Gl X "range" := by rfl) (hgl : Gl X "len" := by rfl) (hel : starEach [a] X.env = (false, eval a X.env) :: starEach [] X.env := by rfl)
    (na : starEach [.Constant (.int lo) j p4, .Call (.Name "len" p2) [a] [] p3] X.env = (false, eval (.Constant (.int lo) j p4) X.env) :: starEach [.Call (.Name "len" p2) [a] [] p3] X.env := by rfl) (nb : starEach [.Call (.Name "len" p2) [a] [] p3] X.env = (false, eval (.Call (.Name "len" p2) [a] [] p3) X.env) :: starEach [] X.env := by rfl)
    (hs : starEach [.Constant (.int lo) j p4, .Call (.Name "len" p2) [a] [] p3] X.env = [(false, eval (.Constant (.int lo) j p4) X.env), (false, eval (.Call (.Name "len" p2) [a] [] p3) X.env)] := by rfl) (hs2 : starEach [.Call (.Name "len" p2) [a] [] p3] X.env = [(false, eval (.Call (.Name "len" p2) [a] [] p3) X.env)] := by rfl) :
    IJ C0 X tg (.Call (.Name "range" p1) [.Constant (.int lo) j p4, .Call (.Name "len" p2) [a] [] p3] [] pos) (iRng2 (tCons (tC (.int lo)) (tCons (tCB (fun xs H Q => ∃ p ys, xs = [.ref p] ∧ (SqL X.K H p ys ∨ SqT X.K H p ys) ∧ Q (.int ys.length) H) (tCons ta tNil)) tNil))) G (m.bind fun x => some (irange lo x.length)) :=
  ⟨pi_range2 hg hm (pa_cons pe_int (pa_cons (pe_len ha hml hgl hel) pa_nil nb) na) hs hs2, fun B Hi T tv s H R xs hx hl hs k => by
  obtain ⟨x, e1, e2⟩ := bind_some hx
  cases e2
  refine ev_len ha.ev B Hi T tv s H (fun v H1 => iRng2 (fun _ H Q => Q [.int lo, v] H) s H1 R) x e1 hl hs fun hz Hi1 H1 s1 => ?_
  rw [sizeLine_eq] at hz
  refine ⟨lo, (x.length : Int), rfl, ⟨by omega, by omega, by omega, by omega⟩, ?_⟩
  exact k _ T tv Hi1 H1 hl s1 (by rw [irange_len, sizeLine_eq]; omega) (fun G2 s2 Hi2 H2 z => z) iv_rng, fun _ => trivial⟩
theorem oj_listRgL [Rq α] {m : Option (List α)} {p1 p2 p3 p4 : Pos} (hc : X.calm = true) (ha : LK X a ta G m) (hm : X.mg "list" = none) (hmr : X.mg "range" = none) (hml : X.mg "len" = none) (hg : Gl X "list" := by rfl) (hgr : Gl X "range" := by rfl) (hgl : Gl X "len" := by rfl) (hel : starEach [a] X.env = (false, eval a X.env) :: starEach [] X.env := by rfl)
    (na : starEach [.Call (.Name "len" p3) [a] [] p4] X.env = (false, eval (.Call (.Name "len" p3) [a] [] p4) X.env) :: starEach [] X.env := by rfl)
    (nb : starEach [.Call (.Name "range" p1) [.Call (.Name "len" p3) [a] [] p4] [] p2] X.env = (false, eval (.Call (.Name "range" p1) [.Call (.Name "len" p3) [a] [] p4] [] p2) X.env) :: starEach [] X.env := by rfl) :
    OJ X (.Call (.Name "list" p) [.Call (.Name "range" p1) [.Call (.Name "len" p3) [a] [] p4] [] p2] [] pos) (tLstRg (tRg1 (tCB (fun xs H Q => ∃ p ys, xs = [.ref p] ∧ (SqL X.K H p ys ∨ SqT X.K H p ys) ∧ Q (.int ys.length) H) (tCons ta tNil)))) G (m.bind fun x => some (irange 0 x.length)) :=
  ⟨pe_listRg hc hg hm (prg_1 hgr hmr (pe_len ha hml hgl hel) na) nb, fun B Hi T tv s H Q z hx hl hs k => by
    obtain ⟨x, e1, e2⟩ := bind_some hx
    cases e2
    refine ev_len ha.ev B Hi T tv s H (fun v H1 => tLstRg (fun _ H Q => ∃ n, v = .int n ∧ Q 0 n H) s H1 Q) x e1 hl hs fun hz Hi1 H1 s1 => ⟨(x.length : Int), rfl, ?_⟩
    rw [sizeLine_eq] at hz
    refine ⟨⟨by omega, by omega, by omega, by omega, by omega⟩, fun q hq => ?_⟩
    rw [rgV_ints]
    exact k q Hi1 _ (s1.newO (φ := isL _) hq ⟨_, rfl, by rw [List.length_map, irange_len, sizeLine_eq]; omega, ints_paired _⟩)⟩
/-! ### comprehensions whose parts are plain -/
theorem mapO_some {f : α → β} : ∀ xs : List α, mapO xs (fun x => some (f x)) = some (xs.map f)
  | [] => rfl
  | x :: xs => by
    show (mapO xs fun x => some (f x)).bind _ = _
    rw [mapO_some xs]; rfl
theorem filO_some {c : α → Bool} {f : α → β} : ∀ xs : List α, filO xs (fun x => some (c x)) (fun x => some (f x)) = some ((xs.filter c).map f)
  | [] => rfl
  | x :: xs => by
    show (if c x = true then (filO xs _ _).bind _ else filO xs _ _) = _
    rw [filO_some xs]
    cases h : c x with
    | true => rw [if_pos rfl, List.filter_cons_of_pos h]; rfl
    | false => rw [if_neg Bool.false_ne_true, List.filter_cons_of_neg (by rw [h]; exact Bool.false_ne_true)]
variable {elt tg iter : Expr} {ifs : List Expr} {scope : Scope} {own : List (Str × Nat)} {w : TI} {g : TG} {tt : TT}
theorem oj_lcP [Rq α] [Rq β] {C} {m1 : Option (List α)} {f : α → List SV → List SV} {ids : List Nat} {me : α → β} (x0 : α) (hcalm : X.calm = true) (hN : X.N.Nodup) (hi : IJ C X tg iter w G m1) (ok : BlkOk X.N X.env.scope scope own)
    (hg : ∀ (s : Shared) (H : Hp) (C : Addr) (cl : List (Str × Addr)) (fp : List Addr), GJ (X.blk s H scope (compEnvC scope cl C X.env) fp) tg g f ids)
    (he : ∀ (x : α) (s : Shared) (H : Hp) (C : Addr) (cl : List (Str × Addr)) (fp : List Addr), EJ (X.blk s H scope (compEnvC scope cl C X.env) fp) elt te (f x G) (some (me x)))
    (hids : ∀ i ∈ ids, i ∈ own.map (·.2) := by decide) (hw0 : wipeG G (own.map (·.2)) = G := by rfl) (hw : ∀ x, wipeG (f x G) (own.map (·.2)) = G := by intro _; rfl) (hs : ∀ x, foldedSetIterable iter X.env x = pure x := by intro _; rfl) :
    OJ X (.ListComp elt [⟨tg, iter, [], 0⟩] scope pos) (tLc w g tYes te (own.map (·.2))) G (m1.bind fun xs => some (xs.map me)) := by
  have h := oj_lc (pos := pos) x0 hcalm hN hi ok hg he hids hw0 hw hs
  have e : (fun xs => some (xs.map me)) = fun xs => mapO xs fun x => some (me x) := funext fun xs => (mapO_some xs).symm
  rw [e]; exact h
theorem oj_lcTP [Rq α] [Rq β] {C} {m1 : Option (List α)} {f : α → List SV → List SV} {ids : List Nat} {mc : α → Bool} {me : α → β} (x0 : α) (hcalm : X.calm = true) (hN : X.N.Nodup) (hi : IJ C X tg iter w G m1) (ok : BlkOk X.N X.env.scope scope own)
    (hg : ∀ (s : Shared) (H : Hp) (C : Addr) (cl : List (Str × Addr)) (fp : List Addr), GJ (X.blk s H scope (compEnvC scope cl C X.env) fp) tg g f ids)
    (ht : ∀ (x : α) (s : Shared) (H : Hp) (C : Addr) (cl : List (Str × Addr)) (fp : List Addr), TJ (X.blk s H scope (compEnvC scope cl C X.env) fp) c tt (f x G) (some (mc x)))
    (he : ∀ (x : α) (s : Shared) (H : Hp) (C : Addr) (cl : List (Str × Addr)) (fp : List Addr), EJ (X.blk s H scope (compEnvC scope cl C X.env) fp) elt te (f x G) (some (me x)))
    (hids : ∀ i ∈ ids, i ∈ own.map (·.2) := by decide) (hw0 : wipeG G (own.map (·.2)) = G := by rfl) (hw : ∀ x, wipeG (f x G) (own.map (·.2)) = G := by intro _; rfl) (hs : ∀ x, foldedSetIterable iter X.env x = pure x := by intro _; rfl) :
    OJ X (.ListComp elt [⟨tg, iter, [c], 0⟩] scope pos) (tLc w g tt te (own.map (·.2))) G (m1.bind fun xs => some ((xs.filter mc).map me)) := by
  have h := oj_lcT (pos := pos) x0 hcalm hN hi ok hg ht he hids hw0 hw hs
  have e : (fun xs => some ((xs.filter mc).map me)) = fun xs => filO xs (fun x => some (mc x)) fun x => some (me x) := funext fun xs => (filO_some xs).symm
  rw [e]; exact h
theorem lcjP [Rq α] [Rq β] {C} {m1 : Option (List α)} {f : α → List SV → List SV} {ids : List Nat} {me : α → β} {i : Nat} {y : Str} {py spos : Pos} (x0 : α) (hcalm : X.calm = true) (hN : X.N.Nodup) (hy : X.N[i]? = some y) (hyl : X.env.scope.names.lookup y = some .local) (hsw : swapsWith (.ListComp elt [⟨tg, iter, [], 0⟩] scope pos) (some (.Name y py)) spos.line X.env = pure true)
    (hi : IJ C X tg iter w G m1) (ok : BlkOk X.N X.env.scope scope own)
    (hg : ∀ (s : Shared) (H : Hp) (C : Addr) (cl : List (Str × Addr)) (fp : List Addr), GJ (X.blk s H scope (compEnvC scope cl C X.env) fp) tg g f ids)
    (he : ∀ (x : α) (s : Shared) (H : Hp) (C : Addr) (cl : List (Str × Addr)) (fp : List Addr), EJ (X.blk s H scope (compEnvC scope cl C X.env) fp) elt te (f x G) (some (me x)))
    (hids : ∀ i ∈ ids, i ∈ own.map (·.2) := by decide) (hw0 : wipeG G (own.map (·.2)) = G := by rfl) (hw : ∀ x, wipeG (f x G) (own.map (·.2)) = G := by intro _; rfl) (hs : ∀ x, foldedSetIterable iter X.env x = pure x := by intro _; rfl) :
    LCJ X i y py (.ListComp elt [⟨tg, iter, [], 0⟩] scope pos) spos (tLc w g tYes te (own.map (·.2))) G (m1.bind fun xs => some (xs.map me)) := by
  have h := lcj (pos := pos) x0 hcalm hN hy hyl hsw hi ok hg he hids hw0 hw hs
  have e : (fun xs => some (xs.map me)) = fun xs => mapO xs fun x => some (me x) := funext fun xs => (mapO_some xs).symm
  rw [e]; exact h
theorem lcjTP [Rq α] [Rq β] {C} {m1 : Option (List α)} {f : α → List SV → List SV} {ids : List Nat} {mc : α → Bool} {me : α → β} {i : Nat} {y : Str} {py spos : Pos} (x0 : α) (hcalm : X.calm = true) (hN : X.N.Nodup) (hy : X.N[i]? = some y) (hyl : X.env.scope.names.lookup y = some .local) (hsw : swapsWith (.ListComp elt [⟨tg, iter, [c], 0⟩] scope pos) (some (.Name y py)) spos.line X.env = pure true)
    (hi : IJ C X tg iter w G m1) (ok : BlkOk X.N X.env.scope scope own)
    (hg : ∀ (s : Shared) (H : Hp) (C : Addr) (cl : List (Str × Addr)) (fp : List Addr), GJ (X.blk s H scope (compEnvC scope cl C X.env) fp) tg g f ids)
    (ht : ∀ (x : α) (s : Shared) (H : Hp) (C : Addr) (cl : List (Str × Addr)) (fp : List Addr), TJ (X.blk s H scope (compEnvC scope cl C X.env) fp) c tt (f x G) (some (mc x)))
    (he : ∀ (x : α) (s : Shared) (H : Hp) (C : Addr) (cl : List (Str × Addr)) (fp : List Addr), EJ (X.blk s H scope (compEnvC scope cl C X.env) fp) elt te (f x G) (some (me x)))
    (hids : ∀ i ∈ ids, i ∈ own.map (·.2) := by decide) (hw0 : wipeG G (own.map (·.2)) = G := by rfl) (hw : ∀ x, wipeG (f x G) (own.map (·.2)) = G := by intro _; rfl) (hs : ∀ x, foldedSetIterable iter X.env x = pure x := by intro _; rfl) :
    LCJ X i y py (.ListComp elt [⟨tg, iter, [c], 0⟩] scope pos) spos (tLc w g tt te (own.map (·.2))) G (m1.bind fun xs => some ((xs.filter mc).map me)) := by
  have h := lcjT (pos := pos) x0 hcalm hN hy hyl hsw hi ok hg ht he hids hw0 hw hs
  have e : (fun xs => some ((xs.filter mc).map me)) = fun xs => filO xs (fun x => some (mc x)) fun x => some (me x) := funext fun xs => (filO_some xs).symm
  rw [e]; exact h
/-! ### more statements -/
theorem bj_retI [Rq ρ] {m : Option ρ} (h : EJ X e t G m) : BJ X (.Return (some e) pos :: []) (tSeq (tRet t) tNext) G m PR := ⟨pss_cons (ps_ret h.pe) pss_nil, fun B Hi T tv s H D o hx hl hs k =>
  h.ev B Hi T tv s H _ o hx hl hs fun v Hi' H' s' rr => k v Hi' H' s'.bare rr⟩
theorem bj_retOI [Rq ρ] {m : Option (List ρ)} (h : OJ X e t G m) : BJ X (.Return (some e) pos :: []) (tSeq (tRet t) tNext) G m PO := ⟨pss_cons (ps_ret h.pe) pss_nil, fun B Hi T tv s H D o hx hl hs k =>
  h.ev B Hi T tv s H _ o hx hl hs fun q Hi' H' s' => k q Hi' H' s'.bare1⟩
theorem bj_append [Rq α] {xs : List α} {m1 : Option α} {m3 : List α → Option O} (l : Nat) (h : EJ X e t G m1) (hr : ∀ ys, BJ X rest u (G.set l (ol ys)) (m3 ys) P) {p2 apos cpos : Pos} (hg : G[l]? = some (ol xs) := by rfl)
    (hN : X.N[l]? = some n := by rfl) (hv : Vis X.env.scope n := by first | exact Or.inl rfl | exact Or.inr (Or.inl rfl) | exact Or.inr (Or.inr rfl)) (hd : (n == ("__debug__" : Str)) = false := by decide) (hcd : (n == ("__classdict__" : Str)) = false := by decide)
    (hbase : attributeBase (.Name n p2) "append" X.env (eval (.Name n p2) X.env) = eval (.Name n p2) X.env := by rfl)
    (hfew : ((backTo cpos (starEach [e] X.env)).all (fun x => !x.1) && (backToKw cpos (keywordEach [] X.env)).all (fun x => x.1.isSome) && decide ([e].length + ([] : List Keyword).length + (if ([] : List Keyword).isEmpty then 0 else 1) < 30)) = true := by rfl)
    (hline : (apos.endLine == cpos.line) = true := by rfl) (hst : starEach [e] X.env = (false, eval e X.env) :: starEach [] X.env := by rfl) (hplain : (backTo cpos (starEach [] X.env)).any (·.1) = false := by rfl) (hsw : swapsWith (.Call (.Attribute (.Name n p2) "append" apos) [e] [] cpos) none pos.line X.env = pure false := by rfl) :
    BJ X (.Expr (.Call (.Attribute (.Name n p2) "append" apos) [e] [] cpos) pos :: rest) (tSeq (tDrop (tBM X.K "list" rAppend (tVar l) (tCons t tNil))) u) G (m1.bind fun y => (appC xs y).bind m3) P :=
  bj_meth1 (f := appC) l PySem.F.slot_list_append PySem.F.type_list_append mt_append (fun q Hi H xs y vs v ys Q sm h1 h2 h3 h4 h5 k => app_ok q Hi H xs y vs v ys Q sm h1 h2 h3 h4 h5 k) h hr hg hN hv hd hcd hbase hfew hline hst hplain hsw
theorem bj_remove {xs : List Int} {m1 : Option Int} {m3 : List Int → Option O} (l : Nat) (h : EJ X e t G m1) (hr : ∀ ys, BJ X rest u (G.set l (ol ys)) (m3 ys) P) {p2 apos cpos : Pos} (hg : G[l]? = some (ol xs) := by rfl)
    (hN : X.N[l]? = some n := by rfl) (hv : Vis X.env.scope n := by first | exact Or.inl rfl | exact Or.inr (Or.inl rfl) | exact Or.inr (Or.inr rfl)) (hd : (n == ("__debug__" : Str)) = false := by decide) (hcd : (n == ("__classdict__" : Str)) = false := by decide)
    (hbase : attributeBase (.Name n p2) "remove" X.env (eval (.Name n p2) X.env) = eval (.Name n p2) X.env := by rfl)
    (hfew : ((backTo cpos (starEach [e] X.env)).all (fun x => !x.1) && (backToKw cpos (keywordEach [] X.env)).all (fun x => x.1.isSome) && decide ([e].length + ([] : List Keyword).length + (if ([] : List Keyword).isEmpty then 0 else 1) < 30)) = true := by rfl)
    (hline : (apos.endLine == cpos.line) = true := by rfl) (hst : starEach [e] X.env = (false, eval e X.env) :: starEach [] X.env := by rfl) (hplain : (backTo cpos (starEach [] X.env)).any (·.1) = false := by rfl) (hsw : swapsWith (.Call (.Attribute (.Name n p2) "remove" apos) [e] [] cpos) none pos.line X.env = pure false := by rfl) :
    BJ X (.Expr (.Call (.Attribute (.Name n p2) "remove" apos) [e] [] cpos) pos :: rest) (tSeq (tDrop (tBM X.K "list" rRemI (tVar l) (tCons t tNil))) u) G (m1.bind fun y => (remC xs y).bind m3) P :=
  bj_meth1 (f := remC) l PySem.F.slot_list_remove PySem.F.type_list_remove mt_remove (fun q Hi H xs y vs v ys Q sm h1 h2 h3 h4 h5 k => rem_ok q Hi H xs y vs v ys Q sm h1 h2 h3 h4 h5 k) h hr hg hN hv hd hcd hbase hfew hline hst hplain hsw
/-- if, the first way leaves, the other goes on -/
theorem bj_ifXJ {tc' : TT} {tA tB : TS} {aS bS : List Stmt} {N : S → List SV} {mc : Option Bool} {ma : Option O} {mb : Option S} {mr : S → Option O} [Out P Px] (hc : TJ X c tc' G mc) (ha : BJ X aS tA G ma Px) (hb : BJ X bS tB G mb (PN N)) (s0 : S) (hr : ∀ st, BJ X rest u (N st) (mr st) P) :
    BJ X (.If c aS bS pos :: rest) (tSeq (tIfS tc' tA tB) u) G (mc.bind fun x => if x = true then ma else mb.bind mr) P :=
  ⟨pss_cons (ps_if hc.pt ha.ps hb.ps) (hr s0).ps, fun B Hi T tv s H D o hx hl hs k => by
    obtain ⟨x, e1, e2⟩ := bind_some hx
    refine hc.ev B Hi T tv s H _ x e1 hl hs fun Hi1 H1 s1 => ?_
    cases x with
    | true =>
      rw [if_pos rfl] at e2 ⊢
      exact ha.ev B Hi1 T tv s H1 _ o e2 hl s1 (Out.out (P := P) (Px := Px) o B T tv D _ k)
    | false =>
      rw [if_neg Bool.false_ne_true] at e2 ⊢
      obtain ⟨st, e3, e4⟩ := bind_some e2
      exact hb.ev B Hi1 T tv s H1 _ st e3 hl s1 fun s' Hi' H' q => (hr st).ev B Hi' T tv s' H' D o e4 hl q k⟩
theorem bj_ifJX {tc' : TT} {tA tB : TS} {aS bS : List Stmt} {N : S → List SV} {mc : Option Bool} {ma : Option S} {mb : Option O} {mr : S → Option O} [Out P Px] (hc : TJ X c tc' G mc) (ha : BJ X aS tA G ma (PN N)) (hb : BJ X bS tB G mb Px) (s0 : S) (hr : ∀ st, BJ X rest u (N st) (mr st) P) :
    BJ X (.If c aS bS pos :: rest) (tSeq (tIfS tc' tA tB) u) G (mc.bind fun x => if x = true then ma.bind mr else mb) P :=
  ⟨pss_cons (ps_if hc.pt ha.ps hb.ps) (hr s0).ps, fun B Hi T tv s H D o hx hl hs k => by
    obtain ⟨x, e1, e2⟩ := bind_some hx
    refine hc.ev B Hi T tv s H _ x e1 hl hs fun Hi1 H1 s1 => ?_
    cases x with
    | true =>
      rw [if_pos rfl] at e2 ⊢
      obtain ⟨st, e3, e4⟩ := bind_some e2
      exact ha.ev B Hi1 T tv s H1 _ st e3 hl s1 fun s' Hi' H' q => (hr st).ev B Hi' T tv s' H' D o e4 hl q k
    | false =>
      rw [if_neg Bool.false_ne_true] at e2 ⊢
      exact hb.ev B Hi1 T tv s H1 _ o e2 hl s1 (Out.out (P := P) (Px := Px) o B T tv D _ k)⟩
end
end GM
namespace GM
open PySem PySem.Spec PyProof.Rows L2
/-! ### pairs of ints sorted -/
def leP (a b : Int × Int) : Bool := !SrtO.lexB b a
def sortP (xs : List (Int × Int)) : List (Int × Int) := xs.mergeSort leP
theorem leP_iff {a b : Int × Int} : leP a b = true ↔ a.1 < b.1 ∨ (a.1 = b.1 ∧ a.2 ≤ b.2) := by
  unfold leP
  rw [Bool.not_eq_true', SrtO.lexB_no]
  omega
theorem leP_anti {a b : Int × Int} (h : leP a b = true) (h' : leP b a = true) : a = b := by
  rw [leP_iff] at h h'
  exact Prod.ext (by omega) (by omega)
theorem perm_sortedP : ∀ {l m : List (Int × Int)}, l.Perm m → l.Pairwise (fun a b => leP a b = true) → m.Pairwise (fun a b => leP a b = true) → l = m
  | [], m, h, _, _ => (List.Perm.eq_nil h.symm).symm
  | x :: l, [], h, _, _ => absurd h.length_eq (by simp)
  | x :: l, y :: m, h, hl, hm => by
    have h1 : x = y := by
      have a := h.mem_iff.mp (List.mem_cons_self (a := x) (l := l))
      have b := h.mem_iff.mpr (List.mem_cons_self (a := y) (l := m))
      have hl' := List.pairwise_cons.mp hl
      have hm' := List.pairwise_cons.mp hm
      rcases List.mem_cons.mp a with e | e
      · exact e
      · rcases List.mem_cons.mp b with e2 | e2
        · exact e2.symm
        · exact leP_anti (hl'.1 _ e2) (hm'.1 _ e)
    subst h1
    rw [perm_sortedP h.cons_inv (List.pairwise_cons.mp hl).2 (List.pairwise_cons.mp hm).2]
theorem sortP_perm (xs : List (Int × Int)) : (sortP xs).Perm xs := List.mergeSort_perm _ _
theorem sortP_sorted (xs : List (Int × Int)) : (sortP xs).Pairwise fun a b => leP a b = true :=
  List.pairwise_mergeSort (le := leP) (fun a b c h1 h2 => by rw [leP_iff] at h1 h2 ⊢; omega) (fun a b => by
    rw [Bool.or_eq_true, leP_iff, leP_iff]; omega) xs
section
variable {X : Cx} {e a b c : Expr} {es : List Expr} {t ta tb tc te : TE} {tr : TA} {G : List SV} {α β γ τ ρ O S R : Type} {pos p : Pos} {n : Str} {rest : List Stmt} {u ts : TS} {P Px : Post O}
def keyP (H : Hp) (v : V) : Int × Int := match v with
  | .ref t => match H t with
    | some (.tup [.int a, .int b]) => (a, b)
    | _ => (0, 0)
  | _ => (0, 0)
theorem keyP_of {H : Hp} {x : Int × Int} {v : V} (h : rq H x v) : keyP H v = x ∧ ∃ t, v = .ref t ∧ H t = some (.tup [.int x.1, .int x.2]) := by
  obtain ⟨t, v1, v2, h1, h2, h3, h4⟩ := h
  cases h3; cases h4
  subst h1
  refine ⟨?_, t, rfl, h2⟩
  unfold keyP
  simp only [h2]
theorem keyP_map {H : Hp} : ∀ {xs : List (Int × Int)} {vs : List V}, Paired (rq H) xs vs → vs.map (keyP H) = xs
  | _, _, .nil => rfl
  | _, _, .cons r t => by rw [List.map_cons, keyP_map t, (keyP_of r).1]
theorem paired_mem {F : α → β → Prop} : ∀ {l : List α} {m : List β}, Paired F l m → ∀ y ∈ m, ∃ x ∈ l, F x y
  | _, _, .nil, y, h => by cases h
  | _, _, .cons r t, y, h => by
    rcases List.mem_cons.mp h with e | e
    · subst e; exact ⟨_, List.mem_cons_self, r⟩
    · obtain ⟨x, h1, h2⟩ := paired_mem t y e; exact ⟨x, List.mem_cons_of_mem _ h1, h2⟩
theorem paired_of_map {H : Hp} : ∀ {vs : List V}, (∀ v ∈ vs, ∃ x : Int × Int, rq H x v) → Paired (rq H) (vs.map (keyP H)) vs
  | [], _ => .nil
  | v :: vs, h => by
    obtain ⟨x, hx⟩ := h v List.mem_cons_self
    refine .cons ?_ (paired_of_map fun w hw => h w (List.mem_cons_of_mem _ hw))
    rw [(keyP_of hx).1]; exact hx
theorem oj_sortedP {m1 : Option (List (Int × Int))} (ha : LK X a ta G m1) (hm : X.mg "sorted" = none) (hg : Gl X "sorted" := by rfl) (he : starEach [a] X.env = (false, eval a X.env) :: starEach [] X.env := by rfl) :
    OJ X (.Call (.Name "sorted" p) [a] [] pos) (tCB (rSortedPO X.K) (tCons ta tNil)) G (m1.bind fun x => some (sortP x)) :=
  ⟨pe_callB cr_sortedPO hg hm (by decide +kernel) (pa_cons ha.pe pa_nil he) (by decide) (by decide) he rfl, ov_s1 (f := fun x : List (Int × Int) => some (sortP x)) (fun Hi H x v z Q sm h e k => by
    obtain ⟨q, vs, h1, h2, h3, h4⟩ := h
    cases e
    have h5 := Paired.length h4
    refine ⟨q, vs, keyP Hi, by rw [h1], h2, fun v hv => ?_, fun ys l g1 g2 g3 => ?_⟩
    · obtain ⟨x', _, r⟩ := paired_mem h4 v hv
      obtain ⟨e1, t, e2, e3⟩ := keyP_of r
      exact ⟨t, e2, by rw [e1]; exact sm _ _ e3⟩
    · have pm : (ys.map (keyP Hi)).Perm x := by
        have := g2.perm.map (keyP Hi)
        rwa [keyP_map h4] at this
      have e2 : ys.map (keyP Hi) = sortP x := perm_sortedP (pm.trans (sortP_perm x).symm) (List.pairwise_map.mpr (g1.imp fun {a b} hab => by
        show leP (keyP Hi a) (keyP Hi b) = true
        unfold leP
        have hab : SrtO.lexB (keyP Hi b) (keyP Hi a) = false := hab
        rw [hab]; rfl)) (sortP_sorted x)
      have pr : Paired (rq Hi) (ys.map (keyP Hi)) ys := paired_of_map fun v hv => by
        obtain ⟨x', _, r⟩ := paired_mem h4 v (g2.perm.mem_iff.mp hv)
        exact ⟨x', r⟩
      rw [e2] at pr
      exact k l ys g3 (by rw [g2.perm.length_eq]; exact h3) pr) ha.ev⟩
/-! ### xs[i] += e -/
theorem pget_list : PGet X (rIxL X.K) := by
  intro pins s σ H o i ov iv Q I ro ri h
  obtain ⟨p, xs, k, z, rfl, rfl, hq, he, q⟩ := h
  cases ro
  obtain ⟨t, rfl⟩ := ri
  obtain ⟨its, r, pl, hz⟩ := I.list hq
  obtain ⟨j, h1, h2, h3, h4, h5⟩ := atI_get he
  obtain ⟨w, ew, rw'⟩ := r.get h2
  have hl := r.length
  have hn := line63
  have fin : EP X pins σ Q w s := ⟨z, H, I, rw', q⟩
  by_cases h0 : 0 ≤ k
  · have hj : k.toNat = j := by
      rw [seqIndex_of h0 h5] at h1
      exact Option.some.inj h1
    exact wpAny_getItem_list pl.isList h0 (by omega) (by rw [hj]; simpa using ew) fin
  · have hj : (k + (its.toArray.size : Int)).toNat = j := by
      rw [seqIndex_neg (by omega) h4] at h1
      rw [List.size_toArray, ← hl]
      exact Option.some.inj h1
    exact wpAny_getItem_list_neg pl.isList (by omega) (by rw [List.size_toArray] <;> omega) (by omega) (by rw [hj]; simpa using ew) fin
theorem bj_augL {xs : List Int} {op : Operator} {fo : Int → Int → Int} {m1 m2 : Option Int} {m3 : List Int → Option O} (l : Nat) (hop : PIp X op (ipI fo)) (hix : EJ X b tb G m2) (h : EJ X e t G m1) (hr : ∀ ys, BJ X rest u (G.set l (ol ys)) (m3 ys) P) {p2 p3 : Pos} (hg : G[l]? = some (ol xs) := by rfl)
    (hN : X.N[l]? = some n := by rfl) (hv : Vis X.env.scope n := by first | exact Or.inl rfl | exact Or.inr (Or.inl rfl) | exact Or.inr (Or.inr rfl)) (hd : (n == ("__debug__" : Str)) = false := by decide) (hcd : (n == ("__classdict__" : Str)) = false := by decide)
    (ha : ∀ ov iv new, augStore b ov iv new = (do holding [new, ov, iv] (setItem ov iv new); release [new, ov, iv] []; pure .next) := by intros; rfl) :
    BJ X (.AugAssign (.Subscript (.Name n p2) b p3) op e pos :: rest) (tSeq (tAugS (tVar l) tb t (rIxL X.K) (ipI fo) rSetL) u) G (m2.bind fun i => (atI xs i).bind fun o => m1.bind fun y => (setC xs i (fo o y)).bind m3) P :=
  ⟨pss_cons (ps_augS (pe_var hN hv hd hcd) hix.pe pget_list h.pe hop set_list ha) (hr []).ps, fun B Hi T tv s H D o hx hl hs k => by
  obtain ⟨i, e2, hx⟩ := bind_some hx
  obtain ⟨old, e3, hx⟩ := bind_some hx
  obtain ⟨y, e1, hx⟩ := bind_some hx
  obtain ⟨ys, e4, e5⟩ := bind_some hx
  obtain ⟨q, w, h1, h2, ⟨vs, h3, h4, h5⟩, h6, up⟩ := hs.ownT hl hg
  refine ⟨.ref q, h1, ?_⟩
  refine hix.ev B Hi T tv s H _ i e2 hl hs fun iv Hi1 H1 s1 r1 => ?_
  cases r1
  obtain ⟨q1, w1, g1, g2, ⟨us, g3, g4, g5⟩, g6, _⟩ := s1.ownT hl hg
  rw [h1] at g1
  cases g1
  subst g3
  obtain ⟨vo, f1, f2⟩ := Paired.atI g5 e3
  cases f2
  refine ⟨q, us, i, _, rfl, rfl, SqL.of g2, f1, ?_⟩
  refine h.ev B Hi1 T tv s H1 _ y e1 hl s1 fun yv Hi2 H2 s2 r2 => ?_
  cases r2
  refine ⟨old, y, rfl, rfl, ?_⟩
  obtain ⟨q2, w2, k1, k2, ⟨ws, k3, k4, k5⟩, k6, up⟩ := s2.ownT hl hg
  rw [h1] at k1
  cases k1
  subst k3
  obtain ⟨j, z1, z2⟩ := setC_is e4
  subst z2
  refine ⟨q, ws, i, j, rfl, rfl, k2, by rw [← Paired.length k5]; exact z1, ?_⟩
  have s3 := up (.lst (ws.set j (.int (fo old y)))) (isL (xs.set j (fo old y))) (fun _ _ _ e ⟨vs, h1, h2, h3⟩ => ⟨vs, h1, h2, Paired.mono h3 fun _ _ => Rq.mono e⟩) ⟨_, rfl, by rw [List.length_set]; exact k4, Paired.set (show rq Hi2 (fo old y) (.int (fo old y)) from rfl) j k5⟩
  exact (hr _).ev B Hi2 T tv s _ D o e5 hl s3 k⟩
end
end GM
namespace GM
open PySem PySem.Spec PyProof.Rows L2
/-! comprehensions, stated so that the parts may be found one by one -/
section
variable {X : Cx} {e a b c : Expr} {es : List Expr} {t ta tb tc te : TE} {tr : TA} {G : List SV} {α β γ τ ρ O S R : Type} {pos p : Pos} {n : Str} {rest : List Stmt} {u ts : TS} {P Px : Post O}
variable {elt tg iter : Expr} {ifs : List Expr} {scope : Scope} {own : List (Str × Nat)} {w : TI} {g : TG} {tt : TT}
theorem oj_lq [Rq α] [Rq β] {C} {m1 : Option (List α)} {f : α → List SV → List SV} {g2 : Shared → Hp → Addr → List (Str × Addr) → List Addr → TG} {ids : List Nat} {me : α → Option β} {me2 : α → Shared → Hp → Addr → List (Str × Addr) → List Addr → Option β} {te2 : α → Shared → Hp → Addr → List (Str × Addr) → List Addr → TE} (x0 : α) (hcalm : X.calm = true) (hN : X.N.Nodup) (hi : IJ C X tg iter w G m1) (ok : BlkOk X.N X.env.scope scope own)
    (hg : ∀ (s : Shared) (H : Hp) (C : Addr) (cl : List (Str × Addr)) (fp : List Addr), GJ (X.blk s H scope (compEnvC scope cl C X.env) fp) tg (g2 s H C cl fp) f ids)
    (he : ∀ (x : α) (s : Shared) (H : Hp) (C : Addr) (cl : List (Str × Addr)) (fp : List Addr), EJ (X.blk s H scope (compEnvC scope cl C X.env) fp) elt (te2 x s H C cl fp) (f x G) (me2 x s H C cl fp))
    (hme : ∀ x s H C cl fp, me2 x s H C cl fp = me x := by intros; rfl) (hte : ∀ x s H C cl fp, te2 x s H C cl fp = te := by intros; first | rfl | (dsimp only [Cx.blk]; done) | (dsimp only [Cx.blk]; rfl)) (hgg : ∀ s H C cl fp, g2 s H C cl fp = g := by intros; first | rfl | (dsimp only [Cx.blk]; done) | (dsimp only [Cx.blk]; rfl)) (hids : ∀ i ∈ ids, i ∈ own.map (·.2) := by decide) (hw0 : wipeG G (own.map (·.2)) = G := by rfl) (hw : ∀ x, wipeG (f x G) (own.map (·.2)) = G := by intro _; rfl) (hs : ∀ x, foldedSetIterable iter X.env x = pure x := by intro _; rfl) :
    OJ X (.ListComp elt [⟨tg, iter, [], 0⟩] scope pos) (tLc w g tYes te (own.map (·.2))) G (m1.bind fun xs => mapO xs me) :=
  oj_lc (pos := pos) x0 hcalm hN hi ok (fun s H C cl fp => by have h := hg s H C cl fp; rw [hgg] at h; exact h) (fun x s H C cl fp => by have h := he x s H C cl fp; rw [hme, hte] at h; exact h) hids hw0 hw hs
theorem oj_lqT [Rq α] [Rq β] {C} {m1 : Option (List α)} {f : α → List SV → List SV} {g2 : Shared → Hp → Addr → List (Str × Addr) → List Addr → TG} {ids : List Nat} {mc : α → Option Bool} {mc2 : α → Shared → Hp → Addr → List (Str × Addr) → List Addr → Option Bool} {tt2 : α → Shared → Hp → Addr → List (Str × Addr) → List Addr → TT} {me : α → Option β} {me2 : α → Shared → Hp → Addr → List (Str × Addr) → List Addr → Option β} {te2 : α → Shared → Hp → Addr → List (Str × Addr) → List Addr → TE} (x0 : α) (hcalm : X.calm = true) (hN : X.N.Nodup) (hi : IJ C X tg iter w G m1) (ok : BlkOk X.N X.env.scope scope own)
    (hg : ∀ (s : Shared) (H : Hp) (C : Addr) (cl : List (Str × Addr)) (fp : List Addr), GJ (X.blk s H scope (compEnvC scope cl C X.env) fp) tg (g2 s H C cl fp) f ids)
    (ht : ∀ (x : α) (s : Shared) (H : Hp) (C : Addr) (cl : List (Str × Addr)) (fp : List Addr), TJ (X.blk s H scope (compEnvC scope cl C X.env) fp) c (tt2 x s H C cl fp) (f x G) (mc2 x s H C cl fp))
    (he : ∀ (x : α) (s : Shared) (H : Hp) (C : Addr) (cl : List (Str × Addr)) (fp : List Addr), EJ (X.blk s H scope (compEnvC scope cl C X.env) fp) elt (te2 x s H C cl fp) (f x G) (me2 x s H C cl fp))
    (hmc : ∀ x s H C cl fp, mc2 x s H C cl fp = mc x := by intros; rfl) (htt : ∀ x s H C cl fp, tt2 x s H C cl fp = tt := by intros; first | rfl | (dsimp only [Cx.blk]; done) | (dsimp only [Cx.blk]; rfl)) (hme : ∀ x s H C cl fp, me2 x s H C cl fp = me x := by intros; rfl) (hte : ∀ x s H C cl fp, te2 x s H C cl fp = te := by intros; first | rfl | (dsimp only [Cx.blk]; done) | (dsimp only [Cx.blk]; rfl)) (hgg : ∀ s H C cl fp, g2 s H C cl fp = g := by intros; first | rfl | (dsimp only [Cx.blk]; done) | (dsimp only [Cx.blk]; rfl)) (hids : ∀ i ∈ ids, i ∈ own.map (·.2) := by decide) (hw0 : wipeG G (own.map (·.2)) = G := by rfl) (hw : ∀ x, wipeG (f x G) (own.map (·.2)) = G := by intro _; rfl) (hs : ∀ x, foldedSetIterable iter X.env x = pure x := by intro _; rfl) :
    OJ X (.ListComp elt [⟨tg, iter, [c], 0⟩] scope pos) (tLc w g tt te (own.map (·.2))) G (m1.bind fun xs => filO xs mc me) :=
  oj_lcT (pos := pos) x0 hcalm hN hi ok (fun s H C cl fp => by have h := hg s H C cl fp; rw [hgg] at h; exact h) (fun x s H C cl fp => by have h := ht x s H C cl fp; rw [hmc, htt] at h; exact h) (fun x s H C cl fp => by have h := he x s H C cl fp; rw [hme, hte] at h; exact h) hids hw0 hw hs
theorem lqj [Rq α] [Rq β] {C} {m1 : Option (List α)} {f : α → List SV → List SV} {g2 : Shared → Hp → Addr → List (Str × Addr) → List Addr → TG} {ids : List Nat} {me : α → Option β} {me2 : α → Shared → Hp → Addr → List (Str × Addr) → List Addr → Option β} {te2 : α → Shared → Hp → Addr → List (Str × Addr) → List Addr → TE} {i : Nat} {y : Str} {py spos : Pos} (x0 : α) (hcalm : X.calm = true) (hN : X.N.Nodup) (hy : X.N[i]? = some y) (hyl : X.env.scope.names.lookup y = some .local) (hsw : swapsWith (.ListComp elt [⟨tg, iter, [], 0⟩] scope pos) (some (.Name y py)) spos.line X.env = pure true)
    (hi : IJ C X tg iter w G m1) (ok : BlkOk X.N X.env.scope scope own)
    (hg : ∀ (s : Shared) (H : Hp) (C : Addr) (cl : List (Str × Addr)) (fp : List Addr), GJ (X.blk s H scope (compEnvC scope cl C X.env) fp) tg (g2 s H C cl fp) f ids)
    (he : ∀ (x : α) (s : Shared) (H : Hp) (C : Addr) (cl : List (Str × Addr)) (fp : List Addr), EJ (X.blk s H scope (compEnvC scope cl C X.env) fp) elt (te2 x s H C cl fp) (f x G) (me2 x s H C cl fp))
    (hme : ∀ x s H C cl fp, me2 x s H C cl fp = me x := by intros; rfl) (hte : ∀ x s H C cl fp, te2 x s H C cl fp = te := by intros; first | rfl | (dsimp only [Cx.blk]; done) | (dsimp only [Cx.blk]; rfl)) (hgg : ∀ s H C cl fp, g2 s H C cl fp = g := by intros; first | rfl | (dsimp only [Cx.blk]; done) | (dsimp only [Cx.blk]; rfl)) (hids : ∀ i ∈ ids, i ∈ own.map (·.2) := by decide) (hw0 : wipeG G (own.map (·.2)) = G := by rfl) (hw : ∀ x, wipeG (f x G) (own.map (·.2)) = G := by intro _; rfl) (hs : ∀ x, foldedSetIterable iter X.env x = pure x := by intro _; rfl) :
    LCJ X i y py (.ListComp elt [⟨tg, iter, [], 0⟩] scope pos) spos (tLc w g tYes te (own.map (·.2))) G (m1.bind fun xs => mapO xs me) :=
  lcj (pos := pos) x0 hcalm hN hy hyl hsw hi ok (fun s H C cl fp => by have h := hg s H C cl fp; rw [hgg] at h; exact h) (fun x s H C cl fp => by have h := he x s H C cl fp; rw [hme, hte] at h; exact h) hids hw0 hw hs
theorem lqjT [Rq α] [Rq β] {C} {m1 : Option (List α)} {f : α → List SV → List SV} {g2 : Shared → Hp → Addr → List (Str × Addr) → List Addr → TG} {ids : List Nat} {mc : α → Option Bool} {mc2 : α → Shared → Hp → Addr → List (Str × Addr) → List Addr → Option Bool} {tt2 : α → Shared → Hp → Addr → List (Str × Addr) → List Addr → TT} {me : α → Option β} {me2 : α → Shared → Hp → Addr → List (Str × Addr) → List Addr → Option β} {te2 : α → Shared → Hp → Addr → List (Str × Addr) → List Addr → TE} {i : Nat} {y : Str} {py spos : Pos} (x0 : α) (hcalm : X.calm = true) (hN : X.N.Nodup) (hy : X.N[i]? = some y) (hyl : X.env.scope.names.lookup y = some .local) (hsw : swapsWith (.ListComp elt [⟨tg, iter, [c], 0⟩] scope pos) (some (.Name y py)) spos.line X.env = pure true)
    (hi : IJ C X tg iter w G m1) (ok : BlkOk X.N X.env.scope scope own)
    (hg : ∀ (s : Shared) (H : Hp) (C : Addr) (cl : List (Str × Addr)) (fp : List Addr), GJ (X.blk s H scope (compEnvC scope cl C X.env) fp) tg (g2 s H C cl fp) f ids)
    (ht : ∀ (x : α) (s : Shared) (H : Hp) (C : Addr) (cl : List (Str × Addr)) (fp : List Addr), TJ (X.blk s H scope (compEnvC scope cl C X.env) fp) c (tt2 x s H C cl fp) (f x G) (mc2 x s H C cl fp))
    (he : ∀ (x : α) (s : Shared) (H : Hp) (C : Addr) (cl : List (Str × Addr)) (fp : List Addr), EJ (X.blk s H scope (compEnvC scope cl C X.env) fp) elt (te2 x s H C cl fp) (f x G) (me2 x s H C cl fp))
    (hmc : ∀ x s H C cl fp, mc2 x s H C cl fp = mc x := by intros; rfl) (htt : ∀ x s H C cl fp, tt2 x s H C cl fp = tt := by intros; first | rfl | (dsimp only [Cx.blk]; done) | (dsimp only [Cx.blk]; rfl)) (hme : ∀ x s H C cl fp, me2 x s H C cl fp = me x := by intros; rfl) (hte : ∀ x s H C cl fp, te2 x s H C cl fp = te := by intros; first | rfl | (dsimp only [Cx.blk]; done) | (dsimp only [Cx.blk]; rfl)) (hgg : ∀ s H C cl fp, g2 s H C cl fp = g := by intros; first | rfl | (dsimp only [Cx.blk]; done) | (dsimp only [Cx.blk]; rfl)) (hids : ∀ i ∈ ids, i ∈ own.map (·.2) := by decide) (hw0 : wipeG G (own.map (·.2)) = G := by rfl) (hw : ∀ x, wipeG (f x G) (own.map (·.2)) = G := by intro _; rfl) (hs : ∀ x, foldedSetIterable iter X.env x = pure x := by intro _; rfl) :
    LCJ X i y py (.ListComp elt [⟨tg, iter, [c], 0⟩] scope pos) spos (tLc w g tt te (own.map (·.2))) G (m1.bind fun xs => filO xs mc me) :=
  lcjT (pos := pos) x0 hcalm hN hy hyl hsw hi ok (fun s H C cl fp => by have h := hg s H C cl fp; rw [hgg] at h; exact h) (fun x s H C cl fp => by have h := ht x s H C cl fp; rw [hmc, htt] at h; exact h) (fun x s H C cl fp => by have h := he x s H C cl fp; rw [hme, hte] at h; exact h) hids hw0 hw hs
theorem oj_lqP [Rq α] [Rq β] {C} {m1 : Option (List α)} {f : α → List SV → List SV} {g2 : Shared → Hp → Addr → List (Str × Addr) → List Addr → TG} {ids : List Nat} {me : α → β} {me2 : α → Shared → Hp → Addr → List (Str × Addr) → List Addr → Option β} {te2 : α → Shared → Hp → Addr → List (Str × Addr) → List Addr → TE} (x0 : α) (hcalm : X.calm = true) (hN : X.N.Nodup) (hi : IJ C X tg iter w G m1) (ok : BlkOk X.N X.env.scope scope own)
    (hg : ∀ (s : Shared) (H : Hp) (C : Addr) (cl : List (Str × Addr)) (fp : List Addr), GJ (X.blk s H scope (compEnvC scope cl C X.env) fp) tg (g2 s H C cl fp) f ids)
    (he : ∀ (x : α) (s : Shared) (H : Hp) (C : Addr) (cl : List (Str × Addr)) (fp : List Addr), EJ (X.blk s H scope (compEnvC scope cl C X.env) fp) elt (te2 x s H C cl fp) (f x G) (me2 x s H C cl fp))
    (hme : ∀ x s H C cl fp, me2 x s H C cl fp = some (me x) := by intros; rfl) (hte : ∀ x s H C cl fp, te2 x s H C cl fp = te := by intros; first | rfl | (dsimp only [Cx.blk]; done) | (dsimp only [Cx.blk]; rfl)) (hgg : ∀ s H C cl fp, g2 s H C cl fp = g := by intros; first | rfl | (dsimp only [Cx.blk]; done) | (dsimp only [Cx.blk]; rfl)) (hids : ∀ i ∈ ids, i ∈ own.map (·.2) := by decide) (hw0 : wipeG G (own.map (·.2)) = G := by rfl) (hw : ∀ x, wipeG (f x G) (own.map (·.2)) = G := by intro _; rfl) (hs : ∀ x, foldedSetIterable iter X.env x = pure x := by intro _; rfl) :
    OJ X (.ListComp elt [⟨tg, iter, [], 0⟩] scope pos) (tLc w g tYes te (own.map (·.2))) G (m1.bind fun xs => some (xs.map me)) :=
  oj_lcP (pos := pos) x0 hcalm hN hi ok (fun s H C cl fp => by have h := hg s H C cl fp; rw [hgg] at h; exact h) (fun x s H C cl fp => by have h := he x s H C cl fp; rw [hme, hte] at h; exact h) hids hw0 hw hs
theorem oj_lqTP [Rq α] [Rq β] {C} {m1 : Option (List α)} {f : α → List SV → List SV} {g2 : Shared → Hp → Addr → List (Str × Addr) → List Addr → TG} {ids : List Nat} {mc : α → Bool} {mc2 : α → Shared → Hp → Addr → List (Str × Addr) → List Addr → Option Bool} {tt2 : α → Shared → Hp → Addr → List (Str × Addr) → List Addr → TT} {me : α → β} {me2 : α → Shared → Hp → Addr → List (Str × Addr) → List Addr → Option β} {te2 : α → Shared → Hp → Addr → List (Str × Addr) → List Addr → TE} (x0 : α) (hcalm : X.calm = true) (hN : X.N.Nodup) (hi : IJ C X tg iter w G m1) (ok : BlkOk X.N X.env.scope scope own)
    (hg : ∀ (s : Shared) (H : Hp) (C : Addr) (cl : List (Str × Addr)) (fp : List Addr), GJ (X.blk s H scope (compEnvC scope cl C X.env) fp) tg (g2 s H C cl fp) f ids)
    (ht : ∀ (x : α) (s : Shared) (H : Hp) (C : Addr) (cl : List (Str × Addr)) (fp : List Addr), TJ (X.blk s H scope (compEnvC scope cl C X.env) fp) c (tt2 x s H C cl fp) (f x G) (mc2 x s H C cl fp))
    (he : ∀ (x : α) (s : Shared) (H : Hp) (C : Addr) (cl : List (Str × Addr)) (fp : List Addr), EJ (X.blk s H scope (compEnvC scope cl C X.env) fp) elt (te2 x s H C cl fp) (f x G) (me2 x s H C cl fp))
    (hmc : ∀ x s H C cl fp, mc2 x s H C cl fp = some (mc x) := by intros; rfl) (htt : ∀ x s H C cl fp, tt2 x s H C cl fp = tt := by intros; first | rfl | (dsimp only [Cx.blk]; done) | (dsimp only [Cx.blk]; rfl)) (hme : ∀ x s H C cl fp, me2 x s H C cl fp = some (me x) := by intros; rfl) (hte : ∀ x s H C cl fp, te2 x s H C cl fp = te := by intros; first | rfl | (dsimp only [Cx.blk]; done) | (dsimp only [Cx.blk]; rfl)) (hgg : ∀ s H C cl fp, g2 s H C cl fp = g := by intros; first | rfl | (dsimp only [Cx.blk]; done) | (dsimp only [Cx.blk]; rfl)) (hids : ∀ i ∈ ids, i ∈ own.map (·.2) := by decide) (hw0 : wipeG G (own.map (·.2)) = G := by rfl) (hw : ∀ x, wipeG (f x G) (own.map (·.2)) = G := by intro _; rfl) (hs : ∀ x, foldedSetIterable iter X.env x = pure x := by intro _; rfl) :
    OJ X (.ListComp elt [⟨tg, iter, [c], 0⟩] scope pos) (tLc w g tt te (own.map (·.2))) G (m1.bind fun xs => some ((xs.filter mc).map me)) :=
  oj_lcTP (pos := pos) x0 hcalm hN hi ok (fun s H C cl fp => by have h := hg s H C cl fp; rw [hgg] at h; exact h) (fun x s H C cl fp => by have h := ht x s H C cl fp; rw [hmc, htt] at h; exact h) (fun x s H C cl fp => by have h := he x s H C cl fp; rw [hme, hte] at h; exact h) hids hw0 hw hs
theorem lqjP [Rq α] [Rq β] {C} {m1 : Option (List α)} {f : α → List SV → List SV} {g2 : Shared → Hp → Addr → List (Str × Addr) → List Addr → TG} {ids : List Nat} {me : α → β} {me2 : α → Shared → Hp → Addr → List (Str × Addr) → List Addr → Option β} {te2 : α → Shared → Hp → Addr → List (Str × Addr) → List Addr → TE} {i : Nat} {y : Str} {py spos : Pos} (x0 : α) (hcalm : X.calm = true) (hN : X.N.Nodup) (hy : X.N[i]? = some y) (hyl : X.env.scope.names.lookup y = some .local) (hsw : swapsWith (.ListComp elt [⟨tg, iter, [], 0⟩] scope pos) (some (.Name y py)) spos.line X.env = pure true)
    (hi : IJ C X tg iter w G m1) (ok : BlkOk X.N X.env.scope scope own)
    (hg : ∀ (s : Shared) (H : Hp) (C : Addr) (cl : List (Str × Addr)) (fp : List Addr), GJ (X.blk s H scope (compEnvC scope cl C X.env) fp) tg (g2 s H C cl fp) f ids)
    (he : ∀ (x : α) (s : Shared) (H : Hp) (C : Addr) (cl : List (Str × Addr)) (fp : List Addr), EJ (X.blk s H scope (compEnvC scope cl C X.env) fp) elt (te2 x s H C cl fp) (f x G) (me2 x s H C cl fp))
    (hme : ∀ x s H C cl fp, me2 x s H C cl fp = some (me x) := by intros; rfl) (hte : ∀ x s H C cl fp, te2 x s H C cl fp = te := by intros; first | rfl | (dsimp only [Cx.blk]; done) | (dsimp only [Cx.blk]; rfl)) (hgg : ∀ s H C cl fp, g2 s H C cl fp = g := by intros; first | rfl | (dsimp only [Cx.blk]; done) | (dsimp only [Cx.blk]; rfl)) (hids : ∀ i ∈ ids, i ∈ own.map (·.2) := by decide) (hw0 : wipeG G (own.map (·.2)) = G := by rfl) (hw : ∀ x, wipeG (f x G) (own.map (·.2)) = G := by intro _; rfl) (hs : ∀ x, foldedSetIterable iter X.env x = pure x := by intro _; rfl) :
    LCJ X i y py (.ListComp elt [⟨tg, iter, [], 0⟩] scope pos) spos (tLc w g tYes te (own.map (·.2))) G (m1.bind fun xs => some (xs.map me)) :=
  lcjP (pos := pos) x0 hcalm hN hy hyl hsw hi ok (fun s H C cl fp => by have h := hg s H C cl fp; rw [hgg] at h; exact h) (fun x s H C cl fp => by have h := he x s H C cl fp; rw [hme, hte] at h; exact h) hids hw0 hw hs
theorem lqjTP [Rq α] [Rq β] {C} {m1 : Option (List α)} {f : α → List SV → List SV} {g2 : Shared → Hp → Addr → List (Str × Addr) → List Addr → TG} {ids : List Nat} {mc : α → Bool} {mc2 : α → Shared → Hp → Addr → List (Str × Addr) → List Addr → Option Bool} {tt2 : α → Shared → Hp → Addr → List (Str × Addr) → List Addr → TT} {me : α → β} {me2 : α → Shared → Hp → Addr → List (Str × Addr) → List Addr → Option β} {te2 : α → Shared → Hp → Addr → List (Str × Addr) → List Addr → TE} {i : Nat} {y : Str} {py spos : Pos} (x0 : α) (hcalm : X.calm = true) (hN : X.N.Nodup) (hy : X.N[i]? = some y) (hyl : X.env.scope.names.lookup y = some .local) (hsw : swapsWith (.ListComp elt [⟨tg, iter, [c], 0⟩] scope pos) (some (.Name y py)) spos.line X.env = pure true)
    (hi : IJ C X tg iter w G m1) (ok : BlkOk X.N X.env.scope scope own)
    (hg : ∀ (s : Shared) (H : Hp) (C : Addr) (cl : List (Str × Addr)) (fp : List Addr), GJ (X.blk s H scope (compEnvC scope cl C X.env) fp) tg (g2 s H C cl fp) f ids)
    (ht : ∀ (x : α) (s : Shared) (H : Hp) (C : Addr) (cl : List (Str × Addr)) (fp : List Addr), TJ (X.blk s H scope (compEnvC scope cl C X.env) fp) c (tt2 x s H C cl fp) (f x G) (mc2 x s H C cl fp))
    (he : ∀ (x : α) (s : Shared) (H : Hp) (C : Addr) (cl : List (Str × Addr)) (fp : List Addr), EJ (X.blk s H scope (compEnvC scope cl C X.env) fp) elt (te2 x s H C cl fp) (f x G) (me2 x s H C cl fp))
    (hmc : ∀ x s H C cl fp, mc2 x s H C cl fp = some (mc x) := by intros; rfl) (htt : ∀ x s H C cl fp, tt2 x s H C cl fp = tt := by intros; first | rfl | (dsimp only [Cx.blk]; done) | (dsimp only [Cx.blk]; rfl)) (hme : ∀ x s H C cl fp, me2 x s H C cl fp = some (me x) := by intros; rfl) (hte : ∀ x s H C cl fp, te2 x s H C cl fp = te := by intros; first | rfl | (dsimp only [Cx.blk]; done) | (dsimp only [Cx.blk]; rfl)) (hgg : ∀ s H C cl fp, g2 s H C cl fp = g := by intros; first | rfl | (dsimp only [Cx.blk]; done) | (dsimp only [Cx.blk]; rfl)) (hids : ∀ i ∈ ids, i ∈ own.map (·.2) := by decide) (hw0 : wipeG G (own.map (·.2)) = G := by rfl) (hw : ∀ x, wipeG (f x G) (own.map (·.2)) = G := by intro _; rfl) (hs : ∀ x, foldedSetIterable iter X.env x = pure x := by intro _; rfl) :
    LCJ X i y py (.ListComp elt [⟨tg, iter, [c], 0⟩] scope pos) spos (tLc w g tt te (own.map (·.2))) G (m1.bind fun xs => some ((xs.filter mc).map me)) :=
  lcjTP (pos := pos) x0 hcalm hN hy hyl hsw hi ok (fun s H C cl fp => by have h := hg s H C cl fp; rw [hgg] at h; exact h) (fun x s H C cl fp => by have h := ht x s H C cl fp; rw [hmc, htt] at h; exact h) (fun x s H C cl fp => by have h := he x s H C cl fp; rw [hme, hte] at h; exact h) hids hw0 hw hs
end
end GM
namespace GM
open PySem PySem.Spec PyProof.Rows L2
/-! ### a list of just two, of unlike kinds -/
structure Ll (α β : Type) where
  a : α
  b : β
def repLl {α β : Type} [Rq α] [Rq β] (H : Hp) (x : Ll α β) (v : V) : Prop := ∃ q v1 v2, v = .ref q ∧ H q = some (.lst [v1, v2]) ∧ rq H x.a v1 ∧ rq H x.b v2
instance {α β : Type} [Rq α] [Rq β] : Rp (Ll α β) := ⟨repLl, fun {H H' x v} e h => by
  obtain ⟨a, v1, v2, h1, h2, h3, h4⟩ := h
  exact ⟨a, v1, v2, h1, e _ _ h2, Rq.mono e h3, Rq.mono e h4⟩, fun h => by
  obtain ⟨a, v1, v2, h1, h2, h3, h4⟩ := h
  rw [h1]; exact fun z => by cases z⟩
instance {α β : Type} [Inhabited α] [Inhabited β] : Inhabited (Ll α β) := ⟨⟨default, default⟩⟩
instance {α β : Type} [Rq α] [Rq β] : TyN (Ll α β) := ⟨"list", fun h => by obtain ⟨a, v1, v2, h1, h2, _⟩ := h; subst h1; exact .base (.lst h2)⟩
section
variable {X : Cx} {e a b c : Expr} {es : List Expr} {t ta tb tc te : TE} {tr : TA} {G : List SV} {α β γ τ ρ O S R : Type} {pos p : Pos} {n : Str} {rest : List Stmt} {u ts : TS} {P Px : Post O}
theorem sat_lst {B : Bk} {Hi H : Hp} {L : List SV} {s : L2.St} {p : Addr} {vs : List V} (h : SatG B Hi L s H) (hp : H p = none) : SatG B (upd Hi p (.lst vs)) L s (upd H p (.lst vs)) ∧ Same Hi (upd Hi p (.lst vs)) :=
  ⟨h.newF hp, same_new (same_none h.sub hp)⟩
theorem ej_ll [Rq α] [Rq β] {m : Option (α × β × Unit)} (h : AJ X [a, b] tr G m) : EJ X (.List [a, b] pos) (tLst tr) G (m.bind fun x => some (Ll.mk x.1 x.2.1)) := ⟨pe_lst h.pa, fun B Hi T tv s H Q z hx hl hs k => by
  obtain ⟨x, e1, e2⟩ := bind_some hx
  cases e2
  refine h.ev B Hi T tv s H _ x e1 hl hs fun vs Hi1 H1 s1 r1 => ?_
  obtain ⟨v1, us, rfl, h1, v2, us2, rfl, h2, h3⟩ := r1
  cases h3
  refine ⟨by show 2 ≤ sizeLine; decide, fun p hp => ?_⟩
  obtain ⟨s2, sm⟩ := sat_lst (vs := [v1, v2]) s1 hp
  exact k _ _ _ s2 ⟨p, v1, v2, rfl, upd_same, Rq.mono sm h1, Rq.mono sm h2⟩⟩
theorem ej_ll0 [Rq α] [Rq β] {m : Option (Ll α β)} {j} {p2 : Pos} (ha : EJ X a ta G m) : EJ X (.Subscript a (.Constant (.int 0) j p2) pos) (tOp (rIxL X.K) ta (tC (.int 0))) G (m.bind fun x => some x.a) :=
  ⟨pe_ix ix_list ha.pe pe_int (fun _ _ => rfl), fun B Hi T tv s H Q z hx hl hs k => by
    obtain ⟨x, e1, e2⟩ := bind_some hx
    cases e2
    refine ha.ev B Hi T tv s H _ x e1 hl hs fun v Hi1 H1 s1 r1 => ?_
    obtain ⟨q, v1, v2, h1, h2, h3, h4⟩ := r1
    exact ⟨q, [v1, v2], 0, v1, h1, rfl, SqL.of (s1.sub _ _ h2), atI_nat (j := 0) rfl, k v1 Hi1 H1 s1 h3⟩⟩
theorem ej_ll1 [Rq α] [Rq β] {m : Option (Ll α β)} {j} {p2 : Pos} (ha : EJ X a ta G m) : EJ X (.Subscript a (.Constant (.int 1) j p2) pos) (tOp (rIxL X.K) ta (tC (.int 1))) G (m.bind fun x => some x.b) :=
  ⟨pe_ix ix_list ha.pe pe_int (fun _ _ => rfl), fun B Hi T tv s H Q z hx hl hs k => by
    obtain ⟨x, e1, e2⟩ := bind_some hx
    cases e2
    refine ha.ev B Hi T tv s H _ x e1 hl hs fun v Hi1 H1 s1 r1 => ?_
    obtain ⟨q, v1, v2, h1, h2, h3, h4⟩ := r1
    exact ⟨q, [v1, v2], 1, v2, h1, rfl, SqL.of (s1.sub _ _ h2), atI_nat (j := 1) rfl, k v2 Hi1 H1 s1 h4⟩⟩
theorem gj_ll [Rq α] [Rq β] {g1 g2 : TG} {f1 : α → List SV → List SV} {f2 : β → List SV → List SV} {i1 i2 : List Nat} {k : Nat} (hc : X.calm = true) (h1 : GJ X a g1 f1 i1) (h2 : GJ X b g2 f2 i2)
    (hs1 : (assignEach [a, b] X.env).map (·.2) = assign a X.env :: (assignEach [b] X.env).map (·.2) := by rfl) (hs2 : (assignEach [b] X.env).map (·.2) = assign b X.env :: (assignEach [] X.env).map (·.2) := by rfl)
    (hn : (assignEach [a, b] X.env).length = 2 := by rfl) (hst : (assignEach [a, b] X.env).findIdx? (·.1) = none := by rfl) :
    GJ (α := Ll α β) X (.Tuple [a, b] k pos) (gLst X.K 2 (gCons g1 (gCons g2 gNil))) (fun x G => f2 x.b (f1 x.a G)) (i1 ++ i2) := ⟨pg_lst hc (pgs_cons h1.pg (pgs_cons h2.pg pgs_nil hs2) hs1) hn hst, fun B Hi T tv s H G v x Q hl hs r kk => by
  obtain ⟨q, v1, v2, e1, e2, r1, r2⟩ := r
  refine ⟨q, [v1, v2], e1, SqL.of (hs.sub _ _ e2), rfl, v1, [v2], rfl, ?_⟩
  refine h1.ev B Hi T tv s H G v1 x.a _ hl hs r1 fun s' s2 w1 => ⟨v2, [], rfl, ?_⟩
  refine h2.ev B Hi T tv s' H _ v2 x.b _ hl s2 r2 fun s'' s3 w2 => ⟨rfl, kk s'' s3 fun vs hv => ?_⟩
  rw [w2 vs fun i hi => hv i (List.mem_append_right _ hi), w1 vs fun i hi => hv i (List.mem_append_left _ hi)]⟩
end
end GM
namespace GM
open PySem PySem.Spec PyProof.Rows L2
section
variable {X : Cx} {e a b c : Expr} {es : List Expr} {t ta tb tc te : TE} {tr : TA} {G : List SV} {α β γ τ ρ O S R : Type} {pos p : Pos} {n : Str} {rest : List Stmt} {u ts : TS} {P Px : Post O} {tg : Expr}
/-! ### a tuple of two is walked -/
theorem ij_pair [Rq α] {m : Option (α × α)} (h : EJ X e t G m) : IJ C0 X tg e (iTup X.K t) G (m.bind fun x => some [x.1, x.2]) := ⟨pi_tup h.pe, fun B Hi T tv s H R xs hx hl hs k => by
  obtain ⟨x, e1, e2⟩ := bind_some hx
  cases e2
  refine h.ev B Hi T tv s H _ x e1 hl hs fun v Hi1 H1 s1 r1 => ?_
  obtain ⟨q, v1, v2, h1, h2, h3, h4⟩ := id r1
  subst h1
  refine ⟨q, rfl, ⟨_, SqT.of (s1.sub _ _ h2)⟩, k _ (fz x :: T) (some (.ref q) :: tv) Hi1 H1 (by simp [hl]) ⟨⟨_, rfl, r1⟩, s1⟩ (by show 2 ≤ sizeLine; decide) (fun G2 s2 Hi2 H2 z => z.2) fun F fv G2 s2 Hi2 H2 lf c z => ?_⟩
  obtain ⟨⟨v', e1', q', w1, w2, g1, g2, g3, g4⟩, z2⟩ := z.dropF lf
  cases e1'; cases g1
  have hq2 := SqT.of (K := X.K) (z2.sub _ _ g2)
  refine ⟨⟨_, hq2, Nat.le_refl _⟩, fun i y hi => ?_⟩
  have hi2 : ∃ w, [w1, w2][i]? = some w ∧ rq Hi2 y w := by
    match i, hi with
    | 0, hi => cases hi; exact ⟨w1, rfl, g3⟩
    | 1, hi => cases hi; exact ⟨w2, rfl, g4⟩
    | i + 2, hi => simp at hi
  obtain ⟨w, hw, rw1⟩ := hi2
  refine ⟨⟨_, w, hq2, hw⟩, fun v H3 yy => ?_⟩
  obtain ⟨y1, y2⟩ := yy
  subst y1
  have e3 := y2 _ hq2
  rw [hw] at e3
  cases e3
  exact ⟨Hi2, z, rw1⟩, fun _ => trivial⟩
/-! ### the first place of a number -/
def idxC (xs : List Int) (y : Int) : Option Int := (xs.findIdx? fun x => decide (x = y)).map fun j => ((j : Nat) : Int)
theorem flat_ints : ∀ xs : List Int, (xs.map V.int).all flatV = true
  | [] => rfl
  | _ :: xs => flat_ints xs
theorem ej_index {m1 : Option (List Int)} {m2 : Option Int} {apos cpos : Pos} (ha : LK X a ta G m1) (h : EJ X e t G m2)
    (hbase : attributeBase a "index" X.env (eval a X.env) = eval a X.env := by rfl)
    (hfew : ((backTo cpos (starEach [e] X.env)).all (fun x => !x.1) && (backToKw cpos (keywordEach [] X.env)).all (fun x => x.1.isSome) && decide ([e].length + ([] : List Keyword).length + (if ([] : List Keyword).isEmpty then 0 else 1) < 30)) = true := by rfl)
    (hline : (apos.endLine == cpos.line) = true := by rfl) (hst : starEach [e] X.env = (false, eval e X.env) :: starEach [] X.env := by rfl) (hplain : (backTo cpos (starEach [] X.env)).any (·.1) = false := by rfl) :
    EJ X (.Call (.Attribute a "index" apos) [e] [] cpos) (tBM X.K "list" (rIndex X.K) ta (tCons t tNil)) G (m1.bind fun x => m2.bind fun y => idxC x y) :=
  ⟨pe_bm PySem.F.plainAttrs_list PySem.F.slot_list_index PySem.F.type_list_index mt_index ha.pe (pa_cons h.pe pa_nil hst) hbase hfew hline hst hplain, fun B Hi T tv s H Q z hx hl hs k => by
    obtain ⟨x, e1, hx⟩ := bind_some hx
    obtain ⟨y, e2, e3⟩ := bind_some hx
    refine ha.ev B Hi T tv s H _ x e1 hl hs fun vx T' tv' Hi1 H1 l1 s1 r1 => ?_
    obtain ⟨_, q, vs, h1, h2, h3, h4⟩ := r1 Hi1 H1 s1
    refine ⟨by subst h1; exact .inl ⟨rfl, _, h2⟩, ?_⟩
    refine h.ev B Hi1 T' tv' s H1 _ y e2 l1 s1 fun v Hi2 H2 s2 r2 => ?_
    cases r2
    obtain ⟨s3, q', vs', g1, g2, g3, g4⟩ := r1 Hi2 H2 s2
    have e5 := paired_ints g4
    subst e5
    unfold idxC at e3
    cases hj : x.findIdx? (fun x => decide (x = y)) with
    | none => rw [hj] at e3; cases e3
    | some j =>
      rw [hj] at e3
      cases e3
      obtain ⟨hlt, hy, hno⟩ := List.findIdx?_eq_some_iff_getElem.mp hj
      refine ⟨q', x.map V.int, .int y, j, .int x[j], g1, rfl, g2, rfl, flat_ints _, by simp [hlt], ?_, fun mm z' hm hz => ?_, k _ Hi2 H2 s3 rfl⟩
      · have := of_decide_eq_true hy
        rw [this]
        show (y == y) = true
        exact beq_self_eq_true _
      · rw [List.getElem?_map] at hz
        cases hx : x[mm]? with
        | none => rw [hx] at hz; cases hz
        | some w =>
          rw [hx] at hz
          cases hz
          have h5 := hno mm hm
          have h6 : x[mm]'(by omega) = w := (List.getElem?_eq_some_iff.mp hx).2
          rw [h6] at h5
          show (w == y) = false
          simpa using h5⟩
/-! ### how many unlike ones -/
/-- each number once, as they first come -/
def ddL (xs : List Int) : List Int := PyProof.Rows.firstMet (fun i => xs.getD i 0) xs.length
theorem ddL_mem {xs : List Int} {k : Int} : k ∈ ddL xs ↔ k ∈ xs := by
  have h := PyProof.Rows.firstMet_any (fun i => xs.getD i 0) xs.length k
  have e : (List.range xs.length).map (fun i => xs.getD i 0) = xs := by
    refine List.ext_getElem (by rw [List.length_map, List.length_range]) fun i h1 h2 => ?_
    rw [List.getElem_map, List.getElem_range, List.getD_eq_getElem?_getD, List.getElem?_eq_getElem h2]; rfl
  rw [e] at h
  have key : ∀ l : List Int, l.any (· == k) = true ↔ k ∈ l := fun l => by
    rw [List.any_eq_true]
    constructor
    · rintro ⟨x, hx, e⟩
      rw [eq_of_beq e] at hx; exact hx
    · intro hk
      exact ⟨k, hk, beq_self_eq_true _⟩
  rw [← key, ← key]
  unfold ddL
  rw [h]
theorem ddL_nodup (xs : List Int) : (ddL xs).Nodup := by
  have key : ∀ (val : Nat → Int) (i : Nat), (PyProof.Rows.firstMet val i).Nodup := by
    intro val i
    induction i with
    | zero => exact .nil
    | succ i ih =>
      rw [PyProof.Rows.firstMet_succ]
      unfold step_dedup
      split
      · exact ih
      · rename_i h
        refine List.nodup_append.mpr ⟨ih, List.pairwise_singleton _ _, fun x hx y hy e => ?_⟩
        rw [List.mem_singleton.mp hy] at e
        exact h (List.any_eq_true.mpr ⟨x, hx, by rw [e]; exact beq_self_eq_true _⟩)
  exact key _ _
def lenSetC (xs : List Int) : Option Int := if xs.length ≤ 4000 then some (ddL xs).length else none
def tLenSetG (K : PySem.W.Frag) (ta : TE) : TE := fun σ H Q => ta σ H fun x H1 => ∃ (l : Addr) (ns : List Int), x = .ref l ∧ SqL K H1 l (ns.map V.int) ∧ ns.length ≤ 4000 ∧ Q (.int ((ddL ns).length : Nat)) H1
theorem pe_lenSetG {p2 q : Pos} (hg : Gl X "len") (hm : X.mg "len" = none) (hg2 : Gl X "set") (hm2 : X.mg "set" = none) (ha : PE X a ta) (hc : X.calm = true)
    (na : starEach [a] X.env = (false, eval a X.env) :: starEach [] X.env) : PE X (.Call (.Name "len" p) [.Call (.Name "set" p2) [a] [] q] [] pos) (tLenSetG X.K ta) := by
  refine ⟨fun pins s σ H Q I h => Call_ (ld_blt I hg hm boot_len (PyProof.Rows.callWith_builtin1 (PyProof.Rows.args_cons (Call_ (ld_blt I hg2 hm2 boot_set (PyProof.Rows.callWith_type1 (PyProof.Rows.args_cons (thn (ha.run pins s σ H _ I h) fun v s1 ⟨x, H1, I1, r1, q1⟩ => PyProof.Rows.args_nil ?_) na) na rfl))) rfl) rfl rfl))⟩
  obtain ⟨l, ns, rfl, hq, hl, q1⟩ := q1
  cases r1
  obtain ⟨its, rv, pl, hz⟩ := I1.list hq
  have hn : its.toArray.size = ns.length := by rw [List.size_toArray, ← rv.length, List.length_map]
  refine call_set_list (I1.ok.hd hc) pl.isList (by simpa using RZ.intsAre_vals rv) (by rw [hn]; unfold scanBound; omega) fun h' tk hS hk => PyProof.Rows.args_nil ?_
  rw [hn] at hS
  obtain ⟨o, es, ep, t, ho, hex, hd, _, _, _, hf, hsz⟩ := hS
  have le := PyProof.Rows.firstMet_length_le (fun i => ns.getD i 0) ns.length
  have I2 : Inv X pins σ H1 { s1 with heap := h', toks := tk } := I1.kept fun b o e => hk b o (Heap.lt_size e) e
  exact call_len_set ho hex hd hf (by rw [hsz] <;> omega) ⟨.int (ddL ns).length, H1, I2.tok _, ⟨_, by rw [hsz]; rfl⟩, q1⟩
theorem ej_lenSet {m : Option (List Int)} {p2 q : Pos} (hc : X.calm = true) (ha : LK X a ta G m) (hm : X.mg "len" = none) (hm2 : X.mg "set" = none) (hg : Gl X "len" := by rfl) (hg2 : Gl X "set" := by rfl) (na : starEach [a] X.env = (false, eval a X.env) :: starEach [] X.env := by rfl) :
    EJ X (.Call (.Name "len" p) [.Call (.Name "set" p2) [a] [] q] [] pos) (tLenSetG X.K ta) G (m.bind lenSetC) :=
  ⟨pe_lenSetG hg hm hg2 hm2 ha.pe hc na, fun B Hi T tv s H Q z hx hl hs k => by
    obtain ⟨x, e1, e2⟩ := bind_some hx
    refine ha.ev B Hi T tv s H _ x e1 hl hs fun vx T' tv' Hi1 H1 l1 s1 r1 => ?_
    obtain ⟨s2, l, vs, h1, h2, h3, h4⟩ := r1 Hi1 H1 s1
    rw [paired_ints h4] at h2
    unfold lenSetC at e2
    by_cases g : x.length ≤ 4000
    · rw [if_pos g] at e2
      cases e2
      exact ⟨l, x, h1, h2, g, k _ Hi1 H1 s2 rfl⟩
    · rw [if_neg g] at e2; cases e2⟩
/-! ### a call for its own sake -/
theorem bj_drop [Rq α] {m1 : Option α} {m2 : Option O} (h : EJ X e t G m1) (hr : BJ X rest u G m2 P) (hsw : swapsWith e none pos.line X.env = pure false := by rfl) :
    BJ X (.Expr e pos :: rest) (tSeq (tDrop t) u) G (m1.bind fun _ => m2) P :=
  ⟨pss_cons (ps_expr h.pe hsw) hr.ps, fun B Hi T tv s H D o hx hl hs k => by
    obtain ⟨y, e1, hx⟩ := bind_some hx
    exact h.ev B Hi T tv s H _ y e1 hl hs fun v Hi1 H1 s1 _ => hr.ev B Hi1 T tv s H1 D o hx hl s1 k⟩
end
section
variable {P : Program} {w : World} {K : PySem.W.Frag} {mg : Str → Option Value} {base : Heap} {x qual : Str} {st : Stmt} {f : Addr} {fd : FuncData} {N ps : List Str} {k : Nat} {τ : Type}
/-- a def that hands nothing back -/
theorem fun_U [RpL τ] {F : τ → Option Unit} (Fn : Fun K x qual st f fd) (S : FnScope N ps (defScope st)) (hn : RpL.n τ = ps.length)
    (body : ∀ (cdv : Value) (A : Around) (outer : List Env) (s : Shared) (H : Hp) (E : XK), Room k (A.deeper (envOfC qual (defScope st) s.heap.objs.size f cdv)) →
      ∀ z : τ, ∃ t m, BJ (cxOf CX0 P w K mg base N qual (defScope st) f cdv A outer s H E).nox (defBody st) t (gam N z) m PU ∧ m = F z)
    (hm : mg x = some (.ref f)) (hb : Binds K fd ps []) : CalB P w K mg base (k + 1) x (SpR F) := by
  refine ⟨f, fd, ps, Fn.ok S (fun vs H Q E h => ?_) (fun cdv A outer s H vs Q E hr h => ?_), hm, Fn.kp, hb⟩
  · obtain ⟨Ha, z, r, h1, h2, _⟩ := h
    rw [RpL.len h2, hn]
  · obtain ⟨Ha, z, r, h1, h2, h3, h4⟩ := h
    obtain ⟨t, m, b, e⟩ := body cdv A outer s H E hr z
    subst e
    have key : ∀ Hi H', SatG ⟨H, Ha⟩ Hi [] [] H' → Q .non H' := fun Hi H' q1 => by
      obtain ⟨g1, g2, g3, g4⟩ := q1
      exact h4 .non H' g2 rfl
    exact ⟨t, b.ps, b.ev ⟨H, Ha⟩ Ha [] [] (start N vs) H _ r h3 rfl (sat_start h1 h2) ⟨fun Hi H' q => key Hi H' q, fun s Hi H' q => key Hi H' q⟩⟩
end
end GM
/-! max(xs, default=d) of a list of ints -/
namespace GM.Mx
open PySem PySem.Spec PyProof.Rows
section
variable {prog : Program} {w : World} {A : Around} {I : Addr} {fp wr : List Addr} {n : Nat} {P : Nat → Value → Prop} {St : Nat → Heap → Prop}
theorem nm : (toString "max" ++ toString ".loop" : String) = "max.loop" := by decide
/-- the turns behind the first one, whatever keywords go along -/
theorem turns {R : Result → Shared → Prop} (W : Walks prog w A.in1 I fp wr n P St) (bt : Nat → Nat → Bool) (hcmp : CmpOf prog w A.in1 .Gt P bt) (S : Addr) (hSf : S ∉ fp) (kws : List (Str × Value)) :
    ∀ (k j : Nat) (s : Shared) (vb : Value) (c : Nat), n - (j + 1) = k → j + 1 ≤ n → St (j + 1) s.heap → P (argBest bt j) vb →
    s.heap.get? S = some { cls := .type "list", dict := none, data := .seq #[vb, vb] c, slots := #[] } →
    (∀ v h' tk, P (argBest bt (n - 1)) v → (∀ b o, b ∉ wr → b ≠ S → s.heap.get? b = some o → h'.get? b = some o) → R (.ok (.ret v)) { s with heap := h', toks := tk }) →
    codeAny (model prog w) A (.builtin "max.loop" ⟨[.ref I, .none, .ref S], kws⟩) R s := by
  have nw : S ∉ wr := fun h => hSf (W.sub _ h)
  intro k
  induction k with
  | zero =>
    intro j s vb c hk hj hst hb hS hR
    have hn : j + 1 = n := by omega
    refine codeAny_builtin F.entry_max_loop ?_
    rw [Around.under_plainId F.plain_max_loop _]
    show wpAny _ A.in1 (seqItems? (.ref S) >>= _) _ _ s
    refine wpAny_bind (wpAny_seqItems hS rfl ?_)
    show wpAny _ A.in1 (tryCatch (pyNext (.ref I)) _ >>= _) _ _ s
    refine wpAny_bind (wpAny_tryCatch (W.done s _ _ (hn ▸ hst) fun h' tk hk' => ?_))
    have hS' := hk' S _ nw hS
    show wpAny _ A.in1 (updateSeq S (fun _ => #[]) >>= _) _ _ _
    refine wpAny_bind (wpAny_updateSeq hS' rfl (wpAny_bind (wpAny_letGo (wpAny_pure ?_))))
    refine hR vb _ tk (by rw [← hn]; exact hb) fun b o h1 h2 e => (Heap.get?_update_other _ _ (Ne.symm h2)).trans (hk' b o h1 e)
  | succ k ih =>
    intro j s vb c hk hj hst hb hS hR
    have hlt : j + 1 < n := by omega
    refine codeAny_builtin F.entry_max_loop ?_
    rw [Around.under_plainId F.plain_max_loop _]
    show wpAny _ A.in1 (seqItems? (.ref S) >>= _) _ _ s
    refine wpAny_bind (wpAny_seqItems hS rfl ?_)
    show wpAny _ A.in1 (tryCatch (pyNext (.ref I)) _ >>= _) _ _ s
    refine wpAny_bind (wpAny_tryCatch (W.item (j + 1) s _ _ hlt hst fun v h' tk hP hst' hk' => ?_))
    have hS' := hk' S _ nw hS
    show wpAny _ A.in1 (tryCatch (holding [v, v] (richCompare .Gt v vb >>= _)) _ >>= _) _ _ _
    refine wpAny_bind (wpAny_tryCatch (wpAny_holding (wpAny_bind (hcmp (j + 1) (argBest bt j) v vb _ _ _ hP hb ?_))))
    refine wpAny_bind (wpAny_holding (wpAny_truthy_bool (wpAny_bind (wpAny_letGo (wpAny_pure ?_)))))
    cases q : bt (j + 1) (argBest bt j) with
    | true =>
      simp only [if_true]
      refine wpAny_bind (wpAny_updateSeq hS' rfl (wpAny_bind (wpAny_letGo ?_)))
      rw [nm]
      refine wpAny_pure ⟨plainId_quiet F.plain_max_loop _, ih (j + 1) _ v _ (by omega) hlt (W.frame _ _ _ hst' fun b hbf o e => (Heap.get?_update_other _ _ (fun h : S = b => hSf (by rw [h]; exact hbf))).trans e) (by simp only [argBest, q, if_true]; exact hP) (Heap.get?_update_self _ hS' rfl)
        fun v' h'' tk'' hP' hk'' => hR v' h'' tk'' hP' fun b o h1 h2 e => hk'' b o h1 h2 ((Heap.get?_update_other _ _ (Ne.symm h2)).trans (hk' b o h1 e))⟩
    | false =>
      simp only [Bool.false_eq_true, if_false]
      refine wpAny_bind (wpAny_letGo ?_)
      rw [nm]
      exact wpAny_pure ⟨plainId_quiet F.plain_max_loop _, ih (j + 1) _ vb c (by omega) hlt hst' (by simp only [argBest, q, Bool.false_eq_true, if_false]; exact hb) hS' fun v' h'' tk'' hP' hk'' => hR v' h'' tk'' hP' fun b o h1 h2 e => hk'' b o h1 h2 (hk' b o h1 e)⟩
/-- the loop from its first turn -/
theorem first {R : Result → Shared → Prop} (W : Walks prog w A.in1 I fp wr n P St) (bt : Nat → Nat → Bool) (hcmp : CmpOf prog w A.in1 .Gt P bt) (S : Addr) (hSf : S ∉ fp) (d : Value) {s : Shared} {c : Nat} (hst : St 0 s.heap)
    (hS : s.heap.get? S = some { cls := .type "list", dict := none, data := .seq #[] c, slots := #[] })
    (hR : ∀ v h' tk, (if n = 0 then v = d else P (argBest bt (n - 1)) v) → (∀ b o, b ∉ wr → b ≠ S → s.heap.get? b = some o → h'.get? b = some o) → R (.ok (.ret v)) { s with heap := h', toks := tk }) :
    codeAny (model prog w) A (.builtin "max.loop" ⟨[.ref I, .none, .ref S], [("default", d)]⟩) R s := by
  have nw : S ∉ wr := fun h => hSf (W.sub _ h)
  refine codeAny_builtin F.entry_max_loop ?_
  rw [Around.under_plainId F.plain_max_loop _]
  show wpAny _ A.in1 (seqItems? (.ref S) >>= _) _ _ s
  refine wpAny_bind (wpAny_seqItems hS rfl ?_)
  show wpAny _ A.in1 (tryCatch (pyNext (.ref I)) _ >>= _) _ _ s
  by_cases hn : n = 0
  · subst hn
    refine wpAny_bind (wpAny_tryCatch (W.done s _ _ hst fun h' tk hk' => ?_))
    show wpAny _ A.in1 (rule _ >>= _) _ _ _
    exact wpAny_bind (wpAny_rule (wpAny_pure (hR d h' tk (by rw [if_pos rfl]) fun b o h1 _ e => hk' b o h1 e)))
  · refine wpAny_bind (wpAny_tryCatch (W.item 0 s _ _ (by omega) hst fun v h' tk hP hst' hk' => ?_))
    have hS' := hk' S _ nw hS
    show wpAny _ A.in1 (updateSeq S (fun _ => #[v, v]) >>= _) _ _ _
    refine wpAny_bind (wpAny_updateSeq hS' rfl ?_)
    rw [nm]
    refine wpAny_pure ⟨plainId_quiet F.plain_max_loop _, turns W bt hcmp S hSf _ _ 0 _ v _ rfl (by omega) (W.frame _ _ _ hst' fun b hbf o e => (Heap.get?_update_other _ _ (fun h : S = b => hSf (by rw [h]; exact hbf))).trans e) hP (Heap.get?_update_self _ hS' rfl) fun v' h'' tk'' hP' hk'' =>
      hR v' h'' tk'' (by rw [if_neg hn]; exact hP') fun b o h1 h2 e => hk'' b o h1 h2 ((Heap.get?_update_other _ _ (Ne.symm h2)).trans (hk' b o h1 e))⟩
end
end GM.Mx
namespace GM
open PySem PySem.Spec PyProof.Rows L2
namespace Mx
section
variable {prog : Program} {w : World} {A : Around} {E : Value → Shared → Prop} {s : Shared} {l : Addr} {its : List Value} {ns : List Int} {Q : Value → Shared → Prop}
theorem argsD (a v : Value) : argsOk "max" ⟨[a], [(Str.ofString "default", v)]⟩ := by unfold argsOk; kernel_rfl
theorem raw (hh : A.handled = none) (hl : s.heap.IsList l its.toArray) (hi : IntsAre its ns) (d : Value)
    (h : ∀ v h' tk, (∀ b o, s.heap.get? b = some o → h'.get? b = some o) → (ns = [] → v = d) → (ns ≠ [] → ∃ M t', v = .int M t' ∧ M ∈ ns ∧ ∀ a ∈ ns, a ≤ M) → Q v { s with heap := h', toks := tk }) :
    wpAny (model prog w) A (call (.builtin "max") [.ref l] [(Str.ofString "default", d)]) Q E s := by
  obtain ⟨xs, e⟩ := hi.allInts.items
  have hn : numsOf (intItems xs).toList = ns := by rw [← e]; exact hi.numsOf
  rw [nums_intItems] at hn
  subst hn
  rw [e] at hl
  refine kmk_tree PySem.F.kind_max PySem.F.plain_max PySem.F.entry_max (argsD _ _) ?_
  show wpAny _ A.in1 (Builtin.Builtins.bindParams "max" ["key", "default"] 0 ⟨[], [(Str.ofString "default", d)]⟩ >>= _) _ _ s
  refine wpAny_bind (wpAny_of_eq (show Builtin.Builtins.bindParams "max" ["key", "default"] 0 ⟨[], [(Str.ofString "default", d)]⟩ = pure [none, some d] from rfl) ?_)
  refine wpAny_bind (wpAny_pure ?_)
  refine wpAny_bind (iter_intList hl fun s₂ e2 st hfp hlI => ?_)
  subst e2
  have W := Walks.list (prog := prog) (w := w) (A := A.in1) hh _ l hlI (intItems xs)
  refine wpAny_bind (wpAny_newObj_type ?_)
  have hSf : (s.heap.push { cls := .type "list_iterator", data := .fields #[.ref l, .int 0 0] }).objs.size ∉ [s.heap.objs.size, l] := fun hm => Nat.lt_irrefl _ (hfp _ hm)
  rw [nm]
  refine wpAny_pure ⟨plainId_quiet F.plain_max_loop _, first W _ (CmpOf.ints_gt (numAt xs) (fun _ _ => intItems_at)) _ hSf d (W.frame _ _ _ st fun b _ o e => Heap.get?_push_of_some _ e) (Heap.get?_push_size _ rfl) fun v h' tk hP hk => ?_⟩
  have hk2 : ∀ b o, s.heap.get? b = some o → h'.get? b = some o := old_kept fun b o hb e => hk b o hb (Nat.ne_of_lt (Heap.lt_size e)) (Heap.get?_push_of_some _ e)
  have sz : (intItems xs).size = xs.size := by simp [intItems]
  refine h v h' tk hk2 (fun e => ?_) fun hne => ?_
  · have : xs.size = 0 := by have := congrArg List.length e; simpa using this
    rw [if_pos (by rw [sz]; exact this)] at hP
    exact hP
  · have hpos : 0 < xs.size := by
      have := List.length_pos_iff.mpr hne
      simpa using this
    rw [if_neg (by rw [sz]; omega), sz] at hP
    obtain ⟨t, rfl⟩ := intItems_at hP
    obtain ⟨h1, h2⟩ := argBest_gt (numAt xs) (xs.size - 1)
    refine ⟨_, t, rfl, ?_, fun a ha => ?_⟩
    · rw [numAt_eq]; exact PySem.getD_mem (by rw [List.length_map, Array.length_toList]; omega)
    · obtain ⟨j, hj, rfl⟩ := mem_getD ha
      rw [List.length_map, Array.length_toList] at hj
      rw [← numAt_eq]; exact h2 j (by omega)
end
end Mx
section
variable {X : Cx} {e a b c : Expr} {es : List Expr} {t ta tb tc te : TE} {tr : TA} {G : List SV} {pos p : Pos}
def rMaxDf (K : PySem.W.Frag) : List V → List V → Hp → VK → Prop := fun vs zs H Q => ∃ (a : Addr) (ns : List Int) (d : Int), vs = [.ref a] ∧ zs = [.int d] ∧ SqL K H a (ns.map V.int) ∧ Q (.int ((maxL ns).getD d)) H
theorem cr_maxDf (hc : X.calm = true) : CallRK X (.builtin "max") [Str.ofString "default"] (rMaxDf X.K) := by
  intro pins s σ H xs zs us ws Q I rx rz h
  obtain ⟨a, ns, d, rfl, rfl, hs, q⟩ := h
  obtain ⟨its, rv, hl, _⟩ := I.list hs
  rw [Vals.ref1 rx]
  cases rz with
  | cons r0 rt =>
  cases rt
  obtain ⟨t0, rfl⟩ := r0
  refine Mx.raw (I.ok.hd hc) hl.isList rv.ints _ fun v h' tk hk h1 h2 => ?_
  cases ns with
  | nil =>
    rw [h1 rfl]
    exact ⟨.int d, H, I.kept hk, ⟨_, rfl⟩, q⟩
  | cons n ns =>
    obtain ⟨M, t', rfl, m1, m2⟩ := h2 (by simp)
    refine ⟨.int M, H, I.kept hk, ⟨_, rfl⟩, ?_⟩
    have e1 := foldmax ns n
    have : M = (maxL (n :: ns)).getD d := Int.le_antisymm (e1.2 _ m1) (m2 _ e1.1)
    rw [this]; exact q
theorem ej_maxD {m1 : Option (List Int)} {m2 : Option Int} {kp2 : Pos} {ed : Expr} {td : TE} (hc : X.calm = true) (ha : LK X a ta G m1) (hd : EJ X ed td G m2) (hm : X.mg "max" = none) (hg : Gl X "max" := by rfl) (hst : starEach [a] X.env = (false, eval a X.env) :: starEach [] X.env := by rfl)
    (he : backTo pos (starEach [a] X.env) = (false, eval a X.env) :: backTo pos (starEach [] X.env) := by rfl) (hpl : (backTo pos (starEach [a] X.env)).any (·.1) = false := by rfl)
    (hall : (backToKw pos (keywordEach [⟨some (Str.ofString "default"), ed, kp2⟩] X.env)).all (·.1.isSome) = true := by rfl) (hnone : (backToKw pos (keywordEach [⟨some (Str.ofString "default"), ed, kp2⟩] X.env)).any (·.1.isNone) = false := by rfl)
    (hks : (backToKw pos (keywordEach [⟨some (Str.ofString "default"), ed, kp2⟩] X.env)).filterMap (·.1) = [Str.ofString "default"] := by rfl) :
    EJ X (.Call (.Name "max" p) [a] [⟨some (Str.ofString "default"), ed, kp2⟩] pos) (tCKw (rMaxDf X.K) (tCons ta tNil) (tCons td tNil)) G (m1.bind fun x => m2.bind fun d => some ((maxL x).getD d)) :=
  ⟨pe_callBK (cr_maxDf hc) hg hm (by decide +kernel) (pa_cons ha.pe pa_nil hst) (pk_cons hd.pe pk_nil) (by decide) (by decide) he hpl hall hnone hks, fun B Hi T tv s H Q z hx hl hs k => by
    obtain ⟨x, e1, hx⟩ := bind_some hx
    obtain ⟨d, e2, e3⟩ := bind_some hx
    cases e3
    refine ha.ev B Hi T tv s H _ x e1 hl hs fun vx T' tv' Hi1 H1 l1 s1 r1 => ?_
    refine hd.ev B Hi1 T' tv' s H1 _ d e2 l1 s1 fun vd Hi2 H2 s2 r2 => ?_
    cases r2
    obtain ⟨s3, q, vs, h1, h2, h3, h4⟩ := r1 Hi2 H2 s2
    rw [paired_ints h4] at h2
    exact ⟨q, x, d, by rw [h1], rfl, h2, k _ Hi2 H2 s3 rfl⟩⟩
end
end GM
namespace GM
open PySem PySem.Spec PyProof.Rows L2
/-! ### dicts, whole numbers to anything -/
structure Dc (α : Type) where
  l : List (Int × α)
instance {α : Type} : Inhabited (Dc α) := ⟨⟨[]⟩⟩
instance {α : Type} [DecidableEq α] : DecidableEq (Dc α) := fun x y => if h : x.l = y.l then isTrue (by cases x; cases y; cases h; rfl) else isFalse (fun e => h (by rw [e]))
def dgetL {α : Type} (d : List (Int × α)) (k : Int) : Option α := (d.find? fun p => decide (p.1 = k)).map (·.2)
def dputL {α : Type} (d : List (Int × α)) (k : Int) (v : α) : List (Int × α) := if (d.any fun p => decide (p.1 = k)) = true then d.map (fun p => if p.1 = k then (p.1, v) else p) else d ++ [(k, v)]
def dget {α : Type} (d : Dc α) (k : Int) : Option α := dgetL d.l k
def dhas {α : Type} (d : Dc α) (k : Int) : Bool := (dget d k).isSome
def dputC {α : Type} (d : Dc α) (k : Int) (v : α) : Option (Dc α) := if d.l.length < sizeLine then some ⟨dputL d.l k v⟩ else none
def dsz {α : Type} (d : Dc α) : Int := d.l.length
def dkeys {α : Type} (d : Dc α) : List Int := d.l.map (·.1)
def dvals {α : Type} (d : Dc α) : List α := d.l.map (·.2)
def prD {α : Type} [Rq α] (H : Hp) (a : Int × α) (b : L2.Key × V) : Prop := b.1 = .inl a.1 ∧ rq H a.2 b.2
theorem prD_mono {α : Type} [Rq α] {H H' : Hp} (e : Same H H') : ∀ (a : Int × α) (b : L2.Key × V), prD H a b → prD H' a b := fun _ _ h => ⟨h.1, Rq.mono e h.2⟩
def isDc {α : Type} [Rq α] (d : Dc α) (H : Hp) (o : HO) : Prop := ∃ kvs, o = .dK kvs ∧ kvs.length ≤ sizeLine ∧ Paired (prD H) d.l kvs
theorem isDc_mono {α : Type} [Rq α] (d : Dc α) : ∀ H H' o, Same H H' → isDc d H o → isDc d H' o := fun _ _ _ e ⟨vs, h1, h2, h3⟩ => ⟨vs, h1, h2, Paired.mono h3 (prD_mono e)⟩
def odc {α : Type} [Rq α] (d : Dc α) : SV := ow1 (isDc d) (isDc_mono d)
def repDc {α : Type} [Rq α] (H : Hp) (d : Dc α) (v : V) : Prop := ∃ a kvs, v = .ref a ∧ H a = some (.dK kvs) ∧ kvs.length ≤ sizeLine ∧ Paired (prD H) d.l kvs
instance {α : Type} [Rq α] : Rp (Dc α) := ⟨repDc, fun {H H' x v} e h => by
  obtain ⟨a, vs, h1, h2, h3, h4⟩ := h
  exact ⟨a, vs, h1, e _ _ h2, h3, Paired.mono h4 (prD_mono e)⟩, fun h => by
  obtain ⟨a, vs, h1, h2, h3, h4⟩ := h
  rw [h1]; exact fun z => by cases z⟩
instance {α : Type} [Rq α] : TyN (Dc α) := ⟨"dict", fun h => by obtain ⟨a, vs, h1, h2, _⟩ := h; subst h1; exact .base (.dK h2)⟩
def dctH {α : Type} [Rq α] (Hi H : Hp) (d : Dc α) (v : V) : Prop := ∃ a kvs, v = .ref a ∧ H a = some (.dK kvs) ∧ kvs.length ≤ sizeLine ∧ Paired (prD Hi) d.l kvs
abbrev DJ {α : Type} [Rq α] (X : Cx) (e : Expr) (t : TE) (G : List SV) (m : Option (Dc α)) : Prop := SJ dctH X e t G m
section
variable {α : Type} [Rq α] {H : Hp}
theorem dget_rel {k : Int} : ∀ {d : List (Int × α)} {kvs : List (L2.Key × V)}, Paired (prD H) d kvs → match dgetL d k with | some x => ∃ v, valV kvs (.inl k) = some v ∧ rq H x v | none => valV kvs (.inl k) = none
  | _, _, .nil => rfl
  | p :: d, q :: kvs, .cons r t => by
    have ih := dget_rel (k := k) t
    by_cases e : p.1 = k
    · have h1 : dgetL (p :: d) k = some p.2 := by unfold dgetL; rw [List.find?_cons, decide_eq_true e]; rfl
      have h2 : q.1 = .inl k := by rw [r.1, e]
      rw [h1]
      exact ⟨q.2, valV_pos h2, r.2⟩
    · have h1 : dgetL (p :: d) k = dgetL d k := by unfold dgetL; rw [List.find?_cons, decide_eq_false e]
      have h2 : ¬ q.1 = .inl k := fun z => e (by rw [r.1] at z; exact Sum.inl.inj z)
      rw [h1, valV_neg h2]
      exact ih
theorem dget_iso {k : Int} {d : List (Int × α)} {kvs : List (L2.Key × V)} (h : Paired (prD H) d kvs) : (valV kvs (.inl k)).isSome = (dgetL d k).isSome := by
  have := dget_rel (k := k) h
  cases q : dgetL d k with
  | none => rw [q] at this; rw [this]; rfl
  | some x => rw [q] at this; obtain ⟨v, e, _⟩ := this; rw [e]; rfl
theorem dput_rel {k : Int} {x : α} {v : V} (r : rq H x v) : ∀ {d : List (Int × α)} {kvs : List (L2.Key × V)}, Paired (prD H) d kvs → Paired (prD H) (dputL d k x) (putK kvs (.inl k) v) := fun {d kvs} h => by
  have any : (d.any fun p => decide (p.1 = k)) = (kvs.any fun kv => decide (kv.1 = (.inl k : L2.Key))) := by
    induction h with
    | nil => rfl
    | cons q t ih =>
      rw [List.any_cons, List.any_cons, ih]
      congr 1
      exact dec_iff ⟨fun e => by rw [q.1, e], fun e => by rw [q.1] at e; exact Sum.inl.inj e⟩
  have mp : Paired (prD H) (d.map fun p => if p.1 = k then (p.1, x) else p) (kvs.map fun kv => if kv.1 = (.inl k : L2.Key) then (kv.1, v) else kv) := by
    clear any
    induction h with
    | nil => exact .nil
    | @cons p q d kvs pq t ih =>
      rw [List.map_cons, List.map_cons]
      refine .cons ?_ ih
      by_cases e : p.1 = k
      · rw [if_pos e, if_pos (by rw [pq.1, e])]; exact ⟨pq.1, r⟩
      · rw [if_neg e, if_neg (fun z => e (by rw [pq.1] at z; exact Sum.inl.inj z))]; exact pq
  unfold dputL putK
  rw [any]
  split
  · exact mp
  · exact Paired.snoc h ⟨rfl, r⟩
end
section
variable {X : Cx} {e a b c : Expr} {es : List Expr} {t ta tb tc td ty : TE} {tr : TA} {G : List SV} {α β γ τ ρ O S R : Type} {pos p : Pos} {n : Str} {rest : List Stmt} {u ts : TS} {P Px : Post O}
theorem dctH_of [Rq α] {Hi H : Hp} {d : Dc α} {v : V} (e : Same Hi H) (h : rq Hi d v) : dctH Hi H d v := by
  obtain ⟨a, vs, h1, h2, h3, h4⟩ := h
  exact ⟨a, vs, h1, e _ _ h2, h3, h4⟩
theorem dj_e [Rq α] {m : Option (Dc α)} (h : EJ X e t G m) : DJ X e t G m := ⟨h.pe, StJ.ofE (fun _ _ _ _ => dctH_of) h.ev⟩
theorem dj_n [Rq α] {d : Dc α} (i : Nat) (hi : G[i]? = some (odc d)) {n : Str} (hN : X.N[i]? = some n := by rfl) (hv : Vis X.env.scope n := by first | exact Or.inl rfl | exact Or.inr (Or.inl rfl) | exact Or.inr (Or.inr rfl))
    (hd : (n == ("__debug__" : Str)) = false := by decide) (hcd : (n == ("__classdict__" : Str)) = false := by decide) : DJ X (.Name n pos) (tVar i) G (some d) :=
  ⟨pe_var hN hv hd hcd, fun B Hi T tv s H Q y hx hl hs k => by
    cases hx
    obtain ⟨p, u0, h1, h2, h3, _, _⟩ := hs.ownT hl hi
    refine ⟨.ref p, h1, k _ T tv Hi H hl hs fun Hi2 H2 s2 => ⟨s2, ?_⟩⟩
    obtain ⟨p', u', g1, g2, ⟨kvs, rfl, g4, g5⟩, _, _⟩ := s2.ownT hl hi
    rw [h1] at g1
    cases g1
    exact ⟨p, kvs, rfl, g2, g4, g5⟩⟩
/-- a dict let go: it is not to change any more -/
theorem sat_thawDc [Rq α] {B : Bk} {Hi H : Hp} {L : List SV} {s : L2.St} {p : Addr} {d : Dc α} (h : SatG B Hi (odc d :: L) (some (.ref p) :: s) H) : ∃ Hi', SatG B Hi' L s H ∧ rq Hi' d (.ref p) := by
  obtain ⟨u, h1, ⟨vs, e, h2, h3⟩, hn, k⟩ := h.thaw
  subst e
  exact ⟨_, k, p, vs, rfl, upd_same, h2, Paired.mono h3 (prD_mono (same_new hn))⟩
theorem bj_thawD [Rq α] {d : Dc α} (i : Nat) {m : Option O} (h : BJ X rest u (G.set i (fz d)) m P) (hi : G[i]? = some (odc d) := by rfl) : BJ X rest u G m P := ⟨h.ps, fun B Hi T tv s H D o hx hl hs k => by
  obtain ⟨q, w, h1, h2, h3, h6, up⟩ := hs.ownT hl hi
  have z := hs.front (i := T.length + i) (by rw [get_app]; exact hi)
  rw [set_app, ← hl, get_app, h1] at z
  obtain ⟨Hi', s2, r⟩ := sat_thawDc z
  have s3 : SatG B Hi' (fz d :: (T ++ G.set i .un)) (some (.ref q) :: (tv ++ s)) H := ⟨⟨_, rfl, r⟩, s2⟩
  have s4 := s3.putT hl (i := i)
  rw [List.set_set] at s4
  have hsi : s.set i (some (.ref q)) = s := set_get_self _ _ _ h1
  rw [hsi] at s4
  exact h.ev B Hi' T tv s H D o hx hl s4 k⟩
/-- {} -/
theorem bj_newD [Rq α] {m2 : Dc α → Option O} (hN : X.N.Nodup) (i : Nat) (hr : ∀ d : Dc α, BJ X rest u (G.set i (odc d)) (m2 d) P) {p2 p3 : Pos}
    (hi : X.N[i]? = some n := by rfl) (hx : Loc X.env.scope n := by first | exact Or.inl rfl | exact Or.inr rfl) (hs : swapsWith (.Dict [] [] p3) (some (.Name n p2)) pos.line X.env = pure false := by rfl) (hf : X.fn n = true ∨ X.env.scope.names.lookup n = some .local := by first | exact .inl rfl | exact .inr rfl | assumption) :
    BJ X (.Assign [.Name n p2] (.Dict [] [] p3) pos :: rest) (tSeq (tAsg tDNewK (gName i)) u) G ((some (⟨[]⟩ : Dc α)).bind m2) P := ⟨pss_cons (ps_set hN hi hx pe_dnewK hs hf) (hr ⟨[]⟩).ps, fun B Hi T tv s H D o hx hl hs k => by
  obtain ⟨x, e1, e2⟩ := bind_some hx
  cases e1
  refine fun q hq => ?_
  have s1 := hs.newO (φ := isDc (⟨[]⟩ : Dc α)) (m := isDc_mono _) hq ⟨[], rfl, Nat.zero_le _, .nil⟩
  exact (hr _).ev B Hi T tv _ _ D o e2 hl (s1.putT hl) k⟩
/-- k in d, k not in d -/
theorem ev_din [Rq α] {m1 : Option Int} {m2 : Option (Dc α)} (ha : EvJ ta G m1) (hb : StJ dctH tb G m2) : EvJ (tDIn ta tb) G (m1.bind fun k => m2.bind fun d => some (dhas d k)) := fun B Hi T tv s H Q z hx hl hs kk => by
  obtain ⟨k, e1, hx⟩ := bind_some hx
  obtain ⟨d, e2, e3⟩ := bind_some hx
  cases e3
  refine ha B Hi T tv s H _ k e1 hl hs fun vx Hi1 H1 s1 r1 => ?_
  cases r1
  refine hb B Hi1 T tv s H1 _ d e2 hl s1 fun vy T' tv' Hi2 H2 l2 s2 r2 => ?_
  obtain ⟨s3, a, kvs, h1, h2, h3, h4⟩ := r2 Hi2 H2 s2
  exact ⟨a, _, h1, DGet.k (k := .inl k) h2, kk _ Hi2 H2 s3 (by rw [dget_iso h4]; rfl)⟩
theorem ev_dnotin [Rq α] {m1 : Option Int} {m2 : Option (Dc α)} (ha : EvJ ta G m1) (hb : StJ dctH tb G m2) : EvJ (tDNotIn ta tb) G (m1.bind fun k => m2.bind fun d => some (!dhas d k)) := fun B Hi T tv s H Q z hx hl hs kk => by
  obtain ⟨k, e1, hx⟩ := bind_some hx
  obtain ⟨d, e2, e3⟩ := bind_some hx
  cases e3
  refine ha B Hi T tv s H _ k e1 hl hs fun vx Hi1 H1 s1 r1 => ?_
  cases r1
  refine hb B Hi1 T tv s H1 _ d e2 hl s1 fun vy T' tv' Hi2 H2 l2 s2 r2 => ?_
  obtain ⟨s3, a, kvs, h1, h2, h3, h4⟩ := r2 Hi2 H2 s2
  exact ⟨a, _, h1, DGet.k (k := .inl k) h2, kk _ Hi2 H2 s3 (by rw [dget_iso h4]; rfl)⟩
theorem ej_din [Rq α] {m1 : Option Int} {m2 : Option (Dc α)} (hu : X.A.units + 64 < cLine) (ha : EJ X a ta G m1) (hb : DJ X b tb G m2) (hm : behindInMarks .In b = false := by with_unfolding_all rfl) :
    EJ X (.Compare a [.In] [b] pos) (tDIn ta tb) G (m1.bind fun k => m2.bind fun d => some (dhas d k)) := ⟨pe_cmp (pc_din (by omega) ha.pe hb.pe) hm, ev_din ha.ev hb.ev⟩
theorem ej_dnotin [Rq α] {m1 : Option Int} {m2 : Option (Dc α)} (hu : X.A.units + 64 < cLine) (ha : EJ X a ta G m1) (hb : DJ X b tb G m2) (hm : behindInMarks .NotIn b = false := by with_unfolding_all rfl) :
    EJ X (.Compare a [.NotIn] [b] pos) (tDNotIn ta tb) G (m1.bind fun k => m2.bind fun d => some (!dhas d k)) := ⟨pe_cmp (pc_dnotin (by omega) ha.pe hb.pe) hm, ev_dnotin ha.ev hb.ev⟩
theorem tj_din [Rq α] {m1 : Option Int} {m2 : Option (Dc α)} (hu : X.A.units + 64 < cLine) (ha : EJ X a ta G m1) (hb : DJ X b tb G m2) (hm : behindInMarks .In b = false := by with_unfolding_all rfl) :
    TJ X (.Compare a [.In] [b] pos) (tB (tDIn ta tb)) G (m1.bind fun k => m2.bind fun d => some (dhas d k)) := ⟨pt_cmp (pc_din (by omega) ha.pe hb.pe) hm, tv_b (ev_din ha.ev hb.ev)⟩
theorem tj_dnotin [Rq α] {m1 : Option Int} {m2 : Option (Dc α)} (hu : X.A.units + 64 < cLine) (ha : EJ X a ta G m1) (hb : DJ X b tb G m2) (hm : behindInMarks .NotIn b = false := by with_unfolding_all rfl) :
    TJ X (.Compare a [.NotIn] [b] pos) (tB (tDNotIn ta tb)) G (m1.bind fun k => m2.bind fun d => some (!dhas d k)) := ⟨pt_cmp (pc_dnotin (by omega) ha.pe hb.pe) hm, tv_b (ev_dnotin ha.ev hb.ev)⟩
/-- d[k] -/
theorem ej_dget [Rq α] {m1 : Option (Dc α)} {m2 : Option Int} (hu : X.A.units + 64 < cLine) (ha : DJ X a ta G m1) (hb : EJ X b tb G m2) (hs : NoSl b := by exact fun _ _ => rfl) : EJ X (.Subscript a b pos) (tDGet ta tb) G (m1.bind fun d => m2.bind fun k => dget d k) :=
  ⟨pe_dget (by omega) ha.pe hb.pe hs, fun B Hi T tv s H Q z hx hl hs kk => by
    obtain ⟨d, e1, hx⟩ := bind_some hx
    obtain ⟨k, e2, e3⟩ := bind_some hx
    refine ha.ev B Hi T tv s H _ d e1 hl hs fun vx T' tv' Hi1 H1 l1 s1 r1 => ?_
    refine hb.ev B Hi1 T' tv' s H1 _ k e2 l1 s1 fun vy Hi2 H2 s2 r2 => ?_
    cases r2
    obtain ⟨s3, a, kvs, h1, h2, h3, h4⟩ := r1 Hi2 H2 s2
    have q := dget_rel (k := k) h4
    have e3 : dgetL d.l k = some z := e3
    rw [e3] at q
    obtain ⟨v, g1, g2⟩ := q
    exact ⟨a, v, h1, g1 ▸ DGet.k (k := .inl k) h2, kk v Hi2 H2 s3 g2⟩⟩
/-- d.get(k, x) -/
theorem ej_dget2 [Rq α] {m1 : Option (Dc α)} {m2 : Option Int} {m3 : Option α} {apos cpos : Pos} (hu : X.A.units + 64 < cLine) (ha : DJ X a ta G m1) (hb : EJ X b tb G m2) (hc : EJ X c tc G m3)
    (m : M2 X a "get" apos b c cpos := by exact ⟨rfl, rfl, rfl, rfl⟩) : EJ X (.Call (.Attribute a "get" apos) [b, c] [] cpos) (tDGet2 ta tb tc) G (m1.bind fun d => m2.bind fun k => m3.bind fun x => some ((dget d k).getD x)) :=
  ⟨pe_dget2 (by omega) ha.pe hb.pe hc.pe m, fun B Hi T tv s H Q z hx hl hs kk => by
    obtain ⟨d, e1, hx⟩ := bind_some hx
    obtain ⟨k, e2, hx⟩ := bind_some hx
    obtain ⟨x, e3, e4⟩ := bind_some hx
    cases e4
    refine ha.ev B Hi T tv s H _ d e1 hl hs fun vx T' tv' Hi1 H1 l1 s1 r1 => ?_
    obtain ⟨_, q, kvs, h1, h2, _⟩ := r1 Hi1 H1 s1
    refine ⟨q, h1, .inl ⟨kvs, .inl h2⟩, ?_⟩
    refine hb.ev B Hi1 T' tv' s H1 _ k e2 l1 s1 fun vy Hi2 H2 s2 r2 => ?_
    cases r2
    refine hc.ev B Hi2 T' tv' s H2 _ x e3 l1 s2 fun vz Hi3 H3 s3 r3 => ?_
    obtain ⟨s4, q', kvs', g1, g2, g3, g4⟩ := r1 Hi3 H3 s3
    rw [h1] at g1
    cases g1
    refine ⟨_, DGet.k (k := .inl k) g2, kk _ Hi3 H3 s4 ?_⟩
    have w := dget_rel (k := k) g4
    unfold dget
    cases e5 : dgetL d.l k with
    | none => rw [e5] at w; rw [w]; exact r3
    | some y => rw [e5] at w; obtain ⟨v, f1, f2⟩ := w; rw [f1]; exact f2⟩
/-- d.get(k) -/
theorem ej_dget1 [Rp α] {m1 : Option (Dc α)} {m2 : Option Int} {apos cpos : Pos} (hu : X.A.units + 64 < cLine) (ha : DJ X a ta G m1) (hb : EJ X b tb G m2)
    (m : M1 X a "get" apos b cpos := by exact ⟨rfl, rfl, rfl, rfl⟩) : EJ X (.Call (.Attribute a "get" apos) [b] [] cpos) (tDGet1 ta tb) G (m1.bind fun d => m2.bind fun k => some (dget d k)) :=
  ⟨pe_dget1 (by omega) ha.pe hb.pe m, fun B Hi T tv s H Q z hx hl hs kk => by
    obtain ⟨d, e1, hx⟩ := bind_some hx
    obtain ⟨k, e2, e4⟩ := bind_some hx
    cases e4
    refine ha.ev B Hi T tv s H _ d e1 hl hs fun vx T' tv' Hi1 H1 l1 s1 r1 => ?_
    obtain ⟨_, q, kvs, h1, h2, _⟩ := r1 Hi1 H1 s1
    refine ⟨q, h1, .inl ⟨kvs, .inl h2⟩, ?_⟩
    refine hb.ev B Hi1 T' tv' s H1 _ k e2 l1 s1 fun vy Hi2 H2 s2 r2 => ?_
    cases r2
    obtain ⟨s4, q', kvs', g1, g2, g3, g4⟩ := r1 Hi2 H2 s2
    rw [h1] at g1
    cases g1
    refine ⟨_, DGet.k (k := .inl k) g2, kk _ Hi2 H2 s4 ?_⟩
    have w := dget_rel (k := k) g4
    unfold dget
    cases e5 : dgetL d.l k with
    | none => rw [e5] at w; rw [w]; rfl
    | some y => rw [e5] at w; obtain ⟨v, f1, f2⟩ := w; rw [f1]; exact f2⟩
/-- len(d) -/
theorem ej_dlen [Rq α] {m1 : Option (Dc α)} (ha : DJ X a ta G m1) (hm : X.mg "len" = none) (hg : Gl X "len" := by rfl) (he : starEach [a] X.env = (false, eval a X.env) :: starEach [] X.env := by rfl) :
    EJ X (.Call (.Name "len" p) [a] [] pos) (tCB (fun xs H Q => ∃ a kvs, xs = [V.ref a] ∧ H a = some (.dK kvs) ∧ Q (.int kvs.length) H) (tCons ta tNil)) G (m1.bind fun d => some (dsz d)) :=
  ⟨pe_callB call_lenD hg hm PySem.boot_len (pa_cons ha.pe pa_nil he) (by decide) (by decide) he rfl, ev_s1 (f := fun d : Dc α => some (dsz d)) (fun Hi H x v z Q sm h e k => by
    obtain ⟨q, vs, h1, h2, h3, h4⟩ := h
    cases e
    exact ⟨q, vs, by rw [h1], h2, k _ (by unfold dsz; rw [Paired.length h4]; rfl)⟩) ha.ev⟩
/-- d[k] = x, d our own -/
theorem bj_dput [Rq α] {d : Dc α} {m1 : Option α} {m2 : Option Int} {m3 : Dc α → Option O} (hu : X.A.units + 64 < cLine) (l : Nat) (h : EJ X e t G m1) (hix : EJ X b tb G m2) (hr : ∀ d', BJ X rest u (G.set l (odc d')) (m3 d') P) {p2 p3 : Pos} (hg : G[l]? = some (odc d) := by rfl)
    (hN : X.N[l]? = some n := by rfl) (hv : Vis X.env.scope n := by first | exact Or.inl rfl | exact Or.inr (Or.inl rfl) | exact Or.inr (Or.inr rfl)) (hd : (n == ("__debug__" : Str)) = false := by decide) (hcd : (n == ("__classdict__" : Str)) = false := by decide)
    (hs : swapsWith e (some (.Subscript (.Name n p2) b p3)) pos.line X.env = pure false := by rfl) :
    BJ X (.Assign [.Subscript (.Name n p2) b p3] e pos :: rest) (tSeq (sDPut (tVar l) tb t) u) G (m1.bind fun x => m2.bind fun k => (dputC d k x).bind m3) P :=
  ⟨pss_cons (ps_dput (by omega) (pe_var hN hv hd hcd) hix.pe h.pe hs) (hr ⟨[]⟩).ps, fun B Hi T tv s H D o hx hl hs kk => by
  obtain ⟨x, e1, hx⟩ := bind_some hx
  obtain ⟨k, e2, hx⟩ := bind_some hx
  obtain ⟨d', e3, e4⟩ := bind_some hx
  refine h.ev B Hi T tv s H _ x e1 hl hs fun v Hi1 H1 s1 r1 => ?_
  obtain ⟨q, w, h1, h2, h3, h6, up⟩ := s1.ownT hl hg
  refine ⟨.ref q, h1, ?_⟩
  refine hix.ev B Hi1 (fz x :: T) (some v :: tv) s H1 _ k e2 (by simp [hl]) ⟨⟨v, rfl, r1⟩, s1⟩ fun iv Hi2 H2 s2 r2 => ?_
  obtain ⟨⟨v', e5, r1'⟩, s2⟩ := s2
  cases e5
  cases r2
  obtain ⟨q', w', g1, g2, ⟨kvs, g3, g4, g5⟩, g6, up⟩ := s2.ownT hl hg
  rw [h1] at g1
  cases g1
  subst g3
  unfold dputC at e3
  by_cases hz : d.l.length < sizeLine
  · rw [if_pos hz] at e3
    cases e3
    rw [Paired.length g5] at hz
    refine ⟨q, _, rfl, DPut.k (k := .inl k) g2 hz, ?_⟩
    have s3 := up (.dK (putK kvs (.inl k) v)) (isDc (⟨dputL d.l k x⟩ : Dc α)) (isDc_mono _) ⟨_, rfl, Nat.le_trans (length_putK _ _ _) hz, dput_rel r1' g5⟩
    exact (hr _).ev B Hi2 T tv s _ D o e4 hl s3 kk
  · rw [if_neg hz] at e3; cases e3⟩
end
end GM
namespace GM
open PySem PySem.Spec PyProof.Rows L2
/-! ### what is our own, by parts -/
structure OT (α : Type) where
  φ : Hp → α → Addr → Hp → Prop
  m : ∀ H H' x p F, Same H H' → φ H x p F → φ H' x p F
def oo {α : Type} (d : OT α) (x : α) : SV := .ow (fun H p F => d.φ H x p F) (fun H H' p F => d.m H H' x p F)
/-- what it stands for when it is let go -/
class Th {α : Type} [Rq α] (d : OT α) : Prop where
  th : ∀ {H : Hp} {x : α} {p : Addr} {F : Hp}, (∀ a u, F a = some u → H a = none) → d.φ H x p F → rq (plus H F) x (.ref p)
/-- read as it stands: lists and dicts alone -/
class Wd {α : Type} [Rq α] (d : OT α) : Prop where
  wd : ∀ {Hi H : Hp} {x : α} {p : Addr} {F : Hp}, Same Hi H → Same F H → d.φ Hi x p F → rq (wide Hi H) x (.ref p)
theorem same_plus {H F : Hp} (n : ∀ a u, F a = some u → H a = none) : Same H (plus H F) := fun a o e => by
  cases z : F a with
  | none => rw [plus_none z]; exact e
  | some u => rw [n a u z] at e; cases e
def oL {α : Type} [Rq α] : OT (List α) := ⟨fun H xs p F => ∃ u, F = one p u ∧ isL xs H u, fun H H' x p F e ⟨u, h1, h2⟩ => ⟨u, h1, isL_mono x H H' u e h2⟩⟩
def oD {α : Type} [Rq α] : OT (Dc α) := ⟨fun H xs p F => ∃ u, F = one p u ∧ isDc xs H u, fun H H' x p F e ⟨u, h1, h2⟩ => ⟨u, h1, isDc_mono x H H' u e h2⟩⟩
theorem oo_oL {α : Type} [Rq α] (xs : List α) : oo oL xs = ol xs := rfl
theorem oo_oD {α : Type} [Rq α] (d : Dc α) : oo oD d = odc d := rfl
instance {α : Type} [Rq α] : Th (oL (α := α)) := ⟨fun {H x p F} n ⟨u, h1, vs, h2, h3, h4⟩ => by
  subst h1 h2
  exact ⟨p, vs, rfl, plus_some one_same, h3, Paired.mono h4 fun _ _ => Rq.mono (same_plus n)⟩⟩
instance {α : Type} [Rq α] : Th (oD (α := α)) := ⟨fun {H x p F} n ⟨u, h1, vs, h2, h3, h4⟩ => by
  subst h1 h2
  exact ⟨p, vs, rfl, plus_some one_same, h3, Paired.mono h4 (prD_mono (same_plus n))⟩⟩
theorem wide_dk {Hi H : Hp} {a : Addr} {vs : List (L2.Key × V)} (e : Same Hi H) (h : H a = some (.dK vs)) : wide Hi H a = some (.dK vs) := by
  cases q : Hi a with
  | some o => rw [wide_some q, ← e _ _ q, h]
  | none => unfold wide; rw [q, h]
instance {α : Type} [Rq α] : Wd (oL (α := α)) := ⟨fun {Hi H x p F} sm sf ⟨u, h1, vs, h2, h3, h4⟩ => by
  subst h1 h2
  exact ⟨p, vs, rfl, wide_lst sm (sf _ _ one_same), h3, Paired.mono h4 fun _ _ => Rq.mono wide_of⟩⟩
instance {α : Type} [Rq α] : Wd (oD (α := α)) := ⟨fun {Hi H x p F} sm sf ⟨u, h1, vs, h2, h3, h4⟩ => by
  subst h1 h2
  exact ⟨p, vs, rfl, wide_dk sm (sf _ _ one_same), h3, Paired.mono h4 (prD_mono wide_of)⟩⟩

/-! ### items that are ours, one behind another -/
def sepL {α : Type} (d : OT α) (H : Hp) : List α → List V → Hp → Prop
  | [], [], F => ∀ a, F a = none
  | x :: xs, v :: vs, F => ∃ p F1, v = .ref p ∧ Same F1 F ∧ d.φ H x p F1 ∧ sepL d H xs vs (minus F F1)
  | [], _ :: _, _ => False
  | _ :: _, [], _ => False
section
variable {α β : Type} {d : OT α} {H H' : Hp}
theorem sepL.len : ∀ {xs : List α} {vs : List V} {F : Hp}, sepL d H xs vs F → xs.length = vs.length
  | [], [], _, _ => rfl
  | x :: xs, v :: vs, F, ⟨p, F1, _, _, _, k⟩ => by rw [List.length_cons, List.length_cons, sepL.len k]
theorem sepL.mono (e : Same H H') : ∀ {xs : List α} {vs : List V} {F : Hp}, sepL d H xs vs F → sepL d H' xs vs F
  | [], [], _, h => h
  | x :: xs, v :: vs, F, ⟨p, F1, h1, h2, h3, k⟩ => ⟨p, F1, h1, h2, d.m _ _ _ _ _ e h3, sepL.mono e k⟩
theorem minus_same_of {F F1 : Hp} : Same (minus F F1) F := minus_sub
theorem sepL.snoc {x : α} {p : Addr} {F1 : Hp} : ∀ {xs : List α} {vs : List V} {F : Hp}, sepL d H xs vs (minus F F1) → Same F1 F → d.φ H x p F1 → sepL d H (xs ++ [x]) (vs ++ [.ref p]) F
  | [], [], F, h, sf, hx => ⟨p, F1, rfl, sf, hx, h⟩
  | y :: xs, v :: vs, F, ⟨q, G1, h1, h2, h3, k⟩, sf, hx => by
    refine ⟨q, G1, h1, h2.trans minus_sub, h3, sepL.snoc (F := minus F G1) ?_ (fun a u e => ?_) hx⟩
    · rw [minus_comm]; exact k
    · cases z : G1 a with
      | none => rw [minus_none z]; exact sf _ _ e
      | some w => have := h2 _ _ z; rw [minus_some e] at this; cases this
/-- the item at place i, and what may be put there -/
theorem sepL.at : ∀ {xs : List α} {vs : List V} {F : Hp} {i : Nat} {x : α}, sepL d H xs vs F → xs[i]? = some x → ∃ p Fi, vs[i]? = some (.ref p) ∧ Same Fi F ∧ d.φ H x p Fi ∧
    ∀ x' p' Fi' F', d.φ H x' p' Fi' → Same Fi' F' → minus F' Fi' = minus F Fi → sepL d H (xs.set i x') (vs.set i (.ref p')) F'
  | [], [], _, _, _, _, e => by simp at e
  | y :: xs, v :: vs, F, 0, x, ⟨q, G1, h1, h2, h3, k⟩, e => by
    simp at e; subst e
    subst h1
    exact ⟨q, G1, rfl, h2, h3, fun x' p' Fi' F' hx hs hm => ⟨p', Fi', rfl, hs, hx, by rw [hm]; exact k⟩⟩
  | y :: xs, v :: vs, F, i + 1, x, ⟨q, G1, h1, h2, h3, k⟩, e => by
    obtain ⟨p, Fi, g1, g2, g3, g4⟩ := sepL.at k (by simpa using e)
    refine ⟨p, Fi, by simpa using g1, g2.trans minus_sub, g3, fun x' p' Fi' F' hx hs hm => ?_⟩
    have dj : ∀ a w, G1 a = some w → Fi' a = none ∧ F' a = some w := fun a w z => by
      have n1 : Fi a = none := by
        cases y : Fi a with
        | none => rfl
        | some x => have := g2 _ _ y; rw [minus_some z] at this; cases this
      have n2 : minus F Fi a = some w := by rw [minus_none n1]; exact h2 _ _ z
      rw [← hm] at n2
      exact minus_is n2
    refine ⟨q, G1, h1, fun a w z => (dj a w z).2, h3, g4 x' p' Fi' (minus F' G1) hx (fun a u z => ?_) ?_⟩
    · cases y : G1 a with
      | none => rw [minus_none y]; exact hs _ _ z
      | some x => have := (dj a x y).1; rw [z] at this; cases this
    · rw [minus_comm, hm, minus_comm]
theorem sepL.paired {α : Type} [Rq α] {d : OT α} {Hw : Hp} : ∀ {xs : List α} {vs : List V} {F F0 : Hp}, sepL d H xs vs F → Same F F0 → (∀ x p Fi, Same Fi F0 → d.φ H x p Fi → rq Hw x (.ref p)) → Paired (rq Hw) xs vs
  | [], [], _, _, _, _, _ => .nil
  | x :: xs, v :: vs, F, F0, ⟨p, F1, h1, h2, h3, k⟩, sf, f => by
    subst h1
    exact .cons (f x p F1 (h2.trans sf) h3) (sepL.paired k (minus_sub.trans sf) f)
end
/-- our own list of our own things -/
def oLL {α : Type} (d : OT α) : OT (List α) := ⟨fun H xs p F => ∃ vs, F p = some (.lst vs) ∧ vs.length ≤ sizeLine ∧ sepL d H xs vs (del F p),
  fun H H' x p F e ⟨vs, h1, h2, h3⟩ => ⟨vs, h1, h2, sepL.mono e h3⟩⟩
theorem same_plus2 {H F F1 : Hp} (n : ∀ a u, F a = some u → H a = none) (s : Same F1 F) : Same (plus H F1) (plus H F) := fun a o e => by
  cases z : F1 a with
  | some u => rw [plus_some z] at e; cases e; exact plus_some (s _ _ z)
  | none =>
    rw [plus_none z] at e
    cases w : F a with
    | none => rw [plus_none w]; exact e
    | some y => rw [n a y w] at e; cases e
instance {α : Type} [Rq α] {d : OT α} [Th d] : Th (oLL d) := ⟨fun {H x p F} n ⟨vs, h1, h2, h3⟩ => by
  refine ⟨p, vs, rfl, plus_some h1, h2, h3.paired del_sub fun y q Fi sf hy => ?_⟩
  exact Rq.mono (same_plus2 n sf) (Th.th (fun a u e => n a u (sf _ _ e)) hy)⟩
instance {α : Type} [Rq α] {d : OT α} [Wd d] : Wd (oLL d) := ⟨fun {Hi H x p F} sm sf ⟨vs, h1, h2, h3⟩ => by
  refine ⟨p, vs, rfl, wide_lst sm (sf _ _ h1), h2, h3.paired (del_sub.trans sf) fun y q Fi sf' hy => ?_⟩
  exact Wd.wd sm sf' hy⟩
/-- our own list of just two of our own things -/
def oll2 {α β : Type} (d : OT α) (d' : OT β) : OT (Ll α β) := ⟨fun H x p F => ∃ q q' F1 F2, F p = some (.lst [.ref q, .ref q']) ∧ Same F1 (del F p) ∧ d.φ H x.a q F1 ∧ F2 = minus (del F p) F1 ∧ d'.φ H x.b q' F2,
  fun H H' x p F e ⟨q, q', F1, F2, h1, h2, h3, h4, h5⟩ => ⟨q, q', F1, F2, h1, h2, d.m _ _ _ _ _ e h3, h4, d'.m _ _ _ _ _ e h5⟩⟩
instance {α β : Type} [Rq α] [Rq β] {d : OT α} {d' : OT β} [Th d] [Th d'] : Th (oll2 d d') := ⟨fun {H x p F} n ⟨q, q', F1, F2, h1, h2, h3, h4, h5⟩ => by
  have s1 : Same F1 F := h2.trans del_sub
  have s2 : Same F2 F := by rw [h4]; exact minus_sub.trans del_sub
  exact ⟨p, _, _, rfl, plus_some h1, Rq.mono (same_plus2 n s1) (Th.th (fun a u e => n a u (s1 _ _ e)) h3), Rq.mono (same_plus2 n s2) (Th.th (fun a u e => n a u (s2 _ _ e)) h5)⟩⟩
instance {α β : Type} [Rq α] [Rq β] {d : OT α} {d' : OT β} [Wd d] [Wd d'] : Wd (oll2 d d') := ⟨fun {Hi H x p F} sm sf ⟨q, q', F1, F2, h1, h2, h3, h4, h5⟩ => by
  have s1 : Same F1 F := h2.trans del_sub
  have s2 : Same F2 F := by rw [h4]; exact minus_sub.trans del_sub
  exact ⟨p, _, _, rfl, wide_lst sm (sf _ _ h1), Wd.wd sm (s1.trans sf) h3, Wd.wd sm (s2.trans sf) h5⟩⟩
/-- a tuple of two of our own things -/
def ot2 {α β : Type} (d : OT α) (d' : OT β) : OT (α × β) := ⟨fun H x p F => ∃ q q' F1 F2, F p = some (.tup [.ref q, .ref q']) ∧ Same F1 (del F p) ∧ d.φ H x.1 q F1 ∧ F2 = minus (del F p) F1 ∧ d'.φ H x.2 q' F2,
  fun H H' x p F e ⟨q, q', F1, F2, h1, h2, h3, h4, h5⟩ => ⟨q, q', F1, F2, h1, h2, d.m _ _ _ _ _ e h3, h4, d'.m _ _ _ _ _ e h5⟩⟩
instance {α β : Type} [Rq α] [Rq β] {d : OT α} {d' : OT β} [Th d] [Th d'] : Th (ot2 d d') := ⟨fun {H x p F} n ⟨q, q', F1, F2, h1, h2, h3, h4, h5⟩ => by
  have s1 : Same F1 F := h2.trans del_sub
  have s2 : Same F2 F := by rw [h4]; exact minus_sub.trans del_sub
  exact ⟨p, _, _, rfl, plus_some h1, Rq.mono (same_plus2 n s1) (Th.th (fun a u e => n a u (s1 _ _ e)) h3), Rq.mono (same_plus2 n s2) (Th.th (fun a u e => n a u (s2 _ _ e)) h5)⟩⟩

/-! ### something new of our own -/
def QvJ {α : Type} (d : OT α) (t : TE) (G : List SV) (m : Option α) : Prop :=
  ∀ (B : Bk) (Hi : Hp) (T : List SV) (tv s : L2.St) (H : Hp) (Q : VK) (x : α), m = some x → tv.length = T.length → SatG B Hi (T ++ G) (tv ++ s) H →
    (∀ p Hi' H', SatG B Hi' (oo d x :: (T ++ G)) (some (.ref p) :: (tv ++ s)) H' → Q (.ref p) H') → t s H Q
structure QJ {α : Type} (d : OT α) (X : Cx) (e : Expr) (t : TE) (G : List SV) (m : Option α) : Prop where
  pe : PE X e t
  ev : QvJ d t G m
section
variable {X : Cx} {e a b c : Expr} {es : List Expr} {t ta tb tc td ty te : TE} {tr : TA} {G : List SV} {α β γ τ ρ O S R : Type} {pos p : Pos} {n : Str} {rest : List Stmt} {u ts : TS} {P Px : Post O} {d : OT α}
theorem qj_o [Rq α] {m : Option (List α)} (h : OJ X e t G m) : QJ oL X e t G m := ⟨h.pe, h.ev⟩
theorem oj_q [Rq α] {m : Option (List α)} (h : QJ oL X e t G m) : OJ X e t G m := ⟨h.pe, h.ev⟩
theorem sat_thawQ [Rq α] [Th d] {B : Bk} {Hi H : Hp} {L : List SV} {s : L2.St} {p : Addr} {x : α} (h : SatG B Hi (oo d x :: L) (some (.ref p) :: s) H) : ∃ Hi', SatG B Hi' L s H ∧ rq Hi' x (.ref p) := by
  obtain ⟨F, h1, h2, h3, h4⟩ := h.thawF
  exact ⟨_, h4, Th.th h3 h2⟩
theorem ej_q [Rq α] [Th d] {m : Option α} (h : QJ d X e t G m) : EJ X e t G m := ⟨h.pe, fun B Hi T tv s H Q x hx hl hs k =>
  h.ev B Hi T tv s H Q x hx hl hs fun p Hi' H' s' => by
    obtain ⟨Hi2, s2, r⟩ := sat_thawQ s'
    exact k _ Hi2 H' s2 r⟩
theorem bj_thawQ [Rq α] [Th d] {x : α} (i : Nat) {m : Option O} (h : BJ X rest u (G.set i (fz x)) m P) (hi : G[i]? = some (oo d x) := by rfl) : BJ X rest u G m P := ⟨h.ps, fun B Hi T tv s H D o hx hl hs k => by
  obtain ⟨q, F, h1, h2, h3, h6, up⟩ := hs.ownFT hl hi
  have z := hs.front (i := T.length + i) (by rw [get_app]; exact hi)
  rw [set_app, ← hl, get_app, h1] at z
  obtain ⟨Hi', s2, r⟩ := sat_thawQ z
  have s3 : SatG B Hi' (fz x :: (T ++ G.set i .un)) (some (.ref q) :: (tv ++ s)) H := ⟨⟨_, rfl, r⟩, s2⟩
  have s4 := s3.putT hl (i := i)
  rw [List.set_set] at s4
  have hsi : s.set i (some (.ref q)) = s := set_get_self _ _ _ h1
  rw [hsi] at s4
  exact h.ev B Hi' T tv s H D o hx hl s4 k⟩
/-- name = something new of our own -/
theorem bj_asgQ {m1 : Option α} {m2 : α → Option O} (hN : X.N.Nodup) (i : Nat) (h : QJ d X e t G m1) (x0 : α) (hr : ∀ x, BJ X rest u (G.set i (oo d x)) (m2 x) P) {p2 : Pos}
    (hi : X.N[i]? = some n := by rfl) (hx : Loc X.env.scope n := by first | exact Or.inl rfl | exact Or.inr rfl) (hs : swapsWith e (some (.Name n p2)) pos.line X.env = pure false := by rfl) (hf : X.fn n = true ∨ X.env.scope.names.lookup n = some .local := by first | exact .inl rfl | exact .inr rfl | assumption) :
    BJ X (.Assign [.Name n p2] e pos :: rest) (tSeq (tAsg t (gName i)) u) G (m1.bind m2) P := ⟨pss_cons (ps_set hN hi hx h.pe hs hf) (hr x0).ps, fun B Hi T tv s H D o hx hl hs k => by
  obtain ⟨x, e1, e2⟩ := bind_some hx
  refine h.ev B Hi T tv s H _ x e1 hl hs fun q Hi1 H1 s1 => ?_
  exact (hr x).ev B Hi1 T tv _ H1 D o e2 hl (s1.putT hl) k⟩
/-- our own thing is read: as it stands -/
theorem wj_q [Rq α] [Wd d] {x : α} (i : Nat) (hi : G[i]? = some (oo d x)) {n : Str} (hN : X.N[i]? = some n := by rfl) (hv : Vis X.env.scope n := by first | exact Or.inl rfl | exact Or.inr (Or.inl rfl) | exact Or.inr (Or.inr rfl))
    (hd : (n == ("__debug__" : Str)) = false := by decide) (hcd : (n == ("__classdict__" : Str)) = false := by decide) : WJ X (.Name n pos) (tVar i) G (some x) :=
  ⟨pe_var hN hv hd hcd, fun B Hi T tv s H Q y hx hl hs k => by
    cases hx
    obtain ⟨p, F, h1, h2, h3, _, _⟩ := hs.ownFT hl hi
    refine ⟨.ref p, h1, k _ T tv Hi H hl hs fun Hi2 H2 s2 => ⟨s2, ?_⟩⟩
    obtain ⟨p', F', g1, g2, g3, _, _⟩ := s2.ownFT hl hi
    rw [h1] at g1
    cases g1
    exact Wd.wd s2.sub g2 g3⟩
end
/-- the same, at a place and with parts that are told -/
def ex {α : Type} (d : OT α) (x : α) (p : Addr) (F : Hp) : SV := .ow (fun H q F' => q = p ∧ F' = F ∧ d.φ H x p F) (fun H H' q F' e ⟨h1, h2, h3⟩ => ⟨h1, h2, d.m _ _ _ _ _ e h3⟩)
theorem Wk.unpinZ {α : Type} {d : OT α} {x : α} {p : Addr} {F : Hp} {L L' : List SV} (w : Wk L L') : Wk (ex d x p F :: L) (oo d x :: L') := .imp (fun _ _ _ ⟨h1, h2, h3⟩ => by rw [h1, h2]; exact h3) w
/-- a part of what is pinned: by where it stands -/
def zR {α : Type} (F : Hp) (d : OT α) (Hi H : Hp) (x : α) (v : V) : Prop := Same F H ∧ ∃ q F1, v = .ref q ∧ Same F1 F ∧ d.φ Hi x q F1
abbrev ZJ {α : Type} (F : Hp) (d : OT α) (X : Cx) (e : Expr) (t : TE) (G : List SV) (m : Option α) : Prop := SJ (zR F d) X e t G m
section
variable {X : Cx} {e a b c : Expr} {es : List Expr} {t ta tb tc td ty te : TE} {tr : TA} {G : List SV} {α β γ τ ρ O S R : Type} {pos p : Pos} {n : Str} {rest : List Stmt} {u ts : TS} {P Px : Post O} {d : OT α} {d' : OT β} {F : Hp}
theorem bj_pinZ {x : α} (i : Nat) {m : Option O} (h : ∀ (q : Addr) (F : Hp), BJ X rest u (G.set i (ex d x q F)) m P) (hi : G[i]? = some (oo d x) := by rfl) : BJ X rest u G m P := ⟨(h 0 (fun _ => none)).ps, fun B Hi T tv s H D o hx hl hs k => by
  obtain ⟨q, F, h1, h2, h3, h4, up⟩ := hs.ownFT hl hi
  exact (h q F).ev B Hi T tv s H D o hx hl (up F (fun H q' F' => q' = q ∧ F' = F ∧ d.φ H x q F) (fun H H' q' F' e ⟨h1, h2, h3⟩ => ⟨h1, h2, d.m _ _ _ _ _ e h3⟩) H ⟨rfl, rfl, h3⟩ h2 rfl) k⟩
theorem zj_n {x : α} {q : Addr} (i : Nat) (hi : G[i]? = some (ex d x q F)) {n : Str} (hN : X.N[i]? = some n := by rfl) (hv : Vis X.env.scope n := by first | exact Or.inl rfl | exact Or.inr (Or.inl rfl) | exact Or.inr (Or.inr rfl))
    (hd : (n == ("__debug__" : Str)) = false := by decide) (hcd : (n == ("__classdict__" : Str)) = false := by decide) : ZJ F d X (.Name n pos) (tVar i) G (some x) :=
  ⟨pe_var hN hv hd hcd, fun B Hi T tv s H Q y hx hl hs k => by
    cases hx
    obtain ⟨p, F0, h1, h2, ⟨rfl, rfl, h3⟩, _, _⟩ := hs.ownFT hl hi
    refine ⟨.ref p, h1, k _ T tv Hi H hl hs fun Hi2 H2 s2 => ⟨s2, ?_⟩⟩
    obtain ⟨p', F', g1, g2, ⟨rfl, rfl, g3⟩, _, _⟩ := s2.ownFT hl hi
    exact ⟨g2, p', F', rfl, Same.refl _, g3⟩⟩
theorem zj_ix {m1 : Option (List α)} {m2 : Option Int} (ha : ZJ F (oLL d) X a ta G m1) (hb : EJ X b tb G m2) (hs : PlainIx b := by exact fun _ _ => rfl) : ZJ F d X (.Subscript a b pos) (tOp (rIxL X.K) ta tb) G (m1.bind fun x => m2.bind fun y => atI x y) :=
  ⟨pe_ix ix_list ha.pe hb.pe hs, fun B Hi T tv s H Q z hx hl hs k => by
    obtain ⟨xs, e1, hx⟩ := bind_some hx
    obtain ⟨i, e2, e3⟩ := bind_some hx
    refine ha.ev B Hi T tv s H _ xs e1 hl hs fun vx T' tv' Hi1 H1 l1 s1 r1 => ?_
    refine hb.ev B Hi1 T' tv' s H1 _ i e2 l1 s1 fun vi Hi2 H2 s2 r2 => ?_
    cases r2
    obtain ⟨s3, sf, q, F1, h1, h2, vs, h3, h4, h5⟩ := r1 Hi2 H2 s2
    subst h1
    have hlen := h5.len
    have e3' := e3
    unfold atI at e3'
    cases hj : ixN xs.length i with
    | none => rw [hj] at e3'; cases e3'
    | some j =>
      rw [hj] at e3'
      obtain ⟨p, Fi, g1, g2, g3, _⟩ := h5.at e3'
      have hv : atI vs i = some (.ref p) := by
        unfold atI
        rw [← hlen, hj]; exact g1
      refine ⟨q, vs, i, .ref p, rfl, rfl, SqL.of (sf _ _ (h2 _ _ h3)), hv, k (.ref p) T' tv' Hi2 H2 l1 s2 fun Hi3 H3 s4 => ?_⟩
      obtain ⟨s5, sf', q', F1', w1, w2, vs', w3, w4, w5⟩ := r1 Hi3 H3 s4
      cases w1
      have ev : vs' = vs := by
        have a1 := h2 _ _ h3
        have a2 := w2 _ _ w3
        rw [a1] at a2
        cases a2; rfl
      subst ev
      obtain ⟨p', Fi', y1, y2, y3, _⟩ := w5.at e3'
      rw [g1] at y1
      cases y1
      exact ⟨s5, sf', p, Fi', rfl, (y2.trans del_sub).trans w2, y3⟩⟩
theorem zj_ll0 {m : Option (Ll α β)} {j} {p2 : Pos} (ha : ZJ F (oll2 d d') X a ta G m) : ZJ F d X (.Subscript a (.Constant (.int 0) j p2) pos) (tOp (rIxL X.K) ta (tC (.int 0))) G (m.bind fun x => some x.a) :=
  ⟨pe_ix ix_list ha.pe pe_int (fun _ _ => rfl), fun B Hi T tv s H Q z hx hl hs k => by
    obtain ⟨x, e1, e2⟩ := bind_some hx
    cases e2
    refine ha.ev B Hi T tv s H _ x e1 hl hs fun v T' tv' Hi1 H1 l1 s1 r1 => ?_
    obtain ⟨s3, sf, q, F1, h1, h2, q1, q2, G1, G2, h3, h4, h5, h6, h7⟩ := r1 Hi1 H1 s1
    subst h1
    refine ⟨q, _, 0, .ref q1, rfl, rfl, SqL.of (sf _ _ (h2 _ _ h3)), atI_nat (j := 0) rfl, k _ T' tv' Hi1 H1 l1 s1 fun Hi3 H3 s4 => ?_⟩
    obtain ⟨s5, sf', q', F1', w1, w2, q1', q2', G1', G2', w3, w4, w5, w6, w7⟩ := r1 Hi3 H3 s4
    cases w1
    have a1 := h2 _ _ h3
    have a2 := w2 _ _ w3
    rw [a1] at a2
    cases a2
    exact ⟨s5, sf', q1, G1', rfl, (w4.trans del_sub).trans w2, w5⟩⟩
theorem zj_ll1 {m : Option (Ll α β)} {j} {p2 : Pos} (ha : ZJ F (oll2 d d') X a ta G m) : ZJ F d' X (.Subscript a (.Constant (.int 1) j p2) pos) (tOp (rIxL X.K) ta (tC (.int 1))) G (m.bind fun x => some x.b) :=
  ⟨pe_ix ix_list ha.pe pe_int (fun _ _ => rfl), fun B Hi T tv s H Q z hx hl hs k => by
    obtain ⟨x, e1, e2⟩ := bind_some hx
    cases e2
    refine ha.ev B Hi T tv s H _ x e1 hl hs fun v T' tv' Hi1 H1 l1 s1 r1 => ?_
    obtain ⟨s3, sf, q, F1, h1, h2, q1, q2, G1, G2, h3, h4, h5, h6, h7⟩ := r1 Hi1 H1 s1
    subst h1
    refine ⟨q, _, 1, .ref q2, rfl, rfl, SqL.of (sf _ _ (h2 _ _ h3)), atI_nat (j := 1) rfl, k _ T' tv' Hi1 H1 l1 s1 fun Hi3 H3 s4 => ?_⟩
    obtain ⟨s5, sf', q', F1', w1, w2, q1', q2', G1', G2', w3, w4, w5, w6, w7⟩ := r1 Hi3 H3 s4
    cases w1
    have a1 := h2 _ _ h3
    have a2 := w2 _ _ w3
    rw [a1] at a2
    cases a2
    exact ⟨s5, sf', q2, G2', rfl, by rw [w6]; exact (minus_sub.trans del_sub).trans w2, w7⟩⟩
theorem lj_z [Rq α] {m : Option (List α)} (h : ZJ F (oL (α := α)) X e t G m) : LJ X e t G m := ⟨h.pe, fun B Hi T tv s H Q x hx hl hs k =>
  h.ev B Hi T tv s H Q x hx hl hs fun v T' tv' Hi' H' l' s' r => k v T' tv' Hi' H' l' s' fun Hi2 H2 s2 => by
    obtain ⟨s3, sf, q, F1, h1, h2, u, h3, vs, h4, h5, h6⟩ := r Hi2 H2 s2
    subst h3 h4
    exact ⟨s3, q, vs, h1, sf _ _ (h2 _ _ one_same), h5, h6⟩⟩
theorem dj_z [Rq α] {m : Option (Dc α)} (h : ZJ F (oD (α := α)) X e t G m) : DJ X e t G m := ⟨h.pe, fun B Hi T tv s H Q x hx hl hs k =>
  h.ev B Hi T tv s H Q x hx hl hs fun v T' tv' Hi' H' l' s' r => k v T' tv' Hi' H' l' s' fun Hi2 H2 s2 => by
    obtain ⟨s3, sf, q, F1, h1, h2, u, h3, vs, h4, h5, h6⟩ := r Hi2 H2 s2
    subst h3 h4
    exact ⟨s3, q, vs, h1, sf _ _ (h2 _ _ one_same), h5, h6⟩⟩
theorem wj_z [Rq α] [Wd d] {m : Option α} (h : ZJ F d X e t G m) : WJ X e t G m := ⟨h.pe, fun B Hi T tv s H Q x hx hl hs k =>
  h.ev B Hi T tv s H Q x hx hl hs fun v T' tv' Hi' H' l' s' r => k v T' tv' Hi' H' l' s' fun Hi2 H2 s2 => by
    obtain ⟨s3, sf, q, F1, h1, h2, h3⟩ := r Hi2 H2 s2
    subst h1
    exact ⟨s3, Wd.wd s3.sub (h2.trans sf) h3⟩⟩
/-- whatever it holds: for its length alone -/
structure Any where
instance : Inhabited Any := ⟨⟨⟩⟩
instance : Rq Any := ⟨fun _ _ _ => True, fun _ _ => trivial⟩
theorem paired_any {H : Hp} : ∀ {xs : List α} {vs : List V}, xs.length = vs.length → Paired (rq H) (xs.map fun _ => (⟨⟩ : Any)) vs
  | [], [], _ => .nil
  | [], _ :: _, h => by simp at h
  | _ :: _, [], h => by simp at h
  | x :: xs, v :: vs, h => .cons trivial (paired_any (by simpa using h))
theorem lk_any [Rq α] {m : Option (List α)} (h : WJ X e t G m) : LK X e t G (m.bind fun xs => some (xs.map fun _ => (⟨⟩ : Any))) := ⟨h.pe, fun B Hi T tv s H Q x hx hl hs k => by
  obtain ⟨xs, e1, e2⟩ := bind_some hx
  cases e2
  refine h.ev B Hi T tv s H Q xs e1 hl hs fun v T' tv' Hi' H' l' s' r => k v T' tv' Hi' H' l' s' fun Hi2 H2 s2 => ?_
  obtain ⟨s3, a, vs, h1, h2, h3, h4⟩ := r Hi2 H2 s2
  exact ⟨s3, a, vs, h1, SqL.of (wide_sub s3.sub _ _ h2), h3, paired_any (Paired.length h4)⟩⟩
theorem any_bind {m : Option (List α)} {f : Nat → Option β} : ((m.bind fun xs => some (xs.map fun _ => (⟨⟩ : Any))).bind fun x => f x.length) = m.bind fun x => f x.length := by
  cases m with
  | none => rfl
  | some xs => show f (xs.map _).length = f xs.length; rw [List.length_map]
theorem ej_lenW [Rq α] {m1 : Option (List α)} (ha : WJ X a ta G m1) (hm : X.mg "len" = none) (hg : Gl X "len" := by rfl) (he : starEach [a] X.env = (false, eval a X.env) :: starEach [] X.env := by rfl) :
    EJ X (.Call (.Name "len" p) [a] [] pos) (tCB (fun xs H Q => ∃ p ys, xs = [.ref p] ∧ (SqL X.K H p ys ∨ SqT X.K H p ys) ∧ Q (.int ys.length) H) (tCons ta tNil)) G (m1.bind fun x => some (x.length : Int)) := by
  have h := ej_len (pos := pos) (p := p) (lk_any ha) hm hg he
  rw [any_bind (f := fun n => some (n : Int))] at h
  exact h
theorem ij_rngLW [Rq α] {m : Option (List α)} {tg : Expr} {p1 p2 p3 : Pos} (ha : WJ X a ta G m) (hm : X.mg "range" = none) (hml : X.mg "len" = none) (hg : Gl X "range" := by rfl) (hgl : Gl X "len" := by rfl) (hel : starEach [a] X.env = (false, eval a X.env) :: starEach [] X.env := by rfl)
    (na : starEach [.Call (.Name "len" p2) [a] [] p3] X.env = (false, eval (.Call (.Name "len" p2) [a] [] p3) X.env) :: starEach [] X.env := by rfl) (hs : starEach [.Call (.Name "len" p2) [a] [] p3] X.env = [(false, eval (.Call (.Name "len" p2) [a] [] p3) X.env)] := by rfl) :
    IJ C0 X tg (.Call (.Name "range" p1) [.Call (.Name "len" p2) [a] [] p3] [] pos) (iRng1 (tCons (tCB (fun xs H Q => ∃ p ys, xs = [.ref p] ∧ (SqL X.K H p ys ∨ SqT X.K H p ys) ∧ Q (.int ys.length) H) (tCons ta tNil)) tNil)) G (m.bind fun x => some (irange 0 x.length)) := by
  have h := ij_rngL (pos := pos) (tg := tg) (p1 := p1) (p2 := p2) (p3 := p3) (lk_any ha) hm hml hg hgl hel na hs
  rw [any_bind (f := fun n => some (irange 0 n))] at h
  exact h
/-- M[i][j] = e -/
def set2C {α : Type} (xss : List (List α)) (i j : Int) (x : α) : Option (List (List α)) := (atI xss i).bind fun row => (setC row j x).bind fun row => setC xss i row
theorem bj_set2 [Rq α] {xss : List (List α)} {q : Addr} {m1 : Option α} {m2 m3 : Option Int} {m4 : List (List α) → Option O} (l : Nat) (h : EJ X e t G m1) (ha : EJ X a ta G m2) (hb : EJ X b tb G m3) (hr : ∀ ys, BJ X rest u (G.set l (oo (oLL oL) ys)) (m4 ys) P) {p2 p3 p4 : Pos} (hg : G[l]? = some (ex (oLL oL) xss q F) := by rfl)
    (hN : X.N[l]? = some n := by rfl) (hv : Vis X.env.scope n := by first | exact Or.inl rfl | exact Or.inr (Or.inl rfl) | exact Or.inr (Or.inr rfl)) (hd : (n == ("__debug__" : Str)) = false := by decide) (hcd : (n == ("__classdict__" : Str)) = false := by decide)
    (hs : swapsWithSole [.Subscript (.Subscript (.Name n p2) a p3) b p4] e pos.line X.env = pure false := by rfl) (hw : swappedStores [.Subscript (.Subscript (.Name n p2) a p3) b p4] e X.env = pure none := by rfl) (h1 : (assignEach [.Subscript (.Subscript (.Name n p2) a p3) b p4] X.env).map (·.2) = [assign (.Subscript (.Subscript (.Name n p2) a p3) b p4) X.env] := by rfl)
    (hix : PlainIx a := by exact fun _ _ => rfl)
    (hset : ∀ v, assign (.Subscript (.Subscript (.Name n p2) a p3) b p4) X.env v = (do
      let ov ← holding [v] (eval (.Subscript (.Name n p2) a p3) X.env)
      let iv ← holding [v, ov] (eval b X.env)
      standAt p4
      holding [v, ov, iv] (setItem ov iv v)
      release [v, ov, iv] []) := by intro _; rfl) :
    BJ X (.Assign [.Subscript (.Subscript (.Name n p2) a p3) b p4] e pos :: rest) (tSeq (tAsg t (gSub (tOp (rIxL X.K) (tVar l) ta) tb rSetL)) u) G (m1.bind fun x => m2.bind fun i => m3.bind fun j => (set2C xss i j x).bind m4) P :=
  ⟨pss_cons (ps_asg h.pe (pg_sub (pe_ix ix_list (pe_var hN hv hd hcd) ha.pe hix) hb.pe set_list hset) hs hw h1) (hr []).ps, fun B Hi T tv s H D o hx hl hs k => by
  obtain ⟨x, e1, hx⟩ := bind_some hx
  obtain ⟨i, e2, hx⟩ := bind_some hx
  obtain ⟨j, e3, hx⟩ := bind_some hx
  obtain ⟨ys, e4, e5⟩ := bind_some hx
  obtain ⟨row, c1, e4⟩ := bind_some e4
  obtain ⟨row', c2, c3⟩ := bind_some e4
  refine h.ev B Hi T tv s H _ x e1 hl hs fun v Hi1 H1 s1 r1 => ?_
  obtain ⟨p, F0, h1, h2, ⟨rfl, rfl, h3⟩, _, _⟩ := s1.ownFT hl hg
  refine ⟨.ref p, h1, ?_⟩
  refine ha.ev B Hi1 (fz x :: T) (some v :: tv) s H1 _ i e2 (by simp [hl]) ⟨⟨v, rfl, r1⟩, s1⟩ fun iv Hi2 H2 s2 r2 => ?_
  cases r2
  obtain ⟨p', F', g1, g2, ⟨rfl, rfl, vs, g3, g4, g5⟩, _, _⟩ := s2.2.ownFT hl hg
  have hlen := g5.len
  have c1' := c1
  unfold atI at c1'
  cases hj : ixN xss.length i with
  | none => rw [hj] at c1'; cases c1'
  | some ii =>
  rw [hj] at c1'
  obtain ⟨pr, Fr, y1, y2, y3, y4⟩ := g5.at c1'
  have hv : atI vs i = some (.ref pr) := by
    unfold atI
    rw [← hlen, hj]; exact y1
  refine ⟨p', vs, i, .ref pr, rfl, rfl, SqL.of (g2 _ _ g3), hv, ?_⟩
  refine hb.ev B Hi2 (fz x :: T) (some v :: tv) s H2 _ j e3 (by simp [hl]) s2 fun jv Hi3 H3 s3 r3 => ?_
  cases r3
  obtain ⟨⟨v', e6, r1'⟩, s3⟩ := s3
  cases e6
  obtain ⟨p'', F'', w1, w2, ⟨rfl, rfl, vs', w3, w4, w5⟩, _, up⟩ := s3.ownFT hl hg
  have ev : vs' = vs := by rw [g3] at w3; cases w3; rfl
  subst ev
  obtain ⟨pr', Fr', z1, z2, z3, z4⟩ := w5.at c1'
  rw [y1] at z1
  cases z1
  obtain ⟨uo, rfl, us, rfl, f1, f2⟩ := z3
  obtain ⟨jj, k1, k2⟩ := setC_is c2
  subst k2
  obtain ⟨ii', k3, k4⟩ := setC_is c3
  rw [hj] at k3
  cases k3
  subst k4
  have hpr : H3 pr = some (.lst us) := w2 _ _ (del_sub _ _ (z2 _ _ one_same))
  refine ⟨pr, us, j, jj, rfl, rfl, hpr, by rw [← Paired.length f2]; exact k1, ?_⟩
  have nep : pr ≠ p'' := (del_some (z2 _ _ one_same)).1
  have s4 := up (upd F'' pr (.lst (us.set jj v))) (fun H p F => (oLL oL).φ H (xss.set ii (row.set jj x)) p F) (fun H H' p F => (oLL oL).m H H' _ p F) (upd H3 pr (.lst (us.set jj v))) ⟨vs'.set ii (.ref pr), by
      rw [upd_ne (Ne.symm nep), w3]
      have : vs'.set ii (.ref pr) = vs' := set_get_self _ _ _ y1
      rw [this], by rw [List.length_set]; exact w4, by
      refine z4 (row.set jj x) pr (one pr (.lst (us.set jj v))) _ ⟨_, rfl, us.set jj v, rfl, by rw [List.length_set]; exact f1, Paired.set r1' jj f2⟩ (fun a o e => ?_) ?_
      · obtain ⟨rfl, rfl⟩ := one_is e
        rw [del_ne nep, upd_same]
      · rw [minus_one, minus_one, del_comm, del_upd, del_comm]⟩ (fun a o e => by
      by_cases z : a = pr
      · rw [z, upd_same] at e
        rw [z, upd_same]; exact e
      · rw [upd_ne z] at e
        rw [upd_ne z]; exact w2 _ _ e) (by
      funext a
      by_cases z : a = pr
      · rw [z, minus_some (o := .lst (us.set jj v)) upd_same, minus_some (o := .lst us) (del_sub _ _ (z2 _ _ one_same))]
      · cases y : F'' a with
        | some w => rw [minus_some (o := w) (by rw [upd_ne z]; exact y), minus_some y]
        | none => rw [minus_none (by rw [upd_ne z]; exact y), minus_none y, upd_ne z])
  exact (hr _).ev B Hi3 T tv s _ D o e5 hl s4 k⟩
end
end GM
namespace GM
open PySem PySem.Spec PyProof.Rows L2
section
variable {X : Cx} {e a b c : Expr} {es : List Expr} {t ta tb tc td ty te : TE} {tr : TA} {G : List SV} {α β γ τ ρ O S R : Type} {pos p : Pos} {n : Str} {rest : List Stmt} {u ts : TS} {P Px : Post O} {d : OT α} {d' : OT β} {F : Hp}
/-! ### displays of our own things -/
theorem sat_two {B : Bk} {Hi H : Hp} {L : List SV} {s : L2.St} {p1 p2 q : Addr} {x : α} {y : β} {u : HO} (h : SatG B Hi (oo d' y :: oo d x :: L) (some (.ref p2) :: some (.ref p1) :: s) H) (hq : H q = none) :
    ∃ F F1, F q = some u ∧ Same F1 (del F q) ∧ d.φ Hi x p1 F1 ∧ d'.φ Hi y p2 (minus (del F q) F1) ∧ Same F (upd H q u) ∧ SatG B Hi L s (minus (upd H q u) F) := by
  obtain ⟨p2', F2, e2, sf2, h2, p1', F1, e1, sf1, h1, k⟩ := h
  cases e1; cases e2
  have n1 : F1 q = none := by
    cases z : F1 q with
    | none => rfl
    | some w => have := sf1 _ _ z; rw [(minus_is this).2.symm.symm] at hq; cases hq
  have n2 : F2 q = none := by
    cases z : F2 q with
    | none => rfl
    | some w => rw [sf2 _ _ z] at hq; cases hq
  have dj : ∀ a w, F1 a = some w → F2 a = none := fun a w z => (minus_is (sf1 _ _ z)).1
  refine ⟨upd (plus F2 F1) q u, F1, upd_same, fun a o e => ?_, h1, ?_, fun a o e => ?_, ?_⟩
  · have ne : a ≠ q := fun z => by rw [z, n1] at e; cases e
    rw [del_ne ne, upd_ne ne, plus_some e]
  · have : minus (del (upd (plus F2 F1) q u) q) F1 = F2 := by
      funext a
      cases z : F1 a with
      | some w => rw [minus_some z, dj a w z]
      | none =>
        rw [minus_none z, del_upd]
        by_cases ne : a = q
        · rw [ne, del_same, n2]
        · rw [del_ne ne, plus_none z]
    rw [this]; exact h2
  · by_cases ne : a = q
    · rw [ne, upd_same] at e; rw [ne, upd_same]; exact e
    · rw [upd_ne ne] at e
      rw [upd_ne ne]
      cases z : F1 a with
      | some w => rw [plus_some z] at e; cases e; exact minus_sub _ _ (sf1 _ _ z)
      | none => rw [plus_none z] at e; exact sf2 _ _ e
  · have : minus (upd H q u) (upd (plus F2 F1) q u) = minus (minus H F2) F1 := by
      funext a
      by_cases ne : a = q
      · rw [ne, minus_some (o := u) upd_same, minus_none n1, minus_none n2, hq]
      · cases z : F1 a with
        | some w => rw [minus_some (o := w) (by rw [upd_ne ne, plus_some z]), minus_some z]
        | none =>
          cases y : F2 a with
          | some w => rw [minus_some (o := w) (by rw [upd_ne ne, plus_none z]; exact y), minus_none z, minus_some y]
          | none => rw [minus_none (by rw [upd_ne ne, plus_none z]; exact y), minus_none z, minus_none y, upd_ne ne]
    rw [this]; exact k
theorem qj_ll2 {m1 : Option α} {m2 : Option β} (ha : QJ d X a ta G m1) (hb : QJ d' X b tb G m2) (he : starEach [a, b] X.env = (false, eval a X.env) :: starEach [b] X.env := by rfl) (he2 : starEach [b] X.env = (false, eval b X.env) :: starEach [] X.env := by rfl) :
    QJ (oll2 d d') X (.List [a, b] pos) (tLst (tCons ta (tCons tb tNil))) G (m1.bind fun x => m2.bind fun y => some (Ll.mk x y)) :=
  ⟨pe_lst (pa_cons ha.pe (pa_cons hb.pe pa_nil he2) he), fun B Hi T tv s H Q z hx hl hs k => by
  obtain ⟨x, e1, hx⟩ := bind_some hx
  obtain ⟨y, e2, e3⟩ := bind_some hx
  cases e3
  refine ha.ev B Hi T tv s H _ x e1 hl hs fun p1 Hi1 H1 s1 => ?_
  refine hb.ev B Hi1 (oo d x :: T) (some (.ref p1) :: tv) s H1 _ y e2 (by simp [hl]) s1 fun p2 Hi2 H2 s2 => ?_
  refine ⟨by show 2 ≤ sizeLine; decide, fun q hq => ?_⟩
  obtain ⟨F, F1, f1, f2, f3, f4, f5, f6⟩ := sat_two (u := .lst [.ref p1, .ref p2]) s2 hq
  exact k q Hi2 _ ⟨q, F, rfl, f5, ⟨p1, p2, F1, _, f1, f2, f3, rfl, f4⟩, f6⟩⟩
theorem qj_t2 {m1 : Option α} {m2 : Option β} {x1} (ha : QJ d X a ta G m1) (hb : QJ d' X b tb G m2) (he : starEach [a, b] X.env = (false, eval a X.env) :: starEach [b] X.env := by rfl) (he2 : starEach [b] X.env = (false, eval b X.env) :: starEach [] X.env := by rfl) :
    QJ (ot2 d d') X (.Tuple [a, b] x1 pos) (tTup (tCons ta (tCons tb tNil))) G (m1.bind fun x => m2.bind fun y => some (x, y)) :=
  ⟨pe_tup (pa_cons ha.pe (pa_cons hb.pe pa_nil he2) he), fun B Hi T tv s H Q z hx hl hs k => by
  obtain ⟨x, e1, hx⟩ := bind_some hx
  obtain ⟨y, e2, e3⟩ := bind_some hx
  cases e3
  refine ha.ev B Hi T tv s H _ x e1 hl hs fun p1 Hi1 H1 s1 => ?_
  refine hb.ev B Hi1 (oo d x :: T) (some (.ref p1) :: tv) s H1 _ y e2 (by simp [hl]) s1 fun p2 Hi2 H2 s2 => ?_
  refine ⟨by show 2 ≤ sizeLine; decide, fun q hq => ?_⟩
  obtain ⟨F, F1, f1, f2, f3, f4, f5, f6⟩ := sat_two (u := .tup [.ref p1, .ref p2]) s2 hq
  exact k q Hi2 _ ⟨q, F, rfl, f5, ⟨p1, p2, F1, _, f1, f2, f3, rfl, f4⟩, f6⟩⟩
/-- f(..)[0] of a new tuple of our own things -/
theorem qj_fst {m : Option (α × β)} {j} {p2 : Pos} (ha : QJ (ot2 d d') X a ta G m) : QJ d X (.Subscript a (.Constant (.int 0) j p2) pos) (tOp (rIxT X.K) ta (tC (.int 0))) G (m.bind fun x => some x.1) :=
  ⟨pe_ix ix_tup ha.pe pe_int (fun _ _ => rfl), fun B Hi T tv s H Q z hx hl hs k => by
    obtain ⟨x, e1, e2⟩ := bind_some hx
    cases e2
    refine ha.ev B Hi T tv s H _ x e1 hl hs fun q Hi1 H1 s1 => ?_
    obtain ⟨q', F, e3, sf, ⟨q1, q2, F1, F2, h1, h2, h3, h4, h5⟩, r⟩ := s1
    cases e3
    refine ⟨q, [.ref q1, .ref q2], 0, .ref q1, rfl, rfl, SqT.of (sf _ _ h1), atI_nat (j := 0) rfl, k q1 Hi1 H1 ⟨q1, F1, rfl, (h2.trans del_sub).trans sf, h3, ?_⟩⟩
    have up : Same (minus H1 F) (minus H1 F1) := fun a o e => by
      obtain ⟨g1, g2⟩ := minus_is e
      cases z : F1 a with
      | none => rw [minus_none z]; exact g2
      | some w => rw [del_sub _ _ (h2 _ _ z)] at g1; cases g1
    exact SatG.up (L := T ++ G) (s := tv ++ s) r up⟩
theorem qj_snd {m : Option (α × β)} {j} {p2 : Pos} (ha : QJ (ot2 d d') X a ta G m) : QJ d' X (.Subscript a (.Constant (.int 1) j p2) pos) (tOp (rIxT X.K) ta (tC (.int 1))) G (m.bind fun x => some x.2) :=
  ⟨pe_ix ix_tup ha.pe pe_int (fun _ _ => rfl), fun B Hi T tv s H Q z hx hl hs k => by
    obtain ⟨x, e1, e2⟩ := bind_some hx
    cases e2
    refine ha.ev B Hi T tv s H _ x e1 hl hs fun q Hi1 H1 s1 => ?_
    obtain ⟨q', F, e3, sf, ⟨q1, q2, F1, F2, h1, h2, h3, h4, h5⟩, r⟩ := s1
    cases e3
    subst h4
    refine ⟨q, [.ref q1, .ref q2], 1, .ref q2, rfl, rfl, SqT.of (sf _ _ h1), atI_nat (j := 1) rfl, k q2 Hi1 H1 ⟨q2, minus (del F q) F1, rfl, (minus_sub.trans del_sub).trans sf, h5, ?_⟩⟩
    have up : Same (minus H1 F) (minus H1 (minus (del F q) F1)) := fun a o e => by
      obtain ⟨g1, g2⟩ := minus_is e
      cases z : minus (del F q) F1 a with
      | none => rw [minus_none z]; exact g2
      | some w => rw [del_sub _ _ (minus_sub _ _ z)] at g1; cases g1
    exact SatG.up (L := T ++ G) (s := tv ++ s) r up⟩
/-! ### comprehensions of our own things -/
variable {elt tg iter : Expr} {ifs : List Expr} {scope : Scope} {own : List (Str × Nat)} {w : TI} {g : TG} {tt : TT}
theorem sat_snoc {B : Bk} {Hi H : Hp} {L : List SV} {s : L2.St} {pq D : Addr} {y : α} {done : List α} {acc : List V} (h : SatG B Hi (oo d y :: oo (oLL d) done :: L) (some (.ref pq) :: some (.ref D) :: s) H) (hD : H D = some (.lst acc)) (hlen : acc.length < sizeLine) :
    SatG B Hi (oo (oLL d) (done ++ [y]) :: L) (some (.ref D) :: s) (upd H D (.lst (acc ++ [.ref pq]))) := by
  obtain ⟨p1, Fy, e1, sy, hy, p2, FD, e2, sD, ⟨vs, g1, g2, g3⟩, k⟩ := h
  cases e1; cases e2
  have nD : Fy D = none := (minus_is (sD _ _ g1)).1
  have ev : vs = acc := by
    have := minus_sub _ _ (sD _ _ g1)
    rw [hD] at this
    cases this; rfl
  subst ev
  have dj : ∀ a w, Fy a = some w → FD a = none := fun a w z => by
    cases y : FD a with
    | none => rfl
    | some v => have := (minus_is (sD _ _ y)).1; rw [z] at this; cases this
  refine ⟨D, plus (upd FD D (.lst (vs ++ [.ref pq]))) Fy, rfl, fun a o e => ?_, ⟨vs ++ [.ref pq], ?_, by rw [List.length_append]; exact hlen, ?_⟩, ?_⟩
  · cases z : Fy a with
    | some v =>
      rw [plus_some z] at e
      cases e
      have ne : a ≠ D := fun q => by rw [q, nD] at z; cases z
      rw [upd_ne ne]; exact sy _ _ z
    | none =>
      rw [plus_none z] at e
      by_cases ne : a = D
      · rw [ne, upd_same] at e; rw [ne, upd_same]; exact e
      · rw [upd_ne ne] at e; rw [upd_ne ne]; exact minus_sub _ _ (sD _ _ e)
  · rw [plus_none nD, upd_same]
  · refine sepL.snoc (F1 := Fy) ?_ (fun a o e => ?_) hy
    · have : minus (del (plus (upd FD D (.lst (vs ++ [.ref pq]))) Fy) D) Fy = del FD D := by
        funext a
        cases z : Fy a with
        | some v =>
          rw [minus_some z]
          by_cases ne : a = D
          · rw [ne, del_same]
          · rw [del_ne ne, dj a v z]
        | none =>
          rw [minus_none z]
          by_cases ne : a = D
          · rw [ne, del_same, del_same]
          · rw [del_ne ne, del_ne ne, plus_none z, upd_ne ne]
      rw [this]; exact g3
    · have ne : a ≠ D := fun q => by rw [q, nD] at e; cases e
      rw [del_ne ne, plus_some e]
  · have : minus (upd H D (.lst (vs ++ [.ref pq]))) (plus (upd FD D (.lst (vs ++ [.ref pq]))) Fy) = minus (minus H Fy) FD := by
      funext a
      cases z : Fy a with
      | some v =>
        rw [minus_some (o := v) (plus_some z), minus_none (dj a v z), minus_some z]
      | none =>
        by_cases ne : a = D
        · rw [ne, minus_some (o := .lst (vs ++ [.ref pq])) (by rw [plus_none nD, upd_same]), minus_some (o := .lst vs) g1]
        · cases y : FD a with
          | some v => rw [minus_some (o := v) (by rw [plus_none z, upd_ne ne]; exact y), minus_some y]
          | none => rw [minus_none (by rw [plus_none z, upd_ne ne]; exact y), upd_ne ne, minus_none y, minus_none z]
    rw [this]; exact k
theorem mapO_snoc {f : α → Option β} : ∀ {xs : List α} {x : α} {ys : List β} {y : β}, mapO xs f = some ys → f x = some y → mapO (xs ++ [x]) f = some (ys ++ [y])
  | [], x, ys, y, h, h2 => by
    cases h
    show (f x).bind _ = _
    rw [h2]; rfl
  | z :: xs, x, ys, y, h, h2 => by
    obtain ⟨u, e1, h⟩ := bind_some h
    obtain ⟨us, e2, e3⟩ := bind_some h
    cases e3
    show (f z).bind _ = _
    rw [e1]
    show (mapO (xs ++ [x]) f).bind _ = _
    rw [mapO_snoc e2 h2]; rfl
theorem mapO_take {f : α → Option β} : ∀ {xs : List α} {zs : List β} (i : Nat), mapO xs f = some zs → ∃ ys, mapO (xs.take i) f = some ys ∧ ys.length ≤ i
  | [], zs, i, h => ⟨[], by simp [mapO], by simp⟩
  | x :: xs, zs, 0, h => ⟨[], rfl, by simp⟩
  | x :: xs, zs, i + 1, h => by
    obtain ⟨u, e1, h⟩ := bind_some h
    obtain ⟨us, e2, e3⟩ := bind_some h
    obtain ⟨ys, e4, e5⟩ := mapO_take i e2
    exact ⟨u :: ys, by rw [List.take_succ_cons]; show (f x).bind _ = _; rw [e1]; show (mapO (xs.take i) f).bind _ = _; rw [e4]; rfl, by simpa using e5⟩
theorem mapO_at {f : α → Option β} : ∀ {xs : List α} {zs : List β} {i : Nat} {x : α}, mapO xs f = some zs → xs[i]? = some x → ∃ y, f x = some y
  | [], zs, i, x, h, e => by simp at e
  | y :: xs, zs, 0, x, h, e => by
    obtain ⟨u, e1, h⟩ := bind_some h
    simp at e; subst e
    exact ⟨u, e1⟩
  | y :: xs, zs, i + 1, x, h, e => by
    obtain ⟨u, e1, h⟩ := bind_some h
    obtain ⟨us, e2, e3⟩ := bind_some h
    exact mapO_at e2 (by simpa using e)
theorem qv_lc [Rq α] {d : OT β} {C} {m1 : Option (List α)} {f : α → List SV → List SV} {ids : List Nat} {me : α → Option β} (hi : IvJ C w G m1) (hc : ∀ s, C G s s)
    (hg : ∀ (B : Bk) (Hi : Hp) (T : List SV) (tv s : L2.St) (H : Hp) (G : List SV) (v : V) (x : α) (Q : L2.St → Hp → Prop), tv.length = T.length → SatG B Hi (T ++ G) (tv ++ s) H → rq Hi x v → (∀ s', SatG B Hi (T ++ f x G) (tv ++ s') H → (∀ vs, (∀ i ∈ ids, i ∈ vs) → wipe s' vs = wipe s vs) → Q s' H) → g v s H Q)
    (he : ∀ x, QvJ d te (f x G) (me x)) (hids : ∀ i ∈ ids, i ∈ own.map (·.2)) (hw0 : wipeG G (own.map (·.2)) = G) (hw : ∀ x, wipeG (f x G) (own.map (·.2)) = G) :
    QvJ (oLL d) (tLc w g tYes te (own.map (·.2))) G (m1.bind fun xs => mapO xs me) := fun B Hi T tv s H Q zs hx hl hs k => by
  obtain ⟨xs, e1, e2⟩ := bind_some hx
  refine hi B Hi T tv s H _ xs e1 hl hs fun J T' tv' Hi1 H1 l1 s1 hz hT hwalk => ?_
  intro D hD
  refine ⟨fun i m H2 => m = xs.length - i ∧ i ≤ xs.length ∧ ∃ Hi2 done, mapO (xs.take i) me = some done ∧ done.length ≤ i ∧ SatG B Hi2 (oo (oLL d) done :: (T' ++ G)) (some (.ref D) :: (tv' ++ s)) H2,
    ⟨xs.length, by simp, Nat.zero_le _, Hi1, [], rfl, by simp, ⟨D, one D (.lst []), rfl, same_one upd_same, ⟨[], one_same, Nat.zero_le _, fun a => ?_⟩, ?_⟩⟩, ?_⟩
  · by_cases ne : a = D
    · rw [ne, del_same]
    · rw [del_ne ne, one_ne ne]
  · rw [minus_one, del_upd, del_new hD]; exact s1
  rintro i m H2 ⟨rfl, hi, Hi2, done, hd, hdl, s2⟩
  obtain ⟨stp, go⟩ := hwalk [oo (oLL d) done] [some (.ref D)] G s Hi2 H2 rfl (hc s) s2
  by_cases hlt : i < xs.length
  · refine .inr ?_
    have hxi : xs[i]? = some xs[i] := by simp [hlt]
    obtain ⟨go1, go2⟩ := go i xs[i] hxi
    refine ⟨go1, fun H3 => ∃ Hi3 done3, mapO (xs.take (i + 1)) me = some done3 ∧ done3.length ≤ i + 1 ∧ SatG B Hi3 (oo (oLL d) done3 :: (T' ++ G)) (some (.ref D) :: (tv' ++ s)) H3, fun H3 ⟨Hi3, done3, h3, h3', h4⟩ => ⟨xs.length - (i + 1), by omega, rfl, hlt, Hi3, done3, h3, h3', h4⟩, fun v H3 hy => ?_⟩
    obtain ⟨Hi3, s3, r3⟩ := go2 v H3 hy
    have l3 : (some (V.ref D) :: tv').length = (oo (oLL d) done :: T').length := by simp [l1]
    have s3' : SatG B Hi3 ((oo (oLL d) done :: T') ++ G) ((some (.ref D) :: tv') ++ wipe s (own.map (·.2))) H3 := by
      have q := sat_wipe (T := oo (oLL d) done :: T') (tv := some (.ref D) :: tv') l3 s3 (own.map (·.2))
      rw [hw0] at q
      exact q
    refine hg B Hi3 (oo (oLL d) done :: T') (some (.ref D) :: tv') (wipe s (own.map (·.2))) H3 G v xs[i] _ l3 s3' r3 fun s4 q4 w4 => ?_
    have wid : wipe s4 (own.map (·.2)) = wipe s (own.map (·.2)) := by
      rw [w4 _ hids]
      have kk : ∀ (us vs : List Nat), (∀ i ∈ us, i ∈ vs) → ∀ s : L2.St, wipe (wipe s us) vs = wipe s vs := fun us => by
        induction us with
        | nil => intro vs _ s; rfl
        | cons u us ih =>
          intro vs hv s
          show wipe ((wipe s us).set u none) vs = _
          rw [wipe_set (hv u List.mem_cons_self)]
          exact ih vs (fun i hi => hv i (List.mem_cons_of_mem _ hi)) s
      exact kk _ _ (fun _ h => h) s
    refine ⟨wid, ?_⟩
    obtain ⟨y, hy⟩ := mapO_at e2 hxi
    have hsn : xs.take (i + 1) = xs.take i ++ [xs[i]] := by rw [List.take_add_one, hxi]; rfl
    have back : ∀ {Hi6 H6 : Hp} {dn : List β}, SatG B Hi6 ((oo (oLL d) dn :: T') ++ f xs[i] G) ((some (.ref D) :: tv') ++ s4) H6 → SatG B Hi6 (oo (oLL d) dn :: (T' ++ G)) (some (.ref D) :: (tv' ++ s)) H6 := fun {Hi6 H6 dn} q => by
      have q1 := sat_wipe (T := oo (oLL d) dn :: T') (tv := some (.ref D) :: tv') (by simp [l1]) q (own.map (·.2))
      rw [wid, hw] at q1
      have q2 : SatG B Hi6 ((oo (oLL d) dn :: T') ++ wipeG G (own.map (·.2))) ((some (.ref D) :: tv') ++ wipe s (own.map (·.2))) H6 := by rw [hw0]; exact q1
      have q3 := sat_unwipe (T := oo (oLL d) dn :: T') (tv := some (.ref D) :: tv') (by simp [l1]) q2
      rw [hw0] at q3
      exact q3
    have ty : ∀ (Q : Bool → Hp → Prop), Q true H3 → tYes s4 H3 Q := fun Q h => h
    refine ty _ ?_
    rw [if_pos rfl]
    refine he xs[i] B Hi3 (oo (oLL d) done :: T') (some (.ref D) :: tv') s4 H3 _ y hy l3 q4 fun pq Hi6 H6 s6 => ?_
    have s6' := s6
    obtain ⟨p1, Fy, e3, sy, hyy, p2, FD, e4, sD, ⟨acc, g1, g2, g3⟩, rest⟩ := s6'
    cases e3; cases e4
    have hp : H6 D = some (.lst acc) := minus_sub _ _ (sD _ _ g1)
    have hal := g3.len
    have hlen : acc.length < sizeLine := by omega
    refine ⟨acc, hp, hlen, Hi6, done ++ [y], by rw [hsn]; exact mapO_snoc hd hy, by rw [List.length_append]; simp; omega, ?_⟩
    exact back (sat_snoc (L := T' ++ f xs[i] G) (s := tv' ++ s4) s6 hp hlen)
  · have e : i = xs.length := by omega
    subst e
    rw [List.take_length, e2] at hd
    cases hd
    refine .inl ⟨stp, ?_⟩
    obtain ⟨p', F', e3, hp, hu, rest⟩ := s2
    cases e3
    exact k D Hi2 H2 ⟨D, F', rfl, hp, hu, hT G s Hi2 _ rest⟩
theorem qj_lq [Rq α] {d : OT β} {C} {m1 : Option (List α)} {f : α → List SV → List SV} {g2 : Shared → Hp → Addr → List (Str × Addr) → List Addr → TG} {ids : List Nat} {me : α → Option β} {me2 : α → Shared → Hp → Addr → List (Str × Addr) → List Addr → Option β} {te2 : α → Shared → Hp → Addr → List (Str × Addr) → List Addr → TE} (x0 : α) (hcalm : X.calm = true) (hN : X.N.Nodup) (hi : IJ C X tg iter w G m1) (ok : BlkOk X.N X.env.scope scope own)
    (hg : ∀ (s : Shared) (H : Hp) (C : Addr) (cl : List (Str × Addr)) (fp : List Addr), GJ (X.blk s H scope (compEnvC scope cl C X.env) fp) tg (g2 s H C cl fp) f ids)
    (he : ∀ (x : α) (s : Shared) (H : Hp) (C : Addr) (cl : List (Str × Addr)) (fp : List Addr), QJ d (X.blk s H scope (compEnvC scope cl C X.env) fp) elt (te2 x s H C cl fp) (f x G) (me2 x s H C cl fp))
    (hme : ∀ x s H C cl fp, me2 x s H C cl fp = me x := by intros; rfl) (hte : ∀ x s H C cl fp, te2 x s H C cl fp = te := by intros; first | rfl | (dsimp only [Cx.blk]; done) | (dsimp only [Cx.blk]; rfl)) (hgg : ∀ s H C cl fp, g2 s H C cl fp = g := by intros; first | rfl | (dsimp only [Cx.blk]; done) | (dsimp only [Cx.blk]; rfl)) (hids : ∀ i ∈ ids, i ∈ own.map (·.2) := by decide) (hw0 : wipeG G (own.map (·.2)) = G := by rfl) (hw : ∀ x, wipeG (f x G) (own.map (·.2)) = G := by intro _; rfl) (hs : ∀ x, foldedSetIterable iter X.env x = pure x := by intro _; rfl) :
    QJ (oLL d) X (.ListComp elt [⟨tg, iter, [], 0⟩] scope pos) (tLc w g tYes te (own.map (·.2))) G (m1.bind fun xs => mapO xs me) := by
  have hg' : ∀ (s : Shared) (H : Hp) (C : Addr) (cl : List (Str × Addr)) (fp : List Addr), GJ (X.blk s H scope (compEnvC scope cl C X.env) fp) tg g f ids := fun s H C cl fp => by have h := hg s H C cl fp; rw [hgg] at h; exact h
  have he' : ∀ (x : α) (s : Shared) (H : Hp) (C : Addr) (cl : List (Str × Addr)) (fp : List Addr), QJ d (X.blk s H scope (compEnvC scope cl C X.env) fp) elt te (f x G) (me x) := fun x s H C cl fp => by have h := he x s H C cl fp; rw [hme, hte] at h; exact h
  exact ⟨pe_lc hcalm hN hi.pi ok (fun s H C cl fp => (hg' s H C cl fp).pg) (fun s H C cl fp => pts_nil) (fun s H C cl fp => (he' x0 s H C cl fp).pe) hs,
    qv_lc hi.ev hi.c (hg' X.s_0 X.H_0 0 [] []).ev (fun x => (he' x X.s_0 X.H_0 0 [] []).ev) hids hw0 hw⟩
/-- name = [.. for ..] of our own things -/
structure LCQ {β : Type} (d : OT β) (X : Cx) (i : Nat) (y : Str) (py : Pos) (e : Expr) (spos : Pos) (t : TE) (G : List SV) (m : Option β) : Prop where
  ps : PS X (.Assign [.Name y py] e spos) (tAsg t (gName i))
  ev : QvJ d t G m
theorem bj_asgLcQ {d : OT α} {m1 : Option α} {m2 : α → Option O} {i : Nat} {p2 : Pos} (h : LCQ d X i n p2 e pos t G m1) (x0 : α) (hr : ∀ x, BJ X rest u (G.set i (oo d x)) (m2 x) P) :
    BJ X (.Assign [.Name n p2] e pos :: rest) (tSeq (tAsg t (gName i)) u) G (m1.bind m2) P := ⟨pss_cons h.ps (hr x0).ps, fun B Hi T tv s H D o hx hl hs k => by
  obtain ⟨x, e1, e2⟩ := bind_some hx
  refine h.ev B Hi T tv s H _ x e1 hl hs fun q Hi1 H1 s1 => ?_
  exact (hr x).ev B Hi1 T tv _ H1 D o e2 hl (s1.putT hl) k⟩
theorem lqq [Rq α] {d : OT β} {C} {m1 : Option (List α)} {f : α → List SV → List SV} {g2 : Shared → Hp → Addr → List (Str × Addr) → List Addr → TG} {ids : List Nat} {me : α → Option β} {me2 : α → Shared → Hp → Addr → List (Str × Addr) → List Addr → Option β} {te2 : α → Shared → Hp → Addr → List (Str × Addr) → List Addr → TE} {i : Nat} {y : Str} {py spos : Pos} (x0 : α) (hcalm : X.calm = true) (hN : X.N.Nodup) (hy : X.N[i]? = some y) (hyl : X.env.scope.names.lookup y = some .local) (hsw : swapsWith (.ListComp elt [⟨tg, iter, [], 0⟩] scope pos) (some (.Name y py)) spos.line X.env = pure true)
    (hi : IJ C X tg iter w G m1) (ok : BlkOk X.N X.env.scope scope own)
    (hg : ∀ (s : Shared) (H : Hp) (C : Addr) (cl : List (Str × Addr)) (fp : List Addr), GJ (X.blk s H scope (compEnvC scope cl C X.env) fp) tg (g2 s H C cl fp) f ids)
    (he : ∀ (x : α) (s : Shared) (H : Hp) (C : Addr) (cl : List (Str × Addr)) (fp : List Addr), QJ d (X.blk s H scope (compEnvC scope cl C X.env) fp) elt (te2 x s H C cl fp) (f x G) (me2 x s H C cl fp))
    (hme : ∀ x s H C cl fp, me2 x s H C cl fp = me x := by intros; rfl) (hte : ∀ x s H C cl fp, te2 x s H C cl fp = te := by intros; first | rfl | (dsimp only [Cx.blk]; done) | (dsimp only [Cx.blk]; rfl)) (hgg : ∀ s H C cl fp, g2 s H C cl fp = g := by intros; first | rfl | (dsimp only [Cx.blk]; done) | (dsimp only [Cx.blk]; rfl)) (hids : ∀ i ∈ ids, i ∈ own.map (·.2) := by decide) (hw0 : wipeG G (own.map (·.2)) = G := by rfl) (hw : ∀ x, wipeG (f x G) (own.map (·.2)) = G := by intro _; rfl) (hs : ∀ x, foldedSetIterable iter X.env x = pure x := by intro _; rfl) :
    LCQ (oLL d) X i y py (.ListComp elt [⟨tg, iter, [], 0⟩] scope pos) spos (tLc w g tYes te (own.map (·.2))) G (m1.bind fun xs => mapO xs me) := by
  have hg' : ∀ (s : Shared) (H : Hp) (C : Addr) (cl : List (Str × Addr)) (fp : List Addr), GJ (X.blk s H scope (compEnvC scope cl C X.env) fp) tg g f ids := fun s H C cl fp => by have h := hg s H C cl fp; rw [hgg] at h; exact h
  have he' : ∀ (x : α) (s : Shared) (H : Hp) (C : Addr) (cl : List (Str × Addr)) (fp : List Addr), QJ d (X.blk s H scope (compEnvC scope cl C X.env) fp) elt te (f x G) (me x) := fun x s H C cl fp => by have h := he x s H C cl fp; rw [hme, hte] at h; exact h
  exact ⟨ps_setLc hcalm hN hy hyl hsw hi.pi ok (fun s H C cl fp => (hg' s H C cl fp).pg) (fun s H C cl fp => pts_nil) (fun s H C cl fp => (he' x0 s H C cl fp).pe) hs,
    qv_lc hi.ev hi.c (hg' X.s_0 X.H_0 0 [] []).ev (fun x => (he' x X.s_0 X.H_0 0 [] []).ev) hids hw0 hw⟩
end
end GM
namespace GM
open PySem PySem.Spec PyProof.Rows L2
class NoLD {α : Type} (d : OT α) : Prop where
  tr : ∀ {H H' : Hp} {x : α} {p : Addr} {F : Hp}, (∀ a xs, H a = some (.tup xs) → H' a = some (.tup xs)) → d.φ H x p F → d.φ H' x p F
instance {α : Type} [Rq α] [NoL α] : NoLD (oL (α := α)) := ⟨fun e ⟨u, h1, vs, h2, h3, h4⟩ => ⟨u, h1, vs, h2, h3, Paired.mono h4 fun _ _ => NoL.tr e⟩⟩
theorem sepL.trD {α : Type} {d : OT α} [NoLD d] {H H' : Hp} (e : ∀ a xs, H a = some (.tup xs) → H' a = some (.tup xs)) : ∀ {xs : List α} {vs : List V} {F : Hp}, sepL d H xs vs F → sepL d H' xs vs F
  | [], [], _, h => h
  | _ :: _, _ :: _, _, ⟨p, F1, h1, h2, h3, k⟩ => ⟨p, F1, h1, h2, NoLD.tr e h3, sepL.trD e k⟩
instance {α : Type} {d : OT α} [NoLD d] : NoLD (oLL d) := ⟨fun e ⟨vs, h1, h2, h3⟩ => ⟨vs, h1, h2, h3.trD e⟩⟩
instance {α β : Type} {d : OT α} {d' : OT β} [NoLD d] [NoLD d'] : NoLD (ot2 d d') := ⟨fun e ⟨q, q', F1, F2, h1, h2, h3, h4, h5⟩ => ⟨q, q', F1, F2, h1, h2, NoLD.tr e h3, h4, NoLD.tr e h5⟩⟩
instance {α β : Type} {d : OT α} {d' : OT β} [NoLD d] [NoLD d'] : NoLD (oll2 d d') := ⟨fun e ⟨q, q', F1, F2, h1, h2, h3, h4, h5⟩ => ⟨q, q', F1, F2, h1, h2, NoLD.tr e h3, h4, NoLD.tr e h5⟩⟩
/-- handed back: something of our own -/
def PW {ρ : Type} (d : OT ρ) : Post ρ := fun r B _ _ D => ∀ p Hi H', SatG B Hi [oo d r] [some (.ref p)] H' → D.rt (.ref p) H'
instance {ρ : Type} {d : OT ρ} : Out (PW d) (PW d) := ⟨fun _ _ _ _ _ _ h => h⟩
instance {ρ : Type} {d : OT ρ} : RtOnly (PW d) := ⟨fun r B T T' tv tv' D D' e h p Hi H' q1 => by rw [e]; exact h p Hi H' q1⟩
def SpW {τ ρ : Type} [RpL τ] (d : OT ρ) (F : τ → Option ρ) : Sp := fun vs H Q _ => ∃ (Ha : Hp) (x : τ) (r : ρ), Same Ha H ∧ RpL.reps Ha x vs ∧ F x = some r ∧
  ∀ p Fp H', Same H (minus H' Fp) → Same Fp H' → d.φ (join Ha H (minus H' Fp)) r p Fp → Q (.ref p) H'
/-- one argument, which is ours and is used up -/
def SpC {α ρ : Type} (d : OT α) (d' : OT ρ) (F : α → Option ρ) : Sp := fun vs H Q _ => ∃ (Ha : Hp) (x : α) (p : Addr) (F0 : Hp) (r : ρ), vs = [.ref p] ∧ Same F0 H ∧ Same Ha (minus H F0) ∧ d.φ Ha x p F0 ∧ F x = some r ∧
  ∀ q Fq H', Same (minus H F0) (minus H' Fq) → Same Fq H' → d'.φ (join Ha (minus H F0) (minus H' Fq)) r q Fq → Q (.ref q) H'
theorem wide_join {Hi H H' : Hp} : ∀ a xs, join (wide Hi H) H H' a = some (.tup xs) → join Hi H H' a = some (.tup xs) := fun a xs q => by
  cases w : H a with
  | none => rw [join_none w] at q ⊢; exact q
  | some y => rw [join_some w] at q ⊢; exact wide_tup q
section
variable {X : Cx} {e a b c : Expr} {es : List Expr} {t ta tb tc td ty te : TE} {tr : TA} {G : List SV} {α β γ τ ρ O S R : Type} {pos p : Pos} {n : Str} {rest : List Stmt} {u ts : TS} {P Px : Post O} {d : OT α} {d' : OT β} {dr : OT ρ} {F : Hp}
theorem ev_callQ [RpL τ] {F : τ → Option ρ} {m : Option τ} (ha : AvJ (fun Hi _ x vs => RpL.reps Hi x vs) tr G m) : QvJ dr (tCall (SpW dr F) [] E0 tr) G (m.bind F) := fun B Hi T tv s H Q z hx hl hs k => by
  obtain ⟨x, e1, e2⟩ := bind_some hx
  refine ha B Hi T tv s H _ x e1 hl hs fun vs Hi1 H1 s1 r1 => ?_
  exact ⟨Hi1, x, z, s1.sub, by rw [List.append_nil]; exact r1, e2, fun p Fp H' sm sf hz => k p _ H' ⟨p, Fp, rfl, sf, hz, s1.grow sm⟩⟩
theorem ev_callQW [RpL τ] [NoLD dr] {F : τ → Option ρ} {m : Option τ} (ha : AvJ (fun Hi H x vs => RpL.reps (wide Hi H) x vs) tr G m) : QvJ dr (tCall (SpW dr F) [] E0 tr) G (m.bind F) := fun B Hi T tv s H Q z hx hl hs k => by
  obtain ⟨x, e1, e2⟩ := bind_some hx
  refine ha B Hi T tv s H _ x e1 hl hs fun vs Hi1 H1 s1 r1 => ?_
  exact ⟨wide Hi1 H1, x, z, wide_sub s1.sub, by rw [List.append_nil]; exact r1, e2, fun p Fp H' sm sf hz => k p _ H' ⟨p, Fp, rfl, sf, NoLD.tr wide_join hz, s1.grow sm⟩⟩
theorem ev_callOW [RpL τ] [Rq ρ] [NoL ρ] {F : τ → Option (List ρ)} {m : Option τ} (ha : AvJ (fun Hi H x vs => RpL.reps (wide Hi H) x vs) tr G m) : OvJ (tCall (SpO F) [] E0 tr) G (m.bind F) := fun B Hi T tv s H Q z hx hl hs k => by
  obtain ⟨x, e1, e2⟩ := bind_some hx
  refine ha B Hi T tv s H _ x e1 hl hs fun vs Hi1 H1 s1 r1 => ?_
  refine ⟨wide Hi1 H1, x, z, wide_sub s1.sub, by rw [List.append_nil]; exact r1, e2, fun p us H' sm hn hp hz r => ?_⟩
  have sm2 : Same H1 (del H' p) := fun a o h => by rw [del_ne (ne_of_none h hn)]; exact sm _ _ h
  have s2 := s1.grow sm2
  have e3 : join Hi1 H1 (del H' p) = del (join Hi1 H1 H') p := by
    funext a
    by_cases z : a = p
    · rw [z, del_same, join_none hn, del_same]
    · rw [del_ne z]
      cases w : H1 a with
      | none => rw [join_none w, join_none w, del_ne z]
      | some y => rw [join_some w, join_some w]
  rw [e3] at s2
  refine k p _ H' ⟨p, one p (.lst us), rfl, same_one hp, ⟨_, rfl, us, rfl, hz, Paired.mono r fun _ _ => NoL.tr fun a xs q => ?_⟩, by rw [minus_one]; exact s2⟩
  obtain ⟨ne, q⟩ := del_some q
  rw [del_ne ne]
  exact wide_join _ _ q
theorem oj_callW [RpL τ] [Rq ρ] [NoL ρ] {F : τ → Option (List ρ)} {m : Option τ} (C : Cal X n (SpO F)) (ha : AW X (e :: es) tr G m) {p : Pos} (hg : Gl X n := by rfl) (hdb : (n == ("__debug__" : Str)) = false := by decide) (he : starEach (e :: es) X.env = (false, eval e X.env) :: starEach es X.env := by rfl)
    (hpl : (backTo pos (starEach es X.env)).any (·.1) = false := by rfl) : OJ X (.Call (.Name n p) (e :: es) [] pos) (tCall (SpO F) [] E0 tr) G (m.bind F) := ⟨cal_pe C hg ha.pa hdb he hpl, ev_callOW ha.ev⟩
theorem qj_call [RpL τ] {F : τ → Option ρ} {m : Option τ} (C : Cal X n (SpW dr F)) (ha : AJ X (e :: es) tr G m) {p : Pos} (hg : Gl X n := by rfl) (hdb : (n == ("__debug__" : Str)) = false := by decide) (he : starEach (e :: es) X.env = (false, eval e X.env) :: starEach es X.env := by rfl)
    (hpl : (backTo pos (starEach es X.env)).any (·.1) = false := by rfl) : QJ dr X (.Call (.Name n p) (e :: es) [] pos) (tCall (SpW dr F) [] E0 tr) G (m.bind F) := ⟨cal_pe C hg ha.pa hdb he hpl, ev_callQ ha.ev⟩
theorem qj_callW [RpL τ] [NoLD dr] {F : τ → Option ρ} {m : Option τ} (C : Cal X n (SpW dr F)) (ha : AW X (e :: es) tr G m) {p : Pos} (hg : Gl X n := by rfl) (hdb : (n == ("__debug__" : Str)) = false := by decide) (he : starEach (e :: es) X.env = (false, eval e X.env) :: starEach es X.env := by rfl)
    (hpl : (backTo pos (starEach es X.env)).any (·.1) = false := by rfl) : QJ dr X (.Call (.Name n p) (e :: es) [] pos) (tCall (SpW dr F) [] E0 tr) G (m.bind F) := ⟨cal_pe C hg ha.pa hdb he hpl, ev_callQW ha.ev⟩
theorem bj_retQ {inj : ρ → O} [Rt P (PW dr) inj] {m : Option ρ} (h : QJ dr X e t G m) : BJ X (.Return (some e) pos :: []) (tSeq (tRet t) tNext) G (m.bind fun r => some (inj r)) P := ⟨pss_cons (ps_ret h.pe) pss_nil, fun B Hi T tv s H D o hx hl hs k => by
  obtain ⟨r, e1, e2⟩ := bind_some hx
  cases e2
  exact h.ev B Hi T tv s H _ r e1 hl hs fun q Hi' H' s' => Rt.rt (P := P) (Pr := PW dr) (inj := inj) r B T tv D k q Hi' H' s'.bare1⟩
theorem bj_retQI {m : Option ρ} (h : QJ dr X e t G m) : BJ X (.Return (some e) pos :: []) (tSeq (tRet t) tNext) G m (PW dr) := by
  have q := bj_retQ (P := PW dr) (inj := id) (pos := pos) h
  have e1 : (m.bind fun r => some (id r)) = m := by cases m <;> rfl
  rw [e1] at q
  exact q
/-- return of our own thing by its name -/
theorem bj_retVQ {x : ρ} {inj : ρ → O} [Rt P (PW dr) inj] (i : Nat) (hi : G[i]? = some (oo dr x) := by rfl) (hN : X.N[i]? = some n := by rfl) (hv : Vis X.env.scope n := by first | exact Or.inl rfl | exact Or.inr (Or.inl rfl) | exact Or.inr (Or.inr rfl))
    (hd : (n == ("__debug__" : Str)) = false := by decide) (hcd : (n == ("__classdict__" : Str)) = false := by decide) {p2 : Pos} : BJ X (.Return (some (.Name n p2)) pos :: []) (tSeq (tRet (tVar i)) tNext) G (some (inj x)) P := ⟨pss_cons (ps_ret (pe_var hN hv hd hcd)) pss_nil, fun B Hi T tv s H D o hx hl hs k => by
  cases hx
  obtain ⟨q, F, h1, h2, h3, h6, up⟩ := hs.ownFT hl hi
  have z := hs.front (i := T.length + i) (by rw [get_app]; exact hi)
  rw [set_app, ← hl, get_app, h1] at z
  exact ⟨.ref q, h1, Rt.rt (P := P) (Pr := PW dr) (inj := inj) x B T tv D k q Hi H z.bare1⟩⟩
/-- return f(M), where M is ours and is used up -/
theorem ev_callC {F : α → Option ρ} {x : α} (i : Nat) (hi : G[i]? = some (oo d x)) : ∀ (B : Bk) (Hi : Hp) (T : List SV) (tv s : L2.St) (H : Hp) (Q : VK) (r : ρ), F x = some r → tv.length = T.length → SatG B Hi (T ++ G) (tv ++ s) H →
    (∀ q Hi' H', SatG B Hi' [oo dr r] [some (.ref q)] H' → Q (.ref q) H') → tCall (SpC d dr F) [] E0 (tCons (tVar i) tNil) s H Q := fun B Hi T tv s H Q r hr hl hs k => by
  obtain ⟨q, F0, h1, h2, h3, h6, up⟩ := hs.ownFT hl hi
  have z := hs.front (i := T.length + i) (by rw [get_app]; exact hi)
  rw [set_app, ← hl, get_app, h1] at z
  obtain ⟨q', F1, e1, g1, g2, g3⟩ := z.bare1
  cases e1
  refine ⟨.ref q, h1, ⟨Hi, x, q, F1, r, rfl, g1, SatG.sub (L := []) (s := []) g3, g2, hr, fun p Fp H' sm sf hz => k p _ H' ⟨p, Fp, rfl, sf, hz, SatG.grow (L := []) (s := []) g3 sm⟩⟩⟩
theorem bj_retC [Rq ρ] [Th dr] {F : α → Option ρ} {x : α} {inj : ρ → O} [Rt P (PR (ρ := ρ)) inj] {f : Str} {p p2 : Pos} (C : Cal X f (SpC d dr F)) (i : Nat) (hi : G[i]? = some (oo d x) := by rfl) (hN : X.N[i]? = some n := by rfl) (hv : Vis X.env.scope n := by first | exact Or.inl rfl | exact Or.inr (Or.inl rfl) | exact Or.inr (Or.inr rfl))
    (hd : (n == ("__debug__" : Str)) = false := by decide) (hcd : (n == ("__classdict__" : Str)) = false := by decide) (hg : Gl X f := by rfl) (hdb : (f == ("__debug__" : Str)) = false := by decide) (he : starEach [.Name n p2] X.env = (false, eval (.Name n p2) X.env) :: starEach [] X.env := by rfl) {pos2 : Pos} (hpl : (backTo pos2 (starEach [] X.env)).any (·.1) = false := by rfl) :
    BJ X (.Return (some (.Call (.Name f p) [.Name n p2] [] pos2)) pos :: []) (tSeq (tRet (tCall (SpC d dr F) [] E0 (tCons (tVar i) tNil))) tNext) G ((F x).bind fun r => some (inj r)) P :=
  ⟨pss_cons (ps_ret (cal_pe C hg (pa_cons (pe_var hN hv hd hcd) pa_nil he) hdb he hpl)) pss_nil, fun B Hi T tv s H D o hx hl hs k => by
  obtain ⟨r, e1, e2⟩ := bind_some hx
  cases e2
  refine ev_callC i hi B Hi T tv s H D.rt r e1 hl hs fun q Hi' H' s' => ?_
  obtain ⟨Hi2, s2, r2⟩ := sat_thawQ s'
  exact Rt.rt (P := P) (Pr := PR (ρ := ρ)) (inj := inj) r B T tv D k _ Hi2 H' s2 r2⟩
theorem bj_retCW {F : α → Option ρ} {x : α} {inj : ρ → O} [Rt P (PW dr) inj] {f : Str} {p p2 : Pos} (C : Cal X f (SpC d dr F)) (i : Nat) (hi : G[i]? = some (oo d x) := by rfl) (hN : X.N[i]? = some n := by rfl) (hv : Vis X.env.scope n := by first | exact Or.inl rfl | exact Or.inr (Or.inl rfl) | exact Or.inr (Or.inr rfl))
    (hd : (n == ("__debug__" : Str)) = false := by decide) (hcd : (n == ("__classdict__" : Str)) = false := by decide) (hg : Gl X f := by rfl) (hdb : (f == ("__debug__" : Str)) = false := by decide) (he : starEach [.Name n p2] X.env = (false, eval (.Name n p2) X.env) :: starEach [] X.env := by rfl) {pos2 : Pos} (hpl : (backTo pos2 (starEach [] X.env)).any (·.1) = false := by rfl) :
    BJ X (.Return (some (.Call (.Name f p) [.Name n p2] [] pos2)) pos :: []) (tSeq (tRet (tCall (SpC d dr F) [] E0 (tCons (tVar i) tNil))) tNext) G ((F x).bind fun r => some (inj r)) P :=
  ⟨pss_cons (ps_ret (cal_pe C hg (pa_cons (pe_var hN hv hd hcd) pa_nil he) hdb he hpl)) pss_nil, fun B Hi T tv s H D o hx hl hs k => by
  obtain ⟨r, e1, e2⟩ := bind_some hx
  cases e2
  exact ev_callC i hi B Hi T tv s H D.rt r e1 hl hs fun q Hi' H' s' => Rt.rt (P := P) (Pr := PW dr) (inj := inj) r B T tv D k q Hi' H' s'⟩
/-! ### clear, pop -/
theorem bj_clear [Rq α] {xs : List α} {m3 : List α → Option O} (l : Nat) (hr : ∀ ys, BJ X rest u (G.set l (ol ys)) (m3 ys) P) {p2 apos cpos : Pos} (hg : G[l]? = some (ol xs) := by rfl)
    (hN : X.N[l]? = some n := by rfl) (hv : Vis X.env.scope n := by first | exact Or.inl rfl | exact Or.inr (Or.inl rfl) | exact Or.inr (Or.inr rfl)) (hd : (n == ("__debug__" : Str)) = false := by decide) (hcd : (n == ("__classdict__" : Str)) = false := by decide)
    (hbase : attributeBase (.Name n p2) "clear" X.env (eval (.Name n p2) X.env) = eval (.Name n p2) X.env := by rfl) (hline : (apos.endLine == cpos.line) = true := by rfl) (hsw : swapsWith (.Call (.Attribute (.Name n p2) "clear" apos) [] [] cpos) none pos.line X.env = pure false := by rfl) :
    BJ X (.Expr (.Call (.Attribute (.Name n p2) "clear" apos) [] [] cpos) pos :: rest) (tSeq (tDrop (tBM0 X.K "list" rClear (tVar l))) u) G ((some ([] : List α)).bind m3) P :=
  ⟨pss_cons (ps_expr (pe_bm0 PySem.F.plainAttrs_list PySem.F.slot_list_clear PySem.F.type_list_clear mt_clear (pe_var hN hv hd hcd) hbase hline) hsw) (hr []).ps, fun B Hi T tv s H D o hx hl hs k => by
  obtain ⟨q, w, h1, h2, ⟨vs, h3, h4, h5⟩, h6, up⟩ := hs.ownT hl hg
  subst h3
  refine ⟨.ref q, h1, .inl ⟨rfl, _, SqL.of h2⟩, q, vs, rfl, rfl, h2, ?_⟩
  exact (hr []).ev B Hi T tv s _ D o hx hl (up (.lst []) (isL ([] : List α)) (isL_mono _) ⟨[], rfl, Nat.zero_le _, .nil⟩) k⟩
/-- xs[0].clear(), xs[1].clear(), xs a list of two -/
theorem bj_clr0 [Rq α] {x : Ll (List α) β} {q : Addr} {m3 : Ll (List α) β → Option O} {j} (l : Nat) (hr : ∀ y, BJ X rest u (G.set l (oo (oll2 oL d') y)) (m3 y) P) {p2 p3 p4 apos cpos : Pos} (hg : G[l]? = some (ex (oll2 oL d') x q F) := by rfl) (x0 : Ll (List α) β)
    (hN : X.N[l]? = some n := by rfl) (hv : Vis X.env.scope n := by first | exact Or.inl rfl | exact Or.inr (Or.inl rfl) | exact Or.inr (Or.inr rfl)) (hd : (n == ("__debug__" : Str)) = false := by decide) (hcd : (n == ("__classdict__" : Str)) = false := by decide)
    (hbase : attributeBase (.Subscript (.Name n p2) (.Constant (.int 0) j p3) p4) "clear" X.env (eval (.Subscript (.Name n p2) (.Constant (.int 0) j p3) p4) X.env) = eval (.Subscript (.Name n p2) (.Constant (.int 0) j p3) p4) X.env := by rfl) (hline : (apos.endLine == cpos.line) = true := by rfl) (hsw : swapsWith (.Call (.Attribute (.Subscript (.Name n p2) (.Constant (.int 0) j p3) p4) "clear" apos) [] [] cpos) none pos.line X.env = pure false := by rfl) :
    BJ X (.Expr (.Call (.Attribute (.Subscript (.Name n p2) (.Constant (.int 0) j p3) p4) "clear" apos) [] [] cpos) pos :: rest) (tSeq (tDrop (tBM0 X.K "list" rClear (tOp (rIxL X.K) (tVar l) (tC (.int 0))))) u) G ((some (Ll.mk ([] : List α) x.b)).bind m3) P :=
  ⟨pss_cons (ps_expr (pe_bm0 PySem.F.plainAttrs_list PySem.F.slot_list_clear PySem.F.type_list_clear mt_clear (pe_ix ix_list (pe_var hN hv hd hcd) pe_int (fun _ _ => rfl)) hbase hline) hsw) (hr x0).ps, fun B Hi T tv s H D o hx hl hs k => by
  obtain ⟨p', F', g1, g2, ⟨rfl, rfl, q1, q2, F1, F2, h1, h2, ⟨uo, rfl, us, rfl, f1, f2⟩, h4, h5⟩, _, up⟩ := hs.ownFT hl hg
  have hq : F' q1 = some (.lst us) := del_sub _ _ (h2 _ _ one_same)
  have nep : q1 ≠ p' := (del_some (h2 _ _ one_same)).1
  refine ⟨.ref p', g1, ⟨p', _, 0, .ref q1, rfl, rfl, SqL.of (g2 _ _ h1), atI_nat (j := 0) rfl, .inl ⟨rfl, _, SqL.of (g2 _ _ hq)⟩, q1, us, rfl, rfl, g2 _ _ hq, ?_⟩⟩
  have s4 := up (upd F' q1 (.lst [])) (fun H p F => (oll2 oL d').φ H (Ll.mk ([] : List α) x.b) p F) (fun H H' p F => (oll2 oL d').m H H' _ p F) (upd H q1 (.lst [])) ⟨q1, q2, one q1 (.lst []), F2, by rw [upd_ne (Ne.symm nep)]; exact h1, fun a o e => by
      obtain ⟨rfl, rfl⟩ := one_is e
      rw [del_ne nep, upd_same], ⟨_, rfl, [], rfl, Nat.zero_le _, .nil⟩, by
      rw [h4, minus_one, minus_one, del_comm, del_comm (p := p') (q := q1), del_upd], h5⟩ (fun a o e => by
      by_cases z : a = q1
      · rw [z, upd_same] at e; rw [z, upd_same]; exact e
      · rw [upd_ne z] at e; rw [upd_ne z]; exact g2 _ _ e) (by
      funext a
      by_cases z : a = q1
      · rw [z, minus_some (o := .lst []) upd_same, minus_some (o := .lst us) hq]
      · cases y : F' a with
        | some w => rw [minus_some (o := w) (by rw [upd_ne z]; exact y), minus_some y]
        | none => rw [minus_none (by rw [upd_ne z]; exact y), minus_none y, upd_ne z])
  exact (hr _).ev B Hi T tv s _ D o hx hl s4 k⟩
theorem bj_clr1 [Rq β] {x : Ll α (List β)} {q : Addr} {m3 : Ll α (List β) → Option O} {j} (l : Nat) (hr : ∀ y, BJ X rest u (G.set l (oo (oll2 d oL) y)) (m3 y) P) {p2 p3 p4 apos cpos : Pos} (hg : G[l]? = some (ex (oll2 d oL) x q F) := by rfl) (x0 : Ll α (List β))
    (hN : X.N[l]? = some n := by rfl) (hv : Vis X.env.scope n := by first | exact Or.inl rfl | exact Or.inr (Or.inl rfl) | exact Or.inr (Or.inr rfl)) (hd : (n == ("__debug__" : Str)) = false := by decide) (hcd : (n == ("__classdict__" : Str)) = false := by decide)
    (hbase : attributeBase (.Subscript (.Name n p2) (.Constant (.int 1) j p3) p4) "clear" X.env (eval (.Subscript (.Name n p2) (.Constant (.int 1) j p3) p4) X.env) = eval (.Subscript (.Name n p2) (.Constant (.int 1) j p3) p4) X.env := by rfl) (hline : (apos.endLine == cpos.line) = true := by rfl) (hsw : swapsWith (.Call (.Attribute (.Subscript (.Name n p2) (.Constant (.int 1) j p3) p4) "clear" apos) [] [] cpos) none pos.line X.env = pure false := by rfl) :
    BJ X (.Expr (.Call (.Attribute (.Subscript (.Name n p2) (.Constant (.int 1) j p3) p4) "clear" apos) [] [] cpos) pos :: rest) (tSeq (tDrop (tBM0 X.K "list" rClear (tOp (rIxL X.K) (tVar l) (tC (.int 1))))) u) G ((some (Ll.mk x.a ([] : List β))).bind m3) P :=
  ⟨pss_cons (ps_expr (pe_bm0 PySem.F.plainAttrs_list PySem.F.slot_list_clear PySem.F.type_list_clear mt_clear (pe_ix ix_list (pe_var hN hv hd hcd) pe_int (fun _ _ => rfl)) hbase hline) hsw) (hr x0).ps, fun B Hi T tv s H D o hx hl hs k => by
  obtain ⟨p', F', g1, g2, ⟨rfl, rfl, q1, q2, F1, F2, h1, h2, h3, h4, ⟨uo, e2, us, rfl, f1, f2⟩⟩, _, up⟩ := hs.ownFT hl hg
  have hq2 : F2 q2 = some (.lst us) := by rw [e2]; exact one_same
  have n1 : F1 q2 = none := by rw [h4] at hq2; exact (minus_is hq2).1
  have hqd : del F' p' q2 = some (.lst us) := by rw [h4] at hq2; exact (minus_is hq2).2
  have hq : F' q2 = some (.lst us) := del_sub _ _ hqd
  have nep : q2 ≠ p' := (del_some hqd).1
  refine ⟨.ref p', g1, ⟨p', _, 1, .ref q2, rfl, rfl, SqL.of (g2 _ _ h1), atI_nat (j := 1) rfl, .inl ⟨rfl, _, SqL.of (g2 _ _ hq)⟩, q2, us, rfl, rfl, g2 _ _ hq, ?_⟩⟩
  have s4 := up (upd F' q2 (.lst [])) (fun H p F => (oll2 d oL).φ H (Ll.mk x.a ([] : List β)) p F) (fun H H' p F => (oll2 d oL).m H H' _ p F) (upd H q2 (.lst [])) ⟨q1, q2, F1, one q2 (.lst []), by rw [upd_ne (Ne.symm nep)]; exact h1, fun a o e => by
      have ne2 : a ≠ q2 := fun z => by rw [z, n1] at e; cases e
      have := h2 _ _ e
      obtain ⟨z1, z2⟩ := del_some this
      rw [del_ne z1, upd_ne ne2]; exact z2, h3, by
      funext a
      by_cases z : a = q2
      · rw [z, one_same, minus_none n1, del_ne nep, upd_same]
      · rw [one_ne z]
        cases y : F1 a with
        | some w => rw [minus_some y]
        | none =>
          rw [minus_none y]
          have e3 : F2 a = none := by rw [e2, one_ne z]
          rw [h4, minus_none y] at e3
          by_cases z2 : a = p'
          · rw [z2, del_same]
          · rw [del_ne z2] at e3 ⊢
            rw [upd_ne z, e3], ⟨_, rfl, [], rfl, Nat.zero_le _, .nil⟩⟩ (fun a o e => by
      by_cases z : a = q2
      · rw [z, upd_same] at e; rw [z, upd_same]; exact e
      · rw [upd_ne z] at e; rw [upd_ne z]; exact g2 _ _ e) (by
      funext a
      by_cases z : a = q2
      · rw [z, minus_some (o := .lst []) upd_same, minus_some (o := .lst us) hq]
      · cases y : F' a with
        | some w => rw [minus_some (o := w) (by rw [upd_ne z]; exact y), minus_some y]
        | none => rw [minus_none (by rw [upd_ne z]; exact y), minus_none y, upd_ne z])
  exact (hr _).ev B Hi T tv s _ D o hx hl s4 k⟩
/-- a value, and our own list in slot l changed -/
def XvJ [Rq α] [Rq β] (t : TE) (G : List SV) (l : Nat) (m : Option (α × List β)) : Prop :=
  ∀ (B : Bk) (Hi : Hp) (T : List SV) (tv s : L2.St) (H : Hp) (Q : VK) (z : α × List β), m = some z → tv.length = T.length → SatG B Hi (T ++ G) (tv ++ s) H →
    (∀ v Hi' H', SatG B Hi' (T ++ G.set l (ol z.2)) (tv ++ s) H' → rq Hi' z.1 v → Q v H') → t s H Q
structure XJ [Rq α] [Rq β] (X : Cx) (e : Expr) (t : TE) (G : List SV) (l : Nat) (m : Option (α × List β)) : Prop where
  pe : PE X e t
  ev : XvJ t G l m
theorem xj_pop [Rq α] {xs : List α} (l : Nat) {p2 apos cpos : Pos} (hg : G[l]? = some (ol xs) := by rfl)
    (hN : X.N[l]? = some n := by rfl) (hv : Vis X.env.scope n := by first | exact Or.inl rfl | exact Or.inr (Or.inl rfl) | exact Or.inr (Or.inr rfl)) (hd : (n == ("__debug__" : Str)) = false := by decide) (hcd : (n == ("__classdict__" : Str)) = false := by decide)
    (hbase : attributeBase (.Name n p2) "pop" X.env (eval (.Name n p2) X.env) = eval (.Name n p2) X.env := by rfl) (hline : (apos.endLine == cpos.line) = true := by rfl) :
    XJ X (.Call (.Attribute (.Name n p2) "pop" apos) [] [] cpos) (tBM0 X.K "list" rPop (tVar l)) G l (popC xs) :=
  ⟨pe_bm0 PySem.F.plainAttrs_list PySem.F.slot_list_pop PySem.F.type_list_pop mt_pop (pe_var hN hv hd hcd) hbase hline, fun B Hi T tv s H Q z hx hl hs k => by
  obtain ⟨q, w, h1, h2, ⟨vs, h3, h4, h5⟩, h6, up⟩ := hs.ownT hl hg
  subst h3
  unfold popC at hx
  cases hq : xs.getLast? with
  | none => rw [hq] at hx; cases hx
  | some y =>
    rw [hq] at hx
    cases hx
    rw [List.getLast?_eq_getElem?] at hq
    obtain ⟨v, e1, e2⟩ := Paired.get h5 hq
    rw [Paired.length h5] at e1
    refine ⟨.ref q, h1, .inl ⟨rfl, _, SqL.of h2⟩, q, vs, v, rfl, rfl, h2, e1, ?_⟩
    exact k v Hi _ (up (.lst vs.dropLast) (isL xs.dropLast) (isL_mono _) ⟨_, rfl, by rw [List.length_dropLast]; omega, Paired.dropLast h5⟩) e2⟩
/-- xs.pop(i) -/
def popAtC (xs : List α) (i : Int) : Option (α × List α) := (ixN xs.length i).bind fun j => xs[j]?.map fun y => (y, xs.eraseIdx j)
theorem xj_popAt [Rq α] {xs : List α} {m : Option Int} (l : Nat) (h : EJ X e t G m) {p2 apos cpos : Pos} (hg : G[l]? = some (ol xs) := by rfl)
    (hN : X.N[l]? = some n := by rfl) (hv : Vis X.env.scope n := by first | exact Or.inl rfl | exact Or.inr (Or.inl rfl) | exact Or.inr (Or.inr rfl)) (hd : (n == ("__debug__" : Str)) = false := by decide) (hcd : (n == ("__classdict__" : Str)) = false := by decide)
    (hbase : attributeBase (.Name n p2) "pop" X.env (eval (.Name n p2) X.env) = eval (.Name n p2) X.env := by rfl)
    (hfew : ((backTo cpos (starEach [e] X.env)).all (fun x => !x.1) && (backToKw cpos (keywordEach [] X.env)).all (fun x => x.1.isSome) && decide ([e].length + ([] : List Keyword).length + (if ([] : List Keyword).isEmpty then 0 else 1) < 30)) = true := by rfl)
    (hline : (apos.endLine == cpos.line) = true := by rfl) (hst : starEach [e] X.env = (false, eval e X.env) :: starEach [] X.env := by rfl) (hplain : (backTo cpos (starEach [] X.env)).any (·.1) = false := by rfl) :
    XJ X (.Call (.Attribute (.Name n p2) "pop" apos) [e] [] cpos) (tBM X.K "list" rPopAt (tVar l) (tCons t tNil)) G l (m.bind fun i => popAtC xs i) :=
  ⟨pe_bm PySem.F.plainAttrs_list PySem.F.slot_list_pop PySem.F.type_list_pop mt_popAt (pe_var hN hv hd hcd) (pa_cons h.pe pa_nil hst) hbase hfew hline hst hplain, fun B Hi T tv s H Q z hx hl hs k => by
  obtain ⟨i, e1, e2⟩ := bind_some hx
  obtain ⟨q, w, h1, h2, ⟨vs, h3, h4, h5⟩, h6, up⟩ := hs.ownT hl hg
  subst h3
  refine ⟨.ref q, h1, .inl ⟨rfl, _, SqL.of h2⟩, ?_⟩
  refine h.ev B Hi T tv s H _ i e1 hl hs fun v Hi2 H2 s2 r2 => ?_
  cases r2
  obtain ⟨q', w', g1, g2, ⟨us, g3, g4, g5⟩, g6, up⟩ := s2.ownT hl hg
  rw [h1] at g1
  cases g1
  subst g3
  obtain ⟨j, j1, j2⟩ := bind_some e2
  obtain ⟨y, y1, y2⟩ := Option.map_eq_some_iff.mp j2
  subst y2
  obtain ⟨q1, q2, q3, q4⟩ := ixN_seq j1
  obtain ⟨vy, f1, f2⟩ := Paired.get g5 y1
  have hz := g4
  rw [sizeLine_eq] at hz
  rw [Paired.length g5] at q1 q2 q3 q4
  refine ⟨q, us, i, j, vy, rfl, rfl, g2, by omega, by omega, q1, f1, ?_⟩
  exact k vy Hi2 _ (up (.lst (us.eraseIdx j)) (isL (xs.eraseIdx j)) (isL_mono _) ⟨_, rfl, Nat.le_trans (len_erase _ _) g4, Paired.erase j g5⟩) f2⟩
/-- name = xs.pop(..) -/
theorem bj_asgX [Rq α] [Rq β] {m1 : Option (α × List β)} {m2 : α × List β → Option O} (hN : X.N.Nodup) (i l : Nat) (h : XJ X e t G l m1) (x0 : α × List β) (hr : ∀ z, BJ X rest u ((G.set l (ol z.2)).set i (fz z.1)) (m2 z) P) {p2 : Pos}
    (hi : X.N[i]? = some n := by rfl) (hx : Loc X.env.scope n := by first | exact Or.inl rfl | exact Or.inr rfl) (hs : swapsWith e (some (.Name n p2)) pos.line X.env = pure false := by rfl) (hf : X.fn n = true ∨ X.env.scope.names.lookup n = some .local := by first | exact .inl rfl | exact .inr rfl | assumption) :
    BJ X (.Assign [.Name n p2] e pos :: rest) (tSeq (tAsg t (gName i)) u) G (m1.bind m2) P := ⟨pss_cons (ps_set hN hi hx h.pe hs hf) (hr x0).ps, fun B Hi T tv s H D o hx hl hs k => by
  obtain ⟨z, e1, e2⟩ := bind_some hx
  refine h.ev B Hi T tv s H _ z e1 hl hs fun v Hi1 H1 s1 r1 => ?_
  have s2 : SatG B Hi1 (fz z.1 :: (T ++ G.set l (ol z.2))) (some v :: (tv ++ s)) H1 := ⟨⟨v, rfl, r1⟩, s1⟩
  exact (hr z).ev B Hi1 T tv _ H1 D o e2 hl (s2.putT hl) k⟩
/-- a, b = xs.pop(..) -/
theorem bj_asgGX [Rq α] [Rq β] {tg : Expr} {g : TG} {f : α → List SV → List SV} {ids : List Nat} {m1 : Option (α × List β)} {m2 : α × List β → Option O} (l : Nat) (hg : GJ X tg g f ids) (h : XJ X e t G l m1) (hr : ∀ z, BJ X rest u (f z.1 (G.set l (ol z.2))) (m2 z) P)
    (hs : swapsWithSole [tg] e pos.line X.env = pure false := by rfl) (hw : swappedStores [tg] e X.env = pure none := by rfl) (h1 : (assignEach [tg] X.env).map (·.2) = [assign tg X.env] := by rfl) (x0 : α × List β) :
    BJ X (.Assign [tg] e pos :: rest) (tSeq (tAsg t g) u) G (m1.bind m2) P := ⟨pss_cons (ps_asg h.pe hg.pg hs hw h1) (hr x0).ps, fun B Hi T tv s H D o hx hl hs k => by
  obtain ⟨z, e1, e2⟩ := bind_some hx
  refine h.ev B Hi T tv s H _ z e1 hl hs fun v Hi1 H1 s1 r1 => ?_
  refine hg.ev B Hi1 T tv s H1 _ v z.1 _ hl s1 r1 fun s' s2 _ => ?_
  exact (hr z).ev B Hi1 T tv s' H1 D o e2 hl s2 k⟩
/-- [xs.pop(..)] as a new list of our own -/
theorem bj_asgLX [Rq α] [Rq β] {m1 : Option (α × List β)} {m2 : α × List β → Option O} (hN : X.N.Nodup) (i l : Nat) (h : XJ X e t G l m1) (x0 : α × List β) (hr : ∀ z, BJ X rest u ((G.set l (ol z.2)).set i (ol [z.1])) (m2 z) P) {p2 p3 : Pos}
    (hi : X.N[i]? = some n := by rfl) (hx : Loc X.env.scope n := by first | exact Or.inl rfl | exact Or.inr rfl) (hs : swapsWith (.List [e] p3) (some (.Name n p2)) pos.line X.env = pure false := by rfl) (hf : X.fn n = true ∨ X.env.scope.names.lookup n = some .local := by first | exact .inl rfl | exact .inr rfl | assumption) (hst : starEach [e] X.env = (false, eval e X.env) :: starEach [] X.env := by rfl) :
    BJ X (.Assign [.Name n p2] (.List [e] p3) pos :: rest) (tSeq (tAsg (tLst (tCons t tNil)) (gName i)) u) G (m1.bind m2) P := ⟨pss_cons (ps_set hN hi hx (pe_lst (pa_cons h.pe pa_nil hst)) hs hf) (hr x0).ps, fun B Hi T tv s H D o hx hl hs k => by
  obtain ⟨z, e1, e2⟩ := bind_some hx
  refine h.ev B Hi T tv s H _ z e1 hl hs fun v Hi1 H1 s1 r1 => ?_
  refine ⟨by show 1 ≤ sizeLine; decide, fun q hq => ?_⟩
  have s2 := s1.newO (φ := isL [z.1]) (m := isL_mono _) hq ⟨[v], rfl, by show 1 ≤ sizeLine; decide, .cons r1 .nil⟩
  exact (hr z).ev B Hi1 T tv _ _ D o e2 hl (s2.putT hl) k⟩
/-- ys.append(xs.pop(..)) -/
theorem bj_appX [Rq α] [Rq β] {ys : List α} {m1 : Option (α × List β)} {m3 : α × List β → List α → Option O} (j l : Nat) (h : XJ X e t G l m1) (x0 : α × List β) (hr : ∀ z zs, BJ X rest u ((G.set l (ol z.2)).set j (ol zs)) (m3 z zs) P) {p2 apos cpos : Pos} (hg : G[j]? = some (ol ys) := by rfl) (hg2 : ∀ z : List β, (G.set l (ol z))[j]? = some (ol ys) := by intro _; rfl)
    (hN : X.N[j]? = some n := by rfl) (hv : Vis X.env.scope n := by first | exact Or.inl rfl | exact Or.inr (Or.inl rfl) | exact Or.inr (Or.inr rfl)) (hd : (n == ("__debug__" : Str)) = false := by decide) (hcd : (n == ("__classdict__" : Str)) = false := by decide)
    (hbase : attributeBase (.Name n p2) "append" X.env (eval (.Name n p2) X.env) = eval (.Name n p2) X.env := by rfl)
    (hfew : ((backTo cpos (starEach [e] X.env)).all (fun x => !x.1) && (backToKw cpos (keywordEach [] X.env)).all (fun x => x.1.isSome) && decide ([e].length + ([] : List Keyword).length + (if ([] : List Keyword).isEmpty then 0 else 1) < 30)) = true := by rfl)
    (hline : (apos.endLine == cpos.line) = true := by rfl) (hst : starEach [e] X.env = (false, eval e X.env) :: starEach [] X.env := by rfl) (hplain : (backTo cpos (starEach [] X.env)).any (·.1) = false := by rfl) (hsw : swapsWith (.Call (.Attribute (.Name n p2) "append" apos) [e] [] cpos) none pos.line X.env = pure false := by rfl) :
    BJ X (.Expr (.Call (.Attribute (.Name n p2) "append" apos) [e] [] cpos) pos :: rest) (tSeq (tDrop (tBM X.K "list" rAppend (tVar j) (tCons t tNil))) u) G (m1.bind fun z => (appC ys z.1).bind (m3 z)) P :=
  ⟨pss_cons (ps_expr (pe_bm PySem.F.plainAttrs_list PySem.F.slot_list_append PySem.F.type_list_append mt_append (pe_var hN hv hd hcd) (pa_cons h.pe pa_nil hst) hbase hfew hline hst hplain) hsw) (hr x0 []).ps, fun B Hi T tv s H D o hx hl hs k => by
  obtain ⟨z, e1, hx⟩ := bind_some hx
  obtain ⟨zs, e3, e4⟩ := bind_some hx
  obtain ⟨q, w, h1, h2, ⟨vs, h3, h4, h5⟩, h6, _⟩ := hs.ownT hl hg
  subst h3
  refine ⟨.ref q, h1, .inl ⟨rfl, _, SqL.of h2⟩, ?_⟩
  refine h.ev B Hi T tv s H _ z e1 hl hs fun v Hi2 H2 s2 r2 => ?_
  obtain ⟨q', w', g1, g2, ⟨us, g3, g4, g5⟩, g6, up⟩ := s2.ownT hl (hg2 z.2)
  rw [h1] at g1
  cases g1
  subst g3
  show rAppend (V.ref q) [v] H2 (fun x H1 => u D s H1)
  refine app_ok q Hi2 H2 ys z.1 us v zs _ s2.sub g2 g4 g5 r2 e3 fun ws y z1 z2 => ?_
  have s3 := up (.lst ws) (isL zs) (isL_mono _) ⟨_, rfl, z1, z2⟩
  exact (hr z zs).ev B Hi2 T tv s _ D o e4 hl s3 k⟩
/-- xs[::-1] -/
theorem oj_rev [Rq α] {m : Option (List α)} {k : Nat} {p1 p2 p3 : Pos} (h : LK X e t G m) : OJ X (.Subscript e (.Slice none none (some (.UnaryOp .USub (.Constant (.int 1) k p1) p2)) p3) pos) (tRevL X.K t) G (m.bind fun x => some x.reverse) := ⟨pe_revL h.pe, fun B Hi T tv s H Q z hx hl hs k => by
  obtain ⟨x, e1, e2⟩ := bind_some hx
  cases e2
  refine h.ev B Hi T tv s H _ x e1 hl hs fun vx T' tv' Hi1 H1 l1 s1 r1 => ?_
  obtain ⟨s4, a, vs, g1, g2, g3, g4⟩ := r1 Hi1 H1 s1
  exact ⟨a, vs, g1, g2, fun q hq => k q Hi1 _ (s4.newO (φ := isL _) hq ⟨_, rfl, by rw [List.length_reverse]; exact g3, Paired.reverse g4⟩)⟩⟩
end
section
variable {P : Program} {w : World} {K : PySem.W.Frag} {mg : Str → Option Value} {base : Heap} {x qual : Str} {st : Stmt} {f : Addr} {fd : FuncData} {N ps : List Str} {k : Nat} {τ ρ α : Type} {dr : OT ρ} {d : OT α}
theorem fun_W [RpL τ] {F : τ → Option ρ} (Fn : Fun K x qual st f fd) (S : FnScope N ps (defScope st)) (hn : RpL.n τ = ps.length)
    (body : ∀ (cdv : Value) (A : Around) (outer : List Env) (s : Shared) (H : Hp) (E : XK), Room k (A.deeper (envOfC qual (defScope st) s.heap.objs.size f cdv)) →
      ∀ z : τ, ∃ t m, BJ (cxOf CX0 P w K mg base N qual (defScope st) f cdv A outer s H E).nox (defBody st) t (gam N z) m (PW dr) ∧ m = F z)
    (hm : mg x = some (.ref f)) (hb : Binds K fd ps []) : CalB P w K mg base (k + 1) x (SpW dr F) := by
  refine ⟨f, fd, ps, Fn.ok S (fun vs H Q E h => ?_) (fun cdv A outer s H vs Q E hr h => ?_), hm, Fn.kp, hb⟩
  · obtain ⟨Ha, z, r, h1, h2, _⟩ := h
    rw [RpL.len h2, hn]
  · obtain ⟨Ha, z, r, h1, h2, h3, h4⟩ := h
    obtain ⟨t, m, b, e⟩ := body cdv A outer s H E hr z
    subst e
    refine ⟨t, b.ps, b.ev ⟨H, Ha⟩ Ha [] [] (start N vs) H _ r h3 rfl (sat_start h1 h2) fun p Hi H' q1 => ?_⟩
    obtain ⟨p', F', e1, sf, hz, g1, g2, g3, g4⟩ := q1
    cases e1
    refine h4 p F' H' g2 sf (dr.m _ _ _ _ _ (fun a o e => ?_) hz)
    cases q : H a with
    | none => rw [join_none q]; exact g1 _ _ e
    | some u => rw [join_some q]; exact (g4 _ _ q).symm.trans e
/-- one argument, ours -/
theorem fun_C {F : α → Option ρ} (Fn : Fun K x qual st f fd) (S : FnScope N ps (defScope st)) (hn : 1 = ps.length)
    (body : ∀ (cdv : Value) (A : Around) (outer : List Env) (s : Shared) (H : Hp) (E : XK), Room k (A.deeper (envOfC qual (defScope st) s.heap.objs.size f cdv)) →
      ∀ z : α, ∃ t m, BJ (cxOf CX0 P w K mg base N qual (defScope st) f cdv A outer s H E).nox (defBody st) t (oo d z :: List.replicate (N.length - 1) .un) m (PW dr) ∧ m = F z)
    (hm : mg x = some (.ref f)) (hb : Binds K fd ps []) : CalB P w K mg base (k + 1) x (SpC d dr F) := by
  refine ⟨f, fd, ps, Fn.ok S (fun vs H Q E h => ?_) (fun cdv A outer s H vs Q E hr h => ?_), hm, Fn.kp, hb⟩
  · obtain ⟨Ha, z, p, F0, r, rfl, _⟩ := h
    exact hn
  · obtain ⟨Ha, z, p, F0, r, rfl, h1, h2, h2', h3, h4⟩ := h
    obtain ⟨t, m, b, e⟩ := body cdv A outer s H E hr z
    subst e
    have s0 : SatG ⟨minus H F0, Ha⟩ Ha (oo d z :: List.replicate (N.length - 1) .un) (start N [.ref p]) H := ⟨p, F0, rfl, h1, h2', sat_uns ⟨h2, Same.refl _, Same.refl Ha, fun _ _ _ => rfl⟩ _⟩
    refine ⟨t, b.ps, b.ev ⟨minus H F0, Ha⟩ Ha [] [] (start N [.ref p]) H _ r h3 rfl s0 fun q Hi H' q1 => ?_⟩
    obtain ⟨p', F', e1, sf, hz, g1, g2, g3, g4⟩ := q1
    cases e1
    refine h4 q F' H' g2 sf (dr.m _ _ _ _ _ (fun a o e => ?_) hz)
    cases y : minus H F0 a with
    | none => rw [join_none y]; exact g1 _ _ e
    | some u => rw [join_some y]; exact (g4 _ _ y).symm.trans e
end
end GM
namespace GM
open PySem PySem.Spec PyProof.Rows L2
instance {α β : Type} [DecidableEq α] [DecidableEq β] : DecidableEq (Ll α β) := fun x y =>
  if h : x.a = y.a ∧ x.b = y.b then isTrue (by cases x; cases y; obtain ⟨h1, h2⟩ := h; cases h1; cases h2; rfl) else isFalse (fun e => h (by rw [e]; exact ⟨rfl, rfl⟩))
theorem da_layL {α : Type} [Rq α] [DecidableEq α] [Da α] (x : α) : PyData.canLay0 (Da.dat x) = true := Da.lay x
instance {α β : Type} [Rq α] [Rq β] [DecidableEq α] [DecidableEq β] [Da α] [Da β] : Da (Ll α β) := ⟨fun x => .list [Da.dat x.a, Da.dat x.b], max (Da.dep α) (Da.dep β) + 1, fun h => by
    obtain ⟨a, v1, v2, h1, h2, h3, h4⟩ := h
    subst h1
    exact .lst (SqL.of h2) (.cons (Da.dp h3) (.cons (Da.dp h4) .nil)), fun x => by
    show max (PyData.depth (Da.dat x.a)) (max (PyData.depth (Da.dat x.b)) 0) + 1 ≤ _
    have := Da.hd x.a
    have := Da.hd x.b
    omega, fun x => by
    show (PyData.canLay0 (Da.dat x.a) && (PyData.canLay0 (Da.dat x.b) && true)) = true
    rw [Da.lay, Da.lay]; rfl, fun x y => by
    show (PyData.eqv (Da.dat x.a) (Da.dat y.a) && (PyData.eqv (Da.dat x.b) (Da.dat y.b) && true)) = _
    rw [Da.eqv, Da.eqv, Bool.and_true, ← Bool.decide_and]
    exact dec_iff ⟨fun ⟨h1, h2⟩ => by cases x; cases y; cases h1; cases h2; rfl, fun h => by rw [h]; exact ⟨rfl, rfl⟩⟩⟩
end GM
namespace GM
open PySem PySem.Spec PyProof.Rows L2
instance {α β : Type} [Rq α] [Rq β] [DecidableEq α] [DecidableEq β] [Da α] [Da β] : Da (Option (α × β)) := ⟨fun x => match x with | none => .none | some y => Da.dat y, Da.dep (α × β), fun {K H x v} h => by
    cases x with
    | none => cases (show v = .non from h); exact .non
    | some y => exact Da.dp (show rq H y v from h), fun x => by
    cases x with
    | none => exact Nat.zero_le _
    | some y => exact Da.hd y, fun x => by
    cases x with
    | none => rfl
    | some y => exact Da.lay y, fun x y => by
    cases x with
    | none => cases y with
      | none => rfl
      | some y => rw [decide_eq_false (by intro h; cases h)]; rfl
    | some x => cases y with
      | none => rw [decide_eq_false (by intro h; cases h)]; rfl
      | some y =>
        show PyData.eqv (Da.dat x) (Da.dat y) = _
        rw [Da.eqv]
        exact dec_iff (by rw [Option.some.injEq])⟩
section
variable {X : Cx} {e a b c : Expr} {es : List Expr} {t ta tb tc td ty te : TE} {tr : TA} {G : List SV} {α β γ τ ρ O S R : Type} {pos p : Pos}
/-- x in xs, by == of data -/
def inD {α : Type} [DecidableEq α] (x : α) (xs : List α) : Bool := decide (x ∈ xs)
theorem any_eqv [Rq α] [DecidableEq α] [Da α] (x : α) : ∀ xs : List α, ((xs.map Da.dat).any fun z => PyData.eqv z (Da.dat x)) = decide (x ∈ xs)
  | [] => rfl
  | y :: xs => by
    rw [List.map_cons, List.any_cons, any_eqv x xs, Da.eqv, ← Bool.decide_or]
    exact dec_iff (by rw [List.mem_cons]; exact ⟨fun z => z.imp (fun e => e.symm) id, fun z => z.imp (fun e => e.symm) id⟩)
theorem ev_inD [Rq α] [DecidableEq α] [Da α] {K : PySem.W.Frag} {r : R2} {g : Bool → Bool} (hr : ∀ x y H Q, (∃ d ds, Dp K H x d ∧ Dp K H y (.list ds) ∧ SeqAt.shaped d = true ∧ SeqAt.shaped (.list ds) = true ∧ Q (.bl (g (ds.any fun z => PyData.eqv z d))) H) → r x y H Q) (hd : Da.dep (List α) ≤ 64) {m1 : Option α} {m2 : Option (List α)} (ha : EvJ ta G m1) (hb : StJ wideU tb G m2) :
    EvJ (tOp r ta tb) G (m1.bind fun x => m2.bind fun y => some (g (inD x y))) := fun B Hi T tv s H Q z hx hl hs k => by
  obtain ⟨x, e1, hx⟩ := bind_some hx
  obtain ⟨y, e2, e3⟩ := bind_some hx
  cases e3
  refine ha B Hi T tv s H _ x e1 hl hs fun vx Hi1 H1 s1 r1 => ?_
  refine hb B Hi1 (fz x :: T) (some vx :: tv) s H1 _ y e2 (by simp [hl]) ⟨⟨vx, rfl, r1⟩, s1⟩ fun vy T'' tv'' Hi2 H2 l2 s2 r2 => ?_
  obtain ⟨s3, r3⟩ := r2 Hi2 H2 s2
  obtain ⟨⟨v', e4, r1'⟩, s3⟩ := s3
  cases e4
  have w := wide_sub s3.sub
  have sh : ∀ x : α, SeqAt.shaped (Da.dat x) = true := fun x => by
    unfold SeqAt.shaped
    have h1 := Da.hd x
    have h2 : Da.dep α + 1 ≤ 64 := hd
    rw [Da.lay, decide_eq_true (by omega)]; rfl
  have sl : SeqAt.shaped (Da.dat y) = true := by
    unfold SeqAt.shaped
    rw [Da.lay, decide_eq_true (Nat.le_trans (Da.hd y) hd)]; rfl
  exact hr _ _ _ _ ⟨Da.dat x, y.map Da.dat, Da.dp (Rq.mono s3.sub r1'), Da.dp (Rq.mono w r3), sh x, sl, k _ Hi2 H2 s3 (by rw [any_eqv]; rfl)⟩
theorem ej_inD [Rq α] [DecidableEq α] [Da α] {m1 : Option α} {m2 : Option (List α)} (hu : X.A.units + 65 < cLine) (ha : EJ X a ta G m1) (hb : WJ X b tb G m2) (hd : Da.dep (List α) ≤ 64 := by decide) (hm : behindInMarks .In b = false := by with_unfolding_all rfl) : EJ X (.Compare a [.In] [b] pos) (tOp (rInD X.K) ta tb) G (m1.bind fun x => m2.bind fun y => some (inD x y)) :=
  ⟨pe_cmpR (op_inD hu) ha.pe hb.pe hm, ev_inD (g := id) (fun _ _ _ _ h => h) hd ha.ev hb.ev⟩
theorem ej_notinD [Rq α] [DecidableEq α] [Da α] {m1 : Option α} {m2 : Option (List α)} (hu : X.A.units + 65 < cLine) (ha : EJ X a ta G m1) (hb : WJ X b tb G m2) (hd : Da.dep (List α) ≤ 64 := by decide) (hm : behindInMarks .NotIn b = false := by with_unfolding_all rfl) : EJ X (.Compare a [.NotIn] [b] pos) (tOp (rNotInD X.K) ta tb) G (m1.bind fun x => m2.bind fun y => some (!inD x y)) :=
  ⟨pe_cmpR (op_notInD hu) ha.pe hb.pe hm, ev_inD (g := not) (fun _ _ _ _ h => h) hd ha.ev hb.ev⟩
theorem tj_inD [Rq α] [DecidableEq α] [Da α] {m1 : Option α} {m2 : Option (List α)} (hu : X.A.units + 65 < cLine) (ha : EJ X a ta G m1) (hb : WJ X b tb G m2) (hd : Da.dep (List α) ≤ 64 := by decide) (hm : behindInMarks .In b = false := by with_unfolding_all rfl) : TJ X (.Compare a [.In] [b] pos) (tTest (tOp (rInD X.K) ta tb)) G (m1.bind fun x => m2.bind fun y => some (inD x y)) :=
  ⟨pt_cmpR (op_inD hu) ha.pe hb.pe hm, tv_test (ej_inD (pos := pos) hu ha hb hd hm).ev⟩
theorem tj_notinD [Rq α] [DecidableEq α] [Da α] {m1 : Option α} {m2 : Option (List α)} (hu : X.A.units + 65 < cLine) (ha : EJ X a ta G m1) (hb : WJ X b tb G m2) (hd : Da.dep (List α) ≤ 64 := by decide) (hm : behindInMarks .NotIn b = false := by with_unfolding_all rfl) : TJ X (.Compare a [.NotIn] [b] pos) (tTest (tOp (rNotInD X.K) ta tb)) G (m1.bind fun x => m2.bind fun y => some (!inD x y)) :=
  ⟨pt_cmpR (op_notInD hu) ha.pe hb.pe hm, tv_test (ej_notinD (pos := pos) hu ha hb hd hm).ev⟩
end
end GM
namespace GM
open PySem PySem.Spec PyProof.Rows L2
section
variable {X : Cx} {G : List SV} {α β ρ O : Type} {pos p : Pos} {n n' : Str} {P : Post O}
/-- return (xs, ys), both our own -/
theorem bj_ret2N {α β : Type} {d : OT α} {d' : OT β} {x : α} {y : β} {inj : α × β → O} [Rt P (PW (ot2 d d')) inj] (i j : Nat) (hi : G[i]? = some (oo d x) := by rfl) (hj : G[j]? = some (oo d' y) := by rfl) (hij : i ≠ j := by decide)
    (hN : X.N[i]? = some n := by rfl) (hv : Vis X.env.scope n := by first | exact Or.inl rfl | exact Or.inr (Or.inl rfl) | exact Or.inr (Or.inr rfl)) (hd : (n == ("__debug__" : Str)) = false := by decide) (hcd : (n == ("__classdict__" : Str)) = false := by decide)
    (hN' : X.N[j]? = some n' := by rfl) (hv' : Vis X.env.scope n' := by first | exact Or.inl rfl | exact Or.inr (Or.inl rfl) | exact Or.inr (Or.inr rfl)) (hd' : (n' == ("__debug__" : Str)) = false := by decide) (hcd' : (n' == ("__classdict__" : Str)) = false := by decide) {p2 p3 p4 : Pos} {x1}
    (he : starEach [.Name n p2, .Name n' p3] X.env = (false, eval (.Name n p2) X.env) :: starEach [.Name n' p3] X.env := by rfl) (he2 : starEach [.Name n' p3] X.env = (false, eval (.Name n' p3) X.env) :: starEach [] X.env := by rfl) :
    BJ X (.Return (some (.Tuple [.Name n p2, .Name n' p3] x1 p4)) pos :: []) (tSeq (tRet (tTup (tCons (tVar i) (tCons (tVar j) tNil)))) tNext) G (some (inj (x, y))) P :=
  ⟨pss_cons (ps_ret (pe_tup (pa_cons (pe_var hN hv hd hcd) (pa_cons (pe_var hN' hv' hd' hcd') pa_nil he2) he))) pss_nil, fun B Hi T tv s H D o hx hl hs k => by
  cases hx
  obtain ⟨q1, F1, h1, _, _, _, _⟩ := hs.ownFT hl hi
  obtain ⟨q2, F2, h2, _, _, _, _⟩ := hs.ownFT hl hj
  have z1 := hs.front (i := T.length + i) (by rw [get_app]; exact hi)
  rw [set_app, ← hl, get_app, h1] at z1
  have gj : (oo d x :: (T ++ G.set i .un))[T.length + j + 1]? = some (oo d' y) := by
    rw [List.getElem?_cons_succ, get_app, List.getElem?_set_ne hij]; exact hj
  have z1' : SatG B Hi (oo d x :: (T ++ G.set i .un)) (some (.ref q1) :: (tv ++ s)) H := z1
  have z2 := z1'.front gj
  have e1 : (oo d x :: (T ++ G.set i .un)).set (T.length + j + 1) .un = oo d x :: (T ++ (G.set i .un).set j .un) := by
    rw [List.set_cons_succ, set_app]
  have e2 : (some (V.ref q1) :: (tv ++ s))[T.length + j + 1]? = some (some (.ref q2)) := by
    rw [List.getElem?_cons_succ, ← hl, get_app]; exact h2
  rw [e1, e2] at z2
  have z3 : SatG B Hi (oo d' y :: oo d x :: (T ++ (G.set i .un).set j .un)) (some (.ref q2) :: some (.ref q1) :: (tv ++ s)) H := z2
  refine ⟨.ref q1, h1, .ref q2, h2, by show 2 ≤ sizeLine; decide, fun q hq => ?_⟩
  obtain ⟨F, G1, f1, f2, f3, f4, f5, f6⟩ := sat_two (u := .tup [.ref q1, .ref q2]) z3 hq
  have f7 : SatG B Hi [oo (ot2 d d') (x, y)] [some (.ref q)] (upd H q (.tup [.ref q1, .ref q2])) := ⟨q, F, rfl, f5, ⟨q1, q2, G1, _, f1, f2, f3, rfl, f4⟩, SatG.bare f6⟩
  exact Rt.rt (P := P) (Pr := PW (ot2 d d')) (inj := inj) (x, y) B T tv D k q Hi _ f7⟩
end
end GM
namespace GM
open PySem L2
theorem room65 {k : Nat} {A : Around} (r : Room k A) : A.units + 65 < cLine := by have := r.un; omega
end GM
namespace GM
open PySem PySem.Spec PyProof.Rows L2
/-- our own list of two, what it holds stands still -/
def oLf {α β : Type} [Rq α] [Rq β] : OT (Ll α β) := ⟨fun H x p F => ∃ v1 v2, F = one p (.lst [v1, v2]) ∧ rq H x.a v1 ∧ rq H x.b v2, fun H H' x p F e ⟨v1, v2, h1, h2, h3⟩ => ⟨v1, v2, h1, Rq.mono e h2, Rq.mono e h3⟩⟩
instance {α β : Type} [Rq α] [Rq β] : Th (oLf (α := α) (β := β)) := ⟨fun {H x p F} n ⟨v1, v2, h1, h2, h3⟩ => by
  subst h1
  exact ⟨p, v1, v2, rfl, plus_some one_same, Rq.mono (same_plus n) h2, Rq.mono (same_plus n) h3⟩⟩
instance {α β : Type} [Rq α] [Rq β] [NoL α] [NoL β] : NoLD (oLf (α := α) (β := β)) := ⟨fun e ⟨v1, v2, h1, h2, h3⟩ => ⟨v1, v2, h1, NoL.tr e h2, NoL.tr e h3⟩⟩
section
variable {X : Cx} {G : List SV} {α β ρ O : Type} {pos p : Pos} {tr : TA} {a b : Expr}
theorem qj_lf [Rq α] [Rq β] {m : Option (α × β × Unit)} (h : AJ X [a, b] tr G m) : QJ oLf X (.List [a, b] pos) (tLst tr) G (m.bind fun x => some (Ll.mk x.1 x.2.1)) := ⟨pe_lst h.pa, fun B Hi T tv s H Q z hx hl hs k => by
  obtain ⟨x, e1, e2⟩ := bind_some hx
  cases e2
  refine h.ev B Hi T tv s H _ x e1 hl hs fun vs Hi1 H1 s1 r1 => ?_
  obtain ⟨v1, us, rfl, h1, v2, us2, rfl, h2, h3⟩ := r1
  cases h3
  refine ⟨by show 2 ≤ sizeLine; decide, fun p hp => ?_⟩
  refine k p Hi1 _ ⟨p, one p (.lst [v1, v2]), rfl, same_one upd_same, ⟨v1, v2, rfl, h1, h2⟩, ?_⟩
  rw [minus_one, del_upd, del_new hp]
  exact s1⟩
end
end GM
namespace GM
open PySem PySem.Spec PyProof.Rows L2
section
variable {X : Cx} {G : List SV} {α β ρ O : Type} {pos p : Pos} {ta tb : TE} {a b : Expr}
/-- p[i], p a pair -/
theorem ej_ixP [Rq α] {m1 : Option (α × α)} {m2 : Option Int} (ha : EJ X a ta G m1) (hb : EJ X b tb G m2) (hs : PlainIx b := by exact fun _ _ => rfl) : EJ X (.Subscript a b pos) (tOp (rIxT X.K) ta tb) G (m1.bind fun x => m2.bind fun y => atI [x.1, x.2] y) :=
  ⟨pe_ix ix_tup ha.pe hb.pe hs, fun B Hi T tv s H Q z hx hl hs k => by
    obtain ⟨x, e1, hx⟩ := bind_some hx
    obtain ⟨i, e2, e3⟩ := bind_some hx
    refine ha.ev B Hi T tv s H _ x e1 hl hs fun v Hi1 H1 s1 r1 => ?_
    refine hb.ev B Hi1 (fz x :: T) (some v :: tv) s H1 _ i e2 (by simp [hl]) ⟨⟨v, rfl, r1⟩, s1⟩ fun w Hi2 H2 s2 r2 => ?_
    cases r2
    obtain ⟨⟨v', e4, q, v1, v2, h1, h2, h3, h4⟩, s2⟩ := s2
    cases e4; subst h1
    obtain ⟨y, h5, h6⟩ := Paired.atI (l := [x.1, x.2]) (m := [v1, v2]) (.cons h3 (.cons h4 .nil)) e3
    exact ⟨q, [v1, v2], i, y, rfl, rfl, SqT.of (s2.sub _ _ h2), h5, k y Hi2 H2 s2 h6⟩⟩
/-- x in p, p a pair -/
theorem ev_inP [Rp α] [DecidableEq α] [Sc α] {K : PySem.W.Frag} {neg : Bool} {m1 : Option α} {m2 : Option (α × α)} (ha : EvJ ta G m1) (hb : EvJ tb G m2) : EvJ (tOp (rIn K neg) ta tb) G (m1.bind fun x => m2.bind fun y => some (if neg then !decide (x ∈ [y.1, y.2]) else decide (x ∈ [y.1, y.2]))) := fun B Hi T tv s H Q z hx hl hs k => by
  obtain ⟨x, e1, hx⟩ := bind_some hx
  obtain ⟨y, e2, e3⟩ := bind_some hx
  cases e3
  refine ha B Hi T tv s H _ x e1 hl hs fun vx Hi1 H1 s1 r1 => ?_
  refine hb B Hi1 (fz x :: T) (some vx :: tv) s H1 _ y e2 (by simp [hl]) ⟨⟨vx, rfl, r1⟩, s1⟩ fun vy Hi2 H2 s2 r2 => ?_
  obtain ⟨⟨v', e4, r1'⟩, s3⟩ := s2
  cases e4
  obtain ⟨q, v1, v2, h1, h2, h3, h4⟩ := r2
  subst h1
  obtain ⟨g1, g2⟩ := in_pair r1' (.cons h3 (.cons h4 .nil))
  exact ⟨q, [v1, v2], rfl, .inr (SqT.of (s3.sub _ _ h2)), Sc.flat (α := α) r1', g2, k _ Hi2 H2 s3 (by rw [g1]; rfl)⟩
theorem ej_inP [Rp α] [DecidableEq α] [Sc α] {m1 : Option α} {m2 : Option (α × α)} (ha : EJ X a ta G m1) (hb : EJ X b tb G m2) (hm : behindInMarks .In b = false := by with_unfolding_all rfl) :
    EJ X (.Compare a [.In] [b] pos) (tOp (rIn X.K false) ta tb) G (m1.bind fun x => m2.bind fun y => some (decide (x ∈ [y.1, y.2]))) := ⟨pe_cmpR op_in_seq ha.pe hb.pe hm, ev_inP (neg := false) ha.ev hb.ev⟩
theorem ej_notinP [Rp α] [DecidableEq α] [Sc α] {m1 : Option α} {m2 : Option (α × α)} (ha : EJ X a ta G m1) (hb : EJ X b tb G m2) (hm : behindInMarks .NotIn b = false := by with_unfolding_all rfl) :
    EJ X (.Compare a [.NotIn] [b] pos) (tOp (rIn X.K true) ta tb) G (m1.bind fun x => m2.bind fun y => some (!decide (x ∈ [y.1, y.2]))) := ⟨pe_cmpR op_notIn_seq ha.pe hb.pe hm, ev_inP (neg := true) ha.ev hb.ev⟩
theorem tj_inP [Rp α] [DecidableEq α] [Sc α] {m1 : Option α} {m2 : Option (α × α)} (ha : EJ X a ta G m1) (hb : EJ X b tb G m2) (hm : behindInMarks .In b = false := by with_unfolding_all rfl) :
    TJ X (.Compare a [.In] [b] pos) (tTest (tOp (rIn X.K false) ta tb)) G (m1.bind fun x => m2.bind fun y => some (decide (x ∈ [y.1, y.2]))) := ⟨pt_cmpR op_in_seq ha.pe hb.pe hm, tv_test (ev_inP (neg := false) ha.ev hb.ev)⟩
theorem tj_notinP [Rp α] [DecidableEq α] [Sc α] {m1 : Option α} {m2 : Option (α × α)} (ha : EJ X a ta G m1) (hb : EJ X b tb G m2) (hm : behindInMarks .NotIn b = false := by with_unfolding_all rfl) :
    TJ X (.Compare a [.NotIn] [b] pos) (tTest (tOp (rIn X.K true) ta tb)) G (m1.bind fun x => m2.bind fun y => some (!decide (x ∈ [y.1, y.2]))) := ⟨pt_cmpR op_notIn_seq ha.pe hb.pe hm, tv_test (ev_inP (neg := true) ha.ev hb.ev)⟩
end
end GM
/-! min of a list of ordered data (tuples of ints) -/
namespace GM
open PySem PySem.Spec PyProof.Rows L2
/-- data with an order, alike in kind -/
class DaO (α : Type) [Rq α] [DecidableEq α] extends Da α where
  lt : α → α → Bool
  alike : ∀ a b : α, PySem.W.alike (dat a) (dat b) = true
  notNone : ∀ a : α, dat a ≠ .none
  lt_eq : ∀ a b : α, PySem.W.dataLt (dat a) (dat b) = lt a b
instance : DaO Int where
  lt a b := decide (a < b)
  alike a b := by show PySem.W.alike (.int a) (.int b) = true; simp only [PySem.W.alike]
  notNone a := fun e => by cases e
  lt_eq a b := PySem.W.dataLt_int a b
section
variable {α β γ : Type} [Rq α] [Rq β] [Rq γ] [DecidableEq α] [DecidableEq β] [DecidableEq γ] [DaO α] [DaO β] [DaO γ]
theorem dataLt_same (d : PyData) : PySem.W.dataLt d d = false := lex_irrefl _
theorem lt_all {a b : α} {xs ys : List PyData} : PyProof.Rows.lexLt itemOrd (PySem.W.keyToksAll (Da.dat a :: xs)) (PySem.W.keyToksAll (Da.dat b :: ys)) = if a = b then PyProof.Rows.lexLt itemOrd (PySem.W.keyToksAll xs) (PySem.W.keyToksAll ys) else DaO.lt a b := by
  by_cases h : a = b
  · rw [if_pos h, PySem.W.dataLt_all_yes (DaO.alike a b) (by rw [Da.eqv, decide_eq_true_eq]; exact h)]
  · rw [if_neg h, PySem.W.dataLt_all_no (DaO.alike a b) (by rw [Da.eqv, decide_eq_false_iff_not]; exact h)]
    exact DaO.lt_eq a b
theorem lt_last {a b : α} : PyProof.Rows.lexLt itemOrd (PySem.W.keyToksAll [Da.dat a]) (PySem.W.keyToksAll [Da.dat b]) = DaO.lt a b := by
  rw [lt_all]
  by_cases h : a = b
  · rw [if_pos h, lex_irrefl, h]
    exact ((dataLt_same _).symm.trans (DaO.lt_eq b b))
  · rw [if_neg h]
instance : DaO (α × β) where
  lt p q := if p.1 = q.1 then DaO.lt p.2 q.2 else DaO.lt p.1 q.1
  alike p q := by
    show PySem.W.alike (.tuple [_, _]) (.tuple [_, _]) = true
    simp only [PySem.W.alike, PySem.W.alikeAll, DaO.alike, Bool.and_self]
  notNone a := fun e => by cases e
  lt_eq p q := by
    refine (PySem.W.dataLt_tuple _ _).trans ?_
    rw [lt_all, lt_last]
instance {α β γ : Type} [DecidableEq α] [DecidableEq β] [DecidableEq γ] : DecidableEq (T3 α β γ) := fun x y =>
  if h : x.a = y.a ∧ x.b = y.b ∧ x.c = y.c then isTrue (by cases x; cases y; obtain ⟨h1, h2, h3⟩ := h; cases h1; cases h2; cases h3; rfl) else isFalse (fun e => h (by rw [e]; exact ⟨rfl, rfl, rfl⟩))
instance instDaT3 {α β γ : Type} [Rq α] [Rq β] [Rq γ] [DecidableEq α] [DecidableEq β] [DecidableEq γ] [Da α] [Da β] [Da γ] : Da (T3 α β γ) := ⟨fun x => .tuple [Da.dat x.a, Da.dat x.b, Da.dat x.c], max (Da.dep α) (max (Da.dep β) (Da.dep γ)) + 1, fun h => by
    obtain ⟨a, v1, v2, v3, h1, h2, h3, h4, h5⟩ := h
    subst h1
    exact .tup (SqT.of h2) (.cons (Da.dp h3) (.cons (Da.dp h4) (.cons (Da.dp h5) .nil))), fun x => by
    show max (PyData.depth (Da.dat x.a)) (max (PyData.depth (Da.dat x.b)) (max (PyData.depth (Da.dat x.c)) 0)) + 1 ≤ _
    have := Da.hd x.a
    have := Da.hd x.b
    have := Da.hd x.c
    omega, fun x => by
    show (PyData.canLay0 (Da.dat x.a) && (PyData.canLay0 (Da.dat x.b) && (PyData.canLay0 (Da.dat x.c) && true))) = true
    rw [Da.lay, Da.lay, Da.lay]; rfl, fun x y => by
    show (PyData.eqv (Da.dat x.a) (Da.dat y.a) && (PyData.eqv (Da.dat x.b) (Da.dat y.b) && (PyData.eqv (Da.dat x.c) (Da.dat y.c) && true))) = _
    rw [Da.eqv, Da.eqv, Da.eqv, Bool.and_true, ← Bool.decide_and, ← Bool.decide_and]
    exact dec_iff ⟨fun h => by cases x; cases y; obtain ⟨h1, h2, h3⟩ := h; cases h1; cases h2; cases h3; rfl, fun h => by rw [h]; exact ⟨rfl, rfl, rfl⟩⟩⟩
instance : DaO (T3 α β γ) where
  lt p q := if p.a = q.a then if p.b = q.b then DaO.lt p.c q.c else DaO.lt p.b q.b else DaO.lt p.a q.a
  alike p q := by
    show PySem.W.alike (.tuple [_, _, _]) (.tuple [_, _, _]) = true
    simp only [PySem.W.alike, PySem.W.alikeAll, DaO.alike, Bool.and_self]
  notNone a := fun e => by cases e
  lt_eq p q := by
    refine (PySem.W.dataLt_tuple _ _).trans ?_
    rw [lt_all, lt_all, lt_last]
/-- the first of the least -/
def minA : List α → Option α
  | [] => none
  | x :: xs => some (xs.foldl (fun a y => if DaO.lt y a = true then y else a) x)
theorem minA_dat (x : α) : ∀ xs : List α, PySem.W.minD (Da.dat x) (xs.map Da.dat) = Da.dat (xs.foldl (fun a y => if DaO.lt y a = true then y else a) x) := fun xs => by
  unfold PySem.W.minD
  induction xs generalizing x with
  | nil => rfl
  | cons y ys ih =>
    rw [List.map_cons, List.foldl_cons, List.foldl_cons, ← ih]
    (try dsimp only)
    rw [DaO.lt_eq y x]
    cases DaO.lt y x <;> rfl
theorem da_inj {x y : α} (h : Da.dat x = Da.dat y) : x = y := by
  have := Da.eqv x y
  rw [h, Da.eqv y y, decide_eq_true rfl] at this
  exact of_decide_eq_true this.symm
end
section
variable {prog : Program} {w : World} {A : Around} {E : Value → Shared → Prop} {s : Shared}
open PySem.W in
/-- min(l): which item -/
theorem min_at {l : Addr} {vs : Array Value} {x : PyData} {xs : List PyData} {as : List Addr} {Q : Value → Shared → Prop} (hh : A.handled = none) (hl : s.heap.IsList l vs) (hr : ReadsAll s.heap vs.toList (x :: xs) as) (ha : AlikeAll (x :: xs)) (hu : A.units + 1 + PyData.depthAll (x :: xs) < cLine)
    (h : ∀ (i : Nat) v h' tk, vs[i]? = some v → (x :: xs)[i]? = some (minD x xs) → (∀ b o, s.heap.get? b = some o → h'.get? b = some o) → Q v { s with heap := h', toks := tk }) :
    wpAny (model prog w) A (call (.builtin "min") [.ref l]) Q E s := by
  have hn : vs.size = xs.length + 1 := readsAll_len hr
  refine call_min_walkH (iter_listW (A := A.in1) hh hl fun s₂ e W st hfp hw hk => ?_)
  refine ⟨_, _, _, _, _, _, _, s.heap, _, rfl, W, st, hfp, by omega, hw, hk, cmpIn_lt (A := A.in1) hr ha (by show A.units + 1 + _ < _; exact hu), fun v s' hP m => ?_⟩
  obtain ⟨h', tk, rfl, hk'⟩ := moved_old e rfl m
  obtain ⟨bs, r, hlt, _, _⟩ := readsAll_atA hr _ v hP
  have e1 : vs.size - 1 = xs.length := by omega
  have e2 := (argBest_fold dataLt PyData.none x xs xs.length (Nat.le_refl _)).2
  rw [List.take_length] at e2
  rw [e1] at hP hlt
  refine h _ v h' tk hP ?_ hk'
  rw [List.getD_eq_getElem?_getD, List.getElem?_eq_getElem hlt] at e2
  rw [List.getElem?_eq_getElem hlt]
  exact congrArg some e2
end
section
variable {X : Cx}
def rMinA (K : PySem.W.Frag) : List V → Hp → VK → Prop := fun vs H Q => ∃ (a : Addr) (us : List V) (d : PyData) (dt : List PyData), vs = [V.ref a] ∧ SqL K H a us ∧ DpAll K H us (d :: dt) ∧ PySem.W.AlikeAll (d :: dt) ∧ PyData.depthAll (d :: dt) ≤ 60 ∧ ∀ i u, (us)[(i : Nat)]? = some (u : V) → (d :: dt)[i]? = some (PySem.W.minD d dt) → Q u H
theorem vals_at {vs : List V} {us : List Value} (h : Vals vs us) : ∀ {i : Nat} {u : Value}, us[i]? = some u → ∃ v, vs[i]? = some v ∧ RelV v u := by
  induction h with
  | nil => intro i u h; cases h
  | cons r _ ih =>
    intro i u h
    cases i with
    | zero => cases h; exact ⟨_, rfl, r⟩
    | succ i => exact ih h
theorem cr_minA (hc : X.calm = true) (hu : X.A.units + 65 < cLine) : CallR X (.builtin "min") (rMinA X.K) := by
  intro pins s σ H vs us Q I r h
  obtain ⟨a, xs, d, dt, rfl, hs, hd, al, dep, q⟩ := h
  obtain ⟨its, rv, hl, _⟩ := I.list hs
  obtain ⟨as, hr⟩ := Dp.readsAll I _ _ its hd rv
  rw [Vals.ref1 r]
  refine min_at (I.ok.hd hc) hl.isList (vs := its.toArray) hr al (by omega) fun i v h' tk g1 g2 hk => ?_
  obtain ⟨u, g3, g4⟩ := vals_at rv (by simpa using g1)
  exact ⟨u, H, I.kept hk, g4, q i u g3 g2⟩
variable {G : List SV} {α : Type} {pos p : Pos} {a : Expr} {ta : TE}
theorem paired_at {α β : Type} {F : α → β → Prop} {l : List α} {m : List β} (h : Paired F l m) : ∀ {i : Nat} {y : β}, m[i]? = some y → ∃ x, l[i]? = some x ∧ F x y := by
  induction h with
  | nil => intro i u h; cases h
  | cons r _ ih =>
    intro i u h
    cases i with
    | zero => cases h; exact ⟨_, rfl, r⟩
    | succ i => exact ih h
/-- of little depth -/
class DaS (α : Type) [Rq α] [DecidableEq α] [DaO α] : Prop where
  h : Da.dep α ≤ 60
instance : DaS (T3 Int Int Int) := ⟨by decide⟩
instance : DaS (Int × Int) := ⟨by decide⟩
theorem ej_minA [Rq α] [DecidableEq α] [DaO α] [DaS α] {m1 : Option (List α)} (hc : X.calm = true) (hu : X.A.units + 65 < cLine) (ha : LK X a ta G m1) (hm : X.mg "min" = none) (hg : Gl X "min" := by rfl) (he : starEach [a] X.env = (false, eval a X.env) :: starEach [] X.env := by rfl) :
    EJ X (.Call (.Name "min" p) [a] [] pos) (tCB (rMinA X.K) (tCons ta tNil)) G (m1.bind minA) :=
  ⟨pe_callB (cr_minA hc hu) hg hm (by decide +kernel) (pa_cons ha.pe pa_nil he) (by decide) (by decide) he rfl, ev_s1 (f := minA) (fun Hi H xs v z Q sm h e k => by
    obtain ⟨q, vs, h1, h2, h3, h4⟩ := h
    cases xs with
    | nil => cases e
    | cons x xs =>
      have hdp : DpAll X.K H vs (Da.dat x :: xs.map Da.dat) := da_all (xs := x :: xs) (Paired.mono h4 fun _ _ r => Rq.mono sm r)
      refine ⟨q, vs, Da.dat x, xs.map Da.dat, by rw [h1], h2, hdp, ⟨fun y hy y' hy' => ?_, fun y hy => ?_⟩, Nat.le_trans (da_dep (x :: xs)) DaS.h, fun i u g1 g2 => ?_⟩
      · obtain ⟨b, _, rfl⟩ := List.mem_map.mp (show y ∈ (x :: xs).map Da.dat from hy)
        obtain ⟨b', _, rfl⟩ := List.mem_map.mp (show y' ∈ (x :: xs).map Da.dat from hy')
        exact DaO.alike b b'
      · obtain ⟨b, _, rfl⟩ := List.mem_map.mp (show y ∈ (x :: xs).map Da.dat from hy)
        exact DaO.notNone b
      · obtain ⟨b, g3, g4⟩ := paired_at h4 g1
        have g5 : ((x :: xs).map Da.dat)[i]? = some (Da.dat b) := by rw [List.getElem?_map, g3]; rfl
        rw [minA_dat] at g2
        have g6 := g5.symm.trans g2
        have g7 : b = z := (da_inj (Option.some.inj g6)).trans (Option.some.inj e)
        rw [g7] at g4
        exact k _ g4) ha.ev⟩
/-- of tuples of three -/
abbrev minT3 {α β γ : Type} [Rq α] [Rq β] [Rq γ] [DecidableEq α] [DecidableEq β] [DecidableEq γ] [DaO α] [DaO β] [DaO γ] : List (T3 α β γ) → Option (T3 α β γ) := minA
end
end GM
/-! a refusal: raised in a def, caught, kept in a name, asked for its class -/
namespace GM
open PySem PySem.Spec PyProof.Rows L2
/-- a caught one, of class cls, with its dict d -/
def ExQ (cls : Value) (d : Option Addr) (a : Addr) : HO := .ext fun h => ∃ (oe : Obj) (vs : Array Value), h.get? a = some oe ∧ Zc cls d oe ∧ oe.data = .fields vs
theorem exQ_ok {P : Program} {w : World} {H : Hp} {h : Heap} {a : Addr} {cls : Value} {d : Option Addr} {oe : Obj} {vs : Array Value} (e : h.get? a = some oe) (z : Zc cls d oe) (f : oe.data = .fields vs) : ObjOk P w H h a (ExQ cls d a) :=
  ⟨⟨oe, vs, e, z, f⟩, ⟨oe, e⟩, fun _ _ ⟨o, v, q, r⟩ k => ⟨o, v, k o q, r⟩⟩
section
variable {X : Cx} {pins : List (Addr × Obj)} {σ : L2.St} {H : Hp} {s : Shared}
/-- what was pinned is tracked from here on -/
theorem track {a : Addr} {oe : Obj} {vs : Array Value} {cls : Value} {d : Option Addr} (I : Inv X ((a, oe) :: pins) σ H s) (z : Zc cls d oe) (f : oe.data = .fields vs) (n0 : X.s_0.heap.get? a = none) (np : ∀ p ∈ X.pn ++ pins, p.1 ≠ a) :
    Inv X pins σ (upd H a (ExQ cls d a)) s := by
  obtain ⟨he, na, nL, nF, ncell⟩ := I.pin (a, oe) (List.mem_append_right _ List.mem_cons_self)
  dsimp only at he na nL nF ncell
  have new : ∀ {b : Addr} {o : HO}, H b = some o → b ≠ a := fun e q => by rw [q, na] at e; cases e
  have old : ∀ {b : Addr} {o : Obj}, X.s_0.heap.get? b = some o → b ≠ a := fun e q => by rw [q, n0] at e; cases e
  have bs := I.base
  refine ⟨I.ok, I.os, I.bare, ⟨bs.keep, bs.slot, fun b o e n hx => ?_, bs.there, fun b xs e => ?_, fun b o u e => ?_, fun b ps e => ?_⟩, I.loc, I.cell, ?_, fun x c e => ?_, fun p hp => ?_, I.hok.laidN (fun _ _ q => q) na (exQ_ok he z f), I.len⟩
  · rw [upd_ne (old e)]; exact bs.free b o e n hx
  · have q := bs.tups b xs e
    rw [upd_ne (new q)]; exact q
  · have q := bs.frzs b o u e
    rw [upd_ne (new q)]; exact q
  · obtain ⟨more, q⟩ := bs.tbls b ps e
    exact ⟨more, by rw [upd_ne (new q)]; exact q⟩
  · rw [upd_ne (Ne.symm nL)]; exact I.free
  · have nc : c ≠ a := fun q => by
      obtain ⟨v, o, ho, hd⟩ := I.cell x c e
      rw [q, he] at ho
      cases ho
      exact ncell v hd
    rw [upd_ne nc]; exact I.freeC x c e
  · have hp' : p ∈ X.pn ++ (a, oe) :: pins := by
      rcases List.mem_append.mp hp with h | h
      · exact List.mem_append_left _ h
      · exact List.mem_append_right _ (List.mem_cons_of_mem _ h)
    obtain ⟨g1, g2, g3⟩ := I.pin p hp'
    exact ⟨g1, by rw [upd_ne (np p hp)]; exact g2, g3⟩
end
/-- nothing goes on -/
def noEnds : Ends := { nx := fun _ _ => False, rt := fun _ _ => False, bk := fun _ _ => False, ct := fun _ _ => False }
/-- what is wished of an exception that the clause takes and the suite keeps -/
def wKeep (K : PySem.W.Frag) (c : Value) (i : Nat) (ts : Addr → Value → Option Addr → TS) (D : Ends) : WX := fun cls d σ H =>
  PySem.W.exmOne K cls c = some true ∧ ∀ a, H a = none → ts a cls d { noEnds with nx := fun σ' H' => D.nx (σ'.set i none) (upd H' a (ExQ cls d a)) } (σ.set i (some (.ref a))) H
section
variable {X : Cx} {x n : Str} {c : Value} {i : Nat} {body suite : List Stmt} {b₀ : Stmt} {npp pos pos' : Pos} {tb : WX → TS} {ts : Addr → Value → Option Addr → TS}
/-- try: body that raises, except x as n: a suite that runs through; the exception is tracked behind it -/
theorem ps_try_keep (hs : X.stack = X.env :: X.outer) (hf : X.env.frame = some X.env.locals) (hN : X.N.Nodup) (hi : X.N[i]? = some n) (hln : X.env.kindOf n = some .local) (hc : Names X x c) (hex : X.ex = [])
    (hb : ∀ (W : WX) (pn : List (Addr × Obj)) (xe : Value → Shared → Prop), Takes (X.tr pn xe) W → PassesOwn (model X.prog X.w) X.A X.env xe → PSs (X.tr pn xe) body (tb W))
    (hsu : ∀ (a : Addr) (oe : Obj) (cls : Value) (d : Option Addr) (pn : List (Addr × Obj)), Zc cls d oe → (∃ vs, oe.data = .fields vs) → PSs (X.suite a ((a, oe) :: pn)) (b₀ :: suite) (ts a cls d)) :
    PS X (.Try body [.ExceptHandler (some (.Name x npp)) (some n) (b₀ :: suite) pos'] [] [] pos) (fun D σ H => tb (wKeep X.K c i ts D) noEnds σ H) := by
  refine ⟨fun pins s σ H D I h => ?_⟩
  have ok := I.ok
  have fr : X.A.frames = some (X.env :: X.outer) := by rw [ok.frames, hs]
  have loc : Loc X.env.scope n := .inl hln
  refine wpAny_Try_except (wpAny_mono ((hb (wKeep X.K c i ts D) (X.pn ++ pins) _ (fun u s' xx => ?tk) PassesOwn.looking).run [] s σ H noEnds (I.toTry _) h) (fun f s1 q => ?nm) (fun _ _ q => q))
  case nm =>
    cases f with
    | next => obtain ⟨_, _, _, z⟩ := q; exact z.elim
    | brk => obtain ⟨_, _, _, z⟩ := q; exact z.elim
    | cont => obtain ⟨_, _, _, z⟩ := q; exact z.elim
    | ret u => obtain ⟨_, _, _, _, _, z⟩ := q; exact z.elim
  case tk =>
    obtain ⟨a, B, sI, pins', σ', H', cls, d, rfl, J', nb, up, sky, na, os, ag, hcl, hrun⟩ := xx
    have J : Inv X pins σ' H' sI := J'.ofTry ok
    have sky1 : Sky B (X.env :: X.outer) a (Zc cls d) X.env.locals s'.heap := by rw [← hs]; exact sky
    refine Sky.land Zc.steady fr hf sky1 fun h3 fl3 up3 => ?_
    -- the exception's own place
    obtain ⟨oe3, vs3, he3, hz3, hd3⟩ := fl3.there
    have notFrame : a ∉ frs (X.env :: X.outer) := fun hm => by
      obtain ⟨_, o', e', hnf⟩ := fl3.2.2.1.mem hm
      rw [he3] at e'
      cases e'
      exact hnf _ hd3
    have nL : a ≠ X.env.locals := fun z => notFrame (List.mem_filterMap.mpr ⟨X.env, List.mem_cons_self, by rw [hf, z]⟩)
    have nF : a ∉ X.fs := fun hm => by
      obtain ⟨e, he, q⟩ := List.mem_filterMap.mp hm
      exact notFrame (List.mem_filterMap.mpr ⟨e, List.mem_cons_of_mem _ he, q⟩)
    have bNone : B.get? a = none := fl3.2.1
    have newI : ∀ o, sI.heap.get? a ≠ some o := fun o e => by
      have q := nb a o e (by rw [hs]; exact notFrame)
      rw [bNone] at q
      cases q
    have n0 : X.s_0.heap.get? a = none := by
      cases e : X.s_0.heap.get? a with
      | none => rfl
      | some o =>
        obtain ⟨o', q⟩ := J.base.there a o e (by rw [hex]; exact fun z => nomatch z)
        exact absurd q (newI o')
    have np : ∀ p ∈ X.pn ++ pins, p.1 ≠ a := fun p hp q => by
      have e := (J.pin p hp).1
      rw [q] at e
      exact newI _ e
    have at3 := (J.landed nb fl3.1 (up.trans up3) os ag (s' := { s' with heap := h3 })).suite he3 hd3 na nL nF
    -- the clause takes it
    refine wpAny_handleBy_cons (codeAny_handlers_test ?_) (by intro q; cases q)
    have look : PySem.W.Looks (model X.prog X.w) h3 (typeOf (.ref a)) cls := fun A Q E s k q => wpAny_typeOf_ref (k _ _ he3) (by rw [hz3.1]; exact q)
    have LM := PySem.W.exm_one (M := model X.prog X.w) at3.kIn look hcl
    have named : ∀ {Q : Value → Shared → Prop} {E : Value → Shared → Prop}, Q c { s' with heap := h3 } → wpAny (model X.prog X.w) (X.A.mark (some (.ref a))) (eval (.Name x npp) X.env) Q E { s' with heap := h3 } := fun {Q E} q => by
      obtain ⟨hg, hdbg, hm | ⟨hm, hv, hnn⟩⟩ := hc
      · exact ld_glob (X := X.suite a ((a, oe3) :: (X.pn ++ pins))) at3 hg hm q hdbg
      · exact ld_blt (X := X.suite a ((a, oe3) :: (X.pn ++ pins))) at3 hg hm hv q hnn hdbg
    refine named (LM.here ?_)
    refine codeAny_handlers_suite_as (HandSPX.lands_againZ fl3 fun h4 fl4 up4 => ?_)
    -- the suite
    have J4 : Inv X pins σ' H' { s' with heap := h4 } := J.landed nb fl4.1 ((up.trans up3).trans up4) os ag
    obtain ⟨oe4, vs4, he4, hz4, hd4⟩ := fl4.there
    refine store_ok (X := X.suite a ((a, oe4) :: (X.pn ++ pins))) (v := .ref a) (J4.suite he4 hd4 na nL nF) hN hi loc rfl (fun s5 S5 => ?_) (.inr hln)
    refine wpAny_mono ((hsu a oe4 cls d (X.pn ++ pins) hz4 ⟨_, hd4⟩).run [] s5 _ H' _ S5 (hrun a na)) (fun f s6 q => ?_) (fun _ _ z => z.elim)
    cases f with
    | next =>
      obtain ⟨σ6, H6, S6, q6⟩ := q
      have J6 : Inv X ((a, oe4) :: pins) σ6 H6 s6 := ⟨ok, S6.os, S6.bare, S6.base, S6.loc, S6.cell, S6.free, S6.freeC, fun p hp => S6.pin p (by
        rw [List.append_nil]
        rcases List.mem_append.mp hp with h | h
        · exact List.mem_cons_of_mem _ (List.mem_append_left _ h)
        · rcases List.mem_cons.mp h with h | h
          · rw [h]; exact List.mem_cons_self
          · exact List.mem_cons_of_mem _ (List.mem_append_right _ h)), S6.hok, S6.len⟩
      exact gone_ok J6 hN hi hln fun s7 J7 => ⟨_, _, track J7 hz4 hd4 n0 np, q6⟩
    | brk => obtain ⟨_, _, _, z⟩ := q; exact z.elim
    | cont => obtain ⟨_, _, _, z⟩ := q; exact z.elim
    | ret u => obtain ⟨_, _, _, _, _, z⟩ := q; exact z.elim
end

/-! ### what a refusing class must have -/
def bmV : List Value := [.type "ValueError", .type "Exception", .type "BaseException", .type "object"]
structure XcP (K : PySem.W.Frag) (C : Addr) : Prop where
  q : PySem.W.excIn K C bmV "ValueError.__new__" = true
  k : PySem.W.keepIn K (.ref C) = true
  b : PySem.W.subIn K (.ref C) (.type "BaseException") = some true
  t : PySem.W.typeIn K (.ref C) = some (.type "type")
  e : ExcC K C
/-! ### promises of defs that refuse -/
def SpX0 {τ : Type} [RpL τ] (cls : Value) (F : τ → Option Unit) : Sp := fun vs H _ E => ∃ (Ha : Hp) (x : τ), Same Ha H ∧ RpL.reps Ha x vs ∧ F x = some () ∧ ∀ H', Same H H' → E cls none H'
/-- what is wished where it is raised -/
def PX0 (cls : Value) (E : XK) : Post Unit := fun _ B _ _ _ => ∀ Hi H', SatG B Hi [] [] H' → E cls none H'
instance {cls : Value} {E : XK} : Out (PX0 cls E) (PX0 cls E) := ⟨fun _ _ _ _ _ _ h => h⟩
instance {cls : Value} {E : XK} : RtOnly (PX0 cls E) := ⟨fun _ _ _ _ _ _ _ _ _ h => h⟩
structure CalX (X : Cx) (x : Str) (sp : Sp) : Prop where
  ok : ∃ (k : Nat) (f : Addr) (fd : FuncData) (ps : List Str), FnOk X.prog X.w X.K X.mg X.base (L2.CX X.prog X.w) k f fd ps sp ∧ Room k X.A ∧ X.mg x = some (.ref f) ∧ PySem.W.keepIn X.K (.ref f) = true ∧ Binds X.K fd ps []
structure CalBX (P : Program) (w : World) (K : PySem.W.Frag) (mg : Str → Option Value) (base : Heap) (k : Nat) (x : Str) (sp : Sp) : Prop where
  ok : ∃ (f : Addr) (fd : FuncData) (ps : List Str), FnOk P w K mg base (L2.CX P w) k f fd ps sp ∧ mg x = some (.ref f) ∧ PySem.W.keepIn K (.ref f) = true ∧ Binds K fd ps []
theorem CalBX.at {X : Cx} {k : Nat} {x : Str} {sp : Sp} (C : CalBX X.prog X.w X.K X.mg X.base k x sp) (hr : Room k X.A) : CalX X x sp := by
  obtain ⟨f, fd, ps, h1, h2, h3, h4⟩ := C.ok
  exact ⟨k, f, fd, ps, h1, hr, h2, h3, h4⟩
section
variable {P : Program} {w : World} {K : PySem.W.Frag} {mg : Str → Option Value} {base : Heap} {x qual : Str} {st : Stmt} {f : Addr} {fd : FuncData} {N ps : List Str} {k : Nat} {τ : Type} {cls : Value}
theorem fun_X0 [RpL τ] {F : τ → Option Unit} (Fn : Fun K x qual st f fd) (S : FnScope N ps (defScope st)) (hn : RpL.n τ = ps.length)
    (body : ∀ (cdv : Value) (A : Around) (outer : List Env) (s : Shared) (H : Hp) (E : XK), Room k (A.deeper (envOfC qual (defScope st) s.heap.objs.size f cdv)) →
      ∀ z : τ, ∃ t m, BJ (cxOf (L2.CX P w) P w K mg base N qual (defScope st) f cdv A outer s H E) (defBody st) t (gam N z) m (PX0 cls E) ∧ m = F z)
    (hm : mg x = some (.ref f)) (hb : Binds K fd ps []) : CalBX P w K mg base (k + 1) x (SpX0 cls F) := by
  refine ⟨f, fd, ps, Fn.okX S (fun vs H Q E h => ?_) (fun cdv A outer s H vs Q E hr h => ?_), hm, Fn.kp, hb⟩
  · obtain ⟨Ha, z, h1, h2, _⟩ := h
    rw [RpL.len h2, hn]
  · obtain ⟨Ha, z, h1, h2, h3, h4⟩ := h
    obtain ⟨t, m, b, e⟩ := body cdv A outer s H E hr z
    subst e
    exact ⟨t, b.ps, b.ev ⟨H, Ha⟩ Ha [] [] (start N vs) H _ () h3 rfl (sat_start h1 h2) fun Hi H' q => h4 H' q.2.1⟩
end
/-! ### statements that don't go on -/
section
variable {X : Cx} {st : Stmt} {rest : List Stmt} {t : TS}
theorem pss_stop (h : PS X st t) : PSs X (st :: rest) (fun _ σ H => t noEnds σ H) := by
  refine ⟨fun pins s σ H D I q => ?_⟩
  refine wpAny_execs_cons (wpAny_mono (h.run pins s σ H noEnds I q) (fun f s1 z => ?_) fun _ _ z => z)
  cases f with
  | next => obtain ⟨_, _, _, z⟩ := z; exact z.elim
  | brk => obtain ⟨_, _, _, z⟩ := z; exact z.elim
  | cont => obtain ⟨_, _, _, z⟩ := z; exact z.elim
  | ret u => obtain ⟨_, _, _, _, _, z⟩ := z; exact z.elim
end
section
variable {X : Cx} {e a b c : Expr} {es : List Expr} {t ta tb : TE} {tr : TA} {G : List SV} {τ α β O : Type} {pos p p2 pos' : Pos} {n x m : Str} {j : Nat} {rest : List Stmt} {P : Post O} {cls : Value} {E : XK} {C : Addr}
/-- raise C("..") -/
theorem bj_raise0 {inj : Unit → O} [Rt P (PX0 (.ref C) E) inj] (hc : X.calm = true) (tk : Takes X (fun cls d _ H => E cls d H)) (T : XcP X.K C) (gC : X.mg x = some (.ref C)) (hg : Gl X x := by rfl) (hdb : (x == ("__debug__" : Str)) = false := by decide) :
    BJ X (.Raise (some (.Call (.Name x p) [.Constant (.str m) j p2] [] pos)) none pos' :: rest) (fun _ σ H => E (.ref C) none H) G (some (inj ())) P :=
  ⟨pss_stop (ps_raise hc tk (pmk_own PySem.F.excBase_ValueError T.q gC T.k (raises_own T.b T.t) hg hdb)), fun B Hi T' tv s H D o hx hl hs k => by
    cases hx
    exact Rt.rt (P := P) (Pr := PX0 (.ref C) E) (inj := inj) () B T' tv D k Hi H hs.bare⟩
/-- an expression that raises -/
structure RE (X : Cx) (e : Expr) (t : TE) (G : List SV) (r : Option Unit) (cls : Value) (E : XK) : Prop where
  pe : PE X e t
  ev : ∀ (B : Bk) (Hi : Hp) (T : List SV) (tv s : L2.St) (H : Hp) (Q : VK), r = some () → tv.length = T.length → SatG B Hi (T ++ G) (tv ++ s) H → (∀ Hi' H', SatG B Hi' [] [] H' → E cls none H') → t s H Q
theorem re_call [RpL τ] {F : τ → Option Unit} {m1 : Option τ} (C : CalX X n (SpX0 cls F)) (tk : Takes X (fun cls d _ H => E cls d H)) (ha : AJ X (e :: es) tr G m1) (hg : Gl X n := by rfl) (hdb : (n == ("__debug__" : Str)) = false := by decide) (he : starEach (e :: es) X.env = (false, eval e X.env) :: starEach es X.env := by rfl)
    (hpl : (backTo pos (starEach es X.env)).any (·.1) = false := by rfl) : RE X (.Call (.Name n p) (e :: es) [] pos) (tCallS (SpX0 cls F) (fun _ => E) tr) G (m1.bind F) cls E := by
  obtain ⟨k, f, fd, ps, Fk, hr, hm, hk, hb⟩ := C.ok
  refine ⟨pe_callS Fk hr hg hm hk hb (fun σ => passAt tk σ) ha.pa hdb he hpl, fun B Hi T tv s H Q hx hl hs q => ?_⟩
  obtain ⟨z, e1, e2⟩ := bind_some hx
  refine ha.ev B Hi T tv s H _ z e1 hl hs fun vs Hi1 H1 s1 r1 => ?_
  exact ⟨Hi1, z, s1.sub, r1, e2, fun H' sm => q _ H' (s1.grow sm).bare⟩
/-- e[0] -/
theorem re_ix {r : Option Unit} {i : Int} {jj} {p3 : Pos} (h : RE X e t G r cls E) : RE X (.Subscript e (.Constant (.int i) jj p3) pos) (tOp (rIxL X.K) t (tC (.int i))) G r cls E :=
  ⟨pe_ix ix_list h.pe pe_int (fun _ _ => rfl), fun B Hi T tv s H Q hx hl hs q => h.ev B Hi T tv s H _ hx hl hs q⟩
theorem bjx_expr {r : Option Unit} {inj : Unit → O} [Rt P (PX0 cls E) inj] (h : RE X e t G r cls E) (hsw : swapsWith e none pos.line X.env = pure false := by rfl) : BJ X (.Expr e pos :: rest) (fun _ σ H => tDrop t noEnds σ H) G (r.bind fun _ => some (inj ())) P :=
  ⟨pss_stop (ps_expr h.pe hsw), fun B Hi T tv s H D o hx hl hs k => by
    obtain ⟨⟨⟩, e1, e2⟩ := bind_some hx
    cases e2
    exact h.ev B Hi T tv s H _ e1 hl hs fun Hi' H' s' => Rt.rt (P := P) (Pr := PX0 cls E) (inj := inj) () B T tv D k Hi' H' s'⟩
theorem bjx_ret {r : Option Unit} {inj : Unit → O} [Rt P (PX0 cls E) inj] (h : RE X e t G r cls E) : BJ X (.Return (some e) pos :: rest) (fun _ σ H => tRet t noEnds σ H) G (r.bind fun _ => some (inj ())) P :=
  ⟨pss_stop (ps_ret h.pe), fun B Hi T tv s H D o hx hl hs k => by
    obtain ⟨⟨⟩, e1, e2⟩ := bind_some hx
    cases e2
    exact h.ev B Hi T tv s H _ e1 hl hs fun Hi' H' s' => Rt.rt (P := P) (Pr := PX0 cls E) (inj := inj) () B T tv D k Hi' H' s'⟩
theorem bjx_asg {r : Option Unit} {inj : Unit → O} [Rt P (PX0 cls E) inj] (hN : X.N.Nodup) (i : Nat) (h : RE X e t G r cls E) {p2 : Pos}
    (hi : X.N[i]? = some n := by rfl) (hx : Loc X.env.scope n := by first | exact Or.inl rfl | exact Or.inr rfl) (hs : swapsWith e (some (.Name n p2)) pos.line X.env = pure false := by rfl) (hf : X.fn n = true ∨ X.env.scope.names.lookup n = some .local := by first | exact .inl rfl | exact .inr rfl | assumption) :
    BJ X (.Assign [.Name n p2] e pos :: rest) (fun _ σ H => tAsg t (gName i) noEnds σ H) G (r.bind fun _ => some (inj ())) P :=
  ⟨pss_stop (ps_set hN hi hx h.pe hs hf), fun B Hi T tv s H D o hx hl hs k => by
    obtain ⟨⟨⟩, e1, e2⟩ := bind_some hx
    cases e2
    exact h.ev B Hi T tv s H _ e1 hl hs fun Hi' H' s' => Rt.rt (P := P) (Pr := PX0 cls E) (inj := inj) () B T tv D k Hi' H' s'⟩
/-- g(a, e), where e raises -/
theorem re_arg2 [Rq α] {sp : Sp} {m1 : Option α} {r : Option Unit} (Cg : Cal X n sp) (ha : EJ X a ta G m1) (h : RE X e t G r cls E) (hg : Gl X n := by rfl) (hdb : (n == ("__debug__" : Str)) = false := by decide)
    (he : starEach [a, e] X.env = (false, eval a X.env) :: starEach [e] X.env := by rfl) (he2 : starEach [e] X.env = (false, eval e X.env) :: starEach [] X.env := by rfl) (hpl : (backTo pos (starEach [e] X.env)).any (·.1) = false := by rfl) :
    RE X (.Call (.Name n p) [a, e] [] pos) (tCall sp [] E0 (tCons ta (tCons t tNil))) G (m1.bind fun _ => r) cls E :=
  ⟨cal_pe Cg hg (pa_cons ha.pe (pa_cons h.pe pa_nil he2) he) hdb he hpl, fun B Hi T tv s H Q hx hl hs q => by
    obtain ⟨y, e1, e2⟩ := bind_some hx
    refine ha.ev B Hi T tv s H _ y e1 hl hs fun v Hi1 H1 s1 r1 => ?_
    exact h.ev B Hi1 T tv s H1 _ e2 hl s1 q⟩
end
/-! ### caught -/
/-- a name that holds a caught one -/
def sx0 (cls : Value) : SV := .fv (fun H v => ∃ a, v = .ref a ∧ H a = some (ExQ cls none a)) (fun _ _ _ e ⟨a, h1, h2⟩ => ⟨a, h1, e _ _ h2⟩)
section
variable {X : Cx} {e a b c : Expr} {es : List Expr} {t ta tb : TE} {tr : TA} {G : List SV} {τ α β O ρ : Type} {pos pos1 pos2 pos3 pos' p p4 p5 npp : Pos} {n x nE nC : Str} {j : Nat} {rest : List Stmt} {u : TS} {P : Post O} {c0 : Addr} {cH : Value}
/-- try: g(..) except x as nE: nC = nE -/
theorem bj_tryKeep [RpL τ] {F : τ → Option Unit} {m1 : Option τ} {m2 : Option O} (hN : X.N.Nodup) (i j : Nat) (Cg : CalX X n (SpX0 (.ref c0) F)) (hx : PySem.W.exmOne X.K (.ref c0) cH = some true) (hc : Names X x cH)
    (ha : ∀ (pn : List (Addr × Obj)) (xe : Value → Shared → Prop), AJ (X.tr pn xe) (e :: es) tr G m1) (hr : BJ X rest u (((G.set i .un).set j (sx0 (.ref c0))).set i .un) m2 P)
    (hi : X.N[i]? = some nE := by rfl) (hj : X.N[j]? = some nC := by rfl) (hGi : G[i]? = some .un := by rfl) (hln : X.env.kindOf nE = some .local := by rfl) (hLj : Loc X.env.scope nC := by first | exact Or.inl rfl | exact Or.inr rfl) (hvi : Vis X.env.scope nE := by first | exact Or.inl rfl | exact Or.inr (Or.inl rfl) | exact Or.inr (Or.inr rfl))
    (hd : (nE == ("__debug__" : Str)) = false := by decide) (hcd : (nE == ("__classdict__" : Str)) = false := by decide)
    (hs : X.stack = X.env :: X.outer := by rfl) (hf : X.env.frame = some X.env.locals := by rfl) (hex : X.ex = [] := by rfl) (hfj : X.fn nC = true ∨ X.env.scope.names.lookup nC = some .local := by first | exact .inl rfl | exact .inr rfl | assumption)
    (hg : Gl X n := by rfl) (hdb : (n == ("__debug__" : Str)) = false := by decide) (he : starEach (e :: es) X.env = (false, eval e X.env) :: starEach es X.env := by rfl) (hpl : (backTo pos1 (starEach es X.env)).any (·.1) = false := by rfl)
    (hsw : swapsWith (.Call (.Name n p) (e :: es) [] pos1) none pos2.line X.env = pure false := by rfl) (hsw2 : swapsWith (.Name nE p5) (some (.Name nC p4)) pos3.line X.env = pure false := by rfl) :
    BJ X (.Try [.Expr (.Call (.Name n p) (e :: es) [] pos1) pos2] [.ExceptHandler (some (.Name x npp)) (some nE) [.Assign [.Name nC p4] (.Name nE p5) pos3] pos'] [] [] pos :: rest)
      (tSeq (fun D σ H => (fun W : WX => tSeq (tDrop (tCallS (SpX0 (.ref c0) F) (WE W) tr)) tNext) (wKeep X.K cH i (fun _ _ _ => tSeq (tAsg (tVar i) (gName j)) tNext) D) noEnds σ H) u) G (m1.bind fun z => (F z).bind fun _ => m2) P := by
  obtain ⟨k, f, fd, ps, Fk, hrm, hm, hk, hb⟩ := Cg.ok
  refine ⟨pss_cons (ps_try_keep hs hf hN hi hln hc hex (fun W pn xe tk _ => pss_cons (ps_expr (pe_callS (X := X.tr pn xe) Fk hrm hg hm hk hb (fun σ => passAt tk σ) (ha pn xe).pa hdb he hpl) hsw) pss_nil) (fun a oe cls d pn _ _ => pss_cons (ps_set (X := X.suite a ((a, oe) :: pn)) hN hj hLj (pe_var hi hvi hd hcd) hsw2 hfj) pss_nil)) hr.ps, fun B Hi T tv s H D o hx1 hl hsat k2 => ?_⟩
  obtain ⟨z, e1, hx1⟩ := bind_some hx1
  obtain ⟨⟨⟩, e2, e3⟩ := bind_some hx1
  refine (ha [] (fun _ _ => False)).ev B Hi T tv s H _ z e1 hl hsat fun vs Hi1 H1 s1 r1 => ?_
  refine ⟨Hi1, z, s1.sub, r1, e2, fun H' sm => ⟨hx, fun a na => ?_⟩⟩
  have ls : i < s.length := by
    have h1 := hsat.len
    rw [List.length_append, List.length_append] at h1
    have h2 : i < G.length := (List.getElem?_eq_some_iff.mp hGi).1
    omega
  refine ⟨.ref a, by rw [List.getElem?_set_self ls], ?_⟩
  have g1 := (s1.grow sm).newF (p := a) (u := ExQ (.ref c0) none a) na
  have g2 := sat_unsetT (i := i) (o := some (.ref a)) hl g1
  have g3 : SatG B (upd (join Hi1 H1 H') a (ExQ (.ref c0) none a)) (sx0 (.ref c0) :: (T ++ G.set i .un)) (some (.ref a) :: (tv ++ s.set i (some (.ref a)))) (upd H' a (ExQ (.ref c0) none a)) := ⟨⟨.ref a, rfl, a, rfl, upd_same⟩, g2⟩
  have g4 := sat_unsetT (i := i) (o := none) hl (g3.putT (i := j) hl)
  exact hr.ev B _ T tv _ _ D o e3 hl g4 k2
/-- try: g(..) except x: return e2 -/
theorem bj_tryRet [RpL τ] [Rq ρ] {F : τ → Option Unit} {m1 : Option τ} {e2 : Expr} {t2 : TE} {y : ρ} {inj : ρ → O} [Rt P (PR (ρ := ρ)) inj] (Cg : CalX X n (SpX0 (.ref c0) F)) (hx : PySem.W.exmOne X.K (.ref c0) cH = some true) (hc : Names X x cH)
    (ha : ∀ (pn : List (Addr × Obj)) (xe : Value → Shared → Prop), AJ (X.tr pn xe) (e :: es) tr G m1) (h2 : ∀ (a : Addr) (pn : List (Addr × Obj)), EJ (X.suite a pn) e2 t2 G (some y))
    (hs : X.stack = X.env :: X.outer := by rfl) (hf : X.env.frame = some X.env.locals := by rfl)
    (hg : Gl X n := by rfl) (hdb : (n == ("__debug__" : Str)) = false := by decide) (he : starEach (e :: es) X.env = (false, eval e X.env) :: starEach es X.env := by rfl) (hpl : (backTo pos1 (starEach es X.env)).any (·.1) = false := by rfl)
    (hsw : swapsWith (.Call (.Name n p) (e :: es) [] pos1) none pos2.line X.env = pure false := by rfl) :
    BJ X (.Try [.Expr (.Call (.Name n p) (e :: es) [] pos1) pos2] [.ExceptHandler (some (.Name x npp)) none [.Return (some e2) pos3] pos'] [] [] pos :: rest)
      (fun D σ H => (fun W : WX => tSeq (tDrop (tCallS (SpX0 (.ref c0) F) (WE W) tr)) tNext) (wOnly X.K cH (fun _ _ _ => tSeq (tRet t2) tNext) (fun _ _ _ _ => False) { noEnds with rt := D.rt }) { noEnds with rt := D.rt } σ H) G (m1.bind fun z => (F z).bind fun _ => some (inj y)) P := by
  obtain ⟨k, f, fd, ps, Fk, hrm, hm, hk, hb⟩ := Cg.ok
  have st := ps_try_only (X := X) (pos := pos) (pos' := pos') (np := npp) hs hf hc (Wout := fun _ _ _ _ => False) takes0 (fun W pn xe tk _ => pss_cons (ps_expr (pe_callS (X := X.tr pn xe) Fk hrm hg hm hk hb (fun σ => passAt tk σ) (ha pn xe).pa hdb he hpl) hsw) pss_nil) (fun a oe cls d pn _ _ => pss_cons (ps_ret (pos := pos3) (h2 a ((a, oe) :: pn)).pe) pss_nil)
  refine ⟨⟨fun pins s σ H D I q => ?_⟩, fun B Hi T tv s H D o hx1 hl hsat k2 => ?_⟩
  · refine wpAny_execs_cons (wpAny_mono (st.run pins s σ H { noEnds with rt := D.rt } I q) (fun f s1 z => ?_) fun _ _ z => z)
    cases f with
    | next => obtain ⟨_, _, _, z⟩ := z; exact z.elim
    | brk => obtain ⟨_, _, _, z⟩ := z; exact z.elim
    | cont => obtain ⟨_, _, _, z⟩ := z; exact z.elim
    | ret u => exact z
  · obtain ⟨z, e1, hx1⟩ := bind_some hx1
    obtain ⟨⟨⟩, e3, e4⟩ := bind_some hx1
    cases e4
    refine (ha [] (fun _ _ => False)).ev B Hi T tv s H _ z e1 hl hsat fun vs Hi1 H1 s1 r1 => ?_
    refine ⟨Hi1, z, s1.sub, r1, e3, fun H' sm => ⟨true, hx, fun _ a na => ?_, fun q => nomatch q⟩⟩
    exact (h2 0 []).ev B _ T tv s H' _ y rfl hl (s1.grow sm) fun v Hi' H'' s' rr => Rt.rt (P := P) (Pr := PR (ρ := ρ)) (inj := inj) y B T tv D k2 v Hi' H'' s'.bare rr
/-- n is None, n is not None, n a caught one -/
theorem ej_xN {jj} {p' : Pos} (l : Nat) (hg : G[l]? = some (sx0 (.ref c0)) := by rfl) (hN : X.N[l]? = some n := by rfl) (hv : Vis X.env.scope n := by first | exact Or.inl rfl | exact Or.inr (Or.inl rfl) | exact Or.inr (Or.inr rfl)) (hd : (n == ("__debug__" : Str)) = false := by decide) (hcd : (n == ("__classdict__" : Str)) = false := by decide) :
    EJ X (.Compare (.Name n p) [.Is] [.Constant .none jj p'] pos) (tIsN (tVar l)) G (some false) := ⟨pe_cmp (pc_isN (pe_var hN hv hd hcd)) (by rfl), fun B Hi T tv s H Q x hx hl hs k => by
    cases hx
    obtain ⟨v, h1, a, h2, h3⟩ := hs.getT hl hg
    subst h2
    exact ⟨.ref a, h1, k _ Hi H hs rfl⟩⟩
theorem tj_xN {jj} {p' : Pos} (l : Nat) (hg : G[l]? = some (sx0 (.ref c0)) := by rfl) (hN : X.N[l]? = some n := by rfl) (hv : Vis X.env.scope n := by first | exact Or.inl rfl | exact Or.inr (Or.inl rfl) | exact Or.inr (Or.inr rfl)) (hd : (n == ("__debug__" : Str)) = false := by decide) (hcd : (n == ("__classdict__" : Str)) = false := by decide) :
    TJ X (.Compare (.Name n p) [.Is] [.Constant .none jj p'] pos) (tB (tIsN (tVar l))) G (some false) := ⟨pt_cmp (pc_isN (pe_var hN hv hd hcd)) (by rfl), tv_b (ej_xN (X := X) (pos := pos) (p := p) (jj := jj) (p' := p') l hg hN hv hd hcd).ev⟩
theorem ej_notxN {jj} {p' : Pos} (l : Nat) (hg : G[l]? = some (sx0 (.ref c0)) := by rfl) (hN : X.N[l]? = some n := by rfl) (hv : Vis X.env.scope n := by first | exact Or.inl rfl | exact Or.inr (Or.inl rfl) | exact Or.inr (Or.inr rfl)) (hd : (n == ("__debug__" : Str)) = false := by decide) (hcd : (n == ("__classdict__" : Str)) = false := by decide) :
    EJ X (.Compare (.Name n p) [.IsNot] [.Constant .none jj p'] pos) (tNotN (tVar l)) G (some true) := ⟨pe_cmp (pc_notN (pe_var hN hv hd hcd)) (by rfl), fun B Hi T tv s H Q x hx hl hs k => by
    cases hx
    obtain ⟨v, h1, a, h2, h3⟩ := hs.getT hl hg
    subst h2
    exact ⟨.ref a, h1, k _ Hi H hs rfl⟩⟩
/-- isinstance of a tracked one -/
def rIsK (K : PySem.W.Frag) (D : Addr) : List V → Hp → VK → Prop := fun xs H Q => ∃ (a : Addr) (c : V) (cv : Value) (b : Bool), xs = [.ref a, c] ∧ H a = some (ExQ (.ref D) none a) ∧ (∀ u, RelV c u → u = cv) ∧ PySem.W.kitOne K (.ref D) cv = some b ∧ Q (.bl b) H
theorem call_isK {D : Addr} (C : ExcC X.K D) : CallR X (.builtin "isinstance") (rIsK X.K D) := by
  intro pins s σ H xs us Q I r h
  obtain ⟨a, c, cv, b, rfl, ha, hcv, e, q⟩ := h
  obtain ⟨oe, vs, get, z, f⟩ := (I.hok a _ ha).1
  obtain ⟨oc, od, oda, osl⟩ := oe
  obtain ⟨z1, z2⟩ := z
  dsimp only at z1 z2 f
  subst z1 z2 f
  match us, r with
  | [_, u], .cons rx (.cons rt .nil) =>
    cases rx
    cases hcv _ rt
    exact PySem.W.kia_one (PySem.W.handS_kitx_exc C.hg C.hk C.hs C.hd C.ha C.hn C.ht C.hm) I.kIn ⟨get, rfl, rfl, trivial⟩ e (fun z => nomatch z) fun tk => ⟨.bl b, H, I.kept (t' := tk) fun _ _ z => z, rfl, q⟩
/-- isinstance(n, class of the program) -/
theorem ej_isXo {C1 : Addr} {r : Bool} {tn : Str} {p1 p2 : Pos} (l : Nat) (Ex : ExcC X.K c0) (hk : PySem.W.kitOne X.K (.ref c0) (.ref C1) = some r) (gC : X.mg tn = some (.ref C1)) (hm : X.mg "isinstance" = none) (hgl : G[l]? = some (sx0 (.ref c0)) := by rfl) (hN : X.N[l]? = some n := by rfl)
    (hv : Vis X.env.scope n := by first | exact Or.inl rfl | exact Or.inr (Or.inl rfl) | exact Or.inr (Or.inr rfl)) (hd : (n == ("__debug__" : Str)) = false := by decide) (hcd : (n == ("__classdict__" : Str)) = false := by decide) (hg : Gl X "isinstance" := by rfl) (hgt : Gl X tn := by rfl) (hdb : (tn == ("__debug__" : Str)) = false := by decide)
    (he : starEach [.Name n p1, .Name tn p2] X.env = (false, eval (.Name n p1) X.env) :: starEach [.Name tn p2] X.env := by rfl) (he2 : starEach [.Name tn p2] X.env = (false, eval (.Name tn p2) X.env) :: starEach [] X.env := by rfl) (hpl : (backTo pos (starEach [.Name tn p2] X.env)).any (·.1) = false := by rfl) :
    EJ X (.Call (.Name "isinstance" p) [.Name n p1, .Name tn p2] [] pos) (tCB (rIsK X.K c0) (tCons (tVar l) (tCons (tC (.ref C1)) tNil))) G (some r) :=
  ⟨pe_callB (call_isK Ex) hg hm (by decide +kernel) (pa_cons (pe_var hN hv hd hcd) (pa_cons (pe_glob hgt gC rfl hdb) pa_nil he2) he) (by decide) (by decide) he hpl, fun B Hi T tv s H Q x hx hl hs k => by
    cases hx
    obtain ⟨v, h1, a, h2, h3⟩ := hs.getT hl hgl
    subst h2
    exact ⟨.ref a, h1, a, .ref C1, .ref C1, r, rfl, hs.sub _ _ h3, fun u ru => by cases ru; rfl, hk, k _ Hi H hs rfl⟩⟩
/-- isinstance(n, built-in class) -/
theorem ej_isXb {cn : String} {r : Bool} {tn : Str} {p1 p2 : Pos} (l : Nat) (Ex : ExcC X.K c0) (hk : PySem.W.kitOne X.K (.ref c0) (.type cn) = some r) (hvt : bootBuiltins tn = some (.type cn)) (hmt : X.mg tn = none) (hm : X.mg "isinstance" = none) (hgl : G[l]? = some (sx0 (.ref c0)) := by rfl) (hN : X.N[l]? = some n := by rfl)
    (hv : Vis X.env.scope n := by first | exact Or.inl rfl | exact Or.inr (Or.inl rfl) | exact Or.inr (Or.inr rfl)) (hd : (n == ("__debug__" : Str)) = false := by decide) (hcd : (n == ("__classdict__" : Str)) = false := by decide) (hg : Gl X "isinstance" := by rfl) (hgt : Gl X tn := by rfl) (hdb : (tn == ("__debug__" : Str)) = false := by decide) (hnn : tn ≠ "__name__" := by decide)
    (he : starEach [.Name n p1, .Name tn p2] X.env = (false, eval (.Name n p1) X.env) :: starEach [.Name tn p2] X.env := by rfl) (he2 : starEach [.Name tn p2] X.env = (false, eval (.Name tn p2) X.env) :: starEach [] X.env := by rfl) (hpl : (backTo pos (starEach [.Name tn p2] X.env)).any (·.1) = false := by rfl) :
    EJ X (.Call (.Name "isinstance" p) [.Name n p1, .Name tn p2] [] pos) (tCB (rIsK X.K c0) (tCons (tVar l) (tCons (tC (.ty cn)) tNil))) G (some r) :=
  ⟨pe_callB (call_isK Ex) hg hm (by decide +kernel) (pa_cons (pe_var hN hv hd hcd) (pa_cons (pe_bltn (v := .ty cn) hgt hmt hvt rfl hnn hdb) pa_nil he2) he) (by decide) (by decide) he hpl, fun B Hi T tv s H Q x hx hl hs k => by
    cases hx
    obtain ⟨v, h1, a, h2, h3⟩ := hs.getT hl hgl
    subst h2
    exact ⟨.ref a, h1, a, .ty cn, .type cn, r, rfl, hs.sub _ _ h3, fun u ru => by cases ru; rfl, hk, k _ Hi H hs rfl⟩⟩
end
/-! ### classes, by what the written part answers -/
section
variable {K : PySem.W.Frag} {A B : Addr} {T : String} {r : Bool}
theorem kitc_of (h2 : PySem.W.isClsIn K B = true) (h3 : PySem.W.typeIn K (.ref B) = some (.type "type")) (t : Value) : PySem.W.kitCls K t (.ref B) = PySem.W.subIn K t (.ref B) := by
  have h2' : (PySem.W.clsIn K B).isSome = true := h2
  show (if ((PySem.W.clsIn K B).isSome && PySem.W.typeIn K (.ref B) == some (.type "type")) = true then _ else _) = _
  rw [if_pos (by rw [h2', h3]; rfl)]
theorem exm_of (h1 : PySem.W.subIn K (.ref B) (.type "BaseException") = some true) (h2 : PySem.W.isClsIn K B = true) (h3 : PySem.W.typeIn K (.ref B) = some (.type "type")) (h4 : PySem.W.subIn K (.ref A) (.ref B) = some true) : PySem.W.exmOne K (.ref A) (.ref B) = some true := by
  unfold PySem.W.exmOne
  rw [if_pos (by rw [h1]; rfl), kitc_of h2 h3, h4]
theorem kit_own (h2 : PySem.W.isClsIn K B = true) (h3 : PySem.W.typeIn K (.ref B) = some (.type "type")) (h4 : PySem.W.subIn K (.ref A) (.ref B) = some r) (hs : PySem.W.subIn K (.ref A) (.ref A) = some true) : PySem.W.kitOne K (.ref A) (.ref B) = some r := by
  unfold PySem.W.kitOne
  by_cases c : A = B
  · subst c
    rw [if_pos (by simp)]
    rw [hs] at h4
    exact h4
  · rw [if_neg (by simpa using c), kitc_of h2 h3, h4]
theorem kit_blt (hk : PySem.W.kitMeta T = true) (h4 : PySem.W.subIn K (.ref A) (.type T) = some r) : PySem.W.kitOne K (.ref A) (.type T) = some r := by
  unfold PySem.W.kitOne
  rw [if_neg (by simp)]
  show (if PySem.W.kitMeta T = true then _ else _) = _
  rw [if_pos hk, h4]
end
end GM
/-! a refusal that tells a number: class C(B) with __init__(self, f): B.__init__(self, ".."); self.f = f -/
namespace GM
open PySem PySem.Spec PyProof.Rows L2
section
variable {X : Cx} {e : Expr} {es : List Expr} {ta : TA} {x m : Str} {p1 p2 pos : Pos} {B : Addr} {mc : Value}
/-- B.__init__(self, ..), B a class of the program that has ValueError's __init__ -/
theorem pe_einit {pl : Sem Bool} (hg : Gl X x) (hm : X.mg x = some (.ref B)) (ga : PySem.W.specialIn X.K (.ref B) "__getattribute__" = some (some (.builtin "type.__getattribute__"))) (rd : PySem.W.readsIn X.K B mc = true) (cv : PySem.W.findCls X.K (.ref B) mc "__init__" = some (.val (.builtin "ValueError.__init__"))) (ha : PA X (e :: es) ta)
    (hdb : (x == ("__debug__" : Str)) = false := by decide)
    (hc : eval (.Call (.Attribute (.Name x p1) "__init__" p2) (e :: es) [] pos) X.env = (do
      let ov ← eval (.Name x p1) X.env
      standAt p2.atName
      let (f, first) ← holding [ov] (getMethod ov "__init__" pl)
      callWith pos f first (backTo pos (starEach (e :: es) X.env)) (backToKw pos (keywordEach [] X.env))) := by rfl)
    (he : starEach (e :: es) X.env = (false, eval e X.env) :: starEach es X.env := by rfl) (hpl : (backTo pos (starEach es X.env)).any (·.1) = false := by rfl) :
    PE X (.Call (.Attribute (.Name x p1) "__init__" p2) (e :: es) [] pos) (tVeI X.K ta) := by
  refine ⟨fun pins s σ H Q I h => ?_⟩
  refine PySem.W.methodCall_KW (ld_glob I hg hm ?_ hdb) hc
  refine PySem.W.method_cls I.kIn ga (PySem.W.cls_value I.kIn rd cv (by decide +kernel) ?_)
  show wpAny _ _ (callWith pos (Value.builtin "ValueError.__init__") [] (backTo pos (starEach (e :: es) X.env)) []) _ _ _
  refine PyProof.Rows.callWith_method1 (wpAny_mono (ha.run pos pins _ σ H _ (I.tok _) h) (fun us s1 z => ?_) fun _ _ z => z) he hpl
  obtain ⟨vs, H1, I1, r1, a, C, ws, ev, hl, T, ea, q⟩ := z
  subst ev
  match us, r1 with
  | _ :: ur, .cons ra rw' =>
    cases ra
    exact oinit_ok T I1 ea (by rw [← Paired.length rw', sizeLine_eq]; omega) fun s' J => ⟨.non, H1, J, rfl, q⟩
end
/-! ### the __init__ -/
/-- what __init__(self, f) of class C promises -/
def spInit (C : Addr) (f : Str) : Sp := fun vs H Q _ => ∃ (a : Addr) (v : V), vs = [.ref a, v] ∧ H a = some (exo a C none) ∧ ∀ dx, H dx = none → dx ≠ a → Q .non (upd (upd H dx (exd dx [(f, v)])) a (exo a C (some dx)))
/-- what a class that refuses with a number must have -/
structure XcT (K : PySem.W.Frag) (C fI : Addr) (f : Str) : Prop where
  o : OexC K C
  no : PySem.W.findIn K (.ref C) f = some none
  i : PySem.W.findIn K (.ref C) "__init__" = some (some (.ref fI))
  ti : PySem.W.typeIn K (.ref fI) = some (.type "function")
  ga : PySem.W.findIn K (.ref C) "__getattribute__" = some (some (.builtin "BaseException.__getattribute__"))
  gg : PySem.W.findIn K (.ref C) "__getattr__" = some none
  hd : PySem.W.hasDictIn K C = true
  ic : PySem.W.isClsIn K C = true
  at_ : PySem.W.findIn K (.ref C) "__class__" = some (some (.builtin "object.__class__"))
  hn : PySem.W.specialIn K (.builtin "object.__class__") "__get__" = some (some (.builtin "getset_descriptor.__get__"))
  ht : PySem.W.takesIn K (.builtin "object.__class__") = some true
  hm : PySem.W.mroIn K C (.type "object") = some true
structure CalI (P : Program) (w : World) (K : PySem.W.Frag) (mg : Str → Option Value) (base : Heap) (k : Nat) (C fI : Addr) (f : Str) : Prop where
  ok : ∃ (fd : FuncData) (ps : List Str), FnOk P w K mg base CX0 k fI fd ps (spInit C f) ∧ Binds K fd ps []
section
variable {P : Program} {w : World} {K : PySem.W.Frag} {mg : Str → Option Value} {base : Heap} {x qual f nS nF m nB : Str} {st : Stmt} {fI C B : Addr} {fd : FuncData} {mc : Value} {j : Nat} {q1 q2 q3 q4 q5 q6 q7 q8 q9 q10 : Pos}
theorem fun_I (Fn : Fun K x qual st fI fd) (S : FnScope [nS, nF] [nS, nF] (defScope st)) (T : OexC K C) (no : PySem.W.findIn K (.ref C) nF = some none)
    (hB : mg nB = some (.ref B)) (ga : PySem.W.specialIn K (.ref B) "__getattribute__" = some (some (.builtin "type.__getattribute__"))) (rd : PySem.W.readsIn K B mc = true) (cv : PySem.W.findCls K (.ref B) mc "__init__" = some (.val (.builtin "ValueError.__init__")))
    (body : ∀ (cdv : Value) (A : Around) (outer : List Env) (s : Shared) (H : Hp) (E : XK), ∃ t, PSs (cxOf CX0 P w K mg base [nS, nF] qual (defScope st) fI cdv A outer s H E).nox (defBody st) t ∧ t = tSeq (tDrop (tVeI K (tCons (tVar 0) (tCons (tC (.str m)) tNil)))) (tSeq (tOst K nF (tVar 0) (tVar 1)) tNext))
    (hb : Binds K fd [nS, nF] []) : CalI P w K mg base 1 C fI nF := by
  refine ⟨fd, [nS, nF], Fn.ok S (fun vs H Q E h => ?_) (fun cdv A outer s H vs Q E hr h => ?_), hb⟩
  · obtain ⟨a, v, rfl, _⟩ := h
    rfl
  · obtain ⟨a, v, rfl, ha, h⟩ := h
    obtain ⟨t, ps, rfl⟩ := body cdv A outer s H E
    refine ⟨_, ps, ?_⟩
    refine ⟨.ref a, rfl, a, C, [.str m], rfl, by show 1 ≤ 1000; decide, T, ha, ?_⟩
    exact ⟨v, rfl, .ref a, rfl, a, C, rfl, T, no, .inl ⟨ha, fun dx h1 h2 => h dx h1 h2⟩⟩
end
/-! ### promises of defs that refuse with a number -/
def SpX1 {τ : Type} [RpL τ] (cls : Value) (f : Str) (F : τ → Option Int) : Sp := fun vs H _ E => ∃ (Ha : Hp) (x : τ) (r : Int), Same Ha H ∧ RpL.reps Ha x vs ∧ F x = some r ∧ ∀ d H', Same H H' → H d = none → H' d = some (.xd [(f, .int r)]) → E cls (some d) H'
def PX1 (cls : Value) (f : Str) (E : XK) : Post Int := fun r B _ _ _ => ∀ d Hi H', SatG B Hi [] [] H' → B.h0 d = none → H' d = some (.xd [(f, .int r)]) → E cls (some d) H'
instance {cls : Value} {f : Str} {E : XK} : Out (PX1 cls f E) (PX1 cls f E) := ⟨fun _ _ _ _ _ _ h => h⟩
instance {cls : Value} {f : Str} {E : XK} : RtOnly (PX1 cls f E) := ⟨fun _ _ _ _ _ _ _ _ _ h => h⟩
section
variable {P : Program} {w : World} {K : PySem.W.Frag} {mg : Str → Option Value} {base : Heap} {x qual fl : Str} {st : Stmt} {f : Addr} {fd : FuncData} {N ps : List Str} {k : Nat} {τ : Type} {cls : Value}
theorem fun_X1 [RpL τ] {F : τ → Option Int} (Fn : Fun K x qual st f fd) (S : FnScope N ps (defScope st)) (hn : RpL.n τ = ps.length)
    (body : ∀ (cdv : Value) (A : Around) (outer : List Env) (s : Shared) (H : Hp) (E : XK), Room k (A.deeper (envOfC qual (defScope st) s.heap.objs.size f cdv)) →
      ∀ z : τ, ∃ t m, BJ (cxOf (L2.CX P w) P w K mg base N qual (defScope st) f cdv A outer s H E) (defBody st) t (gam N z) m (PX1 cls fl E) ∧ m = F z)
    (hm : mg x = some (.ref f)) (hb : Binds K fd ps []) : CalBX P w K mg base (k + 1) x (SpX1 cls fl F) := by
  refine ⟨f, fd, ps, Fn.okX S (fun vs H Q E h => ?_) (fun cdv A outer s H vs Q E hr h => ?_), hm, Fn.kp, hb⟩
  · obtain ⟨Ha, z, r, h1, h2, _⟩ := h
    rw [RpL.len h2, hn]
  · obtain ⟨Ha, z, r, h1, h2, h3, h4⟩ := h
    obtain ⟨t, m, b, e⟩ := body cdv A outer s H E hr z
    subst e
    exact ⟨t, b.ps, b.ev ⟨H, Ha⟩ Ha [] [] (start N vs) H _ r h3 rfl (sat_start h1 h2) fun d Hi H' q q0 q1 => h4 d H' q.2.1 q0 q1⟩
end
section
variable {X : Cx} {e a b c : Expr} {es : List Expr} {t ta tb : TE} {tr : TA} {G : List SV} {τ α β O : Type} {pos p p2 pos' : Pos} {n x m fl : Str} {j : Nat} {rest : List Stmt} {P : Post O} {cls : Value} {E : XK} {C fI : Addr}
/-- raise C(e) -/
theorem bj_raise1 {inj : Int → O} [Rt P (PX1 (.ref C) fl E) inj] {m1 : Option Int} {k : Nat} (hc : X.calm = true) (tk : Takes X (fun cls d _ H => E cls d H)) (T : XcT X.K C fI fl) (I : CalI X.prog X.w X.K X.mg X.base k C fI fl) (hr : Room (k + 1) X.A) (gC : X.mg x = some (.ref C)) (h : EJ X e t G m1) (hg : Gl X x := by rfl) (hdb : (x == ("__debug__" : Str)) = false := by decide)
    (he : starEach [e] X.env = (false, eval e X.env) :: starEach [] X.env := by rfl) (hpl : (backTo pos (starEach [] X.env)).any (·.1) = false := by rfl) :
    BJ X (.Raise (some (.Call (.Name x p) [e] [] pos)) none pos' :: rest) (fun _ σ H => tMkO C (spInit C fl) [] (tCons t tNil) σ H (fun cls d H' => E cls d H')) G (m1.bind fun r => some (inj r)) P := by
  obtain ⟨fd, ps, F1, hb⟩ := I.ok
  refine ⟨pss_stop (ps_raise hc tk (pmk_oex T.o T.i T.ti F1 hr hb .nil pass0 hg gC (pa_cons h.pe pa_nil he) hdb he hpl)), fun B Hi T' tv s H D o hx hl hs k => ?_⟩
  obtain ⟨r, e1, e2⟩ := bind_some hx
  cases e2
  refine h.ev B Hi T' tv s H _ r e1 hl hs fun v Hi1 H1 s1 r1 => ?_
  obtain rfl : v = .int r := r1
  refine ⟨by show 1 ≤ 1000; decide, fun a na => ⟨a, .int r, rfl, upd_same, fun dx nd ne => ?_⟩⟩
  have nd1 : H1 dx = none := by rw [upd_ne ne] at nd; exact nd
  refine ⟨rfl, dx, [(fl, .int r)], upd_same, by rw [upd_ne ne, upd_same], nd1, ?_⟩
  have sm : Same H1 (upd (L2.del (upd (upd (upd H1 a (exo a C none)) dx (exd dx [(fl, .int r)])) a (exo a C (some dx))) a) dx (.xd [(fl, .int r)])) := fun b o hb => by
    have n1 : b ≠ dx := fun z => by rw [z, nd1] at hb; cases hb
    have n2 : b ≠ a := fun z => by rw [z, na] at hb; cases hb
    rw [upd_ne n1, L2.del_ne n2, upd_ne n2, upd_ne n1, upd_ne n2]
    exact hb
  refine Rt.rt (P := P) (Pr := PX1 (.ref C) fl E) (inj := inj) r B T' tv D k dx _ _ (s1.bare.grow sm) ?_ upd_same
  cases q : B.h0 dx with
  | none => rfl
  | some u => rw [s1.sub0 _ _ q] at nd1; cases nd1
/-- an expression that raises so -/
structure RE1 (X : Cx) (e : Expr) (t : TE) (G : List SV) (m : Option Int) (cls : Value) (fl : Str) (E : XK) : Prop where
  pe : PE X e t
  ev : ∀ (B : Bk) (Hi : Hp) (T : List SV) (tv s : L2.St) (H : Hp) (Q : VK) (r : Int), m = some r → tv.length = T.length → SatG B Hi (T ++ G) (tv ++ s) H → (∀ d Hi' H', SatG B Hi' [] [] H' → B.h0 d = none → H' d = some (.xd [(fl, .int r)]) → E cls (some d) H') → t s H Q
theorem re1_call [RpL τ] {F : τ → Option Int} {m1 : Option τ} (C : CalX X n (SpX1 cls fl F)) (tk : Takes X (fun cls d _ H => E cls d H)) (ha : AJ X (e :: es) tr G m1) (hg : Gl X n := by rfl) (hdb : (n == ("__debug__" : Str)) = false := by decide) (he : starEach (e :: es) X.env = (false, eval e X.env) :: starEach es X.env := by rfl)
    (hpl : (backTo pos (starEach es X.env)).any (·.1) = false := by rfl) : RE1 X (.Call (.Name n p) (e :: es) [] pos) (tCallS (SpX1 cls fl F) (fun _ => E) tr) G (m1.bind F) cls fl E := by
  obtain ⟨k, f, fd, ps, Fk, hr, hm, hk, hb⟩ := C.ok
  refine ⟨pe_callS Fk hr hg hm hk hb (fun σ => passAt tk σ) ha.pa hdb he hpl, fun B Hi T tv s H Q r hx hl hs q => ?_⟩
  obtain ⟨z, e1, e2⟩ := bind_some hx
  refine ha.ev B Hi T tv s H _ z e1 hl hs fun vs Hi1 H1 s1 r1 => ?_
  refine ⟨Hi1, z, r, s1.sub, r1, e2, fun d H' sm nd hd => q d _ H' (s1.grow sm).bare ?_ hd⟩
  cases q : B.h0 d with
  | none => rfl
  | some u => rw [s1.sub0 _ _ q] at nd; cases nd
theorem re1_ix {r : Option Int} {i : Int} {jj} {p3 : Pos} (h : RE1 X e t G r cls fl E) : RE1 X (.Subscript e (.Constant (.int i) jj p3) pos) (tOp (rIxL X.K) t (tC (.int i))) G r cls fl E :=
  ⟨pe_ix ix_list h.pe pe_int (fun _ _ => rfl), fun B Hi T tv s H Q r hx hl hs q => h.ev B Hi T tv s H _ r hx hl hs q⟩
theorem re1_comp [Rq α] [Rq β] {r : Option Int} {elt tg iter : Expr} {scope : Scope} {own : List (Str × Nat)} {g : TG} {te : TE} {f : α → List SV → List SV} {g2 : Shared → Hp → Addr → List (Str × Addr) → List Addr → TG} {ids : List Nat} {me2 : α → Shared → Hp → Addr → List (Str × Addr) → List Addr → Option β} {te2 : α → Shared → Hp → Addr → List (Str × Addr) → List Addr → TE} (x0 : α) (hcalm : X.calm = true) (hN : X.N.Nodup) (h : RE1 X iter t G r cls fl E) (ok : BlkOk X.N X.env.scope scope own)
    (hg : ∀ (s : Shared) (H : Hp) (C : Addr) (cl : List (Str × Addr)) (fp : List Addr), GJ (X.blk s H scope (compEnvC scope cl C X.env) fp) tg (g2 s H C cl fp) f ids)
    (he : ∀ (x : α) (s : Shared) (H : Hp) (C : Addr) (cl : List (Str × Addr)) (fp : List Addr), EJ (X.blk s H scope (compEnvC scope cl C X.env) fp) elt (te2 x s H C cl fp) (f x G) (me2 x s H C cl fp))
    (hte : ∀ x s H C cl fp, te2 x s H C cl fp = te := by intros; first | rfl | (dsimp only [Cx.blk]; done) | (dsimp only [Cx.blk]; rfl)) (hgg : ∀ s H C cl fp, g2 s H C cl fp = g := by intros; first | rfl | (dsimp only [Cx.blk]; done) | (dsimp only [Cx.blk]; rfl)) (hs : ∀ x, foldedSetIterable iter X.env x = pure x := by intro _; rfl) :
    RE1 X (.ListComp elt [⟨tg, iter, [], 0⟩] scope pos) (tLc (iList X.K t) g tYes te (own.map (·.2))) G r cls fl E :=
  ⟨pe_lc hcalm hN (pi_list h.pe) ok (fun s H C cl fp => by have h := hg s H C cl fp; rw [hgg] at h; exact h.pg) (fun s H C cl fp => pts_nil) (fun s H C cl fp => by have h := he x0 s H C cl fp; rw [hte] at h; exact h.pe) hs,
    fun B Hi T tv s H Q r hx hl hs q => h.ev B Hi T tv s H _ r hx hl hs q⟩
theorem bjx1_expr {r : Option Int} {inj : Int → O} [Rt P (PX1 cls fl E) inj] (h : RE1 X e t G r cls fl E) (hsw : swapsWith e none pos.line X.env = pure false := by rfl) : BJ X (.Expr e pos :: rest) (fun _ σ H => tDrop t noEnds σ H) G (r.bind fun v => some (inj v)) P :=
  ⟨pss_stop (ps_expr h.pe hsw), fun B Hi T tv s H D o hx hl hs k => by
    obtain ⟨v, e1, e2⟩ := bind_some hx
    cases e2
    exact h.ev B Hi T tv s H _ v e1 hl hs (Rt.rt (P := P) (Pr := PX1 cls fl E) (inj := inj) v B T tv D k)⟩
theorem bjx1_ret {r : Option Int} {inj : Int → O} [Rt P (PX1 cls fl E) inj] (h : RE1 X e t G r cls fl E) : BJ X (.Return (some e) pos :: rest) (fun _ σ H => tRet t noEnds σ H) G (r.bind fun v => some (inj v)) P :=
  ⟨pss_stop (ps_ret h.pe), fun B Hi T tv s H D o hx hl hs k => by
    obtain ⟨v, e1, e2⟩ := bind_some hx
    cases e2
    exact h.ev B Hi T tv s H _ v e1 hl hs (Rt.rt (P := P) (Pr := PX1 cls fl E) (inj := inj) v B T tv D k)⟩
theorem bjx1_asg {r : Option Int} {inj : Int → O} [Rt P (PX1 cls fl E) inj] (hN : X.N.Nodup) (i : Nat) (h : RE1 X e t G r cls fl E) {p2 : Pos}
    (hi : X.N[i]? = some n := by rfl) (hx : Loc X.env.scope n := by first | exact Or.inl rfl | exact Or.inr rfl) (hs : swapsWith e (some (.Name n p2)) pos.line X.env = pure false := by rfl) (hf : X.fn n = true ∨ X.env.scope.names.lookup n = some .local := by first | exact .inl rfl | exact .inr rfl | assumption) :
    BJ X (.Assign [.Name n p2] e pos :: rest) (fun _ σ H => tAsg t (gName i) noEnds σ H) G (r.bind fun v => some (inj v)) P :=
  ⟨pss_stop (ps_set hN hi hx h.pe hs hf), fun B Hi T tv s H D o hx hl hs k => by
    obtain ⟨v, e1, e2⟩ := bind_some hx
    cases e2
    exact h.ev B Hi T tv s H _ v e1 hl hs (Rt.rt (P := P) (Pr := PX1 cls fl E) (inj := inj) v B T tv D k)⟩
end
/-! ### caught, with its number -/
def sx1 (cls : Value) (fl : Str) (r : Int) : SV := .fv (fun H v => ∃ a d, v = .ref a ∧ H a = some (ExQ cls (some d) a) ∧ H d = some (.xd [(fl, .int r)])) (fun _ _ _ e ⟨a, d, h1, h2, h3⟩ => ⟨a, d, h1, e _ _ h2, e _ _ h3⟩)
section
variable {X : Cx} {e a b c : Expr} {es : List Expr} {t ta tb : TE} {tr : TA} {G : List SV} {τ α β O ρ : Type} {pos pos1 pos2 pos3 pos' p p4 p5 npp : Pos} {n x nE nC fl : Str} {j : Nat} {rest : List Stmt} {u : TS} {P : Post O} {c0 : Addr} {cH : Value} {v0 : Int}
/-- try: g(..) except x as nE: nC = nE, where g tells a number -/
theorem bj_tryKeep1 [RpL τ] {F : τ → Option Int} {m1 : Option τ} {m2 : Int → Option O} (hN : X.N.Nodup) (i j : Nat) (Cg : CalX X n (SpX1 (.ref c0) fl F)) (hx : PySem.W.exmOne X.K (.ref c0) cH = some true) (hc : Names X x cH)
    (ha : ∀ (pn : List (Addr × Obj)) (xe : Value → Shared → Prop), AJ (X.tr pn xe) (e :: es) tr G m1) (hr : ∀ r : Int, BJ X rest u (((G.set i .un).set j (sx1 (.ref c0) fl r)).set i .un) (m2 r) P)
    (hi : X.N[i]? = some nE := by rfl) (hj : X.N[j]? = some nC := by rfl) (hGi : G[i]? = some .un := by rfl) (hln : X.env.kindOf nE = some .local := by rfl) (hLj : Loc X.env.scope nC := by first | exact Or.inl rfl | exact Or.inr rfl) (hvi : Vis X.env.scope nE := by first | exact Or.inl rfl | exact Or.inr (Or.inl rfl) | exact Or.inr (Or.inr rfl))
    (hd : (nE == ("__debug__" : Str)) = false := by decide) (hcd : (nE == ("__classdict__" : Str)) = false := by decide)
    (hs : X.stack = X.env :: X.outer := by rfl) (hf : X.env.frame = some X.env.locals := by rfl) (hex : X.ex = [] := by rfl) (hfj : X.fn nC = true ∨ X.env.scope.names.lookup nC = some .local := by first | exact .inl rfl | exact .inr rfl | assumption)
    (hg : Gl X n := by rfl) (hdb : (n == ("__debug__" : Str)) = false := by decide) (he : starEach (e :: es) X.env = (false, eval e X.env) :: starEach es X.env := by rfl) (hpl : (backTo pos1 (starEach es X.env)).any (·.1) = false := by rfl)
    (hsw : swapsWith (.Call (.Name n p) (e :: es) [] pos1) none pos2.line X.env = pure false := by rfl) (hsw2 : swapsWith (.Name nE p5) (some (.Name nC p4)) pos3.line X.env = pure false := by rfl) :
    BJ X (.Try [.Expr (.Call (.Name n p) (e :: es) [] pos1) pos2] [.ExceptHandler (some (.Name x npp)) (some nE) [.Assign [.Name nC p4] (.Name nE p5) pos3] pos'] [] [] pos :: rest)
      (tSeq (fun D σ H => (fun W : WX => tSeq (tDrop (tCallS (SpX1 (.ref c0) fl F) (WE W) tr)) tNext) (wKeep X.K cH i (fun _ _ _ => tSeq (tAsg (tVar i) (gName j)) tNext) D) noEnds σ H) u) G (m1.bind fun z => (F z).bind m2) P := by
  obtain ⟨k, f, fd, ps, Fk, hrm, hm, hk, hb⟩ := Cg.ok
  refine ⟨pss_cons (ps_try_keep hs hf hN hi hln hc hex (fun W pn xe tk _ => pss_cons (ps_expr (pe_callS (X := X.tr pn xe) Fk hrm hg hm hk hb (fun σ => passAt tk σ) (ha pn xe).pa hdb he hpl) hsw) pss_nil) (fun a oe cls d pn _ _ => pss_cons (ps_set (X := X.suite a ((a, oe) :: pn)) hN hj hLj (pe_var hi hvi hd hcd) hsw2 hfj) pss_nil)) (hr 0).ps, fun B Hi T tv s H D o hx1 hl hsat k2 => ?_⟩
  obtain ⟨z, e1, hx1⟩ := bind_some hx1
  obtain ⟨r, e2, e3⟩ := bind_some hx1
  refine (ha [] (fun _ _ => False)).ev B Hi T tv s H _ z e1 hl hsat fun vs Hi1 H1 s1 r1 => ?_
  refine ⟨Hi1, z, r, s1.sub, r1, e2, fun d H' sm nd hd' => ⟨hx, fun a na => ?_⟩⟩
  have ls : i < s.length := by
    have h1 := hsat.len
    rw [List.length_append, List.length_append] at h1
    have h2 : i < G.length := (List.getElem?_eq_some_iff.mp hGi).1
    omega
  have da : d ≠ a := fun z => by rw [z, na] at hd'; cases hd'
  refine ⟨.ref a, by rw [List.getElem?_set_self ls], ?_⟩
  have g1 := (s1.grow sm).newF (p := a) (u := ExQ (.ref c0) (some d) a) na
  have g2 := sat_unsetT (i := i) (o := some (.ref a)) hl g1
  have g3 : SatG B (upd (join Hi1 H1 H') a (ExQ (.ref c0) (some d) a)) (sx1 (.ref c0) fl r :: (T ++ G.set i .un)) (some (.ref a) :: (tv ++ s.set i (some (.ref a)))) (upd H' a (ExQ (.ref c0) (some d) a)) := ⟨⟨.ref a, rfl, a, d, rfl, upd_same, by rw [upd_ne da, join_none nd]; exact hd'⟩, g2⟩
  have g4 := sat_unsetT (i := i) (o := none) hl (g3.putT (i := j) hl)
  exact (hr r).ev B _ T tv _ _ D o e3 hl g4 k2
/-- try: g(..) except x: return e2, where g tells a number -/
theorem bj_tryRet1 [RpL τ] [Rq ρ] {F : τ → Option Int} {m1 : Option τ} {e2 : Expr} {t2 : TE} {y : ρ} {inj : ρ → O} [Rt P (PR (ρ := ρ)) inj] (Cg : CalX X n (SpX1 (.ref c0) fl F)) (hx : PySem.W.exmOne X.K (.ref c0) cH = some true) (hc : Names X x cH)
    (ha : ∀ (pn : List (Addr × Obj)) (xe : Value → Shared → Prop), AJ (X.tr pn xe) (e :: es) tr G m1) (h2 : ∀ (a : Addr) (pn : List (Addr × Obj)), EJ (X.suite a pn) e2 t2 G (some y))
    (hs : X.stack = X.env :: X.outer := by rfl) (hf : X.env.frame = some X.env.locals := by rfl)
    (hg : Gl X n := by rfl) (hdb : (n == ("__debug__" : Str)) = false := by decide) (he : starEach (e :: es) X.env = (false, eval e X.env) :: starEach es X.env := by rfl) (hpl : (backTo pos1 (starEach es X.env)).any (·.1) = false := by rfl)
    (hsw : swapsWith (.Call (.Name n p) (e :: es) [] pos1) none pos2.line X.env = pure false := by rfl) :
    BJ X (.Try [.Expr (.Call (.Name n p) (e :: es) [] pos1) pos2] [.ExceptHandler (some (.Name x npp)) none [.Return (some e2) pos3] pos'] [] [] pos :: rest)
      (fun D σ H => (fun W : WX => tSeq (tDrop (tCallS (SpX1 (.ref c0) fl F) (WE W) tr)) tNext) (wOnly X.K cH (fun _ _ _ => tSeq (tRet t2) tNext) (fun _ _ _ _ => False) { noEnds with rt := D.rt }) { noEnds with rt := D.rt } σ H) G (m1.bind fun z => (F z).bind fun _ => some (inj y)) P := by
  obtain ⟨k, f, fd, ps, Fk, hrm, hm, hk, hb⟩ := Cg.ok
  have st := ps_try_only (X := X) (pos := pos) (pos' := pos') (np := npp) hs hf hc (Wout := fun _ _ _ _ => False) takes0 (fun W pn xe tk _ => pss_cons (ps_expr (pe_callS (X := X.tr pn xe) Fk hrm hg hm hk hb (fun σ => passAt tk σ) (ha pn xe).pa hdb he hpl) hsw) pss_nil) (fun a oe cls d pn _ _ => pss_cons (ps_ret (pos := pos3) (h2 a ((a, oe) :: pn)).pe) pss_nil)
  refine ⟨⟨fun pins s σ H D I q => ?_⟩, fun B Hi T tv s H D o hx1 hl hsat k2 => ?_⟩
  · refine wpAny_execs_cons (wpAny_mono (st.run pins s σ H { noEnds with rt := D.rt } I q) (fun f s1 z => ?_) fun _ _ z => z)
    cases f with
    | next => obtain ⟨_, _, _, z⟩ := z; exact z.elim
    | brk => obtain ⟨_, _, _, z⟩ := z; exact z.elim
    | cont => obtain ⟨_, _, _, z⟩ := z; exact z.elim
    | ret u => exact z
  · obtain ⟨z, e1, hx1⟩ := bind_some hx1
    obtain ⟨r, e3, e4⟩ := bind_some hx1
    cases e4
    refine (ha [] (fun _ _ => False)).ev B Hi T tv s H _ z e1 hl hsat fun vs Hi1 H1 s1 r1 => ?_
    refine ⟨Hi1, z, r, s1.sub, r1, e3, fun d H' sm nd hd' => ⟨true, hx, fun _ a na => ?_, fun q => nomatch q⟩⟩
    exact (h2 0 []).ev B _ T tv s H' _ y rfl hl (s1.grow sm) fun v Hi' H'' s' rr => Rt.rt (P := P) (Pr := PR (ρ := ρ)) (inj := inj) y B T tv D k2 v Hi' H'' s'.bare rr
theorem ej_x1N {jj} {p' : Pos} (l : Nat) (hg : G[l]? = some (sx1 (.ref c0) fl v0) := by rfl) (hN : X.N[l]? = some n := by rfl) (hv : Vis X.env.scope n := by first | exact Or.inl rfl | exact Or.inr (Or.inl rfl) | exact Or.inr (Or.inr rfl)) (hd : (n == ("__debug__" : Str)) = false := by decide) (hcd : (n == ("__classdict__" : Str)) = false := by decide) :
    EJ X (.Compare (.Name n p) [.Is] [.Constant .none jj p'] pos) (tIsN (tVar l)) G (some false) := ⟨pe_cmp (pc_isN (pe_var hN hv hd hcd)) (by rfl), fun B Hi T tv s H Q x hx hl hs k => by
    cases hx
    obtain ⟨v, h1, a, d, h2, h3⟩ := hs.getT hl hg
    subst h2
    exact ⟨.ref a, h1, k _ Hi H hs rfl⟩⟩
theorem tj_x1N {jj} {p' : Pos} (l : Nat) (hg : G[l]? = some (sx1 (.ref c0) fl v0) := by rfl) (hN : X.N[l]? = some n := by rfl) (hv : Vis X.env.scope n := by first | exact Or.inl rfl | exact Or.inr (Or.inl rfl) | exact Or.inr (Or.inr rfl)) (hd : (n == ("__debug__" : Str)) = false := by decide) (hcd : (n == ("__classdict__" : Str)) = false := by decide) :
    TJ X (.Compare (.Name n p) [.Is] [.Constant .none jj p'] pos) (tB (tIsN (tVar l))) G (some false) := ⟨pt_cmp (pc_isN (pe_var hN hv hd hcd)) (by rfl), tv_b (ej_x1N (X := X) (pos := pos) (p := p) (jj := jj) (p' := p') l hg hN hv hd hcd).ev⟩
theorem ej_notx1N {jj} {p' : Pos} (l : Nat) (hg : G[l]? = some (sx1 (.ref c0) fl v0) := by rfl) (hN : X.N[l]? = some n := by rfl) (hv : Vis X.env.scope n := by first | exact Or.inl rfl | exact Or.inr (Or.inl rfl) | exact Or.inr (Or.inr rfl)) (hd : (n == ("__debug__" : Str)) = false := by decide) (hcd : (n == ("__classdict__" : Str)) = false := by decide) :
    EJ X (.Compare (.Name n p) [.IsNot] [.Constant .none jj p'] pos) (tNotN (tVar l)) G (some true) := ⟨pe_cmp (pc_notN (pe_var hN hv hd hcd)) (by rfl), fun B Hi T tv s H Q x hx hl hs k => by
    cases hx
    obtain ⟨v, h1, a, d, h2, h3⟩ := hs.getT hl hg
    subst h2
    exact ⟨.ref a, h1, k _ Hi H hs rfl⟩⟩
/-- the object and its dict, as they stand -/
theorem at_x1 {pins : List (Addr × Obj)} {σ : L2.St} {H : Hp} {s : Shared} {a d C : Addr} {fs : List (Str × V)} (I : Inv X pins σ H s) (ha : H a = some (ExQ (.ref C) (some d) a)) (hd : H d = some (.xd fs)) : ∃ ox od, PySem.W.InstAt s.heap a ox C (some od) ∧ ∀ f, ∃ o, PySem.W.lookIn f od = some o ∧ RelO (fs.lookup f) o := by
  obtain ⟨oe, vs, get, z, f⟩ := (I.hok a _ ha).1
  have hx : ObjOk X.prog X.w H s.heap d (.xd fs) := I.hok d _ hd
  obtain ⟨mA, hns, hr⟩ := hx
  obtain ⟨od, ho, hl⟩ := lookIn_ns hns
  exact ⟨oe, od, ⟨get, z.1, by unfold PySem.W.notCls; rw [f] <;> rfl, by rw [z.2]; exact ho⟩, fun f => ⟨_, hl f, hr f⟩⟩
def rIsK1 (K : PySem.W.Frag) (D : Addr) : List V → Hp → VK → Prop := fun xs H Q => ∃ (a d : Addr) (fs : List (Str × V)) (c : V) (cv : Value) (b : Bool), xs = [.ref a, c] ∧ H a = some (ExQ (.ref D) (some d) a) ∧ H d = some (.xd fs) ∧ (∀ u, RelV c u → u = cv) ∧ PySem.W.kitOne K (.ref D) cv = some b ∧ Q (.bl b) H
theorem call_isK1 {D fI : Addr} (T : XcT X.K D fI fl) : CallR X (.builtin "isinstance") (rIsK1 X.K D) := by
  intro pins s σ H xs us Q I r h
  obtain ⟨a, d, fs, c, cv, b, rfl, ha, hd, hcv, e, q⟩ := h
  obtain ⟨ox, od, J, _⟩ := at_x1 I ha hd
  have hcl : (PySem.W.clsIn X.K D).isSome = true := T.ic
  match us, r with
  | [_, u], .cons rx (.cons rt .nil) =>
    cases rx
    cases hcv _ rt
    exact PySem.W.kia_one (PySem.W.kitx_exc hcl T.ga T.gg T.o.exC T.at_ T.hn T.ht T.hm) I.kIn J e (fun z => nomatch z) fun tk => ⟨.bl b, H, I.kept (t' := tk) fun _ _ z => z, rfl, q⟩
theorem ej_isX1o {C1 fI : Addr} {r : Bool} {tn : Str} {p1 p2 : Pos} (l : Nat) (Ex : XcT X.K c0 fI fl) (hk : PySem.W.kitOne X.K (.ref c0) (.ref C1) = some r) (gC : X.mg tn = some (.ref C1)) (hm : X.mg "isinstance" = none) (hgl : G[l]? = some (sx1 (.ref c0) fl v0) := by rfl) (hN : X.N[l]? = some n := by rfl)
    (hv : Vis X.env.scope n := by first | exact Or.inl rfl | exact Or.inr (Or.inl rfl) | exact Or.inr (Or.inr rfl)) (hd : (n == ("__debug__" : Str)) = false := by decide) (hcd : (n == ("__classdict__" : Str)) = false := by decide) (hg : Gl X "isinstance" := by rfl) (hgt : Gl X tn := by rfl) (hdb : (tn == ("__debug__" : Str)) = false := by decide)
    (he : starEach [.Name n p1, .Name tn p2] X.env = (false, eval (.Name n p1) X.env) :: starEach [.Name tn p2] X.env := by rfl) (he2 : starEach [.Name tn p2] X.env = (false, eval (.Name tn p2) X.env) :: starEach [] X.env := by rfl) (hpl : (backTo pos (starEach [.Name tn p2] X.env)).any (·.1) = false := by rfl) :
    EJ X (.Call (.Name "isinstance" p) [.Name n p1, .Name tn p2] [] pos) (tCB (rIsK1 X.K c0) (tCons (tVar l) (tCons (tC (.ref C1)) tNil))) G (some r) :=
  ⟨pe_callB (call_isK1 Ex) hg hm (by decide +kernel) (pa_cons (pe_var hN hv hd hcd) (pa_cons (pe_glob hgt gC rfl hdb) pa_nil he2) he) (by decide) (by decide) he hpl, fun B Hi T tv s H Q x hx hl hs k => by
    cases hx
    obtain ⟨v, h1, a, d, h2, h3, h4⟩ := hs.getT hl hgl
    subst h2
    exact ⟨.ref a, h1, a, d, _, .ref C1, .ref C1, r, rfl, hs.sub _ _ h3, hs.sub _ _ h4, fun u ru => by cases ru; rfl, hk, k _ Hi H hs rfl⟩⟩
theorem ej_isX1b {cn : String} {fI : Addr} {r : Bool} {tn : Str} {p1 p2 : Pos} (l : Nat) (Ex : XcT X.K c0 fI fl) (hk : PySem.W.kitOne X.K (.ref c0) (.type cn) = some r) (hvt : bootBuiltins tn = some (.type cn)) (hmt : X.mg tn = none) (hm : X.mg "isinstance" = none) (hgl : G[l]? = some (sx1 (.ref c0) fl v0) := by rfl) (hN : X.N[l]? = some n := by rfl)
    (hv : Vis X.env.scope n := by first | exact Or.inl rfl | exact Or.inr (Or.inl rfl) | exact Or.inr (Or.inr rfl)) (hd : (n == ("__debug__" : Str)) = false := by decide) (hcd : (n == ("__classdict__" : Str)) = false := by decide) (hg : Gl X "isinstance" := by rfl) (hgt : Gl X tn := by rfl) (hdb : (tn == ("__debug__" : Str)) = false := by decide) (hnn : tn ≠ "__name__" := by decide)
    (he : starEach [.Name n p1, .Name tn p2] X.env = (false, eval (.Name n p1) X.env) :: starEach [.Name tn p2] X.env := by rfl) (he2 : starEach [.Name tn p2] X.env = (false, eval (.Name tn p2) X.env) :: starEach [] X.env := by rfl) (hpl : (backTo pos (starEach [.Name tn p2] X.env)).any (·.1) = false := by rfl) :
    EJ X (.Call (.Name "isinstance" p) [.Name n p1, .Name tn p2] [] pos) (tCB (rIsK1 X.K c0) (tCons (tVar l) (tCons (tC (.ty cn)) tNil))) G (some r) :=
  ⟨pe_callB (call_isK1 Ex) hg hm (by decide +kernel) (pa_cons (pe_var hN hv hd hcd) (pa_cons (pe_bltn (v := .ty cn) hgt hmt hvt rfl hnn hdb) pa_nil he2) he) (by decide) (by decide) he hpl, fun B Hi T tv s H Q x hx hl hs k => by
    cases hx
    obtain ⟨v, h1, a, d, h2, h3, h4⟩ := hs.getT hl hgl
    subst h2
    exact ⟨.ref a, h1, a, d, _, .ty cn, .type cn, r, rfl, hs.sub _ _ h3, hs.sub _ _ h4, fun u ru => by cases ru; rfl, hk, k _ Hi H hs rfl⟩⟩
/-- n.fl -/
def tXq (C : Addr) (f : Str) (te : TE) : TE := fun σ H Q => te σ H fun x H1 => ∃ (a d : Addr) (fs : List (Str × V)) (v : V), x = .ref a ∧ H1 a = some (ExQ (.ref C) (some d) a) ∧ H1 d = some (.xd fs) ∧ fs.lookup f = some v ∧ Q v H1
theorem pe_xq {C fI : Addr} {te : TE} {f : Str} (T : XcT X.K C fI f) (he : PE X e te) (hb : attributeBase e f X.env (eval e X.env) = eval e X.env := by rfl) : PE X (.Attribute e f pos) (tXq C f te) := by
  refine ⟨fun pins s σ H Q I h => ?_⟩
  refine attr_of hb (wpAny_mono (he.run pins s σ H _ I h) (fun u s1 hh => ?_) fun _ _ z => z)
  obtain ⟨x, H1, I1, rx, a, d, fs, v, rfl, ha, hd, l, q⟩ := hh
  cases rx
  obtain ⟨ox, od, J, look⟩ := at_x1 I1 ha hd
  obtain ⟨o, hu0, ro⟩ := look f
  obtain ⟨u, hu, ru⟩ := RelO.some_of (v := v) (o := o) (by rw [← l]; exact ro)
  exact HandSPX.exc_get I1.kIn J T.ga T.gg T.o.exC (PySem.W.findObj_own T.hd T.no rfl (by rw [hu0, hu])) (handed_of ru) ⟨v, H1, I1.tok _, ru, q⟩
theorem ej_thing {fI : Addr} {p1 : Pos} (l : Nat) (T : XcT X.K c0 fI fl) (hgl : G[l]? = some (sx1 (.ref c0) fl v0) := by rfl) (hN : X.N[l]? = some n := by rfl) (hv : Vis X.env.scope n := by first | exact Or.inl rfl | exact Or.inr (Or.inl rfl) | exact Or.inr (Or.inr rfl)) (hd : (n == ("__debug__" : Str)) = false := by decide) (hcd : (n == ("__classdict__" : Str)) = false := by decide)
    (hb : attributeBase (.Name n p1) fl X.env (eval (.Name n p1) X.env) = eval (.Name n p1) X.env := by rfl) : EJ X (.Attribute (.Name n p1) fl pos) (tXq c0 fl (tVar l)) G (some v0) :=
  ⟨pe_xq T (pe_var hN hv hd hcd) hb, fun B Hi T' tv s H Q x hx hl hs k => by
    cases hx
    obtain ⟨v, h1, a, d, h2, h3, h4⟩ := hs.getT hl hgl
    subst h2
    exact ⟨.ref a, h1, a, d, _, .int v0, rfl, hs.sub _ _ h3, hs.sub _ _ h4, by simp [List.lookup], k _ Hi H hs rfl⟩⟩
end
end GM
namespace GM
open PySem PySem.Spec PyProof.Rows L2
/-! ### a list of just three, of unlike kinds -/
structure Ll3 (α β γ : Type) where
  a : α
  b : β
  c : γ
def repLl3 {α β γ : Type} [Rq α] [Rq β] [Rq γ] (H : Hp) (x : Ll3 α β γ) (v : V) : Prop := ∃ q v1 v2 v3, v = .ref q ∧ H q = some (.lst [v1, v2, v3]) ∧ rq H x.a v1 ∧ rq H x.b v2 ∧ rq H x.c v3
instance {α β γ : Type} [Rq α] [Rq β] [Rq γ] : Rp (Ll3 α β γ) := ⟨repLl3, fun {H H' x v} e h => by
  obtain ⟨a, v1, v2, v3, h1, h2, h3, h4, h5⟩ := h
  exact ⟨a, v1, v2, v3, h1, e _ _ h2, Rq.mono e h3, Rq.mono e h4, Rq.mono e h5⟩, fun h => by
  obtain ⟨a, v1, v2, v3, h1, h2, h3, h4, h5⟩ := h
  rw [h1]; exact fun z => by cases z⟩
instance {α β γ : Type} [Inhabited α] [Inhabited β] [Inhabited γ] : Inhabited (Ll3 α β γ) := ⟨⟨default, default, default⟩⟩
instance {α β γ : Type} [Rq α] [Rq β] [Rq γ] : TyN (Ll3 α β γ) := ⟨"list", fun h => by obtain ⟨a, v1, v2, v3, h1, h2, _⟩ := h; subst h1; exact .base (.lst h2)⟩
section
variable {X : Cx} {e a b c d : Expr} {es : List Expr} {t ta tb tc te : TE} {tr : TA} {G : List SV} {α β γ τ ρ O S R : Type} {pos p : Pos} {n : Str} {rest : List Stmt} {u ts : TS} {P Px : Post O}
theorem ej_ll3 [Rq α] [Rq β] [Rq γ] {m : Option (α × β × γ × Unit)} (h : AJ X [a, b, c] tr G m) : EJ X (.List [a, b, c] pos) (tLst tr) G (m.bind fun x => some (Ll3.mk x.1 x.2.1 x.2.2.1)) := ⟨pe_lst h.pa, fun B Hi T tv s H Q z hx hl hs k => by
  obtain ⟨x, e1, e2⟩ := bind_some hx
  cases e2
  refine h.ev B Hi T tv s H _ x e1 hl hs fun vs Hi1 H1 s1 r1 => ?_
  obtain ⟨v1, us, rfl, h1, v2, us2, rfl, h2, v3, us3, rfl, h3, h4⟩ := r1
  cases h4
  refine ⟨by show 3 ≤ sizeLine; decide, fun p hp => ?_⟩
  obtain ⟨s2, sm⟩ := sat_lst (vs := [v1, v2, v3]) s1 hp
  exact k _ _ _ s2 ⟨p, v1, v2, v3, rfl, upd_same, Rq.mono sm h1, Rq.mono sm h2, Rq.mono sm h3⟩⟩
theorem ej_ll30 [Rq α] [Rq β] [Rq γ] {m : Option (Ll3 α β γ)} {j} {p2 : Pos} (ha : EJ X a ta G m) : EJ X (.Subscript a (.Constant (.int 0) j p2) pos) (tOp (rIxL X.K) ta (tC (.int 0))) G (m.bind fun x => some x.a) :=
  ⟨pe_ix ix_list ha.pe pe_int (fun _ _ => rfl), fun B Hi T tv s H Q z hx hl hs k => by
    obtain ⟨x, e1, e2⟩ := bind_some hx
    cases e2
    refine ha.ev B Hi T tv s H _ x e1 hl hs fun v Hi1 H1 s1 r1 => ?_
    obtain ⟨q, v1, v2, v3, h1, h2, h3, h4, h5⟩ := r1
    exact ⟨q, [v1, v2, v3], 0, v1, h1, rfl, SqL.of (s1.sub _ _ h2), atI_nat (j := 0) rfl, k v1 Hi1 H1 s1 h3⟩⟩
theorem ej_ll31 [Rq α] [Rq β] [Rq γ] {m : Option (Ll3 α β γ)} {j} {p2 : Pos} (ha : EJ X a ta G m) : EJ X (.Subscript a (.Constant (.int 1) j p2) pos) (tOp (rIxL X.K) ta (tC (.int 1))) G (m.bind fun x => some x.b) :=
  ⟨pe_ix ix_list ha.pe pe_int (fun _ _ => rfl), fun B Hi T tv s H Q z hx hl hs k => by
    obtain ⟨x, e1, e2⟩ := bind_some hx
    cases e2
    refine ha.ev B Hi T tv s H _ x e1 hl hs fun v Hi1 H1 s1 r1 => ?_
    obtain ⟨q, v1, v2, v3, h1, h2, h3, h4, h5⟩ := r1
    exact ⟨q, [v1, v2, v3], 1, v2, h1, rfl, SqL.of (s1.sub _ _ h2), atI_nat (j := 1) rfl, k v2 Hi1 H1 s1 h4⟩⟩
theorem ej_ll32 [Rq α] [Rq β] [Rq γ] {m : Option (Ll3 α β γ)} {j} {p2 : Pos} (ha : EJ X a ta G m) : EJ X (.Subscript a (.Constant (.int 2) j p2) pos) (tOp (rIxL X.K) ta (tC (.int 2))) G (m.bind fun x => some x.c) :=
  ⟨pe_ix ix_list ha.pe pe_int (fun _ _ => rfl), fun B Hi T tv s H Q z hx hl hs k => by
    obtain ⟨x, e1, e2⟩ := bind_some hx
    cases e2
    refine ha.ev B Hi T tv s H _ x e1 hl hs fun v Hi1 H1 s1 r1 => ?_
    obtain ⟨q, v1, v2, v3, h1, h2, h3, h4, h5⟩ := r1
    exact ⟨q, [v1, v2, v3], 2, v3, h1, rfl, SqL.of (s1.sub _ _ h2), atI_nat (j := 2) rfl, k v3 Hi1 H1 s1 h5⟩⟩
theorem gj_ll3 [Rq α] [Rq β] [Rq γ] {g1 g2 g3 : TG} {f1 : α → List SV → List SV} {f2 : β → List SV → List SV} {f3 : γ → List SV → List SV} {i1 i2 i3 : List Nat} {k : Nat} (hc : X.calm = true) (h1 : GJ X a g1 f1 i1) (h2 : GJ X b g2 f2 i2) (h3 : GJ X c g3 f3 i3)
    (hs1 : (assignEach [a, b, c] X.env).map (·.2) = assign a X.env :: (assignEach [b, c] X.env).map (·.2) := by rfl) (hs2 : (assignEach [b, c] X.env).map (·.2) = assign b X.env :: (assignEach [c] X.env).map (·.2) := by rfl) (hs3 : (assignEach [c] X.env).map (·.2) = assign c X.env :: (assignEach [] X.env).map (·.2) := by rfl)
    (hn : (assignEach [a, b, c] X.env).length = 3 := by rfl) (hst : (assignEach [a, b, c] X.env).findIdx? (·.1) = none := by rfl) :
    GJ (α := Ll3 α β γ) X (.Tuple [a, b, c] k pos) (gLst X.K 3 (gCons g1 (gCons g2 (gCons g3 gNil)))) (fun x G => f3 x.c (f2 x.b (f1 x.a G))) (i1 ++ (i2 ++ i3)) := ⟨pg_lst hc (pgs_cons h1.pg (pgs_cons h2.pg (pgs_cons h3.pg pgs_nil hs3) hs2) hs1) hn hst, fun B Hi T tv s H G v x Q hl hs r kk => by
  obtain ⟨q, v1, v2, v3, e1, e2, r1, r2, r3⟩ := r
  refine ⟨q, [v1, v2, v3], e1, SqL.of (hs.sub _ _ e2), rfl, v1, [v2, v3], rfl, ?_⟩
  refine h1.ev B Hi T tv s H G v1 x.a _ hl hs r1 fun s' s2 w1 => ⟨v2, [v3], rfl, ?_⟩
  refine h2.ev B Hi T tv s' H _ v2 x.b _ hl s2 r2 fun s'' s3 w2 => ⟨v3, [], rfl, ?_⟩
  refine h3.ev B Hi T tv s'' H _ v3 x.c _ hl s3 r3 fun s3' s4 w3 => ⟨rfl, kk s3' s4 fun vs hv => ?_⟩
  rw [w3 vs fun i hi => hv i (List.mem_append_right _ (List.mem_append_right _ hi)), w2 vs fun i hi => hv i (List.mem_append_right _ (List.mem_append_left _ hi)), w1 vs fun i hi => hv i (List.mem_append_left _ hi)]⟩
/-! ### None that is always None -/
theorem ev_notNU {m : Option Unit} (h : EvJ ta G m) : EvJ (tNotN ta) G (m.bind fun _ => some false) := fun B Hi T tv s H Q z hx hl hs k => by
  obtain ⟨x, e1, e2⟩ := bind_some hx
  cases e2
  refine h B Hi T tv s H _ x e1 hl hs fun v Hi1 H1 s1 r1 => k _ Hi1 H1 s1 ?_
  cases (show v = .non from r1); rfl
theorem ev_isNU {m : Option Unit} (h : EvJ ta G m) : EvJ (tIsN ta) G (m.bind fun _ => some true) := fun B Hi T tv s H Q z hx hl hs k => by
  obtain ⟨x, e1, e2⟩ := bind_some hx
  cases e2
  refine h B Hi T tv s H _ x e1 hl hs fun v Hi1 H1 s1 r1 => k _ Hi1 H1 s1 ?_
  cases (show v = .non from r1); rfl
theorem ej_isNU {j p'} {m : Option Unit} (h : EJ X a ta G m) : EJ X (.Compare a [.Is] [.Constant .none j p'] pos) (tIsN ta) G (m.bind fun _ => some true) := ⟨pe_cmp (pc_isN h.pe) (by rfl), ev_isNU h.ev⟩
theorem ej_notNU {j p'} {m : Option Unit} (h : EJ X a ta G m) : EJ X (.Compare a [.IsNot] [.Constant .none j p'] pos) (tNotN ta) G (m.bind fun _ => some false) := ⟨pe_cmp (pc_notN h.pe) (by rfl), ev_notNU h.ev⟩
theorem tj_isNU {j p'} {m : Option Unit} (h : EJ X a ta G m) : TJ X (.Compare a [.Is] [.Constant .none j p'] pos) (tB (tIsN ta)) G (m.bind fun _ => some true) := ⟨pt_cmp (pc_isN h.pe) (by rfl), tv_b (ev_isNU h.ev)⟩
theorem tj_notNU {j p'} {m : Option Unit} (h : EJ X a ta G m) : TJ X (.Compare a [.IsNot] [.Constant .none j p'] pos) (tB (tNotN ta)) G (m.bind fun _ => some false) := ⟨pt_cmp (pc_notN h.pe) (by rfl), tv_b (ev_notNU h.ev)⟩
/-! ### what raises within an argument ahead, or within what is walked -/
theorem pg_never {target : Expr} : PG X target (fun _ _ _ _ => False) := ⟨fun _ _ _ _ _ _ _ _ _ h => h.elim⟩
variable {cls : Value} {E : XK} {tg : Expr} {body : List Stmt}
theorem re_arg1 [Rq α] {x : α} {sp : Sp} {r : Option Unit} (Cg : Cal X n sp) (h : RE X e t G r cls E) (ha : EJ X a ta G (some x)) (hg : Gl X n := by rfl) (hdb : (n == ("__debug__" : Str)) = false := by decide)
    (he : starEach [e, a] X.env = (false, eval e X.env) :: starEach [a] X.env := by rfl) (he2 : starEach [a] X.env = (false, eval a X.env) :: starEach [] X.env := by rfl) (hpl : (backTo pos (starEach [a] X.env)).any (·.1) = false := by rfl) :
    RE X (.Call (.Name n p) [e, a] [] pos) (tCall sp [] E0 (tCons t (tCons ta tNil))) G r cls E :=
  ⟨cal_pe Cg hg (pa_cons h.pe (pa_cons ha.pe pa_nil he2) he) hdb he hpl, fun B Hi T tv s H Q hx hl hs q => h.ev B Hi T tv s H _ hx hl hs q⟩
theorem bjx_for {r : Option Unit} {inj : Unit → O} [Rt P (PX0 cls E) inj] (hc : X.calm = true) (h : RE X e t G r cls E) (hp : PassesOwn (model X.prog X.w) X.A X.env X.xe) (hs : ∀ x, foldedSetIterable e X.env x = pure x := by intro _; rfl) :
    BJ X (.For tg e body [] pos :: rest) (fun _ σ H => tFor (iList X.K t) (fun _ _ _ _ => False) tNever noEnds σ H) G (r.bind fun _ => some (inj ())) P :=
  ⟨pss_stop (ps_for hp hc (pi_list h.pe) pg_never pss_never hs), fun B Hi T tv s H D o hx hl hs k => by
    obtain ⟨⟨⟩, e1, e2⟩ := bind_some hx
    cases e2
    exact h.ev B Hi T tv s H _ e1 hl hs fun Hi' H' s' => Rt.rt (P := P) (Pr := PX0 cls E) (inj := inj) () B T tv D k Hi' H' s'⟩
end
end GM
namespace GM
open PySem PySem.Spec PyProof.Rows L2
/-! ### a dict of our own is walked: it is locked meanwhile -/
def odk {α : Type} [Rq α] (q : Addr) (o : Obj) (kvs : List (L2.Key × V)) (d : Dc α) : SV := .ow (fun H q' F => q' = q ∧ F = one q (.frz o (.dK kvs)) ∧ kvs.length ≤ sizeLine ∧ Paired (prD H) d.l kvs) (fun _ _ _ _ e ⟨h1, h2, h3, h4⟩ => ⟨h1, h2, h3, Paired.mono h4 (prD_mono e)⟩)
theorem set_self {α : Type} : ∀ {L : List α} {i : Nat} {c : α}, L[i]? = some c → L.set i c = L
  | [], _, _, e => by simp at e
  | d :: L, 0, c, e => by
    have e : d = c := by simpa using e
    rw [e]; rfl
  | d :: L, i + 1, c, e => by
    show d :: L.set i c = d :: L
    rw [set_self (by simpa using e)]
section
variable {X : Cx} {e a b c : Expr} {es : List Expr} {t ta tb tc te : TE} {tr : TA} {G : List SV} {α β γ τ ρ O S R : Type} {pos p apos cpos tpos : Pos} {n : Str} {rest : List Stmt} {u ts : TS} {P Px : Post O}
theorem SatG.odkT [Rq α] {B : Bk} {Hi : Hp} {L : List SV} {s : L2.St} {T : List SV} {tv : L2.St} {i : Nat} {H : Hp} {q : Addr} {o : Obj} {kvs : List (L2.Key × V)} {d : Dc α} (hl : tv.length = T.length) (h : SatG B Hi (T ++ L) (tv ++ s) H) (hi : L[i]? = some (odk q o kvs d)) :
    s[i]? = some (some (.ref q)) ∧ H q = some (.frz o (.dK kvs)) ∧ kvs.length ≤ sizeLine ∧ Paired (prD Hi) d.l kvs := by
  obtain ⟨p, F, h1, h2, ⟨h3, h4, h5, h6⟩, _⟩ := h.ownFT hl hi
  subst h3 h4
  exact ⟨h1, h2 _ _ one_same, h5, h6⟩
theorem SatG.lockT [Rq α] {B : Bk} {Hi : Hp} {L : List SV} {s : L2.St} {T : List SV} {tv : L2.St} {i : Nat} {H : Hp} {d : Dc α} (hl : tv.length = T.length) (h : SatG B Hi (T ++ L) (tv ++ s) H) (hi : L[i]? = some (odc d)) :
    ∃ p kvs, H p = some (.dK kvs) ∧ ∀ od, SatG B Hi (T ++ L.set i (odk p od kvs d)) (tv ++ s) (upd H p (.frz od (.dK kvs))) := by
  obtain ⟨p, F, h1, h2, ⟨u, rfl, kvs, rfl, h3, h4⟩, h5, k⟩ := h.ownFT hl hi
  exact ⟨p, kvs, h2 _ _ one_same, fun od => k (one p (.frz od (.dK kvs))) _ _ _ ⟨rfl, rfl, h3, h4⟩ (same_one upd_same) (by rw [minus_one, minus_one, del_upd])⟩
theorem SatG.unlockT [Rq α] {B : Bk} {Hi : Hp} {L : List SV} {s : L2.St} {T : List SV} {tv : L2.St} {i : Nat} {H : Hp} {q : Addr} {o : Obj} {kvs : List (L2.Key × V)} {d : Dc α} (hl : tv.length = T.length) (h : SatG B Hi (T ++ L) (tv ++ s) H) (hi : L[i]? = some (odk q o kvs d)) :
    H q = some (.frz o (.dK kvs)) ∧ SatG B Hi (T ++ L.set i (odc d)) (tv ++ s) (upd H q (.dK kvs)) := by
  obtain ⟨p, F, h1, h2, ⟨rfl, rfl, h3, h4⟩, h5, k⟩ := h.ownFT hl hi
  exact ⟨h2 _ _ one_same, k (one p (.dK kvs)) _ _ _ ⟨_, rfl, kvs, rfl, h3, h4⟩ (same_one upd_same) (by rw [minus_one, minus_one, del_upd])⟩
theorem oj_lockD [Rq α] [Rq β] {d : Dc α} {m : Option (List β)} (j : Nat) (hi : G[j]? = some (odc d)) (h : ∀ q o kvs, OJ X e t (G.set j (odk q o kvs d)) m) : OJ X e (tLockE t) G m :=
  ⟨pe_lock (h 0 { cls := .none, data := .fields #[] } []).pe, fun B Hi T tv s H Q x hx hl hs k => by
    obtain ⟨p, kvs, h1, h2⟩ := hs.lockT hl hi
    refine ⟨p, .dK kvs, h1, trivial, fun od => ?_⟩
    refine (h p od kvs).ev B Hi T tv s _ _ x hx hl (h2 od) fun q' Hi' H' s3 => ?_
    have lt : j < G.length := (List.getElem?_eq_some_iff.mp hi).1
    obtain ⟨g1, g2⟩ := SatG.unlockT (T := ol x :: T) (tv := some (.ref q') :: tv) (by simp [hl]) s3 (i := j) (by rw [List.getElem?_set_self lt])
    refine ⟨g1, k q' Hi' _ ?_⟩
    rw [List.set_set, set_self hi] at g2
    exact g2⟩
/-- d.items(), d locked -/
theorem ij_itemsK [Rq α] {d : Dc α} {q : Addr} {o : Obj} {kvs : List (L2.Key × V)} {elts : List Expr} {kk : Nat} (j : Nat) (hi : G[j]? = some (odk q o kvs d)) (hN : X.N[j]? = some n := by rfl) (hv : Vis X.env.scope n := by first | exact Or.inl rfl | exact Or.inr (Or.inl rfl) | exact Or.inr (Or.inr rfl))
    (hd : (n == ("__debug__" : Str)) = false := by decide) (hcd : (n == ("__classdict__" : Str)) = false := by decide) (hbase : attributeBase (.Name n p) "items" X.env (eval (.Name n p) X.env) = eval (.Name n p) X.env := by rfl) (hline : (apos.endLine == cpos.line) = true := by rfl) :
    IJ (fun G2 _ _ => G2[j]? = some (odk q o kvs d)) X (.Tuple elts kk tpos) (.Call (.Attribute (.Name n p) "items" apos) [] [] cpos) (iItems (tVar j)) G (some d.l) := ⟨pi_items (pe_var hN hv hd hcd) hbase hline, fun B Hi T tv s H R xs hx hl hs k => by
  cases hx
  obtain ⟨h1, h2, h3, h4⟩ := hs.odkT hl hi
  refine ⟨.ref q, h1, q, o, kvs, rfl, h2, k _ T tv Hi H hl hs (by rw [Paired.length h4]; exact h3) (fun G2 s2 Hi2 H2 z => z) fun F fv G2 s2 Hi2 H2 lf c z => ?_⟩
  obtain ⟨g1, g2, g3, g4⟩ := SatG.odkT hl (SatG.dropF lf z) c
  refine ⟨⟨g2, by rw [Paired.length g4]; exact Nat.le_refl _⟩, fun i x hx => ?_⟩
  obtain ⟨y, hy, r1, r2⟩ := Paired.get g4 hx
  refine ⟨⟨g2, (List.getElem?_eq_some_iff.mp hy).1⟩, fun v H3 yy => ?_⟩
  obtain ⟨Tn, k', v', y1, y2, y3, y4⟩ := yy
  rw [hy] at y1
  cases y1
  subst y2 y4
  exact sat_pair z y3 (by have r1 : k' = .inl x.1 := r1; rw [r1]; rfl) r2, fun _ => hi⟩
/-! ### an if from which one may leave, and behind which it goes on -/
def PJ {S O : Type} (N : S → List SV) (Px : Post O) : Post (Fl S O) := fun o B T tv D => match o with
  | .go st => ∀ s Hi H', SatG B Hi (T ++ N st) (tv ++ s) H' → D.nx s H'
  | .stop _ => True
  | .ret r => Px r B T tv D
def PJx {O : Type} (S : Type) (Px : Post O) : Post (Fl S O) := fun o B T tv D => match o with
  | .go _ => True
  | .stop _ => True
  | .ret r => Px r B T tv D
instance {S O : Type} {N : S → List SV} {Px : Post O} [Out Px Px] : Out (PJ N Px) (PJx S Px) := ⟨fun o _ _ _ _ _ h => by
  cases o with
  | go st => trivial
  | stop st => trivial
  | ret r => exact Out.out (P := Px) _ _ _ _ _ _ h⟩
instance {S O : Type} {Px : Post O} [Out Px Px] : Out (PJx S Px) (PJx S Px) := ⟨fun o _ _ _ _ _ h => by
  cases o with
  | go st => trivial
  | stop st => trivial
  | ret r => exact Out.out (P := Px) _ _ _ _ _ _ h⟩
variable {ss : List Stmt}
theorem bj_nilJ {N : S → List SV} {Px : Post R} (st : S) (w : Wk G (N st)) : BJ X [] tNext G (some (.go st)) (PJ N Px) := ⟨pss_nil, fun B Hi T tv s H D o hx hl hs k => by cases hx; exact k s Hi H (hs.wkT hl w)⟩
theorem bj_inJ {N : S → List SV} {Px : Post R} {m : Option R} (h : BJ X ss u G m Px) : BJ X ss u G (m.bind fun o => some (Fl.ret o)) (PJ N Px) := ⟨h.ps, fun B Hi T tv s H D o hx hl hs k => by
  obtain ⟨r, e1, e2⟩ := bind_some hx
  cases e2
  exact h.ev B Hi T tv s H D r e1 hl hs k⟩
theorem bj_inJx {Px : Post R} {m : Option R} (h : BJ X ss u G m Px) : BJ X ss u G (m.bind fun o => some (Fl.ret o)) (PJx S Px) := ⟨h.ps, fun B Hi T tv s H D o hx hl hs k => by
  obtain ⟨r, e1, e2⟩ := bind_some hx
  cases e2
  exact h.ev B Hi T tv s H D r e1 hl hs k⟩
theorem bj_ifJF {tc' : TT} {tA tB : TS} {aS bS : List Stmt} {N : S → List SV} {mc : Option Bool} {ma mb : Option (Fl S O)} {mr : S → Option O} [Out P Px] (hc : TJ X c tc' G mc) (ha : BJ X aS tA G ma (PJ N Px)) (hb : BJ X bS tB G mb (PJ N Px)) (s0 : S) (hr : ∀ st, BJ X rest u (N st) (mr st) P) :
    BJ X (.If c aS bS pos :: rest) (tSeq (tIfS tc' tA tB) u) G ((mc.bind fun x => if x = true then ma else mb).bind (flR mr id)) P :=
  ⟨pss_cons (ps_if hc.pt ha.ps hb.ps) (hr s0).ps, fun B Hi T tv s H D o hx hl hs k => by
    obtain ⟨st, hx, e3⟩ := bind_some hx
    obtain ⟨x, e1, e2⟩ := bind_some hx
    refine hc.ev B Hi T tv s H _ x e1 hl hs fun Hi1 H1 s1 => ?_
    have fin : PJ N Px st B T tv { D with nx := u D } := by
      cases st with
      | go st => exact fun s' Hi' H' q => (hr st).ev B Hi' T tv s' H' D o e3 hl q k
      | stop st => trivial
      | ret r =>
        cases e3
        exact Out.out (P := P) (Px := Px) _ _ _ _ _ _ k
    cases x with
    | true =>
      rw [if_pos rfl] at e2 ⊢
      exact ha.ev B Hi1 T tv s H1 _ st e2 hl s1 fin
    | false =>
      rw [if_neg Bool.false_ne_true] at e2 ⊢
      exact hb.ev B Hi1 T tv s H1 _ st e2 hl s1 fin⟩
end
end GM
namespace GM
open PySem PySem.Spec PyProof.Rows L2
/-! ### min, max of a pair of ints; remove of a pair -/
section
variable {X : Cx} {e a b c : Expr} {es : List Expr} {t ta tb tc te : TE} {tr : TA} {G : List SV} {α β γ τ ρ O S R : Type} {pos p apos cpos tpos : Pos} {n : Str} {rest : List Stmt} {u ts : TS} {P Px : Post O}
def rMinT (K : PySem.W.Frag) : List V → Hp → VK → Prop := fun vs H Q => ∃ (a : Addr) (i j : Int), vs = [V.ref a] ∧ SqT K H a [.int i, .int j] ∧ Q (.int (if j < i then j else i)) H
def rMaxT (K : PySem.W.Frag) : List V → Hp → VK → Prop := fun vs H Q => ∃ (a : Addr) (i j : Int), vs = [V.ref a] ∧ SqT K H a [.int i, .int j] ∧ Q (.int (if j > i then j else i)) H
theorem dp_two {K : PySem.W.Frag} {H : Hp} (i j : Int) : DpAll K H [.int i, .int j] [.int i, .int j] := .cons (.int i) (.cons (.int j) .nil)
theorem alike_two (i j : Int) : PySem.W.AlikeAll [PyData.int i, PyData.int j] := ⟨fun y hy y' hy' => by
    have h1 : ∃ a, y = .int a := by
      rcases List.mem_cons.mp hy with h | h
      · exact ⟨_, h⟩
      · exact ⟨_, List.mem_singleton.mp h⟩
    have h2 : ∃ a, y' = .int a := by
      rcases List.mem_cons.mp hy' with h | h
      · exact ⟨_, h⟩
      · exact ⟨_, List.mem_singleton.mp h⟩
    obtain ⟨a, rfl⟩ := h1
    obtain ⟨b, rfl⟩ := h2
    simp only [PySem.W.alike], fun y hy => by
    rcases List.mem_cons.mp hy with h | h
    · rw [h]; exact fun z => by cases z
    · rw [List.mem_singleton.mp h]; exact fun z => by cases z⟩
theorem depth_two (i j : Int) : PyData.depthAll [PyData.int i, PyData.int j] ≤ 8 := by show max 0 (max 0 0) ≤ 8; decide
theorem cr_minT (hc : X.calm = true) (hu : X.A.units + 65 < cLine) : CallR X (.builtin "min") (rMinT X.K) := by
  intro pins s σ H vs us Q I r h
  obtain ⟨a, i, j, rfl, hs, q⟩ := h
  obtain ⟨its, rv, hl, _⟩ := I.tuple hs
  obtain ⟨as, hr⟩ := Dp.readsAll I _ _ its (dp_two i j) rv
  rw [Vals.ref1 r]
  refine PySem.W.min_tuple_data (I.ok.hd hc) hl (vs := its.toArray) hr (alike_two i j) (by have := depth_two i j; omega) fun k v h' tk bs g1 g2 hk => ?_
  have e : PySem.W.minD (.int i) [.int j] = .int (if j < i then j else i) := by
    have := PySem.W.minD_ints i [j]
    rw [show ([j].map PyData.int) = [PyData.int j] from rfl] at this
    rw [this]
    congr 1
    show min i j = _
    split <;> omega
  rw [e] at g2
  cases g2
  exact ⟨.int _, H, I.kept hk, ⟨_, rfl⟩, q⟩
theorem cr_maxT (hc : X.calm = true) (hu : X.A.units + 65 < cLine) : CallR X (.builtin "max") (rMaxT X.K) := by
  intro pins s σ H vs us Q I r h
  obtain ⟨a, i, j, rfl, hs, q⟩ := h
  obtain ⟨its, rv, hl, _⟩ := I.tuple hs
  obtain ⟨as, hr⟩ := Dp.readsAll I _ _ its (dp_two i j) rv
  rw [Vals.ref1 r]
  refine PySem.W.max_tuple_data (I.ok.hd hc) hl (vs := its.toArray) hr (alike_two i j) (by have := depth_two i j; omega) fun k v h' tk bs g1 g2 hk => ?_
  have e : PySem.W.maxD (.int i) [.int j] = .int (if j > i then j else i) := by
    have := PySem.W.maxD_ints i [j]
    rw [show ([j].map PyData.int) = [PyData.int j] from rfl] at this
    rw [this]
    congr 1
    show max i j = _
    split <;> omega
  rw [e] at g2
  cases g2
  exact ⟨.int _, H, I.kept hk, ⟨_, rfl⟩, q⟩
theorem ej_minT {m1 : Option (Int × Int)} (hc : X.calm = true) (hu : X.A.units + 65 < cLine) (ha : EJ X a ta G m1) (hm : X.mg "min" = none) (hg : Gl X "min" := by rfl) (he : starEach [a] X.env = (false, eval a X.env) :: starEach [] X.env := by rfl) :
    EJ X (.Call (.Name "min" p) [a] [] pos) (tCB (rMinT X.K) (tCons ta tNil)) G (m1.bind fun x => some (if x.2 < x.1 then x.2 else x.1)) :=
  ⟨pe_callB (cr_minT hc hu) hg hm (by decide +kernel) (pa_cons ha.pe pa_nil he) (by decide) (by decide) he rfl, ev_b1 (f := fun x : Int × Int => some (if x.2 < x.1 then x.2 else x.1)) (fun Hi H xs v z Q sm h e k => by
    obtain ⟨q, v1, v2, h1, h2, h3, h4⟩ := h
    cases e
    cases h3; cases h4
    exact ⟨q, xs.1, xs.2, by rw [h1], SqT.of (sm _ _ h2), k _ rfl⟩) ha.ev⟩
theorem ej_maxT {m1 : Option (Int × Int)} (hc : X.calm = true) (hu : X.A.units + 65 < cLine) (ha : EJ X a ta G m1) (hm : X.mg "max" = none) (hg : Gl X "max" := by rfl) (he : starEach [a] X.env = (false, eval a X.env) :: starEach [] X.env := by rfl) :
    EJ X (.Call (.Name "max" p) [a] [] pos) (tCB (rMaxT X.K) (tCons ta tNil)) G (m1.bind fun x => some (if x.2 > x.1 then x.2 else x.1)) :=
  ⟨pe_callB (cr_maxT hc hu) hg hm (by decide +kernel) (pa_cons ha.pe pa_nil he) (by decide) (by decide) he rfl, ev_b1 (f := fun x : Int × Int => some (if x.2 > x.1 then x.2 else x.1)) (fun Hi H xs v z Q sm h e k => by
    obtain ⟨q, v1, v2, h1, h2, h3, h4⟩ := h
    cases e
    cases h3; cases h4
    exact ⟨q, xs.1, xs.2, by rw [h1], SqT.of (sm _ _ h2), k _ rfl⟩) ha.ev⟩
/-! #### remove of a pair -/
def remPC (xs : List (Int × Int)) (y : Int × Int) : Option (List (Int × Int)) := if y ∈ xs then some (xs.erase y) else none
def rRemP (K : PySem.W.Frag) : V → List V → Hp → VK → Prop := fun x xs H Q => ∃ (l : Addr) (us : List V) (ps : List (Int × Int)) (v : V) (y : Int × Int) (j : Nat), x = .ref l ∧ xs = [v] ∧ H l = some (.lst us) ∧ DpAll K H us (ps.map Da.dat) ∧ Dp K H v (Da.dat y) ∧ ps[j]? = some y ∧ (∀ m : Nat, m < j → ps[m]? ≠ some y) ∧ Q .non (upd H l (.lst (us.eraseIdx j)))
theorem plain_pair (y : Int × Int) : (Da.dat y).plain = true := rfl
theorem plain_pairs : ∀ ps : List (Int × Int), PyData.plainAll (ps.map Da.dat) = true
  | [] => rfl
  | y :: ps => by
    show ((Da.dat y).plain && PyData.plainAll (ps.map Da.dat)) = true
    rw [plain_pair, plain_pairs ps]; rfl
theorem place_pair {y : Int × Int} : ∀ {ps : List (Int × Int)} {j : Nat}, ps[j]? = some y → (∀ m : Nat, m < j → ps[m]? ≠ some y) → PySem.SeqAt.dataPlace (ps.map Da.dat) (Da.dat y) = some j := fun {ps j} h1 h2 => by
  unfold PySem.SeqAt.dataPlace
  obtain ⟨hj, e⟩ := List.getElem?_eq_some_iff.mp h1
  rw [List.findIdx?_eq_some_iff_getElem]
  refine ⟨by rw [List.length_map]; exact hj, ?_, fun m hm => ?_⟩
  · rw [List.getElem_map, Da.eqv, e, decide_eq_true rfl]
  · rw [List.getElem_map, Da.eqv]
    have := h2 m hm
    rw [List.getElem?_eq_getElem (by omega)] at this
    have ne : ¬ ps[m] = y := fun z => this (by rw [z])
    rw [decide_eq_false ne]
    exact Bool.false_ne_true
theorem mt_removeP (hu : X.A.units + 65 < cLine) : MtM X "list.remove" (rRemP X.K) := by
  intro pins s σ H x xs v us Q I rx rxs h
  obtain ⟨l, ws, ps, w, y, j, rfl, rfl, hH, hd, hy, hj, hno, q⟩ := h
  cases rx
  obtain ⟨u, rfl, ru⟩ := rxs.one
  obtain ⟨z, its, n, r, hl, e⟩ := I.lstM hH
  obtain ⟨as, hr⟩ := Dp.readsAll I _ _ its hd r
  obtain ⟨bs, rx⟩ := Dp.reads I _ _ u hy ru
  have ds : (Da.dat y).depth ≤ 64 := Nat.le_trans (Da.hd y) (by decide)
  refine PySem.SeqAt.remove_list_data (vs := its.toArray) (j := j) ⟨_, e, rfl, n, rfl⟩ hr rx (plain_pairs ps) (plain_pair y) ?_ (place_pair hj hno) (by rw [List.size_toArray]; omega) ?_
  · have := Nat.min_le_right (PyData.depthAll (ps.map Da.dat)) (Da.dat y).depth
    omega
  · refine ⟨.non, _, I.lset (its' := its.eraseIdx j) (t' := s.toks) hH e ?_ (r.eraseIdx j) ?_, rfl, q⟩
    · show its.toArray.eraseIdxIfInBounds j = (its.eraseIdx j).toArray
      rw [List.eraseIdxIfInBounds_toArray]
    · have := List.length_eraseIdx_le ws j
      omega
theorem erase_atP : ∀ {xs : List (Int × Int)} {y : Int × Int}, y ∈ xs → ∃ j, xs[j]? = some y ∧ (∀ m : Nat, m < j → xs[m]? ≠ some y) ∧ xs.erase y = xs.eraseIdx j
  | x :: xs, y, h => by
    by_cases e : x = y
    · subst e
      exact ⟨0, rfl, fun m hm => absurd hm (Nat.not_lt_zero _), by simp⟩
    · have h' : y ∈ xs := by
        rcases List.mem_cons.mp h with q | q
        · exact absurd q.symm e
        · exact q
      obtain ⟨j, h1, h2, h3⟩ := erase_atP h'
      refine ⟨j + 1, by simpa using h1, fun m hm => ?_, ?_⟩
      · cases m with
        | zero => simp [e]
        | succ m => simpa using h2 m (by omega)
      · rw [List.erase_cons_tail (by simpa using e), h3]; rfl
theorem bj_removeP {xs : List (Int × Int)} {m1 : Option (Int × Int)} {m3 : List (Int × Int) → Option O} (hu : X.A.units + 65 < cLine) (l : Nat) (h : EJ X e t G m1) (hr : ∀ ys, BJ X rest u (G.set l (ol ys)) (m3 ys) P) {p2 : Pos} (hg : G[l]? = some (ol xs) := by rfl)
    (hN : X.N[l]? = some n := by rfl) (hv : Vis X.env.scope n := by first | exact Or.inl rfl | exact Or.inr (Or.inl rfl) | exact Or.inr (Or.inr rfl)) (hd : (n == ("__debug__" : Str)) = false := by decide) (hcd : (n == ("__classdict__" : Str)) = false := by decide)
    (hbase : attributeBase (.Name n p2) "remove" X.env (eval (.Name n p2) X.env) = eval (.Name n p2) X.env := by rfl)
    (hfew : ((backTo cpos (starEach [e] X.env)).all (fun x => !x.1) && (backToKw cpos (keywordEach [] X.env)).all (fun x => x.1.isSome) && decide ([e].length + ([] : List Keyword).length + (if ([] : List Keyword).isEmpty then 0 else 1) < 30)) = true := by rfl)
    (hline : (apos.endLine == cpos.line) = true := by rfl) (hst : starEach [e] X.env = (false, eval e X.env) :: starEach [] X.env := by rfl) (hplain : (backTo cpos (starEach [] X.env)).any (·.1) = false := by rfl) (hsw : swapsWith (.Call (.Attribute (.Name n p2) "remove" apos) [e] [] cpos) none pos.line X.env = pure false := by rfl) :
    BJ X (.Expr (.Call (.Attribute (.Name n p2) "remove" apos) [e] [] cpos) pos :: rest) (tSeq (tDrop (tBM X.K "list" (rRemP X.K) (tVar l) (tCons t tNil))) u) G (m1.bind fun y => (remPC xs y).bind m3) P :=
  bj_meth1 (f := remPC) l PySem.F.slot_list_remove PySem.F.type_list_remove (mt_removeP hu) (fun q Hi H xs y vs v ys Q sm h1 h2 h3 h4 h5 k => by
    unfold remPC at h5
    by_cases hm : y ∈ xs
    · rw [if_pos hm] at h5
      cases h5
      obtain ⟨j, g1, g2, g3⟩ := erase_atP hm
      refine ⟨q, vs, xs, v, y, j, rfl, rfl, h1, da_all (Paired.mono h3 fun _ _ r => Rq.mono sm r), Da.dp (Rq.mono sm h4), g1, g2, ?_⟩
      refine k _ _ ?_ ?_
      · have := List.length_eraseIdx_le vs j
        omega
      · rw [g3]; exact Paired.erase j h3
    · rw [if_neg hm] at h5; cases h5) h hr hg hN hv hd hcd hbase hfew hline hst hplain hsw
end
end GM
namespace GM
open PySem PySem.Spec PyProof.Rows L2
instance {α β γ : Type} [DecidableEq α] [DecidableEq β] [DecidableEq γ] : DecidableEq (Ll3 α β γ) := fun x y =>
  if h : x.a = y.a ∧ x.b = y.b ∧ x.c = y.c then isTrue (by cases x; cases y; obtain ⟨h1, h2, h3⟩ := h; cases h1; cases h2; cases h3; rfl) else isFalse (fun e => h (by rw [e]; exact ⟨rfl, rfl, rfl⟩))
instance {α β γ : Type} [Rq α] [Rq β] [Rq γ] [DecidableEq α] [DecidableEq β] [DecidableEq γ] [Da α] [Da β] [Da γ] : Da (Ll3 α β γ) := ⟨fun x => .list [Da.dat x.a, Da.dat x.b, Da.dat x.c], max (Da.dep α) (max (Da.dep β) (Da.dep γ)) + 1, fun h => by
    obtain ⟨a, v1, v2, v3, h1, h2, h3, h4, h5⟩ := h
    subst h1
    exact .lst (SqL.of h2) (.cons (Da.dp h3) (.cons (Da.dp h4) (.cons (Da.dp h5) .nil))), fun x => by
    show max (PyData.depth (Da.dat x.a)) (max (PyData.depth (Da.dat x.b)) (max (PyData.depth (Da.dat x.c)) 0)) + 1 ≤ _
    have := Da.hd x.a
    have := Da.hd x.b
    have := Da.hd x.c
    omega, fun x => by
    show (PyData.canLay0 (Da.dat x.a) && (PyData.canLay0 (Da.dat x.b) && (PyData.canLay0 (Da.dat x.c) && true))) = true
    rw [Da.lay, Da.lay, Da.lay]; rfl, fun x y => by
    show (PyData.eqv (Da.dat x.a) (Da.dat y.a) && (PyData.eqv (Da.dat x.b) (Da.dat y.b) && (PyData.eqv (Da.dat x.c) (Da.dat y.c) && true))) = _
    rw [Da.eqv, Da.eqv, Da.eqv, Bool.and_true, ← Bool.decide_and, ← Bool.decide_and]
    exact dec_iff ⟨fun h => by cases x; cases y; obtain ⟨h1, h2, h3⟩ := h; cases h1; cases h2; cases h3; rfl, fun h => by rw [h]; exact ⟨rfl, rfl, rfl⟩⟩⟩
/-! ### a name that holds None or a list of our own -/
def oopt {α : Type} [Rq α] (x : Option (List α)) : SV := match x with
  | none => fz (none : Option (List α))
  | some xs => ol xs
section
variable {X : Cx} {e a b c : Expr} {es : List Expr} {t ta tb tc te : TE} {tr : TA} {G : List SV} {α β γ τ ρ O S R : Type} {pos p apos cpos tpos : Pos} {n : Str} {rest : List Stmt} {u ts : TS} {P Px : Post O}
theorem bj_asgNone [Rq α] {m2 : Option O} (hN : X.N.Nodup) (i : Nat) (hr : BJ X rest u (G.set i (oopt (none : Option (List α)))) m2 P) {p1 p2 : Pos} {j}
    (hi : X.N[i]? = some n := by rfl) (hx : Loc X.env.scope n := by first | exact Or.inl rfl | exact Or.inr rfl) (hs : swapsWith (.Constant .none j p1) (some (.Name n p2)) pos.line X.env = pure false := by rfl) (hf : X.fn n = true ∨ X.env.scope.names.lookup n = some .local := by first | exact .inl rfl | exact .inr rfl | assumption) :
    BJ X (.Assign [.Name n p2] (.Constant .none j p1) pos :: rest) (tSeq (tAsg (tC .non) (gName i)) u) G m2 P := ⟨pss_cons (ps_set hN hi hx pe_non hs hf) hr.ps, fun B Hi T tv s H D o hx hl hs k => by
  have s2 : SatG B Hi (oopt (none : Option (List α)) :: (T ++ G)) (some V.non :: (tv ++ s)) H := ⟨⟨V.non, rfl, rfl⟩, hs⟩
  exact hr.ev B Hi T tv _ H D o hx hl (s2.putT hl) k⟩
/-- what our own list is given up to -/
theorem bj_move [Rq α] {xs : List α} {m2 : Option O} (hN : X.N.Nodup) (i j : Nat) (hr : BJ X rest u ((G.set j .un).set i (oopt (some xs))) m2 P) {p1 p2 : Pos} {n' : Str} (hg : G[j]? = some (ol xs) := by rfl)
    (hNj : X.N[j]? = some n' := by rfl) (hv : Vis X.env.scope n' := by first | exact Or.inl rfl | exact Or.inr (Or.inl rfl) | exact Or.inr (Or.inr rfl)) (hd : (n' == ("__debug__" : Str)) = false := by decide) (hcd : (n' == ("__classdict__" : Str)) = false := by decide)
    (hi : X.N[i]? = some n := by rfl) (hx : Loc X.env.scope n := by first | exact Or.inl rfl | exact Or.inr rfl) (hs : swapsWith (.Name n' p1) (some (.Name n p2)) pos.line X.env = pure false := by rfl) (hf : X.fn n = true ∨ X.env.scope.names.lookup n = some .local := by first | exact .inl rfl | exact .inr rfl | assumption) :
    BJ X (.Assign [.Name n p2] (.Name n' p1) pos :: rest) (tSeq (tAsg (tVar j) (gName i)) u) G m2 P := ⟨pss_cons (ps_set hN hi hx (pe_var hNj hv hd hcd) hs hf) hr.ps, fun B Hi T tv s H D o hx hl hs k => by
  obtain ⟨q, w, h1, h2, h3, h6, up⟩ := hs.ownT hl hg
  have z := hs.front (i := T.length + j) (by rw [get_app]; exact hg)
  rw [set_app, ← hl, get_app, h1] at z
  refine ⟨.ref q, h1, ?_⟩
  have z2 : SatG B Hi (oopt (some xs) :: (T ++ G.set j .un)) (some (.ref q) :: (tv ++ s)) H := z
  exact hr.ev B Hi T tv _ H D o hx hl (z2.putT hl) k⟩
theorem ej_opN [Rq α] {x : Option (List α)} {jj} {p' : Pos} (l : Nat) (hg : G[l]? = some (oopt x) := by rfl) (hN : X.N[l]? = some n := by rfl) (hv : Vis X.env.scope n := by first | exact Or.inl rfl | exact Or.inr (Or.inl rfl) | exact Or.inr (Or.inr rfl)) (hd : (n == ("__debug__" : Str)) = false := by decide) (hcd : (n == ("__classdict__" : Str)) = false := by decide) :
    EJ X (.Compare (.Name n p) [.Is] [.Constant .none jj p'] pos) (tIsN (tVar l)) G (some x.isNone) := ⟨pe_cmp (pc_isN (pe_var hN hv hd hcd)) (by rfl), fun B Hi T tv s H Q z hx hl hs k => by
    cases hx
    cases x with
    | none =>
      obtain ⟨v, h1, h2⟩ := hs.getT hl hg
      cases (show v = .non from h2)
      exact ⟨.non, h1, k _ Hi H hs rfl⟩
    | some xs =>
      have hg : G[l]? = some (ol xs) := hg
      obtain ⟨q, w, h1, h2, h3, h6, up⟩ := hs.ownT hl hg
      exact ⟨.ref q, h1, k _ Hi H hs rfl⟩⟩
theorem tj_opN [Rq α] {x : Option (List α)} {jj} {p' : Pos} (l : Nat) (hg : G[l]? = some (oopt x) := by rfl) (hN : X.N[l]? = some n := by rfl) (hv : Vis X.env.scope n := by first | exact Or.inl rfl | exact Or.inr (Or.inl rfl) | exact Or.inr (Or.inr rfl)) (hd : (n == ("__debug__" : Str)) = false := by decide) (hcd : (n == ("__classdict__" : Str)) = false := by decide) :
    TJ X (.Compare (.Name n p) [.Is] [.Constant .none jj p'] pos) (tB (tIsN (tVar l))) G (some x.isNone) := ⟨pt_cmp (pc_isN (pe_var hN hv hd hcd)) (by rfl), tv_b (ej_opN (X := X) (pos := pos) (p := p) (jj := jj) (p' := p') l hg hN hv hd hcd).ev⟩
theorem wj_op [Rq α] {x : Option (List α)} (i : Nat) (hi : G[i]? = some (oopt x)) (hN : X.N[i]? = some n := by rfl) (hv : Vis X.env.scope n := by first | exact Or.inl rfl | exact Or.inr (Or.inl rfl) | exact Or.inr (Or.inr rfl)) (hd : (n == ("__debug__" : Str)) = false := by decide) (hcd : (n == ("__classdict__" : Str)) = false := by decide) : WJ X (.Name n pos) (tVar i) G (unN x) := by
  cases x with
  | none => exact ⟨pe_var hN hv hd hcd, fun B Hi T tv s H Q z hx => by cases hx⟩
  | some xs => exact wj_l (lj_n i hi hN hv hd hcd)
theorem bj_retOp [Rq ρ] {x : Option (List ρ)} {inj : List ρ → O} [Rt P (PO (ρ := ρ)) inj] (i : Nat) (hi : G[i]? = some (oopt x) := by rfl) (hN : X.N[i]? = some n := by rfl) (hv : Vis X.env.scope n := by first | exact Or.inl rfl | exact Or.inr (Or.inl rfl) | exact Or.inr (Or.inr rfl))
    (hd : (n == ("__debug__" : Str)) = false := by decide) (hcd : (n == ("__classdict__" : Str)) = false := by decide) {p2 : Pos} : BJ X (.Return (some (.Name n p2)) pos :: []) (tSeq (tRet (tVar i)) tNext) G ((unN x).bind fun xs => some (inj xs)) P := by
  cases x with
  | none => exact ⟨pss_cons (ps_ret (pe_var hN hv hd hcd)) pss_nil, fun B Hi T tv s H D o hx => by cases hx⟩
  | some xs => exact bj_retV (inj := inj) i hi hN hv hd hcd
end
end GM
namespace GM
open PySem PySem.Spec PyProof.Rows L2
/-! ### zip of three lists -/
def Itz3 (K : PySem.W.Frag) (a b c : Addr) : It :=
  ⟨fun i H => ∃ (xs ys zs : List V) (x y z : V), SqL K H a xs ∧ SqL K H b ys ∧ SqL K H c zs ∧ xs[i]? = some x ∧ ys[i]? = some y ∧ zs[i]? = some z,
    fun i H v H' => ∃ T x y z, v = .ref T ∧ H T = none ∧ H' = upd H T (.tup [x, y, z]) ∧ (∀ xs, SqL K H a xs → xs[i]? = some x) ∧ (∀ ys, SqL K H b ys → ys[i]? = some y) ∧ ∀ zs, SqL K H c zs → zs[i]? = some z,
    fun i H => ∃ xs ys zs : List V, SqL K H a xs ∧ SqL K H b ys ∧ SqL K H c zs ∧ i = min (min xs.length ys.length) zs.length⟩
theorem sep3 {N a b c : Nat} (ha : a < N) (hb : b < N) (hc : c < N) : ZipSep3 (N + 5) (N + 3) (N + 4) N (N + 1) (N + 2) [N, a] [N + 1, b] [N + 2, c] := by
  constructor <;> first | (simp; done) | (intro h; simp at h; revert h; exact Nat.ne_of_gt (by omega)) | (intro h; simp at h; revert h; exact Nat.ne_of_lt (by omega)) | (intro h; simp at h)
theorem turn_zip3 {P : Program} {w : World} {K : PySem.W.Frag} {elts : List Expr} {kk : Nat} {tpos : Pos} {a b c z TI TO i1 i2 i3 : Addr} (D : ZipSep3 z TI TO i1 i2 i3 [i1, a] [i2, b] [i3, c]) (n1 : a ≠ i1) (n2 : b ≠ i2) (n3 : c ≠ i3) :
    Turn P w K (.Tuple elts kk tpos) (Itz3 K a b c) [z, TI, TO, i1, i2, i3] z (fun i h => IsZip h z TI TO .none ∧ IsTupOf3 h TI (.ref i1) (.ref i2) (.ref i3) ∧ (∃ x y u, IsTupOf3 h TO x y u) ∧ h.IsListIter i1 a i ∧ h.IsListIter i2 b i ∧ h.IsListIter i3 c i) where
  mem := by simp
  obj := fun i h st d hd => by
    obtain ⟨hz, hTI, ⟨x, y, u, hTO⟩, ⟨o1, e1, _, d1⟩, ⟨o2, e2, _, d2⟩, ⟨o3, e3, _, d3⟩⟩ := st
    have e' : d = z ∨ d = TI ∨ d = TO ∨ d = i1 ∨ d = i2 ∨ d = i3 := by simpa using hd
    rcases e' with q | q | q | q | q | q
    · rw [q]; exact ⟨_, hz, fun v q => nomatch q⟩
    · rw [q]; exact ⟨_, hTI, fun v q => nomatch q⟩
    · rw [q]; exact ⟨_, hTO, fun v q => nomatch q⟩
    · rw [q]; exact ⟨o1, e1, fun v q => by rw [d1] at q; cases q⟩
    · rw [q]; exact ⟨o2, e2, fun v q => by rw [d2] at q; cases q⟩
    · rw [q]; exact ⟨o3, e3, fun v q => by rw [d3] at q; cases q⟩
  keep := fun i h h' st k => by
    obtain ⟨hz, hTI, ⟨x, y, u, hTO⟩, h1, h2, h3⟩ := st
    exact ⟨k z (by simp) _ hz, k TI (by simp) _ hTI, ⟨x, y, u, k TO (by simp) _ hTO⟩, h1.at fun o q => k i1 (by simp) o q, h2.at fun o q => k i2 (by simp) o q, h3.at fun o q => k i3 (by simp) o q⟩
  item := by
    intro X hP hw hK hc i pins s σ H E I hf st hg
    subst hP hw hK
    obtain ⟨hz, hTI, ⟨x0, y0, u0, hTO⟩, h1, h2, h3⟩ := st
    obtain ⟨xs, ys, zs, x, y, y', hqx, hqy, hqz, hx, hy, hy'⟩ := hg
    obtain ⟨its, rv, p, _⟩ := I.list hqx
    obtain ⟨its2, rv2, p2, _⟩ := I.list hqy
    obtain ⟨its3, rv3, p3, _⟩ := I.list hqz
    obtain ⟨u, hu, ru⟩ := rv.get hx
    obtain ⟨u2, hu2, ru2⟩ := rv2.get hy
    obtain ⟨u3, hu3, ru3⟩ := rv3.get hy'
    have l1 : i < its.length := (List.getElem?_eq_some_iff.mp hu).1
    have l2 : i < its2.length := (List.getElem?_eq_some_iff.mp hu2).1
    have l3 : i < its3.length := (List.getElem?_eq_some_iff.mp hu3).1
    have hzl : z < s.heap.objs.size := Heap.lt_size hz
    have hh : X.A.in1.handled = none := I.ok.hd hc
    have D1 := Draws.list (prog := X.prog) (w := X.w) (A := X.A.in1) hh i1 a n1 its.toArray
    have D2 := Draws.list (prog := X.prog) (w := X.w) (A := X.A.in1) hh i2 b n2 its2.toArray
    have D3 := Draws.list (prog := X.prog) (w := X.w) (A := X.A.in1) hh i3 c n3 its3.toArray
    refine wpAny_pyNext_zipD3_item D D1 D2 D3 hz hTI hTO ⟨h1, p.isList⟩ ⟨h2, p2.isList⟩ ⟨h3, p3.isList⟩ (by simpa using l1) (by simpa using l2) (by simpa using l3) fun x1 x2 x3 h' tk q1 q2 q3 z' TO' st1' st2' st3' hT hsz hk => ?_
    have e1 : x1 = u := by rw [show its.toArray[i]? = some u by simpa using hu] at q1; exact (Option.some.inj q1).symm
    have e2 : x2 = u2 := by rw [show its2.toArray[i]? = some u2 by simpa using hu2] at q2; exact (Option.some.inj q2).symm
    have e3 : x3 = u3 := by rw [show its3.toArray[i]? = some u3 by simpa using hu3] at q3; exact (Option.some.inj q3).symm
    subst e1 e2 e3
    refine ⟨_, rfl, wpAny_letOwnedTupleGo_zip (s := { s with heap := h', toks := tk }) z' fun h'' z'' sb => ?_⟩
    have hT2 : h''.get? s.heap.objs.size = some { cls := .type "tuple", data := .seq #[x1, x2, x3] } := (sb.2 _ (Nat.ne_of_gt hzl)).trans hT
    have new : ObjOk X.prog X.w (upd H s.heap.objs.size (.tup [x, y, y'])) h'' s.heap.objs.size (.tup [x, y, y']) :=
      ⟨by show 3 ≤ sizeLine; decide, [x1, x2, x3], .cons ru (.cons ru2 (.cons ru3 .nil)), ⟨_, hT2, rfl, _, rfl⟩⟩
    have I1 : Inv X pins σ (upd H s.heap.objs.size (.tup [x, y, y'])) { s with heap := h'', toks := tk } :=
      I.turnedNew (t' := tk) (ch := [z, TI, TO, i1, i2, i3]) (fun d o hb q => (sb.2 d (fun q' => hb (by simp [q']))).trans (hk d o (fun q' => hb (by simp [q'])) (fun q' => hb (by simp [q'])) (fun q' => hb (by simp [q'])) (fun q' => hb (by simp [q'])) (fun q' => hb (by simp [q'])) q)) hf (Nat.le_refl _) new
    refine ⟨.ref s.heap.objs.size, _, I1, rfl, ⟨_, x, y, y', rfl, I.hok.fresh (Nat.le_refl _), rfl, fun l hl => by rw [I.list_inj hl hqx]; exact hx, fun l hl => by rw [I.list_inj hl hqy]; exact hy, fun l hl => by rw [I.list_inj hl hqz]; exact hy'⟩, ⟨z'', ?_, ⟨x1, x2, x3, ?_⟩, ?_, ?_, ?_⟩, fun d hdm => ?_⟩
    · exact (sb.2 _ D.TIz).trans (hk _ _ D.TIz D.TITO D.TIi1 D.TIi2 D.TIi3 hTI)
    · exact (sb.2 _ D.TOz).trans TO'
    · exact st1'.1.at fun o q => (sb.2 _ (Ne.symm D.zi1)).trans q
    · exact st2'.1.at fun o q => (sb.2 _ (Ne.symm D.zi2)).trans q
    · exact st3'.1.at fun o q => (sb.2 _ (Ne.symm D.zi3)).trans q
    · have hlt : d < s.heap.objs.size := by
        have e' : d = z ∨ d = TI ∨ d = TO ∨ d = i1 ∨ d = i2 ∨ d = i3 := by simpa using hdm
        rcases e' with q | q | q | q | q | q
        · rw [q]; exact hzl
        · rw [q]; exact Heap.lt_size hTI
        · rw [q]; exact Heap.lt_size hTO
        · rw [q]; obtain ⟨_, e1, _⟩ := h1; exact Heap.lt_size e1
        · rw [q]; obtain ⟨_, e2, _⟩ := h2; exact Heap.lt_size e2
        · rw [q]; obtain ⟨_, e3, _⟩ := h3; exact Heap.lt_size e3
      rw [upd_ne (Nat.ne_of_lt hlt)]
      exact (hf d hdm).1
  done := by
    intro X hP hw hK hc i pins s σ H E I hf st hg
    subst hP hw hK
    obtain ⟨hz, hTI, ⟨x0, y0, u0, hTO⟩, h1, h2, h3⟩ := st
    obtain ⟨xs, ys, zs, hqx, hqy, hqz, hend⟩ := hg
    obtain ⟨its, rv, p, _⟩ := I.list hqx
    obtain ⟨its2, rv2, p2, _⟩ := I.list hqy
    obtain ⟨its3, rv3, p3, _⟩ := I.list hqz
    have l1 := rv.length
    have l2 := rv2.length
    have l3 := rv3.length
    have hh : X.A.in1.handled = none := I.ok.hd hc
    have D1 := Draws.list (prog := X.prog) (w := X.w) (A := X.A.in1) hh i1 a n1 its.toArray
    have D2 := Draws.list (prog := X.prog) (w := X.w) (A := X.A.in1) hh i2 b n2 its2.toArray
    have D3 := Draws.list (prog := X.prog) (w := X.w) (A := X.A.in1) hh i3 c n3 its3.toArray
    exact wpAny_pyNext_zipD3_end D D1 D2 D3 hz hTI hTO ⟨h1, p.isList⟩ ⟨h2, p2.isList⟩ ⟨h3, p3.isList⟩ (by rw [List.size_toArray]; omega) (by rw [List.size_toArray]; omega) (by rw [List.size_toArray]; omega) (by rw [List.size_toArray, List.size_toArray, List.size_toArray]; omega) fun h' tk hk => ⟨rfl, I.turnedL (t' := tk) (ch := [z, TI, TO, i1, i2, i3]) (fun d o hb q =>
      hk d o (fun q' => hb (by simp [q'])) (fun q' => hb (by simp [q'])) (fun q' => hb (by simp [q'])) (fun q' => hb (by simp [q'])) (fun q' => hb (by simp [q'])) q) hf⟩
  self := fun A i s Q E st h => wpAny_pyIter_zip st.1 h
def iZip3 (K : PySem.W.Frag) (ta : TA) : TI := fun σ H R => ta σ H fun vs H1 => ∃ a b c xs ys zs, vs = [.ref a, .ref b, .ref c] ∧ SqL K H1 a xs ∧ SqL K H1 b ys ∧ SqL K H1 c zs ∧ R (Itz3 K a b c) H1
theorem pi_zip3 {X : Cx} {e e2 e3 : Expr} {ta : TA} {p pos tpos : Pos} {elts : List Expr} {kk : Nat} (hg : Gl X "zip") (hm : X.mg "zip" = none) (ha : PA X [e, e2, e3] ta)
    (hs : starEach [e, e2, e3] X.env = (false, eval e X.env) :: starEach [e2, e3] X.env := by rfl) (hpl : (backTo pos (starEach [e2, e3] X.env)).any (·.1) = false := by rfl) :
    PI X (.Tuple elts kk tpos) (.Call (.Name "zip" p) [e, e2, e3] [] pos) (iZip3 X.K ta) := by
  refine ⟨fun pins s σ H R I h => ?_⟩
  refine Call_ (ld_blt I hg hm PyProof.Rows.boot_zip (PyProof.Rows.callWith_type1 (thn (ha.run pos pins s σ H _ I h) fun us s1 ⟨vs, H1, I1, r1, q1⟩ => ?_) hs hpl))
  obtain ⟨a, b, c, xs, ys, zs, ex, hqx, hqy, hqz, q⟩ := q1
  subst ex
  cases r1 with
  | cons r rr =>
    cases rr with
    | cons r' rr =>
      cases rr with
      | cons r'' rr =>
        cases rr
        cases r
        cases r'
        cases r''
        obtain ⟨its, rv, p1, _⟩ := I1.list hqx
        obtain ⟨its2, rv2, p2, _⟩ := I1.list hqy
        obtain ⟨its3, rv3, p3, _⟩ := I1.list hqz
        have la : a < s1.heap.objs.size := p1.lt
        have lb : b < s1.heap.objs.size := p2.lt
        have lc : c < s1.heap.objs.size := p3.lt
        refine zip_begins3 (begins_list a its.toArray) (begins_list b its2.toArray) (begins_list c its3.toArray) p1.isList p2.isList p3.isList fun h' hz hTI hTO h1 h2 h3 hsz hk => wpAny_pyIter_zip hz ?_
        have I2 : Inv X pins σ H1 { s1 with heap := h' } := I1.kept (t' := s1.toks) hk
        refine ⟨s1.heap.objs.size + 5, [s1.heap.objs.size + 5, s1.heap.objs.size + 3, s1.heap.objs.size + 4, s1.heap.objs.size, s1.heap.objs.size + 1, s1.heap.objs.size + 2], _, _, H1, rfl, I2, turn_zip3 (sep3 la lb lc) (Nat.ne_of_lt la) (by show b ≠ s1.heap.objs.size + 1; exact Nat.ne_of_lt (Nat.lt_succ_of_lt lb)) (by show c ≠ s1.heap.objs.size + 2; exact Nat.ne_of_lt (Nat.lt_of_lt_of_le lc (Nat.le_add_right _ 2))), ⟨hz, hTI, ⟨_, _, _, hTO⟩, ⟨_, h1, rfl, rfl⟩, ⟨_, h2, rfl, rfl⟩, ⟨_, h3, rfl, rfl⟩⟩, fun d hdm => ?_, q⟩
        have e' : d = s1.heap.objs.size + 5 ∨ d = s1.heap.objs.size + 3 ∨ d = s1.heap.objs.size + 4 ∨ d = s1.heap.objs.size ∨ d = s1.heap.objs.size + 1 ∨ d = s1.heap.objs.size + 2 := by simpa using hdm
        have hle : s1.heap.objs.size ≤ d := by
          rcases e' with z | z | z | z | z | z
          · rw [z]; exact Nat.le_add_right _ _
          · rw [z]; exact Nat.le_add_right _ _
          · rw [z]; exact Nat.le_add_right _ _
          · rw [z]; exact Nat.le_refl _
          · rw [z]; exact Nat.le_add_right _ _
          · rw [z]; exact Nat.le_add_right _ _
        exact I1.fpOk hle (I1.hok.fresh hle)
section
variable {X : Cx} {e : Expr} {t : TE} {G : List SV} {α β γ : Type} {pos : Pos}
def zip3 : List α → List β → List γ → List (T3 α β γ)
  | x :: xs, y :: ys, z :: zs => ⟨x, y, z⟩ :: zip3 xs ys zs
  | _, _, _ => []
theorem zip3_len : ∀ (xs : List α) (ys : List β) (zs : List γ), (zip3 xs ys zs).length = min (min xs.length ys.length) zs.length
  | [], _, _ => by simp [zip3]
  | _ :: _, [], _ => by simp [zip3]
  | _ :: _, _ :: _, [] => by simp [zip3]
  | x :: xs, y :: ys, z :: zs => by
    show (zip3 xs ys zs).length + 1 = _
    rw [zip3_len xs ys zs, List.length_cons, List.length_cons, List.length_cons]
    omega
theorem zip3_get : ∀ {xs : List α} {ys : List β} {zs : List γ} {i : Nat} {u : T3 α β γ}, (zip3 xs ys zs)[i]? = some u → xs[i]? = some u.a ∧ ys[i]? = some u.b ∧ zs[i]? = some u.c
  | [], _, _, i, u, h => by simp [zip3] at h
  | _ :: _, [], _, i, u, h => by simp [zip3] at h
  | _ :: _, _ :: _, [], i, u, h => by simp [zip3] at h
  | x :: xs, y :: ys, z :: zs, 0, u, h => by
    have h : some (⟨x, y, z⟩ : T3 α β γ) = some u := h
    cases h
    exact ⟨rfl, rfl, rfl⟩
  | x :: xs, y :: ys, z :: zs, i + 1, u, h => zip3_get (xs := xs) (ys := ys) (zs := zs) (i := i) h
theorem sat_t3 {B : Bk} {Hi H : Hp} {L : List SV} {s : L2.St} {q : Addr} {x y u : V} [Rq α] [Rq β] [Rq γ] {z : T3 α β γ} (h : SatG B Hi L s H) (hq : H q = none) (h1 : rq Hi z.a x) (h2 : rq Hi z.b y) (h3 : rq Hi z.c u) : ∃ Hi3, SatG B Hi3 L s (upd H q (.tup [x, y, u])) ∧ rq Hi3 z (.ref q) := by
  obtain ⟨s2, sm⟩ := sat_tup (vs := [x, y, u]) h hq
  exact ⟨_, s2, q, x, y, u, rfl, upd_same, Rq.mono sm h1, Rq.mono sm h2, Rq.mono sm h3⟩
theorem ij_zip3 [Rq α] [Rq β] [Rq γ] {C C' C''} {m1 : Option (List α)} {m2 : Option (List β)} {m3 : Option (List γ)} {p1 tpos : Pos} {elts : List Expr} {kk : Nat} {e2 e3 : Expr} {t2 t3 : TE} (h : RJ C X e t G m1) (h' : RJ C' X e2 t2 G m2) (h'' : RJ C'' X e3 t3 G m3) (hm : X.mg "zip" = none) (hg : Gl X "zip" := by rfl) (na : starEach [e, e2, e3] X.env = (false, eval e X.env) :: starEach [e2, e3] X.env := by rfl) (nb : starEach [e2, e3] X.env = (false, eval e2 X.env) :: starEach [e3] X.env := by rfl) (nc : starEach [e3] X.env = (false, eval e3 X.env) :: starEach [] X.env := by rfl)
    (hpl : (backTo pos (starEach [e2, e3] X.env)).any (·.1) = false := by rfl) :
    IJ (fun G2 s s2 => C G2 s s2 ∧ C' G2 s s2 ∧ C'' G2 s s2) X (.Tuple elts kk tpos) (.Call (.Name "zip" p1) [e, e2, e3] [] pos) (iZip3 X.K (tCons t (tCons t2 (tCons t3 tNil)))) G (m1.bind fun x => m2.bind fun y => m3.bind fun z => some (zip3 x y z)) := ⟨pi_zip3 hg hm (pa_cons h.pe (pa_cons h'.pe (pa_cons h''.pe pa_nil nc) nb) na) na hpl, fun B Hi T tv s H R zs hx hl hs k => by
  obtain ⟨xs, e1, hx⟩ := bind_some hx
  obtain ⟨ys, e2, hx⟩ := bind_some hx
  obtain ⟨us, e3, hx⟩ := bind_some hx
  cases hx
  refine h.ev B Hi T tv s H _ xs e1 hl hs fun a T' tv' Hi1 H1 l1 s1 hz hT hw hq => ?_
  refine h'.ev B Hi1 T' tv' s H1 _ ys e2 l1 s1 fun b T'' tv'' Hi2 H2 l2 s2 hz2 hT2 hw2 hq2 => ?_
  refine h''.ev B Hi2 T'' tv'' s H2 _ us e3 l2 s2 fun c T3 tv3 Hi3 H3 l3 s3 hz3 hT3 hw3 hq3 => ?_
  obtain ⟨ws3, gq3, pr3⟩ := hw3 G s Hi3 H3 (h''.c s) s3
  obtain ⟨ws2, gq2, pr2⟩ := hw2 G s Hi3 H3 (h'.c s) (hT3 _ _ _ _ s3)
  obtain ⟨ws, gq, pr⟩ := hw G s Hi3 H3 (h.c s) (hT2 _ _ _ _ (hT3 _ _ _ _ s3))
  refine ⟨a, b, c, ws, ws2, ws3, rfl, gq, gq2, gq3, k _ T3 tv3 Hi3 H3 l3 s3 (by rw [zip3_len]; omega) (fun G2 s2 Hi2 H2 z => hT _ _ _ _ (hT2 _ _ _ _ (hT3 _ _ _ _ z))) fun F fv G4 s4 Hi4 H4 lf c' z => ?_⟩
  obtain ⟨ws3, gq3, pr3⟩ := hw3 G4 s4 Hi4 H4 c'.2.2 (z.dropF lf)
  obtain ⟨ws2, gq2, pr2⟩ := hw2 G4 s4 Hi4 H4 c'.2.1 (hT3 _ _ _ _ (z.dropF lf))
  obtain ⟨ws, gq, pr⟩ := hw G4 s4 Hi4 H4 c'.1 (hT2 _ _ _ _ (hT3 _ _ _ _ (z.dropF lf)))
  refine ⟨⟨ws, ws2, ws3, gq, gq2, gq3, by rw [zip3_len, Paired.length pr, Paired.length pr2, Paired.length pr3]⟩, fun i x hi => ?_⟩
  obtain ⟨f1, f2, f3⟩ := zip3_get hi
  obtain ⟨u, hu, ru⟩ := Paired.get pr f1
  obtain ⟨u2, hu2, ru2⟩ := Paired.get pr2 f2
  obtain ⟨u3, hu3, ru3⟩ := Paired.get pr3 f3
  refine ⟨⟨ws, ws2, ws3, u, u2, u3, gq, gq2, gq3, hu, hu2, hu3⟩, fun v H5 y => ?_⟩
  obtain ⟨q, v1, v2, v3, y1, y2, y3, y4, y5, y6⟩ := y
  have e4 := y4 ws gq
  rw [hu] at e4
  cases e4
  have e5 := y5 ws2 gq2
  rw [hu2] at e5
  cases e5
  have e6 := y6 ws3 gq3
  rw [hu3] at e6
  cases e6
  subst y1 y3
  exact sat_t3 z y2 ru ru2 ru3, fun s => ⟨h.c s, h'.c s, h''.c s⟩⟩
end
end GM
namespace GM
open PySem PySem.Spec PyProof.Rows L2
/-! ### a for over a dict of our own: it is locked meanwhile, and what is handed back from within unlocks it -/
/-- handed back from within the walk over the dict at q -/
def PRk {α ρ : Type} [Rq α] [Rq ρ] (q : Addr) (o : Obj) (kvs : List (L2.Key × V)) (d : Dc α) : Post ρ := fun r B _ _ D => ∀ v Hi H', SatG B Hi [odk q o kvs d] [some (.ref q)] H' → rq Hi r v → D.rt v H'
instance {α ρ : Type} [Rq α] [Rq ρ] {q : Addr} {o : Obj} {kvs : List (L2.Key × V)} {d : Dc α} : RtOnly (PRk (ρ := ρ) q o kvs d) := ⟨fun r B T T' tv tv' D D' e h v Hi H' q1 q2 => by rw [e]; exact h v Hi H' q1 q2⟩
instance {α ρ : Type} [Rq α] [Rq ρ] {q : Addr} {o : Obj} {kvs : List (L2.Key × V)} {d : Dc α} : Out (PRk (ρ := ρ) q o kvs d) (PRk q o kvs d) := ⟨fun _ _ _ _ _ _ h => h⟩
theorem call_lenFz {X : Cx} : CallR X (.builtin "len") (fun xs H Q => ∃ a o kvs, xs = [V.ref a] ∧ H a = some (.frz o (.dK kvs)) ∧ Q (.int kvs.length) H) := by
  intro pins s σ H xs us Q I r h
  obtain ⟨a, o, kvs, rfl, ha, q⟩ := h
  obtain ⟨u, rfl, ru⟩ := vals1 r
  cases ru
  exact d_len I (.inr ⟨o, ha⟩) fun t s' I' => ⟨.int kvs.length, H, I', ⟨t, rfl⟩, q⟩
section
variable {X : Cx} {e a b c : Expr} {es : List Expr} {t ta tb tc te : TE} {tr : TA} {G : List SV} {α β γ τ ρ O S R : Type} {pos p apos cpos tpos : Pos} {n : Str} {rest : List Stmt} {u ts : TS} {P Px : Post O} {tg iter : Expr} {w : TI} {g : TG}
theorem bj_retK [Rq α] [Rq ρ] {q : Addr} {o : Obj} {kvs : List (L2.Key × V)} {d : Dc α} {inj : ρ → O} [Rt P (PRk (ρ := ρ) q o kvs d) inj] (j : Nat) (hj : G[j]? = some (odk q o kvs d)) {m : Option ρ} (h : EJ X e t G m) :
    BJ X (.Return (some e) pos :: []) (tSeq (tRet t) tNext) G (m.bind fun r => some (inj r)) P := ⟨pss_cons (ps_ret h.pe) pss_nil, fun B Hi T tv s H D z hx hl hs k => by
  obtain ⟨r, e1, e2⟩ := bind_some hx
  cases e2
  refine h.ev B Hi T tv s H _ r e1 hl hs fun v Hi' H' s' rr => ?_
  obtain ⟨h1, _⟩ := SatG.odkT hl s' hj
  have y := s'.front (i := T.length + j) (by rw [get_app]; exact hj)
  rw [set_app, ← hl, get_app, h1] at y
  exact Rt.rt (P := P) (Pr := PRk (ρ := ρ) q o kvs d) (inj := inj) r B T tv D k v Hi' H' y.bare1 rr⟩
/-- for .. in a dict of our own, j its place -/
theorem bj_forFK {tB : TS} {body : List Stmt} [Rq α] [Rq β] [Rq R] {d : Dc α} {f : β → List SV → List SV} {ids : List Nat} {N : Addr → Obj → List (L2.Key × V) → S → List SV} {xs : List β} {mb : β → S → Option (Fl S R)} {mr : S → Option O} {inj : R → O} [Rt P (PR (ρ := R)) inj] (j : Nat) (hj : G[j]? = some (odc d)) (hc : X.calm = true) (s0 : S) (x0 : β)
    (hi : ∀ q o kvs, IJ (fun G2 _ _ => G2[j]? = some (odk q o kvs d)) X tg iter w (G.set j (odk q o kvs d)) (some xs)) (hC : ∀ q o kvs st, (N q o kvs st)[j]? = some (odk q o kvs d)) (hg : GJ X tg g f ids) (w0 : ∀ q o kvs, Wk (G.set j (odk q o kvs d)) (N q o kvs s0))
    (hb : ∀ q o kvs x st, BJ X body tB (f x (N q o kvs st)) (mb x st) (PL (N q o kvs) (PRk q o kvs d))) (hr : ∀ q o kvs st, BJ X rest u ((N q o kvs st).set j (odc d)) (mr st) P)
    (hp : PassesOwn (model X.prog X.w) X.A X.env X.xe) (hs : ∀ x, foldedSetIterable iter X.env x = pure x := by intro _; rfl) :
    BJ X (.For tg iter body [] pos :: rest) (tSeq (tLock (tFor w g tB)) u) G ((forF xs s0 mb).bind (flR mr inj)) P :=
  ⟨pss_cons (ps_lock (ps_for hp hc (hi 0 { cls := .none, data := .fields #[] } []).pi hg.pg (hb 0 { cls := .none, data := .fields #[] } [] x0 s0).ps hs)) (hr 0 { cls := .none, data := .fields #[] } [] s0).ps, fun B Hi T tv s H D z hx hl hs k => by
    obtain ⟨fr, e2, e3⟩ := bind_some hx
    obtain ⟨q, kvs, k1, k2⟩ := hs.lockT hl hj
    refine ⟨q, .dK kvs, k1, trivial, fun o => ?_⟩
    refine (hi q o kvs).ev B Hi T tv s _ _ xs rfl hl (k2 o) fun J T' tv' Hi1 H1 l1 s1 hz hT hwalk => ?_
    refine ⟨fun i m σ H2 => m = xs.length - i ∧ i ≤ xs.length ∧ ∃ Hi2 st, SatG B Hi2 (T' ++ N q o kvs st) (tv' ++ σ) H2 ∧ forF (xs.drop i) st mb = some fr, ⟨xs.length, by simp, Nat.zero_le _, Hi1, s0, s1.wkT l1 (w0 q o kvs), by simpa using e2⟩, ?_⟩
    rintro i m σ H2 ⟨rfl, hi2, Hi2, st, s2, e4⟩
    obtain ⟨stp, go⟩ := hwalk [] [] (N q o kvs st) σ Hi2 H2 rfl (hC q o kvs st) s2
    have after : ∀ {Hi3 H3 : Hp} {σ3 : L2.St} {st3 : S}, SatG B Hi3 (T' ++ N q o kvs st3) (tv' ++ σ3) H3 → mr st3 = some z → H3 q = some (.frz o (.dK kvs)) ∧ u D σ3 (upd H3 q (.dK kvs)) := fun {Hi3 H3 σ3 st3} y eq => by
      obtain ⟨g1, g2⟩ := SatG.unlockT hl (hT _ _ _ _ y) (hC q o kvs st3)
      exact ⟨g1, (hr q o kvs st3).ev B Hi3 T tv σ3 _ D z eq hl g2 k⟩
    by_cases hlt : i < xs.length
    · refine .inr ?_
      have hxi : xs[i]? = some xs[i] := by simp [hlt]
      obtain ⟨go1, go2⟩ := go i xs[i] hxi
      have hdr : xs.drop i = xs[i] :: xs.drop (i + 1) := by rw [List.drop_eq_getElem_cons hlt]
      rw [hdr] at e4
      obtain ⟨r, e5, e6⟩ := bind_some e4
      refine ⟨go1, fun σ3 H3 => ∃ Hi3 st3, SatG B Hi3 (T' ++ N q o kvs st3) (tv' ++ σ3) H3 ∧ forF (xs.drop (i + 1)) st3 mb = some fr, fun σ3 H3 ⟨Hi3, st3, q1, q2⟩ => ⟨xs.length - (i + 1), by omega, rfl, hlt, Hi3, st3, q1, q2⟩, fun v H3 hy => ?_⟩
      obtain ⟨Hi3, s3, r3⟩ := go2 v H3 hy
      refine hg.ev B Hi3 T' tv' σ H3 (N q o kvs st) v xs[i] _ l1 s3 r3 fun s' s4 _ => ?_
      refine (hb q o kvs xs[i] st).ev B Hi3 T' tv' s' H3 _ r e5 l1 s4 ?_
      cases r with
      | go st3 => exact fun s5 Hi5 H5 q => ⟨⟨Hi5, st3, q, e6⟩, ⟨Hi5, st3, q, e6⟩⟩
      | stop st3 =>
        cases e6
        exact fun s5 Hi5 H5 q => after q e3
      | ret rr =>
        cases e6
        cases e3
        intro v5 Hi5 H5 y1 y2
        obtain ⟨g1, g2⟩ := SatG.unlockT (T := []) (tv := []) (L := [odk q o kvs d]) (i := 0) rfl y1 rfl
        exact ⟨g1, Rt.rt (P := P) (Pr := PR (ρ := R)) (inj := inj) rr B T tv D k v5 Hi5 _ (SatG.bare g2) y2⟩
    · have e : i = xs.length := by omega
      subst e
      rw [List.drop_length] at e4
      cases e4
      exact .inl ⟨stp, after s2 e3⟩⟩
/-- k in d, d locked -/
theorem ij_keysK [Rq α] {d : Dc α} {q : Addr} {o : Obj} {kvs : List (L2.Key × V)} (j : Nat) (hi : G[j]? = some (odk q o kvs d)) (hN : X.N[j]? = some n := by rfl) (hv : Vis X.env.scope n := by first | exact Or.inl rfl | exact Or.inr (Or.inl rfl) | exact Or.inr (Or.inr rfl))
    (hd : (n == ("__debug__" : Str)) = false := by decide) (hcd : (n == ("__classdict__" : Str)) = false := by decide) :
    IJ (fun G2 _ _ => G2[j]? = some (odk q o kvs d)) X tg (.Name n p) (iKeys (tVar j)) G (some (dkeys d)) := ⟨pi_keys (pe_var hN hv hd hcd), fun B Hi T tv s H R xs hx hl hs k => by
  cases hx
  obtain ⟨h1, h2, h3, h4⟩ := hs.odkT hl hi
  have lk : (dkeys d).length = kvs.length := by unfold dkeys; rw [List.length_map, Paired.length h4]
  refine ⟨.ref q, h1, q, o, rfl, .inl ⟨kvs, h2, k _ T tv Hi H hl hs (by rw [lk]; exact h3) (fun G2 s2 Hi2 H2 z => z) fun F fv G2 s2 Hi2 H2 lf c z => ?_⟩⟩
  obtain ⟨g1, g2, g3, g4⟩ := SatG.odkT hl (SatG.dropF lf z) c
  refine ⟨⟨g2, by rw [lk]; exact Nat.le_refl _⟩, fun i x hx => ?_⟩
  unfold dkeys at hx
  rw [List.getElem?_map] at hx
  cases hy : d.l[i]? with
  | none => rw [hy] at hx; cases hx
  | some y =>
    rw [hy] at hx
    cases hx
    obtain ⟨y', hy', r1, r2⟩ := Paired.get g4 hy
    refine ⟨⟨g2, (List.getElem?_eq_some_iff.mp hy').1⟩, fun v H3 yy => ?_⟩
    obtain ⟨y1, k', v', y2, y3⟩ := yy
    subst y1 y3
    rw [hy'] at y2
    cases y2
    have r1 : k' = .inl y.1 := r1
    exact ⟨Hi2, z, by rw [r1]; rfl⟩, fun _ => hi⟩
/-- v in d.values(), d locked -/
theorem ij_valsK [Rq α] {d : Dc α} {q : Addr} {o : Obj} {kvs : List (L2.Key × V)} (j : Nat) (hi : G[j]? = some (odk q o kvs d)) (hN : X.N[j]? = some n := by rfl) (hv : Vis X.env.scope n := by first | exact Or.inl rfl | exact Or.inr (Or.inl rfl) | exact Or.inr (Or.inr rfl))
    (hd : (n == ("__debug__" : Str)) = false := by decide) (hcd : (n == ("__classdict__" : Str)) = false := by decide) (hbase : attributeBase (.Name n p) "values" X.env (eval (.Name n p) X.env) = eval (.Name n p) X.env := by rfl) (hline : (apos.endLine == cpos.line) = true := by rfl) :
    IJ (fun G2 _ _ => G2[j]? = some (odk q o kvs d)) X tg (.Call (.Attribute (.Name n p) "values" apos) [] [] cpos) (iVals (tVar j)) G (some (dvals d)) := ⟨pi_values (pe_var hN hv hd hcd) hbase hline, fun B Hi T tv s H R xs hx hl hs k => by
  cases hx
  obtain ⟨h1, h2, h3, h4⟩ := hs.odkT hl hi
  have lk : (dvals d).length = kvs.length := by unfold dvals; rw [List.length_map, Paired.length h4]
  refine ⟨.ref q, h1, q, o, kvs, rfl, h2, k _ T tv Hi H hl hs (by rw [lk]; exact h3) (fun G2 s2 Hi2 H2 z => z) fun F fv G2 s2 Hi2 H2 lf c z => ?_⟩
  obtain ⟨g1, g2, g3, g4⟩ := SatG.odkT hl (SatG.dropF lf z) c
  refine ⟨⟨g2, by rw [lk]; exact Nat.le_refl _⟩, fun i x hx => ?_⟩
  unfold dvals at hx
  rw [List.getElem?_map] at hx
  cases hy : d.l[i]? with
  | none => rw [hy] at hx; cases hx
  | some y =>
    rw [hy] at hx
    cases hx
    obtain ⟨y', hy', r1, r2⟩ := Paired.get g4 hy
    refine ⟨⟨g2, (List.getElem?_eq_some_iff.mp hy').1⟩, fun v H3 yy => ?_⟩
    obtain ⟨y1, k', y2⟩ := yy
    subst y1
    rw [hy'] at y2
    cases y2
    exact ⟨Hi2, z, r2⟩, fun _ => hi⟩
/-- len(d), d locked -/
theorem ej_dlenK [Rq α] {d : Dc α} {q : Addr} {o : Obj} {kvs : List (L2.Key × V)} {p2 : Pos} (j : Nat) (hi : G[j]? = some (odk q o kvs d)) (hm : X.mg "len" = none) (hN : X.N[j]? = some n := by rfl) (hv : Vis X.env.scope n := by first | exact Or.inl rfl | exact Or.inr (Or.inl rfl) | exact Or.inr (Or.inr rfl))
    (hd : (n == ("__debug__" : Str)) = false := by decide) (hcd : (n == ("__classdict__" : Str)) = false := by decide) (hg : Gl X "len" := by rfl) (he : starEach [.Name n p2] X.env = (false, eval (.Name n p2) X.env) :: starEach [] X.env := by rfl) :
    EJ X (.Call (.Name "len" p) [.Name n p2] [] pos) (tCB (fun xs H Q => ∃ a o kvs, xs = [V.ref a] ∧ H a = some (.frz o (.dK kvs)) ∧ Q (.int kvs.length) H) (tCons (tVar j) tNil)) G (some (dsz d)) :=
  ⟨pe_callB call_lenFz hg hm PySem.boot_len (pa_cons (pe_var hN hv hd hcd) pa_nil he) (by decide) (by decide) he rfl, fun B Hi T tv s H Q z hx hl hs k => by
    cases hx
    obtain ⟨h1, h2, h3, h4⟩ := hs.odkT hl hi
    exact ⟨.ref q, h1, q, o, kvs, rfl, h2, k _ Hi H hs (by unfold dsz; rw [Paired.length h4]; rfl)⟩⟩
end
/-! ### list(d.keys()), list(d.values()) -/
def rVKs (f : L2.Key × V → V) : V → Hp → VK → Prop := fun x H Q => ∃ p kvs, x = .ref p ∧ H p = some (.dK kvs) ∧ ∀ q, H q = none → Q (.ref q) (upd H q (.lst (kvs.map f)))
def tVKs (f : L2.Key × V → V) (te : TE) : TE := fun σ H Q => te σ H fun x H1 => rVKs f x H1 Q
section
variable {X : Cx} {e : Expr} {te : TE} {p apos cpos pos : Pos} {G : List SV} {α : Type}
theorem pe_listVals (hc : X.calm = true) (he : PE X e te) (hg : Gl X "list") (hm : X.mg "list" = none) (hv : bootBuiltins "list" = some (.type "list")) (hbase : attributeBase e "values" X.env (eval e X.env) = eval e X.env := by rfl) (hline : (apos.endLine == cpos.line) = true := by rfl)
    (hs : starEach [.Call (.Attribute e "values" apos) [] [] cpos] X.env = (false, eval (.Call (.Attribute e "values" apos) [] [] cpos) X.env) :: starEach [] X.env := by rfl) :
    PE X (.Call (.Name "list" p) [.Call (.Attribute e "values" apos) [] [] cpos] [] pos) (tVKs (·.2) te) := by
  refine ⟨fun pins s σ H Q I hq => ?_⟩
  refine wpAny_Call_Name_kw (ld_blt I hg hm hv ?_)
  refine PyProof.Rows.callWith_type1 ?_ hs rfl
  rw [hs]
  show wpAny _ _ (spliced ((false, eval (.Call (.Attribute e "values" apos) [] [] cpos) X.env) :: backTo pos (starEach [] X.env))) _ _ s
  refine Calls.spliced_cons ?_
  refine wpAny_Call_method (T := "dict") (id := "dict.values") hbase rfl hline F.plainAttrs_dict F.slot_dict_values F.type_dict_values (thn (he.run pins s σ H _ I hq) fun u s1 ⟨x, H1, I1, rx, d, kvs, ex, hd, q⟩ => ?_)
  subst ex
  obtain rfl : u = Value.ref d := rx
  obtain ⟨hz, hs0, vs, kv, hdo⟩ := I1.hok d _ hd
  obtain ⟨ep, hat⟩ := hdo.dictAt
  have lk : kvs.length = vs.length := Paired.length kv
  have I2 : Inv X pins σ H1 { s1 with heap := s1.heap.push { cls := .type "dict_values", data := .fields #[.ref d] } } := I1.kept (t' := s1.toks) fun b ob q => Heap.get?_push_of_some _ q
  refine ⟨hdo.typeIs, hdo.mapOf.noDict, ?_⟩
  show wpAny _ _ (callWith cpos (.builtin "dict.values") [.ref d] [] []) _ X.xe s1
  refine method_meetsIn F.slot_dict_values F.entry_dict_values rfl (PySem.evalArgs_none ⟨rfl, hdo.typeIs, F.args_dict_values_1 _, _, meets_dict_values (mixKind X.prog X.w) d hs0, ⟨vs, hdo⟩, ?_⟩)
  refine Calls.spliced_nil ?_
  refine PySem.W.kdl_call (PySem.W.kdl_values (knd := mixKind X.prog X.w) (kvs := vs) (ep := ep)) (I1.ok.hd hc) ⟨⟨_, Heap.get?_push_size _ rfl, rfl, rfl⟩, hat.push _⟩ (by rw [← lk]; exact hz) fun h' tk acc' c' hkeep hS hacc => ?_
  refine ⟨.ref _, upd H1 _ (.lst (kvs.map (·.2))), I2.laid hkeep (Nat.le_refl _) (show ObjOk X.prog X.w _ _ _ (.lst (kvs.map (·.2))) from ⟨?_, acc'.toList, c', ?_, ?_⟩), rfl, q _ (I2.hok.fresh (Nat.le_refl _))⟩
  · rw [List.length_map]; exact hz
  · have el : acc'.toList.length = acc'.size := by simp
    refine vals_of_at (by rw [List.length_map, el, hacc.1, lk]) fun j x w h1 h2 => ?_
    obtain ⟨k, hky⟩ := hacc.2 j w (by rw [← Array.getElem?_toList]; exact h2)
    rw [List.getElem?_map] at h1
    cases hz2 : kvs[j]? with
    | none => rw [hz2] at h1; cases h1
    | some y =>
      rw [hz2] at h1
      cases h1
      obtain ⟨y', e1, e2, e3⟩ := Paired.get kv hz2
      rw [hky] at e1
      cases e1
      exact e3
  · rw [Array.toArray_toList]; exact hS
theorem pe_listKeys (hc : X.calm = true) (he : PE X e te) (hg : Gl X "list") (hm : X.mg "list" = none) (hv : bootBuiltins "list" = some (.type "list")) (hbase : attributeBase e "keys" X.env (eval e X.env) = eval e X.env := by rfl) (hline : (apos.endLine == cpos.line) = true := by rfl)
    (hs : starEach [.Call (.Attribute e "keys" apos) [] [] cpos] X.env = (false, eval (.Call (.Attribute e "keys" apos) [] [] cpos) X.env) :: starEach [] X.env := by rfl) :
    PE X (.Call (.Name "list" p) [.Call (.Attribute e "keys" apos) [] [] cpos] [] pos) (tVKs (fun kv => kV kv.1) te) := by
  refine ⟨fun pins s σ H Q I hq => ?_⟩
  refine wpAny_Call_Name_kw (ld_blt I hg hm hv ?_)
  refine PyProof.Rows.callWith_type1 ?_ hs rfl
  rw [hs]
  show wpAny _ _ (spliced ((false, eval (.Call (.Attribute e "keys" apos) [] [] cpos) X.env) :: backTo pos (starEach [] X.env))) _ _ s
  refine Calls.spliced_cons ?_
  refine wpAny_Call_method (T := "dict") (id := "dict.keys") hbase rfl hline F.plainAttrs_dict F.slot_dict_keys F.type_dict_keys (thn (he.run pins s σ H _ I hq) fun u s1 ⟨x, H1, I1, rx, d, kvs, ex, hd, q⟩ => ?_)
  subst ex
  obtain rfl : u = Value.ref d := rx
  obtain ⟨hz, hs0, vs, rk, hdo⟩ := I1.hok d _ hd
  obtain ⟨ep, hat⟩ := hdo.dictAt
  have hl : kvs.length = vs.length := Paired.length rk
  have I2 : Inv X pins σ H1 { s1 with heap := s1.heap.push { cls := .type "dict_keys", data := .fields #[.ref d] } } := I1.kept (t' := s1.toks) fun b ob q => Heap.get?_push_of_some _ q
  refine ⟨hdo.typeIs, hdo.mapOf.noDict, ?_⟩
  show wpAny _ _ (callWith cpos (.builtin "dict.keys") [.ref d] [] []) _ X.xe s1
  refine method_meetsIn F.slot_dict_keys F.entry_dict_keys rfl (PySem.evalArgs_none ⟨rfl, hdo.typeIs, F.args_dict_keys_1 _, _, PySem.W.kdl_meets_keys (mixKind X.prog X.w) d hs0, ⟨vs, hdo⟩, ?_⟩)
  refine Calls.spliced_nil ?_
  refine PySem.W.kdl_call (PySem.W.kdl_keys (knd := mixKind X.prog X.w) (kvs := vs) (ep := ep)) (I1.ok.hd hc) ⟨⟨_, Heap.get?_push_size _ rfl, rfl, rfl⟩, hat.push _⟩ (by rw [← hl]; exact hz) fun h' tk acc' c' hkeep hS hacc => ?_
  refine ⟨.ref _, upd H1 _ (.lst (kvs.map fun kv => kV kv.1)), I2.laid hkeep (Nat.le_refl _) (show ObjOk X.prog X.w _ _ _ (.lst (kvs.map fun kv => kV kv.1)) from ⟨?_, acc'.toList, c', ?_, ?_⟩), rfl, q _ (I2.hok.fresh (Nat.le_refl _))⟩
  · rw [List.length_map]; exact hz
  · have el : acc'.toList.length = acc'.size := by simp
    refine vals_of_at (by rw [List.length_map, el, hacc.1, hl]) fun j x w h1 h2 => ?_
    obtain ⟨k, y, hky, hi⟩ := hacc.2 j w (by rw [← Array.getElem?_toList]; exact h2)
    have e1 : (kvs.map (·.1))[j]? = some k := by
      rw [KV.keys rk, List.getElem?_map, hky] <;> rfl
    have e2 : (kvs.map fun kv => kV kv.1)[j]? = some (kV k) := by
      have e3 : (kvs.map fun kv => kV kv.1) = (kvs.map (·.1)).map kV := by rw [List.map_map] <;> rfl
      rw [e3, List.getElem?_map, e1] <;> rfl
    rw [e2] at h1
    cases h1
    exact keyIs_rel hi
  · rw [Array.toArray_toList]; exact hS
theorem prD_keys [Rq α] {H : Hp} : ∀ {d : List (Int × α)} {kvs : List (L2.Key × V)}, Paired (prD H) d kvs → Paired (rq H) (d.map (·.1)) (kvs.map fun kv => kV kv.1)
  | _, _, .nil => .nil
  | p :: d, q :: kvs, .cons r t => .cons (by show rq H p.1 (kV q.1); rw [r.1]; rfl) (prD_keys t)
theorem prD_vals [Rq α] {H : Hp} : ∀ {d : List (Int × α)} {kvs : List (L2.Key × V)}, Paired (prD H) d kvs → Paired (rq H) (d.map (·.2)) (kvs.map (·.2))
  | _, _, .nil => .nil
  | p :: d, q :: kvs, .cons r t => .cons r.2 (prD_vals t)
/-- list(d.values()) -/
theorem oj_listVals [Rq α] {m : Option (Dc α)} (hc : X.calm = true) (he : DJ X e te G m) (hm : X.mg "list" = none) (hg : Gl X "list" := by rfl) (hv : bootBuiltins "list" = some (.type "list") := by decide +kernel) (hbase : attributeBase e "values" X.env (eval e X.env) = eval e X.env := by rfl) (hline : (apos.endLine == cpos.line) = true := by rfl)
    (hs : starEach [.Call (.Attribute e "values" apos) [] [] cpos] X.env = (false, eval (.Call (.Attribute e "values" apos) [] [] cpos) X.env) :: starEach [] X.env := by rfl) :
    OJ X (.Call (.Name "list" p) [.Call (.Attribute e "values" apos) [] [] cpos] [] pos) (tVKs (·.2) te) G (m.bind fun d => some (dvals d)) := ⟨pe_listVals hc he.pe hg hm hv hbase hline hs, fun B Hi T tv s H Q z hx hl hs k => by
    obtain ⟨d, e1, e2⟩ := bind_some hx
    cases e2
    refine he.ev B Hi T tv s H _ d e1 hl hs fun v T' tv' Hi1 H1 l1 s1 r1 => ?_
    obtain ⟨s2, a, kvs, h1, h2, h3, h4⟩ := r1 Hi1 H1 s1
    exact ⟨a, kvs, h1, h2, fun q hq => k q Hi1 _ (s2.newO hq ⟨_, rfl, by rw [List.length_map]; exact h3, prD_vals h4⟩)⟩⟩
/-- list(d.keys()) -/
theorem oj_listKeys [Rq α] {m : Option (Dc α)} (hc : X.calm = true) (he : DJ X e te G m) (hm : X.mg "list" = none) (hg : Gl X "list" := by rfl) (hv : bootBuiltins "list" = some (.type "list") := by decide +kernel) (hbase : attributeBase e "keys" X.env (eval e X.env) = eval e X.env := by rfl) (hline : (apos.endLine == cpos.line) = true := by rfl)
    (hs : starEach [.Call (.Attribute e "keys" apos) [] [] cpos] X.env = (false, eval (.Call (.Attribute e "keys" apos) [] [] cpos) X.env) :: starEach [] X.env := by rfl) :
    OJ X (.Call (.Name "list" p) [.Call (.Attribute e "keys" apos) [] [] cpos] [] pos) (tVKs (fun kv => kV kv.1) te) G (m.bind fun d => some (dkeys d)) := ⟨pe_listKeys hc he.pe hg hm hv hbase hline hs, fun B Hi T tv s H Q z hx hl hs k => by
    obtain ⟨d, e1, e2⟩ := bind_some hx
    cases e2
    refine he.ev B Hi T tv s H _ d e1 hl hs fun v T' tv' Hi1 H1 l1 s1 r1 => ?_
    obtain ⟨s2, a, kvs, h1, h2, h3, h4⟩ := r1 Hi1 H1 s1
    exact ⟨a, kvs, h1, h2, fun q hq => k q Hi1 _ (s2.newO hq ⟨_, rfl, by rw [List.length_map]; exact h3, prD_keys h4⟩)⟩⟩
end
section
variable {X : Cx} {a : Expr} {ta : TE} {G : List SV} {α : Type} {p pos : Pos}
/-- isinstance of something or None -/
theorem ej_isiO [Rp α] [TyN α] {m1 : Option (Option α)} {tn : Str} {cn : String} (ha : WJ X a ta G m1) (hk : kitB (TyN.n α) cn = some true) (hk0 : kitB (TyN.n Unit) cn = some false) (hv : bootBuiltins tn = some (.type cn)) (hm : X.mg "isinstance" = none) (hmt : X.mg tn = none) (hg : Gl X "isinstance" := by rfl) (hgt : Gl X tn := by rfl)
    (hn : tn ≠ "__name__" := by decide) (hdb : (tn == ("__debug__" : Str)) = false := by decide) {p2 : Pos}
    (he : starEach [a, .Name tn p2] X.env = (false, eval a X.env) :: starEach [.Name tn p2] X.env := by rfl) (he2 : starEach [.Name tn p2] X.env = (false, eval (.Name tn p2) X.env) :: starEach [] X.env := by rfl) (hpl : (backTo pos (starEach [.Name tn p2] X.env)).any (·.1) = false := by rfl) :
    EJ X (.Call (.Name "isinstance" p) [a, .Name tn p2] [] pos) (tCB (rIsi X.K) (tCons ta (tCons (tC (.ty cn)) tNil))) G (m1.bind fun x => some x.isSome) :=
  ⟨pe_callB call_isi hg hm (by decide +kernel) (pa_cons ha.pe (pa_cons (pe_bltn (v := .ty cn) hgt hmt hv rfl hn hdb) pa_nil he2) he) (by decide) (by decide) he hpl, fun B Hi T tv s H Q z hx hl hs k => by
    obtain ⟨x, e1, e2⟩ := bind_some hx
    cases e2
    refine ha.ev B Hi T tv s H _ x e1 hl hs fun v T' tv' Hi1 H1 l1 s1 r1 => ?_
    obtain ⟨s3, r3⟩ := r1 Hi1 H1 s1
    cases x with
    | none => exact ⟨v, .ty cn, .type (TyN.n Unit), .type cn, false, rfl, .ty cn, TyN.ty (α := Unit) (x := ()) (H := H1) r3, kit_ty hk0, k _ Hi1 H1 s3 rfl⟩
    | some y => exact ⟨v, .ty cn, .type (TyN.n α), .type cn, true, rfl, .ty cn, TyN.ty (α := α) (x := y) (Rq.mono (wide_sub s3.sub) r3), kit_ty hk, k _ Hi1 H1 s3 rfl⟩⟩
end
end GM
namespace GM
open PySem PySem.Spec PyProof.Rows L2
/-! ### instances of own classes -/
/-- what a field holds: φ while it is ours, with its part; ψ when it is let go -/
structure FV where
  φ : Hp → V → Hp → Prop
  m : ∀ H H' v F, Same H H' → φ H v F → φ H' v F
  ψ : Hp → V → Prop
  mψ : ∀ H H' v, Same H H' → ψ H v → ψ H' v
  th : ∀ H v F, (∀ a u, F a = some u → H a = none) → φ H v F → ψ (plus H F) v
theorem plus_nil {H F : Hp} (h : ∀ a, F a = none) : plus H F = H := by
  funext a
  rw [plus_none (h a)]
def fF {α : Type} [Rq α] (x : α) : FV := ⟨fun H v F => rq H x v ∧ ∀ a, F a = none, fun _ _ _ _ e h => ⟨Rq.mono e h.1, h.2⟩, fun H v => rq H x v, fun _ _ _ e h => Rq.mono e h, fun H v F n h => by rw [plus_nil h.2]; exact h.1⟩
def fO {α : Type} [Rq α] (d : OT α) [Th d] (x : α) : FV := ⟨fun H v F => ∃ p, v = .ref p ∧ d.φ H x p F, fun _ _ _ _ e ⟨p, h1, h2⟩ => ⟨p, h1, d.m _ _ _ _ _ e h2⟩, fun H v => rq H x v, fun _ _ _ e h => Rq.mono e h, fun H v F n ⟨p, h1, h2⟩ => by rw [h1]; exact Th.th n h2⟩
def NoLF (f : FV) : Prop := ∀ {H H' : Hp} {v : V} {F : Hp}, (∀ a xs, H a = some (.tup xs) → H' a = some (.tup xs)) → f.φ H v F → f.φ H' v F
theorem nolf_F {α : Type} [Rq α] [NoL α] {x : α} : NoLF (fF x) := fun e h => ⟨NoL.tr e h.1, h.2⟩
theorem nolf_O {α : Type} [Rq α] {d : OT α} [Th d] [NoLD d] {x : α} : NoLF (fO d x) := fun e ⟨p, h1, h2⟩ => ⟨p, h1, NoLD.tr e h2⟩
def FldsO (H : Hp) : List (Str × FV) → List (Str × V) → Hp → Prop
  | [], [], F => ∀ a, F a = none
  | n :: L, v :: fs, F => n.1 = v.1 ∧ ∃ F1, Same F1 F ∧ n.2.φ H v.2 F1 ∧ FldsO H L fs (minus F F1)
  | [], _ :: _, _ => False
  | _ :: _, [], _ => False
def FldsR (H : Hp) : List (Str × FV) → List (Str × V) → Prop
  | [], [] => True
  | n :: L, v :: fs => n.1 = v.1 ∧ n.2.ψ H v.2 ∧ FldsR H L fs
  | [], _ :: _ => False
  | _ :: _, [] => False
def NoLFs : List (Str × FV) → Prop
  | [] => True
  | p :: L => NoLF p.2 ∧ NoLFs L
section
variable {H H' : Hp}
theorem FldsO.mono (e : Same H H') : ∀ {L : List (Str × FV)} {fs : List (Str × V)} {F : Hp}, FldsO H L fs F → FldsO H' L fs F
  | [], [], _, h => h
  | n :: L, v :: fs, F, ⟨h1, F1, h2, h3, k⟩ => ⟨h1, F1, h2, n.2.m _ _ _ _ e h3, FldsO.mono e k⟩
theorem FldsR.mono (e : Same H H') : ∀ {L : List (Str × FV)} {fs : List (Str × V)}, FldsR H L fs → FldsR H' L fs
  | [], [], h => h
  | n :: L, v :: fs, ⟨h1, h2, k⟩ => ⟨h1, n.2.mψ _ _ _ e h2, FldsR.mono e k⟩
theorem FldsO.tr (e : ∀ a xs, H a = some (.tup xs) → H' a = some (.tup xs)) : ∀ {L : List (Str × FV)} {fs : List (Str × V)} {F : Hp}, NoLFs L → FldsO H L fs F → FldsO H' L fs F
  | [], [], _, _, h => h
  | n :: L, v :: fs, F, ⟨q, qs⟩, ⟨h1, F1, h2, h3, k⟩ => ⟨h1, F1, h2, q e h3, FldsO.tr e qs k⟩
theorem FldsO.len : ∀ {L : List (Str × FV)} {fs : List (Str × V)} {F : Hp}, FldsO H L fs F → fs.length = L.length
  | [], [], _, _ => rfl
  | n :: L, v :: fs, F, ⟨_, F1, _, _, k⟩ => by rw [List.length_cons, List.length_cons, FldsO.len k]
theorem FldsO.no {f : Str} : ∀ {L : List (Str × FV)} {fs : List (Str × V)} {F : Hp}, FldsO H L fs F → L.lookup f = none → ∀ v, putF f v fs = fs ++ [(f, v)]
  | [], [], _, _, _, _ => rfl
  | n :: L, w :: fs, F, ⟨h1, F1, _, _, k⟩, hl, v => by
    rw [List.lookup_cons] at hl
    cases q : f == n.1 with
    | true => rw [q] at hl; cases hl
    | false =>
      rw [q] at hl
      have ne : ¬ w.1 = f := fun z => by
        rw [h1, z, beq_self_eq_true] at q
        cases q
      show (if w.1 = f then _ else _) = _
      rw [if_neg ne, FldsO.no k hl v]; rfl
theorem FldsO.snoc {n : Str × FV} {v : V} {F1 : Hp} : ∀ {L : List (Str × FV)} {fs : List (Str × V)} {F : Hp}, FldsO H L fs (minus F F1) → Same F1 F → n.2.φ H v F1 → FldsO H (L ++ [n]) (fs ++ [(n.1, v)]) F
  | [], [], F, h, sf, hx => ⟨rfl, F1, sf, hx, h⟩
  | m :: L, w :: fs, F, ⟨h0, G1, h2, h3, k⟩, sf, hx => by
    refine ⟨h0, G1, h2.trans minus_sub, h3, FldsO.snoc (F := minus F G1) ?_ (fun a u e => ?_) hx⟩
    · rw [minus_comm]; exact k
    · cases z : G1 a with
      | none => rw [minus_none z]; exact sf _ _ e
      | some w => have := h2 _ _ z; rw [minus_some e] at this; cases this
theorem FldsO.thaw {H : Hp} : ∀ {L : List (Str × FV)} {fs : List (Str × V)} {F F0 : Hp}, FldsO H L fs F → Same F F0 → (∀ a u, F0 a = some u → H a = none) → FldsR (plus H F0) L fs
  | [], [], _, _, _, _, _ => trivial
  | n :: L, v :: fs, F, F0, ⟨h1, F1, h2, h3, k⟩, sf, nn => ⟨h1, n.2.mψ _ _ _ (same_plus2 nn (h2.trans sf)) (n.2.th _ _ _ (fun a u e => nn a u (sf _ _ (h2 _ _ e))) h3), FldsO.thaw k (minus_sub.trans sf) nn⟩
theorem FldsR.get {f : Str} {y : FV} : ∀ {L : List (Str × FV)} {fs : List (Str × V)}, FldsR H L fs → L.lookup f = some y → ∃ v, fs.lookup f = some v ∧ y.ψ H v
  | [], [], _, hl => by cases hl
  | n :: L, w :: fs, ⟨h1, h2, k⟩, hl => by
    rw [List.lookup_cons] at hl ⊢
    rw [← h1]
    cases q : f == n.1 with
    | true => rw [q] at hl; cases hl; exact ⟨w.2, rfl, h2⟩
    | false => rw [q] at hl; exact FldsR.get k hl
theorem FldsR.none_ {f : Str} : ∀ {L : List (Str × FV)} {fs : List (Str × V)}, FldsR H L fs → L.lookup f = none → fs.lookup f = none
  | [], [], _, _ => rfl
  | n :: L, w :: fs, ⟨h1, h2, k⟩, hl => by
    rw [List.lookup_cons] at hl ⊢
    rw [← h1]
    cases q : f == n.1 with
    | true => rw [q] at hl; cases hl
    | false => rw [q] at hl; exact FldsR.none_ k hl
end
/-- an instance that stands still -/
def repIns (C : Addr) (L : List (Str × FV)) (H : Hp) (v : V) : Prop := ∃ a dx fs, v = .ref a ∧ H a = some (.ins C dx fs) ∧ FldsR H L fs
theorem repIns.mono {C : Addr} {L : List (Str × FV)} {H H' : Hp} {v : V} (e : Same H H') (h : repIns C L H v) : repIns C L H' v := by
  obtain ⟨a, dx, fs, h1, h2, h3⟩ := h
  exact ⟨a, dx, fs, h1, e _ _ h2, h3.mono e⟩
/-- our own instance -/
def oIns {α : Type} (C : Addr) (L : α → List (Str × FV)) : OT α := ⟨fun H x p F => ∃ dx fs, F p = some (.ins C dx fs) ∧ FldsO H (L x) fs (del F p), fun _ _ _ _ _ e ⟨dx, fs, h1, h2⟩ => ⟨dx, fs, h1, h2.mono e⟩⟩
/-- self, while __init__ fills it -/
def oself (C a : Addr) (L : List (Str × FV)) : SV := .ow (fun H p F => p = a ∧ ∃ dx fs, F p = some (.ins C dx fs) ∧ FldsO H L fs (del F p)) (fun _ _ _ _ e ⟨h0, dx, fs, h1, h2⟩ => ⟨h0, dx, fs, h1, h2.mono e⟩)
theorem oIns_th {α : Type} {C : Addr} {L : α → List (Str × FV)} {H : Hp} {x : α} {p : Addr} {F : Hp} (n : ∀ a u, F a = some u → H a = none) (h : (oIns C L).φ H x p F) : repIns C (L x) (plus H F) (.ref p) := by
  obtain ⟨dx, fs, h1, h2⟩ := h
  exact ⟨p, dx, fs, rfl, plus_some h1, h2.thaw del_sub n⟩
theorem oIns_tr {α : Type} {C : Addr} {L : α → List (Str × FV)} (q : ∀ x, NoLFs (L x)) : NoLD (oIns C L) := ⟨fun e ⟨dx, fs, h1, h2⟩ => ⟨dx, fs, h1, h2.tr e (q _)⟩⟩
/-- a method as it is called -/
structure Met (X : Cx) (C : Addr) (m : Str) (sp : Sp) : Prop where
  ok : ∃ (k : Nat) (f : Addr) (fd : FuncData) (ps : List Str), FnOk X.prog X.w X.K X.mg X.base CX0 k f fd ps sp ∧ Room k X.A ∧ Meth X.K C m f ∧ Binds X.K fd ps []
structure CalM (P : Program) (w : World) (K : PySem.W.Frag) (mg : Str → Option Value) (base : Heap) (k : Nat) (C : Addr) (m : Str) (sp : Sp) : Prop where
  ok : ∃ (f : Addr) (fd : FuncData) (ps : List Str), FnOk P w K mg base CX0 k f fd ps sp ∧ Meth K C m f ∧ Binds K fd ps []
theorem CalM.at {X : Cx} {k : Nat} {C : Addr} {m : Str} {sp : Sp} (M : CalM X.prog X.w X.K X.mg X.base k C m sp) (hr : Room k X.A) : Met X C m sp := by
  obtain ⟨f, fd, ps, h1, h2, h3⟩ := M.ok
  exact ⟨k, f, fd, ps, h1, hr, h2, h3⟩
/-- __init__ as C(..) calls it -/
structure MakX (X : Cx) (C : Addr) (sp : Sp) : Prop where
  ok : ∃ (k : Nat) (f : Addr) (fd : FuncData) (ps : List Str), FnOk X.prog X.w X.K X.mg X.base CX0 k f fd ps sp ∧ Room (k + 1) X.A ∧ Mk X.K C f ∧ Binds X.K fd ps []
structure CalN (P : Program) (w : World) (K : PySem.W.Frag) (mg : Str → Option Value) (base : Heap) (k : Nat) (C : Addr) (sp : Sp) : Prop where
  ok : ∃ (f : Addr) (fd : FuncData) (ps : List Str), FnOk P w K mg base CX0 k f fd ps sp ∧ Mk K C f ∧ Binds K fd ps []
theorem CalN.at {X : Cx} {k : Nat} {C : Addr} {sp : Sp} (M : CalN X.prog X.w X.K X.mg X.base k C sp) (hr : Room (k + 1) X.A) : MakX X C sp := by
  obtain ⟨f, fd, ps, h1, h2, h3⟩ := M.ok
  exact ⟨k, f, fd, ps, h1, hr, h2, h3⟩
/-- the promise of __init__ -/
def SpN {τ ρ : Type} [RpL τ] (C : Addr) (L : ρ → List (Str × FV)) (F : τ → Option ρ) : Sp := fun vs H Q _ => ∃ (a dx : Addr) (us : List V) (Ha : Hp) (x : τ) (r : ρ), vs = .ref a :: us ∧ H a = some (.ins C dx []) ∧ Same Ha (del H a) ∧ RpL.reps Ha x us ∧ F x = some r ∧
  ∀ Fp H', Same (del H a) (minus H' Fp) → Same Fp H' → (oIns C L).φ (join Ha (del H a) (minus H' Fp)) r a Fp → Q .non H'
/-- the end of __init__ -/
def PIni {ρ : Type} (C a : Addr) (L : ρ → List (Str × FV)) : Post ρ := fun r B _ _ D => (∀ Hi H', SatG B Hi [oself C a (L r)] [some (.ref a)] H' → D.rt .non H') ∧ ∀ s Hi H', SatG B Hi [oself C a (L r)] [some (.ref a)] H' → D.nx s H'
section
variable {P : Program} {w : World} {K : PySem.W.Frag} {mg : Str → Option Value} {base : Heap} {x qual : Str} {st : Stmt} {f C : Addr} {fd : FuncData} {N ps : List Str} {k : Nat} {τ ρ : Type}
theorem fun_Rm [RpL τ] [Rq ρ] {F : τ → Option ρ} (Fn : Fun K x qual st f fd) (S : FnScope N ps (defScope st)) (hn : RpL.n τ = ps.length)
    (body : ∀ (cdv : Value) (A : Around) (outer : List Env) (s : Shared) (H : Hp) (E : XK), Room k (A.deeper (envOfC qual (defScope st) s.heap.objs.size f cdv)) →
      ∀ z : τ, ∃ t m, BJ (cxOf CX0 P w K mg base N qual (defScope st) f cdv A outer s H E).nox (defBody st) t (gam N z) m PR ∧ m = F z)
    (hm : Meth K C x f) (hb : Binds K fd ps []) : CalM P w K mg base (k + 1) C x (SpR F) := by
  refine ⟨f, fd, ps, Fn.ok S (fun vs H Q E h => ?_) (fun cdv A outer s H vs Q E hr h => ?_), hm, hb⟩
  · obtain ⟨Ha, z, r, h1, h2, _⟩ := h
    rw [RpL.len h2, hn]
  · obtain ⟨Ha, z, r, h1, h2, h3, h4⟩ := h
    obtain ⟨t, m, b, e⟩ := body cdv A outer s H E hr z
    subst e
    refine ⟨t, b.ps, b.ev ⟨H, Ha⟩ Ha [] [] (start N vs) H _ r h3 rfl (sat_start h1 h2) fun v Hi H' q1 q2 => ?_⟩
    obtain ⟨g1, g2, g3, g4⟩ := q1
    refine h4 v H' g2 (Rq.mono (fun a o e => ?_) q2)
    cases q : H a with
    | none => rw [join_none q]; exact g1 _ _ e
    | some u => rw [join_some q]; exact (g4 _ _ q).symm.trans e
theorem fun_Om [RpL τ] [Rq ρ] {F : τ → Option (List ρ)} (Fn : Fun K x qual st f fd) (S : FnScope N ps (defScope st)) (hn : RpL.n τ = ps.length)
    (body : ∀ (cdv : Value) (A : Around) (outer : List Env) (s : Shared) (H : Hp) (E : XK), Room k (A.deeper (envOfC qual (defScope st) s.heap.objs.size f cdv)) →
      ∀ z : τ, ∃ t m, BJ (cxOf CX0 P w K mg base N qual (defScope st) f cdv A outer s H E).nox (defBody st) t (gam N z) m PO ∧ m = F z)
    (hm : Meth K C x f) (hb : Binds K fd ps []) : CalM P w K mg base (k + 1) C x (SpO F) := by
  refine ⟨f, fd, ps, Fn.ok S (fun vs H Q E h => ?_) (fun cdv A outer s H vs Q E hr h => ?_), hm, hb⟩
  · obtain ⟨Ha, z, r, h1, h2, _⟩ := h
    rw [RpL.len h2, hn]
  · obtain ⟨Ha, z, r, h1, h2, h3, h4⟩ := h
    obtain ⟨t, m, b, e⟩ := body cdv A outer s H E hr z
    subst e
    refine ⟨t, b.ps, b.ev ⟨H, Ha⟩ Ha [] [] (start N vs) H _ r h3 rfl (sat_start h1 h2) fun p Hi H' q1 => ?_⟩
    obtain ⟨p', F', e1, e2, ⟨_, rfl, us, rfl, e4, e5⟩, g1, g2, g3, g4⟩ := q1
    cases e1
    have e2 := e2 _ _ one_same
    rw [minus_one] at g1 g2
    have g2' : Same H (del H' p) := g2
    have hp : H p = none := same_none g2' del_same
    refine h4 p us H' (g2'.trans del_sub) hp e2 e4 (Paired.mono e5 fun _ _ => Rq.mono fun a o e => ?_)
    have ne : a ≠ p := fun z => by have := g1 _ _ e; rw [z, del_same] at this; cases this
    rw [del_ne ne]
    cases q : H a with
    | none => rw [join_none q]; exact del_sub _ _ (g1 _ _ e)
    | some u => rw [join_some q]; exact (g4 _ _ q).symm.trans e
/-- __init__ -/
theorem fun_N [RpL τ] {L : ρ → List (Str × FV)} {F : τ → Option ρ} (Fn : Fun K x qual st f fd) (S : FnScope N ps (defScope st)) (hn : RpL.n τ + 1 = ps.length)
    (body : ∀ (cdv : Value) (A : Around) (outer : List Env) (s : Shared) (H : Hp) (E : XK), Room k (A.deeper (envOfC qual (defScope st) s.heap.objs.size f cdv)) →
      ∀ (a : Addr) (z : τ), ∃ t m, BJ (cxOf CX0 P w K mg base N qual (defScope st) f cdv A outer s H E).nox (defBody st) t (oself C a [] :: (RpL.svs z ++ List.replicate (N.length - (RpL.n τ + 1)) .un)) m (PIni C a L) ∧ m = F z)
    (hm : Mk K C f) (hb : Binds K fd ps []) : CalN P w K mg base (k + 1) C (SpN C L F) := by
  refine ⟨f, fd, ps, Fn.ok S (fun vs H Q E h => ?_) (fun cdv A outer s H vs Q E hr h => ?_), hm, hb⟩
  · obtain ⟨a, dx, us, Ha, z, r, rfl, h1, h2, h3, _⟩ := h
    rw [List.length_cons, RpL.len h3, hn]
  · obtain ⟨a, dx, us, Ha, z, r, rfl, h1, h2, h3, h4, h5⟩ := h
    obtain ⟨t, m, b, e⟩ := body cdv A outer s H E hr a z
    subst e
    have s0 : SatG ⟨del H a, Ha⟩ Ha (RpL.svs z ++ List.replicate (N.length - (RpL.n τ + 1)) .un) (us.map some ++ List.replicate (N.length - (RpL.n τ + 1)) none) (del H a) := RpL.sat h3 (sat_uns ⟨h2, Same.refl _, Same.refl Ha, fun _ _ _ => rfl⟩ _)
    have s1 : SatG ⟨del H a, Ha⟩ Ha (oself C a [] :: (RpL.svs z ++ List.replicate (N.length - (RpL.n τ + 1)) .un)) (some (.ref a) :: (us.map some ++ List.replicate (N.length - (RpL.n τ + 1)) none)) H :=
      ⟨a, one a (.ins C dx []), rfl, same_one h1, ⟨rfl, dx, [], one_same, fun b => by
        cases q : one a (HO.ins C dx []) b with
        | none => unfold del; split <;> first | rfl | exact q
        | some o => obtain ⟨rfl, _⟩ := one_is q; exact del_same⟩, by rw [minus_one]; exact s0⟩
    have st0 : start N (.ref a :: us) = some (.ref a) :: (us.map some ++ List.replicate (N.length - (RpL.n τ + 1)) none) := by
      unfold L2.start
      rw [List.map_cons, List.cons_append, List.length_cons, RpL.len h3]
    rw [← st0] at s1
    have fin : ∀ Hi H', SatG ⟨del H a, Ha⟩ Hi [oself C a (L r)] [some (.ref a)] H' → Q .non H' := fun Hi H' q1 => by
      obtain ⟨p', F', e1, sf, hz0, g1, g2, g3, g4⟩ := q1
      cases e1
      refine h5 F' H' g2 sf ((oIns C L).m _ _ _ _ _ (fun b o e => ?_) hz0.2)
      cases q : del H a b with
      | none => rw [join_none q]; exact g1 _ _ e
      | some u => rw [join_some q]; exact (g4 _ _ q).symm.trans e
    exact ⟨t, b.ps, b.ev ⟨del H a, Ha⟩ Ha [] [] (start N (.ref a :: us)) H _ r h4 rfl s1 ⟨fin, fun s Hi H' q1 => fin Hi H' q1⟩⟩
end
section
variable {X : Cx} {e o a b c : Expr} {es : List Expr} {t to ta tb tc te : TE} {tr : TA} {G : List SV} {α β γ τ ρ O S R : Type} {pos p apos cpos : Pos} {n f mm : Str} {rest : List Stmt} {u ts : TS} {P Px : Post O} {C : Addr}
/-- o.f -/
theorem ej_fldI [Rq α] [Rq β] {L : α → List (Str × FV)} {g : α → β} (hα : ∀ {H x v}, rq H x v → repIns C (L x) H v) (hf : ∀ x, (L x).lookup f = some (fF (g x)) ∨ ∃ (d : OT β) (_ : Th d), (L x).lookup f = some (fO d (g x))) (hc : Cls X.K C) (hn : NoAttr X.K C f) {m : Option α} (he : EJ X e t G m)
    (hb : attributeBase e f X.env (eval e X.env) = eval e X.env := by rfl) : EJ X (.Attribute e f pos) (tFld X.K t f) G (m.bind fun x => some (g x)) := ⟨pe_fld he.pe hb, fun B Hi T tv s H Q z hx hl hs k => by
    obtain ⟨x, e1, e2⟩ := bind_some hx
    cases e2
    refine he.ev B Hi T tv s H _ x e1 hl hs fun v Hi1 H1 s1 r1 => ?_
    obtain ⟨q, dx, fs, h1, h2, h3⟩ := hα r1
    rcases hf x with h | ⟨d, td, h⟩
    · obtain ⟨w, g1, g2⟩ := h3.get h
      exact ⟨q, C, dx, fs, w, h1, s1.sub _ _ h2, hc, hn, g1, k w Hi1 H1 s1 g2⟩
    · obtain ⟨w, g1, g2⟩ := h3.get h
      exact ⟨q, C, dx, fs, w, h1, s1.sub _ _ h2, hc, hn, g1, k w Hi1 H1 s1 g2⟩⟩
/-- o.m(e, ..) -/
theorem ej_meth [Rq α] [RpL τ] [Rq ρ] {L : α → List (Str × FV)} {F : α × τ → Option ρ} {m1 : Option α} {m2 : Option τ} {pl : Sem Bool} (hα : ∀ {H x v}, rq H x v → repIns C (L x) H v) (hl : ∀ x, (L x).lookup mm = none) (hc : Cls X.K C) (M : Met X C mm (SpR F)) (ho : EJ X o to G m1) (ha : AJ X (e :: es) tr G m2)
    (hst : starEach (e :: es) X.env = (false, eval e X.env) :: starEach es X.env := by rfl) (hpl : (backTo pos (starEach es X.env)).any (·.1) = false := by rfl)
    (ht : eval (.Call (.Attribute o mm apos) (e :: es) [] pos) X.env = (do
      let ov ← eval o X.env
      standAt apos.atName
      let (f, first) ← holding [ov] (getMethod ov mm pl)
      callWith pos f first (backTo pos (starEach (e :: es) X.env)) (backToKw pos (keywordEach [] X.env))) := by rfl) :
    EJ X (.Call (.Attribute o mm apos) (e :: es) [] pos) (tMeth C mm (SpR F) [] E0 to tr) G (m1.bind fun x => m2.bind fun y => F (x, y)) := by
  obtain ⟨k', fA, fd, ps, Fk, hr, hm, hb⟩ := M.ok
  refine ⟨pe_meth ho.pe hc hm Fk hr hb .nil pass0 ha.pa hst hpl ht, fun B Hi T tv s H Q z hx hl' hs k => ?_⟩
  obtain ⟨x, e1, hx⟩ := bind_some hx
  obtain ⟨y, e2, e3⟩ := bind_some hx
  refine ho.ev B Hi T tv s H _ x e1 hl' hs fun v Hi1 H1 s1 r1 => ?_
  obtain ⟨q, dx, fs, h1, h2, h3⟩ := hα r1
  refine ⟨q, dx, fs, h1, s1.sub _ _ h2, h3.none_ (hl x), ?_⟩
  refine ha.ev B Hi1 (fz x :: T) (some v :: tv) s H1 _ y e2 (by simp [hl']) ⟨⟨v, rfl, r1⟩, s1⟩ fun vs Hi2 H2 s2 r2 => ?_
  obtain ⟨⟨v', e4, r1'⟩, s2⟩ := s2
  cases e4
  exact ⟨Hi2, (x, y), z, s2.sub, ⟨v, vs ++ [], rfl, r1', by rw [List.append_nil]; exact r2⟩, e3, fun v H' sm r => k v _ H' (s2.grow sm) r⟩
theorem oj_meth [Rq α] [RpL τ] [Rq ρ] {L : α → List (Str × FV)} {F : α × τ → Option (List ρ)} {m1 : Option α} {m2 : Option τ} {pl : Sem Bool} (hα : ∀ {H x v}, rq H x v → repIns C (L x) H v) (hl : ∀ x, (L x).lookup mm = none) (hc : Cls X.K C) (M : Met X C mm (SpO F)) (ho : EJ X o to G m1) (ha : AJ X (e :: es) tr G m2)
    (hst : starEach (e :: es) X.env = (false, eval e X.env) :: starEach es X.env := by rfl) (hpl : (backTo pos (starEach es X.env)).any (·.1) = false := by rfl)
    (ht : eval (.Call (.Attribute o mm apos) (e :: es) [] pos) X.env = (do
      let ov ← eval o X.env
      standAt apos.atName
      let (f, first) ← holding [ov] (getMethod ov mm pl)
      callWith pos f first (backTo pos (starEach (e :: es) X.env)) (backToKw pos (keywordEach [] X.env))) := by rfl) :
    OJ X (.Call (.Attribute o mm apos) (e :: es) [] pos) (tMeth C mm (SpO F) [] E0 to tr) G (m1.bind fun x => m2.bind fun y => F (x, y)) := by
  obtain ⟨k', fA, fd, ps, Fk, hr, hm, hb⟩ := M.ok
  refine ⟨pe_meth ho.pe hc hm Fk hr hb .nil pass0 ha.pa hst hpl ht, fun B Hi T tv s H Q z hx hl' hs k => ?_⟩
  obtain ⟨x, e1, hx⟩ := bind_some hx
  obtain ⟨y, e2, e3⟩ := bind_some hx
  refine ho.ev B Hi T tv s H _ x e1 hl' hs fun v Hi1 H1 s1 r1 => ?_
  obtain ⟨q, dx, fs, h1, h2, h3⟩ := hα r1
  refine ⟨q, dx, fs, h1, s1.sub _ _ h2, h3.none_ (hl x), ?_⟩
  refine ha.ev B Hi1 (fz x :: T) (some v :: tv) s H1 _ y e2 (by simp [hl']) ⟨⟨v, rfl, r1⟩, s1⟩ fun vs Hi2 H2 s2 r2 => ?_
  obtain ⟨⟨v', e4, r1'⟩, s2⟩ := s2
  cases e4
  refine ⟨Hi2, (x, y), z, s2.sub, ⟨v, vs ++ [], rfl, r1', by rw [List.append_nil]; exact r2⟩, e3, fun p us H' sm hn hp hz r => ?_⟩
  have sm2 : Same H2 (del H' p) := fun a o h => by rw [del_ne (ne_of_none h hn)]; exact sm _ _ h
  have s3 := s2.grow sm2
  have e3 : join Hi2 H2 (del H' p) = del (join Hi2 H2 H') p := by
    funext a
    by_cases z : a = p
    · rw [z, del_same, join_none hn, del_same]
    · rw [del_ne z]
      cases w : H2 a with
      | none => rw [join_none w, join_none w, del_ne z]
      | some y => rw [join_some w, join_some w]
  rw [e3] at s3
  exact k p _ H' ⟨p, one p (.lst us), rfl, same_one hp, ⟨_, rfl, us, rfl, hz, r⟩, by rw [minus_one]; exact s3⟩
/-- o.m() -/
theorem ej_meth0 [Rq α] [Rq ρ] {L : α → List (Str × FV)} {F : α × Unit → Option ρ} {m1 : Option α} {pl : Sem Bool} (hα : ∀ {H x v}, rq H x v → repIns C (L x) H v) (hl : ∀ x, (L x).lookup mm = none) (hc : Cls X.K C) (M : Met X C mm (SpR F)) (ho : EJ X o to G m1)
    (ht : eval (.Call (.Attribute o mm apos) [] [] pos) X.env = (do
      let ov ← eval o X.env
      standAt apos.atName
      let (f, first) ← holding [ov] (getMethod ov mm pl)
      callWith pos f first (backTo pos (starEach [] X.env)) (backToKw pos (keywordEach [] X.env))) := by rfl) :
    EJ X (.Call (.Attribute o mm apos) [] [] pos) (tMeth C mm (SpR F) [] E0 to tNil) G (m1.bind fun x => F (x, ())) := by
  obtain ⟨k', fA, fd, ps, Fk, hr, hm, hb⟩ := M.ok
  refine ⟨pe_meth0 ho.pe hc hm Fk hr hb .nil pass0 ht, fun B Hi T tv s H Q z hx hl' hs k => ?_⟩
  obtain ⟨x, e1, e3⟩ := bind_some hx
  refine ho.ev B Hi T tv s H _ x e1 hl' hs fun v Hi1 H1 s1 r1 => ?_
  obtain ⟨q, dx, fs, h1, h2, h3⟩ := hα r1
  refine ⟨q, dx, fs, h1, s1.sub _ _ h2, h3.none_ (hl x), ?_⟩
  exact ⟨Hi1, (x, ()), z, s1.sub, ⟨v, [], rfl, r1, rfl⟩, e3, fun v H' sm r => k v _ H' (s1.grow sm) r⟩
/-- C(e, ..): ours, as it is made -/
theorem mk_dx {H1 : Hp} {x dx : Addr} {u : HO} {w : HO} (h1 : H1 x = none) (hn : dx ≠ x) : del (upd (upd H1 dx w) x u) x = upd H1 dx w := by
  funext a
  by_cases z : a = x
  · rw [z, del_same, upd_ne (Ne.symm hn), h1]
  · rw [del_ne z, upd_ne z]
theorem join_up {Ha H1 H' : Hp} {dx : Addr} {w : HO} : Same (join Ha (upd H1 dx w) H') (join Ha H1 H') ∨ True := .inr trivial
theorem qv_make [RpL τ] {L : ρ → List (Str × FV)} {F : τ → Option ρ} {m : Option τ} (ha : AvJ (fun Hi _ x vs => RpL.reps Hi x vs) tr G m) : QvJ (oIns C L) (tMake C (SpN C L F) [] E0 tr) G (m.bind F) := fun B Hi T tv s H Q z hx hl hs k => by
  obtain ⟨x, e1, e2⟩ := bind_some hx
  refine ha B Hi T tv s H _ x e1 hl hs fun vs Hi1 H1 s1 r1 => ?_
  intro a dx ha1 hd1 hne
  have hdel := mk_dx (u := .ins C dx []) (w := .own a) ha1 hne
  have up : Same H1 (upd H1 dx (.own a)) := fun b o h => by rw [upd_ne (ne_of_none h hd1)]; exact h
  refine ⟨a, dx, vs ++ [], Hi1, x, z, rfl, upd_same, ?_, by rw [List.append_nil]; exact r1, e2, fun Fp H' sm sf hz => ?_⟩
  · rw [hdel]; exact s1.sub.trans up
  · rw [hdel] at sm hz
    refine ⟨rfl, k a _ H' ⟨a, Fp, rfl, sf, (oIns C L).m _ _ _ _ _ (fun b o h => ?_) hz, s1.grow (up.trans sm)⟩⟩
    cases q : H1 b with
    | none =>
      rw [join_none q]
      cases q2 : upd H1 dx (.own a) b with
      | none => rw [join_none q2] at h; exact h
      | some u =>
        rw [join_some q2] at h
        have := s1.sub _ _ h
        rw [q] at this; cases this
    | some u =>
      rw [join_some (up _ _ q)] at h
      rw [join_some q]; exact h
theorem qv_makeW [RpL τ] {L : ρ → List (Str × FV)} [NoLD (oIns C L)] {F : τ → Option ρ} {m : Option τ} (ha : AvJ (fun Hi H x vs => RpL.reps (wide Hi H) x vs) tr G m) : QvJ (oIns C L) (tMake C (SpN C L F) [] E0 tr) G (m.bind F) := fun B Hi T tv s H Q z hx hl hs k => by
  obtain ⟨x, e1, e2⟩ := bind_some hx
  refine ha B Hi T tv s H _ x e1 hl hs fun vs Hi1 H1 s1 r1 => ?_
  intro a dx ha1 hd1 hne
  have hdel := mk_dx (u := .ins C dx []) (w := .own a) ha1 hne
  have up : Same H1 (upd H1 dx (.own a)) := fun b o h => by rw [upd_ne (ne_of_none h hd1)]; exact h
  refine ⟨a, dx, vs ++ [], wide Hi1 H1, x, z, rfl, upd_same, ?_, by rw [List.append_nil]; exact r1, e2, fun Fp H' sm sf hz => ?_⟩
  · rw [hdel]; exact (wide_sub s1.sub).trans up
  · rw [hdel] at sm hz
    refine ⟨rfl, k a _ H' ⟨a, Fp, rfl, sf, NoLD.tr (fun b xs h => ?_) hz, s1.grow (up.trans sm)⟩⟩
    cases q : H1 b with
    | none =>
      rw [join_none q]
      cases q2 : upd H1 dx (.own a) b with
      | none => rw [join_none q2] at h; exact h
      | some u =>
        rw [join_some q2] at h
        have := s1.sub _ _ (wide_tup h)
        rw [q] at this; cases this
    | some u =>
      rw [join_some (up _ _ q)] at h
      rw [join_some q]; exact wide_tup h
theorem qj_make [RpL τ] {L : ρ → List (Str × FV)} {F : τ → Option ρ} {m : Option τ} (M : MakX X C (SpN C L F)) (hm : X.mg n = some (.ref C)) (ha : AJ X (e :: es) tr G m) (hg : Gl X n := by rfl) (hdb : (n == ("__debug__" : Str)) = false := by decide) (he : starEach (e :: es) X.env = (false, eval e X.env) :: starEach es X.env := by rfl)
    (hpl : (backTo pos (starEach es X.env)).any (·.1) = false := by rfl) : QJ (oIns C L) X (.Call (.Name n p) (e :: es) [] pos) (tMake C (SpN C L F) [] E0 tr) G (m.bind F) := by
  obtain ⟨k', fA, fd, ps, Fk, hr, hmk, hb⟩ := M.ok
  exact ⟨pe_make hmk Fk hr hg hm hb .nil pass0 ha.pa hdb he hpl, qv_make ha.ev⟩
theorem qj_makeW [RpL τ] {L : ρ → List (Str × FV)} [NoLD (oIns C L)] {F : τ → Option ρ} {m : Option τ} (M : MakX X C (SpN C L F)) (hm : X.mg n = some (.ref C)) (ha : AW X (e :: es) tr G m) (hg : Gl X n := by rfl) (hdb : (n == ("__debug__" : Str)) = false := by decide) (he : starEach (e :: es) X.env = (false, eval e X.env) :: starEach es X.env := by rfl)
    (hpl : (backTo pos (starEach es X.env)).any (·.1) = false := by rfl) : QJ (oIns C L) X (.Call (.Name n p) (e :: es) [] pos) (tMake C (SpN C L F) [] E0 tr) G (m.bind F) := by
  obtain ⟨k', fA, fd, ps, Fk, hr, hmk, hb⟩ := M.ok
  exact ⟨pe_make hmk Fk hr hg hm hb .nil pass0 ha.pa hdb he hpl, qv_makeW ha.ev⟩
/-- self.f = e -/
theorem bj_setF [Rq α] {q : Addr} {L : List (Str × FV)} {m1 : Option α} {m2 : α → Option O} {p2 p3 : Pos} (i : Nat) (hc : Cls X.K C) (hno : NoAttr X.K C f) (he : EJ X e t G m1) (x0 : α) (hr : ∀ x, BJ X rest u (G.set i (oself C q (L ++ [(f, fF x)]))) (m2 x) P) (hg : G[i]? = some (oself C q L) := by rfl) (hlen : L.length < 100 := by simp) (hnew : L.lookup f = none := by rfl)
    (hN : X.N[i]? = some n := by rfl) (hv : Vis X.env.scope n := by first | exact Or.inl rfl | exact Or.inr (Or.inl rfl) | exact Or.inr (Or.inr rfl)) (hd : (n == ("__debug__" : Str)) = false := by decide) (hcd : (n == ("__classdict__" : Str)) = false := by decide)
    (hs : swapsWith e (some (.Attribute (.Name n p2) f p3)) pos.line X.env = pure false := by rfl) :
    BJ X (.Assign [.Attribute (.Name n p2) f p3] e pos :: rest) (tSeq (sFld X.K (tVar i) t f) u) G (m1.bind m2) P := ⟨pss_cons (ps_fld (pe_var hN hv hd hcd) he.pe hs) (hr x0).ps, fun B Hi T tv s H D z hx hl hs k => by
    obtain ⟨x, e1, e2⟩ := bind_some hx
    refine he.ev B Hi T tv s H _ x e1 hl hs fun v Hi1 H1 s1 r1 => ?_
    obtain ⟨q', F, h1, h2, ⟨rfl, dx, fs, h3, h4⟩, h6, up⟩ := s1.ownFT hl hg
    refine ⟨.ref q', h1, q', C, dx, fs, rfl, h2 _ _ h3, hc, hno, by rw [h4.len]; omega, ?_⟩
    rw [h4.no hnew v]
    have s4 := up (upd F q' (.ins C dx (fs ++ [(f, v)]))) (fun H p F => p = q' ∧ ∃ dx fs, F p = some (.ins C dx fs) ∧ FldsO H (L ++ [(f, fF x)]) fs (del F p)) (fun _ _ _ _ e ⟨h0, dx, fs, h1, h2⟩ => ⟨h0, dx, fs, h1, h2.mono e⟩) (upd H1 q' (.ins C dx (fs ++ [(f, v)]))) ⟨rfl, dx, _, upd_same, by
      rw [del_upd]
      refine FldsO.snoc (n := (f, fF x)) (F1 := fun _ => none) ?_ (fun a u z => by cases z) ⟨r1, fun _ => rfl⟩
      have em : minus (del F q') (fun _ => none) = del F q' := by
        funext a
        exact minus_none rfl
      rw [em]; exact h4⟩ (fun a o e => by
      by_cases z : a = q'
      · rw [z, upd_same] at e ⊢; exact e
      · rw [upd_ne z] at e; rw [upd_ne z]; exact h2 _ _ e) (by
      funext a
      by_cases z : a = q'
      · rw [z, minus_some (o := .ins C dx (fs ++ [(f, v)])) upd_same, minus_some h3]
      · cases y : F a with
        | some w => rw [minus_some (o := w) (by rw [upd_ne z]; exact y), minus_some y]
        | none => rw [minus_none (by rw [upd_ne z]; exact y), minus_none y, upd_ne z])
    exact (hr x).ev B Hi1 T tv s _ D z e2 hl s4 k⟩
/-- self.f = something new of our own -/
theorem bj_setO [Rq α] {d : OT α} [Th d] {q : Addr} {L : List (Str × FV)} {m1 : Option α} {m2 : α → Option O} {p2 p3 : Pos} (i : Nat) (hc : Cls X.K C) (hno : NoAttr X.K C f) (he : QJ d X e t G m1) (x0 : α) (hr : ∀ x, BJ X rest u (G.set i (oself C q (L ++ [(f, fO d x)]))) (m2 x) P) (hg : G[i]? = some (oself C q L) := by rfl) (hlen : L.length < 100 := by simp) (hnew : L.lookup f = none := by rfl)
    (hN : X.N[i]? = some n := by rfl) (hv : Vis X.env.scope n := by first | exact Or.inl rfl | exact Or.inr (Or.inl rfl) | exact Or.inr (Or.inr rfl)) (hd : (n == ("__debug__" : Str)) = false := by decide) (hcd : (n == ("__classdict__" : Str)) = false := by decide)
    (hs : swapsWith e (some (.Attribute (.Name n p2) f p3)) pos.line X.env = pure false := by rfl) :
    BJ X (.Assign [.Attribute (.Name n p2) f p3] e pos :: rest) (tSeq (sFld X.K (tVar i) t f) u) G (m1.bind m2) P := ⟨pss_cons (ps_fld (pe_var hN hv hd hcd) he.pe hs) (hr x0).ps, fun B Hi T tv s H D z hx hl hs k => by
    obtain ⟨x, e1, e2⟩ := bind_some hx
    refine he.ev B Hi T tv s H _ x e1 hl hs fun pq Hi1 H1 s1 => ?_
    obtain ⟨p', F1, e3, sF, hφ, s2⟩ := s1
    cases e3
    obtain ⟨q', F, h1, h2, ⟨rfl, dx, fs, h3, h4⟩, h6, up⟩ := SatG.ownFT hl s2 hg
    have dj : ∀ a w, F a = some w → F1 a = none ∧ H1 a = some w := fun a w z => minus_is (h2 _ _ z)
    have q1 : F1 q' = none := (dj _ _ h3).1
    refine ⟨.ref q', h1, q', C, dx, fs, rfl, (dj _ _ h3).2, hc, hno, by rw [h4.len]; omega, ?_⟩
    rw [h4.no hnew _]
    have s4 := up (upd (plus F F1) q' (.ins C dx (fs ++ [(f, .ref pq)]))) (fun H p F => p = q' ∧ ∃ dx fs, F p = some (.ins C dx fs) ∧ FldsO H (L ++ [(f, fO d x)]) fs (del F p)) (fun _ _ _ _ e ⟨h0, dx, fs, h1, h2⟩ => ⟨h0, dx, fs, h1, h2.mono e⟩) (upd H1 q' (.ins C dx (fs ++ [(f, .ref pq)]))) ⟨rfl, dx, _, upd_same, by
      rw [del_upd]
      refine FldsO.snoc (n := (f, fO d x)) (F1 := F1) ?_ (fun a u z => ?_) ⟨pq, rfl, hφ⟩
      · have em : minus (del (plus F F1) q') F1 = del F q' := by
          funext a
          cases z : F1 a with
          | some w =>
            rw [minus_some z]
            by_cases y : a = q'
            · rw [y, del_same]
            · rw [del_ne y]
              cases v : F a with
              | none => rfl
              | some v' => have := (dj _ _ v).1; rw [z] at this; cases this
          | none =>
            rw [minus_none z]
            by_cases y : a = q'
            · rw [y, del_same, del_same]
            · rw [del_ne y, del_ne y, plus_none z]
        rw [em]; exact h4
      · have y : a ≠ q' := fun y => by rw [y, q1] at z; cases z
        rw [del_ne y]; exact plus_some z⟩ (fun a o e => by
      by_cases z : a = q'
      · rw [z, upd_same] at e ⊢; exact e
      · rw [upd_ne z] at e; rw [upd_ne z]
        cases y : F1 a with
        | some w => rw [plus_some y] at e; cases e; exact sF _ _ y
        | none => rw [plus_none y] at e; exact (dj _ _ e).2) (by
      funext a
      by_cases z : a = q'
      · rw [z, minus_some (o := .ins C dx (fs ++ [(f, V.ref pq)])) upd_same, minus_some h3]
      · cases y : F1 a with
        | some w =>
          rw [minus_some (o := w) (by rw [upd_ne z]; exact plus_some y)]
          cases v : F a with
          | some v' => rw [minus_some v]
          | none => rw [minus_none v, minus_some y]
        | none =>
          cases v : F a with
          | some v' => rw [minus_some (o := v') (by rw [upd_ne z, plus_none y]; exact v), minus_some v]
          | none => rw [minus_none (by rw [upd_ne z, plus_none y]; exact v), minus_none v, minus_none y, upd_ne z])
    exact (hr x).ev B Hi1 T tv s _ D z e2 hl s4 k⟩
/-- the end of __init__ -/
theorem bj_nilI {q : Addr} {L : ρ → List (Str × FV)} (r : ρ) (i : Nat) (hg : G[i]? = some (oself C q (L r)) := by rfl) : BJ X [] tNext G (some r) (PIni C q L) := ⟨pss_nil, fun B Hi T tv s H D o hx hl hs k => by
    cases hx
    obtain ⟨q', F, h1, h2, ⟨h0, _⟩, h6, up⟩ := hs.ownFT hl hg
    have z := hs.front (i := T.length + i) (by rw [get_app]; exact hg)
    rw [set_app, ← hl, get_app, h1, h0] at z
    exact k.2 s Hi H z.bare1⟩
/-- isinstance(o, class of the program) -/
theorem ej_isIns [Rq α] {L : α → List (Str × FV)} {C1 : Addr} {r : Bool} {tn : Str} {p2 : Pos} (hα : ∀ {H x v}, rq H x v → repIns C (L x) H v) (hc : Cls X.K C) (h1 : PySem.W.findIn X.K (.ref C) "__class__" = some (some (.builtin "object.__class__"))) (h2 : PySem.W.specialIn X.K (.builtin "object.__class__") "__get__" = some (some (.builtin "getset_descriptor.__get__"))) (h3 : PySem.W.takesIn X.K (.builtin "object.__class__") = some true)
    (h4 : PySem.W.mroIn X.K C (.type "object") = some true) (hk : PySem.W.kitOne X.K (.ref C) (.ref C1) = some r) (gC : X.mg tn = some (.ref C1)) (hm : X.mg "isinstance" = none) {m1 : Option α} (ha : EJ X a ta G m1) (hg : Gl X "isinstance" := by rfl) (hgt : Gl X tn := by rfl) (hdb : (tn == ("__debug__" : Str)) = false := by decide)
    (he : starEach [a, .Name tn p2] X.env = (false, eval a X.env) :: starEach [.Name tn p2] X.env := by rfl) (he2 : starEach [.Name tn p2] X.env = (false, eval (.Name tn p2) X.env) :: starEach [] X.env := by rfl) (hpl : (backTo pos (starEach [.Name tn p2] X.env)).any (·.1) = false := by rfl) :
    EJ X (.Call (.Name "isinstance" p) [a, .Name tn p2] [] pos) (tCB (rIsi X.K) (tCons ta (tCons (tC (.ref C1)) tNil))) G (m1.bind fun _ => some r) :=
  ⟨pe_callB call_isi hg hm (by decide +kernel) (pa_cons ha.pe (pa_cons (pe_glob hgt gC rfl hdb) pa_nil he2) he) (by decide) (by decide) he hpl, fun B Hi T tv s H Q z hx hl hs k => by
    obtain ⟨x, e1, e2⟩ := bind_some hx
    cases e2
    refine ha.ev B Hi T tv s H _ x e1 hl hs fun v Hi1 H1 s1 r1 => ?_
    obtain ⟨q, dx, fs, g1, g2, g3⟩ := hα r1
    refine ⟨v, .ref C1, .ref C, .ref C1, r, rfl, ?_, .base ?_, hk, k _ Hi1 H1 s1 rfl⟩
    · exact .own C1
    · rw [g1]; exact .ins (s1.sub _ _ g2) hc h1 h2 h3 h4⟩
end
end GM
namespace GM
open PySem PySem.Spec PyProof.Rows L2
/-! ### for x in a new list of things of our own: each of them is the turn's own -/
/-- what is left of the list at a from item j on -/
def osq {α : Type} (d : OT α) (a : Addr) (vs : List V) (xs : List α) (j : Nat) : SV := .ow (fun H p F => p = a ∧ F a = some (.lst vs) ∧ sepL d H (xs.drop j) (vs.drop j) (del F a)) (fun _ _ _ _ e ⟨h0, h1, h2⟩ => ⟨h0, h1, sepL.mono e h2⟩)
theorem osq_turn {α : Type} {d : OT α} {B : Bk} {Hi H : Hp} {L : List SV} {s : L2.St} {a : Addr} {vs : List V} {xs : List α} {j : Nat} {x : α} (h : SatG B Hi (osq d a vs xs j :: L) (some (.ref a) :: s) H) (hx : xs[j]? = some x) :
    ∃ p, vs[j]? = some (.ref p) ∧ SatG B Hi (oo d x :: osq d a vs xs (j + 1) :: L) (some (.ref p) :: some (.ref a) :: s) H := by
  obtain ⟨p', F, e1, sF, ⟨h0, h1, h2⟩, k⟩ := h
  cases e1
  have lt : j < xs.length := (List.getElem?_eq_some_iff.mp hx).1
  have ex : xs[j] = x := (List.getElem?_eq_some_iff.mp hx).2
  rw [List.drop_eq_getElem_cons lt, ex] at h2
  cases hv : vs.drop j with
  | nil => rw [hv] at h2; exact False.elim h2
  | cons v ws =>
    rw [hv] at h2
    obtain ⟨p, F1, e2, s1, hφ, k2⟩ := h2
    have hvj : vs[j]? = some v := by
      have := List.getElem?_drop (xs := vs) (i := j) (j := 0)
      rw [hv, Nat.add_zero] at this
      exact this.symm
    have hdr : vs.drop (j + 1) = ws := by
      rw [← List.drop_drop, hv]; rfl
    refine ⟨p, by rw [hvj, e2], p, F1, rfl, s1.trans (del_sub.trans sF), hφ, a, minus F F1, rfl, fun b o e => ?_, ⟨rfl, ?_, ?_⟩, ?_⟩
    · obtain ⟨n1, n2⟩ := minus_is e
      rw [minus_none n1]; exact sF _ _ n2
    · have n1 : F1 a = none := by
        cases z : F1 a with
        | none => rfl
        | some w => have := s1 _ _ z; rw [del_same] at this; cases this
      rw [minus_none n1]; exact h1
    · rw [hdr]
      have e3 : del (minus F F1) a = minus (del F a) F1 := by
        funext b
        by_cases z : b = a
        · rw [z, del_same]
          cases y : F1 a with
          | some w => rw [minus_some y]
          | none => rw [minus_none y, del_same]
        · rw [del_ne z]
          cases y : F1 b with
          | some w => rw [minus_some y, minus_some y]
          | none => rw [minus_none y, minus_none y, del_ne z]
      rw [e3]; exact k2
    · have e4 : minus (minus H F1) (minus F F1) = minus H F := by
        funext b
        cases y : F1 b with
        | some w =>
          have : F b = some w := del_sub _ _ (s1 _ _ y)
          rw [minus_none (by rw [minus_some y] : minus F F1 b = none), minus_some y, minus_some this]
        | none =>
          cases z : F b with
          | some w => rw [minus_some (o := w) (by rw [minus_none y]; exact z), minus_some z]
          | none => rw [minus_none (by rw [minus_none y]; exact z), minus_none y, minus_none z]
      rw [e4]; exact k
section
variable {X : Cx} {e o a b c iter : Expr} {es : List Expr} {t to ta tb tc te : TE} {tr : TA} {G : List SV} {α β γ τ ρ O S R : Type} {pos p apos cpos : Pos} {n f mm : Str} {rest : List Stmt} {u ts : TS} {P Px : Post O} {d : OT α}
theorem qj_lst2 {m : Option (Ll α α)} (h : QJ (oll2 d d) X e t G m) : QJ (oLL d) X e t G (m.bind fun x => some [x.a, x.b]) := ⟨h.pe, fun B Hi T tv s H Q z hx hl hs k => by
  obtain ⟨x, e1, e2⟩ := bind_some hx
  cases e2
  refine h.ev B Hi T tv s H Q x e1 hl hs fun p Hi' H' s' => k p Hi' H' ?_
  obtain ⟨p', F, e3, sF, ⟨q, q', F1, F2, h1, h2, h3, h4, h5⟩, kk⟩ := s'
  exact ⟨p', F, e3, sF, ⟨_, h1, by show 2 ≤ sizeLine; decide, q, F1, rfl, h2, h3, q', F2, rfl, by rw [h4]; exact Same.refl _, h5, fun b => by
    rw [h4]
    cases y : minus (del F p') F1 b with
    | some w => rw [minus_some y]
    | none => rw [minus_none y]; exact y⟩, kk⟩⟩
theorem bj_forOF {tB : TS} {body : List Stmt} {N : S → List SV} {Pr : Post R} [RtOnly Pr] {m1 : Option (List α)} {mb : α → S → Option (Fl S R)} {mr : S → Option O} {inj : R → O} [Rt P Pr inj] (i : Nat) (hc : X.calm = true) (hN : X.N.Nodup) (s0 : S) (x0 : α) (he : QJ (oLL d) X iter t G m1)
    (w0 : Wk G (N s0)) (hb : ∀ x st, BJ X body tB ((N st).set i (oo d x)) (mb x st) (PL N Pr)) (hr : ∀ st, BJ X rest u (N st) (mr st) P)
    (hp : PassesOwn (model X.prog X.w) X.A X.env X.xe) {p1 : Pos} (hi : X.N[i]? = some n := by rfl) (hx : Loc X.env.scope n := by first | exact Or.inl rfl | exact Or.inr rfl) (hf : X.fn n = true ∨ X.env.scope.names.lookup n = some .local := by first | exact .inl rfl | exact .inr rfl | assumption) (hs : ∀ x, foldedSetIterable iter X.env x = pure x := by intro _; rfl) :
    BJ X (.For (.Name n p1) iter body [] pos :: rest) (tSeq (tFor (iList X.K t) (gName i) tB) u) G (m1.bind fun xs => (forF xs s0 mb).bind (flR mr inj)) P :=
  ⟨pss_cons (ps_for hp hc (pi_list he.pe) (pg_name hN hi hx hf) (hb x0 s0).ps hs) (hr s0).ps, fun B Hi T tv s H D o hx' hl hs' k => by
    obtain ⟨xs, e1, hx'⟩ := bind_some hx'
    obtain ⟨fr, e2, e3⟩ := bind_some hx'
    refine he.ev B Hi T tv s H _ xs e1 hl hs' fun a Hi1 H1 s1 => ?_
    obtain ⟨p', F, e4, sF, ⟨vs, hl1, hl2, hl3⟩, kk⟩ := s1
    cases e4
    have vl : xs.length = vs.length := hl3.len
    refine ⟨a, rfl, ⟨vs, SqL.of (sF _ _ hl1)⟩, ?_⟩
    have st0 : SatG B Hi1 (osq d a vs xs 0 :: (T ++ G)) (some (.ref a) :: (tv ++ s)) H1 := ⟨a, F, rfl, sF, ⟨rfl, hl1, hl3⟩, kk⟩
    have l1 : (some (V.ref a) :: tv).length = (osq d a vs xs 0 :: T).length := by simp [hl]
    refine ⟨fun i m σ H2 => m = xs.length - i ∧ i ≤ xs.length ∧ ∃ Hi2 st, SatG B Hi2 (osq d a vs xs i :: (T ++ N st)) (some (.ref a) :: (tv ++ σ)) H2 ∧ forF (xs.drop i) st mb = some fr, ⟨xs.length, by simp, Nat.zero_le _, Hi1, s0, SatG.wkT (T := osq d a vs xs 0 :: T) (tv := some (.ref a) :: tv) l1 w0 st0, by simpa using e2⟩, ?_⟩
    rintro j m σ H2 ⟨rfl, hi2, Hi2, st, s2, e4⟩
    have ha : H2 a = some (.lst vs) := by
      obtain ⟨p', F, e1, sF, ⟨h0, h1, h2⟩, _⟩ := s2
      exact sF _ _ h1
    have after : ∀ {Hi3 H3 : Hp} {σ3 : L2.St} {st3 : S}, SatG B Hi3 (T ++ N st3) (tv ++ σ3) H3 → mr st3 = some o → u D σ3 H3 := fun {Hi3 H3 σ3 st3} q eq => (hr st3).ev B Hi3 T tv σ3 H3 D o eq hl q k
    by_cases hlt : j < xs.length
    · refine .inr ?_
      have hxi : xs[j]? = some xs[j] := by simp [hlt]
      obtain ⟨p, hv, s3⟩ := osq_turn s2 hxi
      have hdr : xs.drop j = xs[j] :: xs.drop (j + 1) := by rw [List.drop_eq_getElem_cons hlt]
      rw [hdr] at e4
      obtain ⟨r, e5, e6⟩ := bind_some e4
      refine ⟨⟨vs, .ref p, SqL.of ha, hv⟩, fun σ3 H3 => ∃ Hi3 st3, SatG B Hi3 (osq d a vs xs (j + 1) :: (T ++ N st3)) (some (.ref a) :: (tv ++ σ3)) H3 ∧ forF (xs.drop (j + 1)) st3 mb = some fr, fun σ3 H3 ⟨Hi3, st3, q1, q2⟩ => ⟨xs.length - (j + 1), by omega, rfl, hlt, Hi3, st3, q1, q2⟩, fun v H3 hy => ?_⟩
      obtain ⟨y1, y2⟩ := hy
      subst y1
      have y3 := y2 vs (SqL.of ha)
      rw [hv] at y3
      cases y3
      show tB _ (σ.set i (some (.ref p))) H3
      have l2 : (some (V.ref a) :: tv).length = (osq d a vs xs (j + 1) :: T).length := by simp [hl]
      have s4 := SatG.putT (T := osq d a vs xs (j + 1) :: T) (tv := some (.ref a) :: tv) (L := N st) (s := σ) (i := i) l2 s3
      refine (hb xs[j] st).ev B Hi2 (osq d a vs xs (j + 1) :: T) (some (.ref a) :: tv) _ H3 _ r e5 l2 s4 ?_
      cases r with
      | go st3 => exact fun s5 Hi5 H5 q => ⟨⟨Hi5, st3, q, e6⟩, ⟨Hi5, st3, q, e6⟩⟩
      | stop st3 =>
        cases e6
        exact fun s5 Hi5 H5 q => after q.drop1 e3
      | ret rr =>
        cases e6
        cases e3
        exact RtOnly.mv (Pr := Pr) rr B T _ tv _ D _ rfl (Rt.rt (P := P) (Pr := Pr) (inj := inj) rr B T tv D k)
    · have e : j = xs.length := by omega
      subst e
      rw [List.drop_length] at e4
      cases e4
      exact .inl ⟨⟨vs, SqL.of ha, by omega⟩, after s2.drop1 e3⟩⟩
end
end GM
namespace PySem
open Sem (wp)
open AutoSeq1 (wpAny_loadPart')
theorem meets_enumerate_newT (l : Addr) (items : Array Value) (n : Nat) (dct : Option Addr) (sl : Array (Option Value)) :
    Meets (Builtin.«enumerate.__new__» ⟨[.type "enumerate", .ref l], []⟩) (fun _ R s => s.heap.get? l = some { cls := .type "tuple", dict := dct, data := .seq items n, slots := sl } ∧
      R (.ok (.ret (.ref (s.heap.push { cls := .type "tuple_iterator", data := .fields #[.ref l, .int 0 0] }).objs.size)))
        { s with heap := (s.heap.push { cls := .type "tuple_iterator", data := .fields #[.ref l, .int 0 0] }).push { cls := .type "enumerate", data := .fields #[.none, .bool false, .ref s.heap.objs.size, rawInt 0, .none, .none] } }) :=
  .of_wp fun prog w A R s h => by
    obtain ⟨hp, g, d, tk, os⟩ := s; obtain ⟨hl, h⟩ := h
    have hsub := sub_enumerate
    have hL : Heap.IsTuple (Shared.heap ⟨hp, g, d, tk, os⟩) l items := ⟨_, hl, rfl, n, rfl⟩
    wp_walk using wpAny_loadPart' hl
    refine wpAny_stack_any fun st => wpAny_pure ?_
    split
    · rename_i c _ _ _ _ _
      cases (c == Value.type "enumerate")
      · wp_walk using wpAny_loadPart' hl, wpAny_pyIter_tuple hL
        exact ⟨_, rfl, h⟩
      · wp_walk using wpAny_loadPart' hl, wpAny_pyIter_tuple hL
        exact ⟨_, rfl, h⟩
    · wp_walk using wpAny_loadPart' hl, wpAny_pyIter_tuple hL
      exact ⟨_, rfl, h⟩
theorem call_enumerate_tuple {prog : Program} {w : World} {A : Around} {E : Value → Shared → Prop} {s : Shared} {l : Addr} {items : Array Value} {Q : Value → Shared → Prop} (hL : s.heap.IsTuple l items)
    (h : ∀ h', IsEnum h' (s.heap.objs.size + 1) s.heap.objs.size 0 .none → h'.IsTupleIter s.heap.objs.size l 0 → h'.objs.size = s.heap.objs.size + 2 →
      (∀ b o, s.heap.get? b = some o → h'.get? b = some o) → Q (.ref (s.heap.objs.size + 1)) { s with heap := h' }) :
    wpAny (model prog w) A (call (.type "enumerate") [.ref l]) Q E s := by
  obtain ⟨⟨c, dct, dt, sl⟩, hl, hc, n, hd⟩ := hL
  replace hc : c = .type "tuple" := hc
  replace hd : dt = .seq items n := hd
  subst hc hd
  refine callType_new F.called_enumerate (by decide) (F.typeCall_enumerate_1 _) (F.newCall_enumerate_1 _) (fun obj => F.args_object_init_2 obj _) F.entry_enumerate_new
    (meets_enumerate_newT l items n dct sl) ⟨hl, ?_⟩
  have hz : (s.heap.push { cls := .type "tuple_iterator", data := .fields #[.ref l, .int 0 0] }).objs.size = s.heap.objs.size + 1 := Heap.size_push ..
  show _ ∧ _
  rw [hz]
  have he : IsEnum ((s.heap.push { cls := .type "tuple_iterator", data := .fields #[.ref l, .int 0 0] }).push
      { cls := .type "enumerate", data := .fields #[.none, .bool false, .ref s.heap.objs.size, rawInt 0, .none, .none] }) (s.heap.objs.size + 1) s.heap.objs.size 0 .none := by
    have := Heap.get?_push_size (s.heap.push { cls := .type "tuple_iterator", data := .fields #[.ref l, .int 0 0] })
      (o := { cls := .type "enumerate", data := .fields #[.none, .bool false, .ref s.heap.objs.size, rawInt 0, .none, .none] }) rfl
    rw [hz] at this; exact this
  refine ⟨⟨_, he, rfl⟩, h _ he ⟨_, Heap.get?_push_of_some _ (Heap.get?_push_size _ rfl), rfl, rfl⟩ (by rw [Heap.size_push, hz]) fun b o x => Heap.get?_push_of_some _ (Heap.get?_push_of_some _ x)⟩
end PySem
namespace GM
open PySem PySem.Spec PyProof.Rows L2
/-! ### zip and enumerate over tuples; t true: a tuple, false: a list -/
def SqK (t : Bool) (K : PySem.W.Frag) (H : Hp) (a : Addr) (xs : List V) : Prop := match t with
  | true => SqT K H a xs
  | false => SqL K H a xs
def IsSq (t : Bool) (h : Heap) (a : Addr) (its : Array Value) : Prop := match t with
  | true => h.IsTuple a its
  | false => h.IsList a its
def IsIt (t : Bool) (h : Heap) (it a : Addr) (i : Nat) : Prop := match t with
  | true => h.IsTupleIter it a i
  | false => h.IsListIter it a i
def itO (t : Bool) (a : Addr) : Obj := match t with
  | true => { cls := .type "tuple_iterator", data := .fields #[.ref a, .int 0 0] }
  | false => { cls := .type "list_iterator", data := .fields #[.ref a, .int 0 0] }
theorem sq_at {X : Cx} {t : Bool} {pins : List (Addr × Obj)} {σ : L2.St} {H : Hp} {s : Shared} {a : Addr} {xs : List V} (I : L2.Inv X pins σ H s) (h : SqK t X.K H a xs) : ∃ its : List Value, Vals xs its ∧ IsSq t s.heap a its.toArray ∧ a < s.heap.objs.size := by
  cases t with
  | true =>
    obtain ⟨its, rv, p, _⟩ := I.tuple h
    obtain ⟨o, ho, _⟩ := id p
    exact ⟨its, rv, p, Heap.lt_size ho⟩
  | false =>
    obtain ⟨its, rv, p, _⟩ := I.list h
    exact ⟨its, rv, p.isList, p.lt⟩
theorem sq_inj {X : Cx} {t : Bool} {pins : List (Addr × Obj)} {σ : L2.St} {H : Hp} {s : Shared} {a : Addr} {xs ys : List V} (I : L2.Inv X pins σ H s) (h : SqK t X.K H a xs) (h' : SqK t X.K H a ys) : xs = ys := by
  cases t with
  | true => exact I.tuple_inj h h'
  | false => exact I.list_inj h h'
theorem draws_k (t : Bool) {prog : Program} {w : World} {A : Around} (hh : A.handled = none) (it l : Addr) (hne : l ≠ it) (items : Array Value) :
    Draws prog w A it [it, l] items.size (fun i v => items[i]? = some v) (fun i h => IsIt t h it l i ∧ IsSq t h l items) := by
  cases t with
  | true => exact Draws.tuple hh it l hne items
  | false => exact Draws.list hh it l hne items
theorem begins_k (t : Bool) (l : Addr) (items : Array Value) : Begins (.ref l) (itO t l) fun h => IsSq t h l items := by
  cases t with
  | true => exact begins_tuple l items
  | false => exact begins_list l items
theorem it_0 {t : Bool} {h : Heap} {it a : Addr} (e : h.get? it = some (itO t a)) : IsIt t h it a 0 := by
  cases t with
  | true => exact ⟨_, e, rfl, rfl⟩
  | false => exact ⟨_, e, rfl, rfl⟩
theorem it_at {t : Bool} {h h' : Heap} {it a : Addr} {i : Nat} (x : IsIt t h it a i) (e : ∀ o, h.get? it = some o → h'.get? it = some o) : IsIt t h' it a i := by
  cases t with
  | true => exact Heap.IsTupleIter.at x e
  | false => exact Heap.IsListIter.at x e
theorem it_obj {t : Bool} {h : Heap} {it a : Addr} {i : Nat} (x : IsIt t h it a i) : ∃ o fs, h.get? it = some o ∧ o.data = .fields fs := by
  cases t with
  | true => obtain ⟨o, e, _, d⟩ := x; exact ⟨o, _, e, d⟩
  | false => obtain ⟨o, e, _, d⟩ := x; exact ⟨o, _, e, d⟩
def Itzk (t1 t2 : Bool) (K : PySem.W.Frag) (a b : Addr) : It :=
  ⟨fun i H => ∃ (xs ys : List V) (x y : V), SqK t1 K H a xs ∧ SqK t2 K H b ys ∧ xs[i]? = some x ∧ ys[i]? = some y,
    fun i H v H' => ∃ T x y, v = .ref T ∧ H T = none ∧ H' = upd H T (.tup [x, y]) ∧ (∀ xs, SqK t1 K H a xs → xs[i]? = some x) ∧ ∀ ys, SqK t2 K H b ys → ys[i]? = some y,
    fun i H => ∃ xs ys : List V, SqK t1 K H a xs ∧ SqK t2 K H b ys ∧ i = min xs.length ys.length⟩
theorem sep2 {N a b : Nat} (ha : a < N) (hb : b < N) : ZipSep2 (N + 4) (N + 2) (N + 3) N (N + 1) [N, a] [N + 1, b] := by
  constructor <;> first | (simp; done) | (intro h; simp at h; revert h; exact Nat.ne_of_gt (by omega)) | (intro h; simp at h; revert h; exact Nat.ne_of_lt (by omega)) | (intro h; simp at h)
theorem turn_zipk {t1 t2 : Bool} {P : Program} {w : World} {K : PySem.W.Frag} {elts : List Expr} {kk : Nat} {tpos : Pos} {a b z TI TO i1 i2 : Addr} (D : ZipSep2 z TI TO i1 i2 [i1, a] [i2, b]) (n1 : a ≠ i1) (n2 : b ≠ i2) :
    Turn P w K (.Tuple elts kk tpos) (Itzk t1 t2 K a b) [z, TI, TO, i1, i2] z (fun i h => IsZip h z TI TO .none ∧ IsTupOf2 h TI (.ref i1) (.ref i2) ∧ (∃ x y, IsTupOf2 h TO x y) ∧ IsIt t1 h i1 a i ∧ IsIt t2 h i2 b i) where
  mem := by simp
  obj := fun i h st d hd => by
    obtain ⟨hz, hTI, ⟨x, y, hTO⟩, h1, h2⟩ := st
    obtain ⟨o1, f1, e1, d1⟩ := it_obj h1
    obtain ⟨o2, f2, e2, d2⟩ := it_obj h2
    have e' : d = z ∨ d = TI ∨ d = TO ∨ d = i1 ∨ d = i2 := by simpa using hd
    rcases e' with q | q | q | q | q
    · rw [q]; exact ⟨_, hz, fun v q => nomatch q⟩
    · rw [q]; exact ⟨_, hTI, fun v q => nomatch q⟩
    · rw [q]; exact ⟨_, hTO, fun v q => nomatch q⟩
    · rw [q]; exact ⟨o1, e1, fun v q => by rw [d1] at q; cases q⟩
    · rw [q]; exact ⟨o2, e2, fun v q => by rw [d2] at q; cases q⟩
  keep := fun i h h' st k => by
    obtain ⟨hz, hTI, ⟨x, y, hTO⟩, h1, h2⟩ := st
    exact ⟨k z (by simp) _ hz, k TI (by simp) _ hTI, ⟨x, y, k TO (by simp) _ hTO⟩, it_at h1 fun o q => k i1 (by simp) o q, it_at h2 fun o q => k i2 (by simp) o q⟩
  item := by
    intro X hP hw hK hc i pins s σ H E I hf st hg
    subst hP hw hK
    obtain ⟨hz, hTI, ⟨x0, y0, hTO⟩, h1, h2⟩ := st
    obtain ⟨xs, ys, x, y, hqx, hqy, hx, hy⟩ := hg
    obtain ⟨its, rv, p, _⟩ := sq_at I hqx
    obtain ⟨its2, rv2, p2, _⟩ := sq_at I hqy
    obtain ⟨u, hu, ru⟩ := rv.get hx
    obtain ⟨u2, hu2, ru2⟩ := rv2.get hy
    have l1 : i < its.length := (List.getElem?_eq_some_iff.mp hu).1
    have l2 : i < its2.length := (List.getElem?_eq_some_iff.mp hu2).1
    have hzl : z < s.heap.objs.size := Heap.lt_size hz
    have hh : X.A.in1.handled = none := I.ok.hd hc
    have D1 := draws_k t1 (prog := X.prog) (w := X.w) (A := X.A.in1) hh i1 a n1 its.toArray
    have D2 := draws_k t2 (prog := X.prog) (w := X.w) (A := X.A.in1) hh i2 b n2 its2.toArray
    refine wpAny_pyNext_zipD2_item D D1 D2 hz hTI hTO ⟨h1, p⟩ ⟨h2, p2⟩ (by simpa using l1) (by simpa using l2) fun x1 x2 h' tk q1 q2 z' TO' st1' st2' hT hsz hk => ?_
    have e1 : x1 = u := by rw [show its.toArray[i]? = some u by simpa using hu] at q1; exact (Option.some.inj q1).symm
    have e2 : x2 = u2 := by rw [show its2.toArray[i]? = some u2 by simpa using hu2] at q2; exact (Option.some.inj q2).symm
    subst e1 e2
    refine ⟨_, rfl, wpAny_letOwnedTupleGo_zip (s := { s with heap := h', toks := tk }) z' fun h'' z'' sb => ?_⟩
    have hT2 : h''.get? s.heap.objs.size = some { cls := .type "tuple", data := .seq #[x1, x2] } := (sb.2 _ (Nat.ne_of_gt hzl)).trans hT
    have new : ObjOk X.prog X.w (upd H s.heap.objs.size (.tup [x, y])) h'' s.heap.objs.size (.tup [x, y]) :=
      ⟨by show 2 ≤ sizeLine; decide, [x1, x2], .cons ru (.cons ru2 .nil), ⟨_, hT2, rfl, _, rfl⟩⟩
    have I1 : Inv X pins σ (upd H s.heap.objs.size (.tup [x, y])) { s with heap := h'', toks := tk } :=
      I.turnedNew (t' := tk) (ch := [z, TI, TO, i1, i2]) (fun d o hb q => (sb.2 d (fun q' => hb (by simp [q']))).trans (hk d o (fun q' => hb (by simp [q'])) (fun q' => hb (by simp [q'])) (fun q' => hb (by simp [q'])) (fun q' => hb (by simp [q'])) q)) hf (Nat.le_refl _) new
    refine ⟨.ref s.heap.objs.size, _, I1, rfl, ⟨_, x, y, rfl, I.hok.fresh (Nat.le_refl _), rfl, fun l hl => by rw [sq_inj I hl hqx]; exact hx, fun l hl => by rw [sq_inj I hl hqy]; exact hy⟩, ⟨z'', ?_, ⟨x1, x2, ?_⟩, ?_, ?_⟩, fun d hdm => ?_⟩
    · exact (sb.2 _ D.TIz).trans (hk _ _ D.TIz D.TITO D.TIi1 D.TIi2 hTI)
    · exact (sb.2 _ D.TOz).trans TO'
    · exact it_at st1'.1 fun o q => (sb.2 _ (Ne.symm D.zi1)).trans q
    · exact it_at st2'.1 fun o q => (sb.2 _ (Ne.symm D.zi2)).trans q
    · have hlt : d < s.heap.objs.size := by
        have e' : d = z ∨ d = TI ∨ d = TO ∨ d = i1 ∨ d = i2 := by simpa using hdm
        rcases e' with q | q | q | q | q
        · rw [q]; exact hzl
        · rw [q]; exact Heap.lt_size hTI
        · rw [q]; exact Heap.lt_size hTO
        · rw [q]; obtain ⟨_, _, e1, _⟩ := it_obj h1; exact Heap.lt_size e1
        · rw [q]; obtain ⟨_, _, e2, _⟩ := it_obj h2; exact Heap.lt_size e2
      rw [upd_ne (Nat.ne_of_lt hlt)]
      exact (hf d hdm).1
  done := by
    intro X hP hw hK hc i pins s σ H E I hf st hg
    subst hP hw hK
    obtain ⟨hz, hTI, ⟨x0, y0, hTO⟩, h1, h2⟩ := st
    obtain ⟨xs, ys, hqx, hqy, hend⟩ := hg
    obtain ⟨its, rv, p, _⟩ := sq_at I hqx
    obtain ⟨its2, rv2, p2, _⟩ := sq_at I hqy
    have l1 := rv.length
    have l2 := rv2.length
    have hh : X.A.in1.handled = none := I.ok.hd hc
    have D1 := draws_k t1 (prog := X.prog) (w := X.w) (A := X.A.in1) hh i1 a n1 its.toArray
    have D2 := draws_k t2 (prog := X.prog) (w := X.w) (A := X.A.in1) hh i2 b n2 its2.toArray
    exact wpAny_pyNext_zipD2_end D D1 D2 hz hTI hTO ⟨h1, p⟩ ⟨h2, p2⟩ (by rw [List.size_toArray]; omega) (by rw [List.size_toArray]; omega) (by rw [List.size_toArray, List.size_toArray]; omega) fun h' tk hk => ⟨rfl, I.turnedL (t' := tk) (ch := [z, TI, TO, i1, i2]) (fun d o hb q =>
      hk d o (fun q' => hb (by simp [q'])) (fun q' => hb (by simp [q'])) (fun q' => hb (by simp [q'])) (fun q' => hb (by simp [q'])) q) hf⟩
  self := fun A i s Q E st h => wpAny_pyIter_zip st.1 h
def iZipk (t1 t2 : Bool) (K : PySem.W.Frag) (ta : TA) : TI := fun σ H R => ta σ H fun vs H1 => ∃ a b xs ys, vs = [.ref a, .ref b] ∧ SqK t1 K H1 a xs ∧ SqK t2 K H1 b ys ∧ R (Itzk t1 t2 K a b) H1
theorem pi_zipk (t1 t2 : Bool) {X : Cx} {e e2 : Expr} {ta : TA} {p pos tpos : Pos} {elts : List Expr} {kk : Nat} (hg : Gl X "zip") (hm : X.mg "zip" = none) (ha : PA X [e, e2] ta)
    (hs : starEach [e, e2] X.env = (false, eval e X.env) :: starEach [e2] X.env := by rfl) (hpl : (backTo pos (starEach [e2] X.env)).any (·.1) = false := by rfl) :
    PI X (.Tuple elts kk tpos) (.Call (.Name "zip" p) [e, e2] [] pos) (iZipk t1 t2 X.K ta) := by
  refine ⟨fun pins s σ H R I h => ?_⟩
  refine Call_ (ld_blt I hg hm PyProof.Rows.boot_zip (PyProof.Rows.callWith_type1 (thn (ha.run pos pins s σ H _ I h) fun us s1 ⟨vs, H1, I1, r1, q1⟩ => ?_) hs hpl))
  obtain ⟨a, b, xs, ys, ex, hqx, hqy, q⟩ := q1
  subst ex
  cases r1 with
  | cons r rr =>
    cases rr with
    | cons r' rr =>
      cases rr
      cases r
      cases r'
      obtain ⟨its, rv, p1, la⟩ := sq_at I1 hqx
      obtain ⟨its2, rv2, p2, lb⟩ := sq_at I1 hqy
      refine zip_begins2 (begins_k t1 a its.toArray) (begins_k t2 b its2.toArray) p1 p2 fun h' hz hTI hTO h1 h2 hsz hk => wpAny_pyIter_zip hz ?_
      have I2 : Inv X pins σ H1 { s1 with heap := h' } := I1.kept (t' := s1.toks) hk
      refine ⟨s1.heap.objs.size + 4, [s1.heap.objs.size + 4, s1.heap.objs.size + 2, s1.heap.objs.size + 3, s1.heap.objs.size, s1.heap.objs.size + 1], _, _, H1, rfl, I2, turn_zipk (t1 := t1) (t2 := t2) (sep2 la lb) (Nat.ne_of_lt la) (by show b ≠ s1.heap.objs.size + 1; exact Nat.ne_of_lt (Nat.lt_succ_of_lt lb)), ⟨hz, hTI, ⟨_, _, hTO⟩, it_0 h1, it_0 h2⟩, fun d hdm => ?_, q⟩
      have e' : d = s1.heap.objs.size + 4 ∨ d = s1.heap.objs.size + 2 ∨ d = s1.heap.objs.size + 3 ∨ d = s1.heap.objs.size ∨ d = s1.heap.objs.size + 1 := by simpa using hdm
      have hle : s1.heap.objs.size ≤ d := by
        rcases e' with z | z | z | z | z
        · rw [z]; exact Nat.le_add_right _ _
        · rw [z]; exact Nat.le_add_right _ _
        · rw [z]; exact Nat.le_add_right _ _
        · rw [z]; exact Nat.le_refl _
        · rw [z]; exact Nat.le_add_right _ _
      exact I1.fpOk hle (I1.hok.fresh hle)
/-- enumerate of a tuple -/
def IteT (K : PySem.W.Frag) (a : Addr) : It :=
  ⟨fun i H => ∃ (xs : List V) (x : V), SqT K H a xs ∧ xs[i]? = some x, fun i H v H' => ∃ T x, v = .ref T ∧ H T = none ∧ H' = upd H T (.tup [.int (i : Nat), x]) ∧ ∀ xs, SqT K H a xs → xs[i]? = some x, fun i H => ∃ xs : List V, SqT K H a xs ∧ i = xs.length⟩
theorem turn_enumT {P : Program} {w : World} {K : PySem.W.Frag} {elts : List Expr} {kk : Nat} {tpos : Pos} (a e it : Addr) (na : a ≠ it) (ne : e ≠ a) :
    Turn P w K (.Tuple elts kk tpos) (IteT K a) [e, it] e (fun i h => (∃ old, IsEnum h e it ((i : Nat) : Int) old) ∧ h.IsTupleIter it a i ∧ e ≠ it) where
  mem := by simp
  obj := fun i h st b hb => by
    obtain ⟨⟨old, he⟩, ⟨o, ho, hc, hd⟩, _⟩ := st
    have e' : b = e ∨ b = it := by simpa using hb
    rcases e' with z | z
    · rw [z]; exact ⟨_, he, fun v q => nomatch q⟩
    · rw [z]; exact ⟨o, ho, fun v q => by rw [hd] at q; cases q⟩
  keep := fun i h h' st k => let ⟨⟨old, he⟩, hi, hne⟩ := st; ⟨⟨old, k e (by simp) _ he⟩, hi.at fun o q => k it (by simp) o q, hne⟩
  item := by
    intro X hP hw hK hc i pins s σ H E I hf st hg
    subst hP hw hK
    obtain ⟨⟨old, he⟩, hit, hne⟩ := st
    obtain ⟨xs, x, hq, hx⟩ := hg
    obtain ⟨its, rv, p, hz⟩ := I.tuple hq
    obtain ⟨u, hu, ru⟩ := rv.get hx
    have hel : e < s.heap.objs.size := Heap.lt_size he
    have hil : it < s.heap.objs.size := by obtain ⟨_, q, _⟩ := hit; exact Heap.lt_size q
    have l1 : i < its.length := (List.getElem?_eq_some_iff.mp hu).1
    have hh : X.A.in1.handled = none := I.ok.hd hc
    have D1 := Draws.tuple (prog := X.prog) (w := X.w) (A := X.A.in1) hh it a na its.toArray
    refine wpAny_pyNext_enum_itemC D1 he ⟨hit, (show s.heap.IsTuple a its.toArray from p)⟩ (by simpa using l1) hne (by simp; exact ⟨hne, ne⟩) fun x1 h' tk q1 ho st' hT hsz hk => ?_
    have e1 : x1 = u := by rw [show its.toArray[i]? = some u by simpa using hu] at q1; exact (Option.some.inj q1).symm
    subst e1
    refine ⟨_, rfl, wpAny_letOwnedTupleGo_enum (s := { s with heap := h', toks := tk + 1 }) ho fun h'' he' sb => ?_⟩
    have hT2 : h''.get? s.heap.objs.size = some { cls := .type "tuple", data := .seq #[.int i tk, x1] } := (sb.2 _ (Nat.ne_of_gt hel)).trans hT
    have new : ObjOk X.prog X.w (upd H s.heap.objs.size (.tup [.int (i : Nat), x])) h'' s.heap.objs.size (.tup [.int (i : Nat), x]) :=
      ⟨by show 2 ≤ sizeLine; decide, [.int i tk, x1], .cons ⟨_, rfl⟩ (.cons ru .nil), ⟨_, hT2, rfl, _, rfl⟩⟩
    have I1 : Inv X pins σ (upd H s.heap.objs.size (.tup [.int (i : Nat), x])) { s with heap := h'', toks := tk + 1 } :=
      I.turnedNew (ch := [e, it]) (fun b ob hb q => (sb.2 b (fun z => hb (by simp [z]))).trans (hk b ob (fun z => hb (by simp [z])) (fun z => hb (by simp [z])) q)) hf (Nat.le_refl _) new
    refine ⟨.ref s.heap.objs.size, _, I1, rfl, ⟨_, x, rfl, I.hok.fresh (Nat.le_refl _), rfl, fun ys hy => by rw [I.tuple_inj hy hq]; exact hx⟩, ⟨⟨x1, ?_⟩, st'.1.at fun o q => (sb.2 it (Ne.symm hne)).trans q, hne⟩, fun b hb => ?_⟩
    · have e1 : ((i + 1 : Nat) : Int) = (i : Int) + 1 := by omega
      rw [e1]; exact he'
    · have hb' : b < s.heap.objs.size := by
        have e' : b = e ∨ b = it := by simpa using hb
        rcases e' with z | z
        · rw [z]; exact hel
        · rw [z]; exact hil
      rw [upd_ne (Nat.ne_of_lt hb')]
      exact (hf b hb).1
  done := by
    intro X hP hw hK hc i pins s σ H E I hf st hg
    subst hP hw hK
    obtain ⟨⟨old, he⟩, hit, hne⟩ := st
    obtain ⟨xs, hq, hx⟩ := hg
    obtain ⟨its, rv, p, hz⟩ := I.tuple hq
    obtain ⟨f0, f1, f2, f3, f4, f5⟩ := hf it (by simp)
    have hl := rv.length
    have hh : X.A.in1.handled = none := I.ok.hd hc
    have D1 := Draws.tuple (prog := X.prog) (w := X.w) (A := X.A.in1) hh it a na its.toArray
    have ei : i = its.toArray.size := by rw [List.size_toArray]; omega
    subst ei
    exact wpAny_pyNext_enum_endD D1 he ⟨hit, (show s.heap.IsTuple a its.toArray from p)⟩ fun h' eb => ⟨rfl, I.turned (t' := s.toks) (fun b o hb q => eb b o hb q) f0 f1 f3 f4 f5⟩
  self := fun A i s Q E st h => let ⟨⟨_, he⟩, _⟩ := st; wpAny_pyIter_enum he h
def iEnumT (K : PySem.W.Frag) (ta : TA) : TI := fun σ H R => ta σ H fun vs H1 => ∃ a xs, vs = [.ref a] ∧ SqT K H1 a xs ∧ R (IteT K a) H1
theorem pi_enumT {X : Cx} {e : Expr} {ta : TA} {p pos tpos : Pos} {elts : List Expr} {kk : Nat} (hg : Gl X "enumerate") (hm : X.mg "enumerate" = none) (ha : PA X [e] ta) (hs : starEach [e] X.env = [(false, eval e X.env)] := by rfl) :
    PI X (.Tuple elts kk tpos) (.Call (.Name "enumerate" p) [e] [] pos) (iEnumT X.K ta) := by
  refine ⟨fun pins s σ H R I h => ?_⟩
  refine Call_ (ld_blt I hg hm boot_enumerate (PyProof.Rows.callWith_type1 (thn (ha.run pos pins s σ H _ I h) fun us s1 ⟨vs, H1, I1, r1, q1⟩ => ?_) hs rfl))
  obtain ⟨a, xs, ex, hq, q⟩ := q1
  subst ex
  cases r1 with
  | cons r rr =>
    cases rr
    cases r
    obtain ⟨its, rv, p', hz⟩ := I1.tuple hq
    obtain ⟨o, ho, _⟩ := id p'
    have la : a < s1.heap.objs.size := Heap.lt_size ho
    refine call_enumerate_tuple (show s1.heap.IsTuple a its.toArray from p') fun h' he hit hsz hk => wpAny_pyIter_enum he ?_
    have I2 : Inv X pins σ H1 { s1 with heap := h' } := I1.kept (t' := s1.toks) hk
    refine ⟨s1.heap.objs.size + 1, [s1.heap.objs.size + 1, s1.heap.objs.size], _, _, H1, rfl, I2, turn_enumT a (s1.heap.objs.size + 1) s1.heap.objs.size (Nat.ne_of_lt la) (Nat.ne_of_gt (Nat.lt_succ_of_lt la)), ⟨⟨.none, he⟩, hit, Nat.succ_ne_self _⟩, fun b hb => ?_, q⟩
    have e' : b = s1.heap.objs.size + 1 ∨ b = s1.heap.objs.size := by simpa using hb
    have hle : s1.heap.objs.size ≤ b := by
      rcases e' with z | z
      · rw [z]; exact Nat.le_add_right _ _
      · rw [z]; exact Nat.le_refl _
    exact I1.fpOk hle (I1.hok.fresh hle)
section
variable {X : Cx} {e a b c : Expr} {es : List Expr} {t ta tb tc te : TE} {tr : TA} {G : List SV} {α β γ τ ρ O S R : Type} {pos p : Pos} {n : Str} {tg : Expr}
/-- what is walked at each turn, a list or a tuple -/
def rdK [Rq α] (k : Bool) (K : PySem.W.Frag) (C : List SV → L2.St → L2.St → Prop) (t : TE) (G : List SV) (m : Option (List α)) : Prop :=
  ∀ (B : Bk) (Hi : Hp) (T : List SV) (tv s : L2.St) (H : Hp) (Q : VK) (xs : List α), m = some xs → tv.length = T.length → SatG B Hi (T ++ G) (tv ++ s) H →
    (∀ a T' tv' Hi' H', tv'.length = T'.length → SatG B Hi' (T' ++ G) (tv' ++ s) H' → xs.length ≤ sizeLine →
      (∀ G2 s2 Hi2 H2, SatG B Hi2 (T' ++ G2) (tv' ++ s2) H2 → SatG B Hi2 (T ++ G2) (tv ++ s2) H2) →
      (∀ G2 s2 Hi2 H2, C G2 s s2 → SatG B Hi2 (T' ++ G2) (tv' ++ s2) H2 → ∃ vs, SqK k K H2 a vs ∧ Paired (rq Hi2) xs vs) → Q (.ref a) H') → t s H Q
structure KJ [Rq α] (k : Bool) (C : List SV → L2.St → L2.St → Prop) (X : Cx) (e : Expr) (t : TE) (G : List SV) (m : Option (List α)) : Prop where
  pe : PE X e t
  ev : rdK k X.K C t G m
  c : ∀ s, C G s s
theorem kj_r [Rq α] {C} {m : Option (List α)} (h : RJ C X e t G m) : KJ false C X e t G m := ⟨h.pe, fun B Hi T tv s H Q xs hx hl hs k => h.ev B Hi T tv s H Q xs hx hl hs fun a T' tv' Hi' H' l' s' hz hT hw _ => k a T' tv' Hi' H' l' s' hz hT hw, h.c⟩
theorem kj_t [Rq α] {m : Option (Tp α)} (h : EJ X e t G m) : KJ true C0 X e t G (m.bind fun x => some x.l) := ⟨h.pe, fun B Hi T tv s H Q xs hx hl hs k => by
  obtain ⟨x, e1, e2⟩ := bind_some hx
  cases e2
  refine h.ev B Hi T tv s H _ x e1 hl hs fun v Hi1 H1 s1 r1 => ?_
  obtain ⟨a, vs, h1, h2, h3, h4⟩ := id r1
  subst h1
  refine k a (fz x :: T) (some (.ref a) :: tv) Hi1 H1 (by simp [hl]) ⟨⟨_, rfl, r1⟩, s1⟩ (by rw [Paired.length h4]; exact h3) (fun G2 s2 Hi2 H2 z => z.2) (fun G2 s2 Hi2 H2 _ z => ?_)
  obtain ⟨⟨v', e1, a', us, g1, g2, g3, g4⟩, z2⟩ := z
  cases e1; cases g1
  exact ⟨us, SqT.of (z2.sub _ _ g2), g4⟩, fun _ => trivial⟩
theorem ij_zipk [Rq α] [Rq β] {k1 k2 : Bool} {C C'} {m1 : Option (List α)} {m2 : Option (List β)} {p1 tpos : Pos} {elts : List Expr} {kk : Nat} {e2 : Expr} {t2 : TE} (h : KJ k1 C X e t G m1) (h' : KJ k2 C' X e2 t2 G m2) (hm : X.mg "zip" = none) (hg : Gl X "zip" := by rfl) (na : starEach [e, e2] X.env = (false, eval e X.env) :: starEach [e2] X.env := by rfl) (nb : starEach [e2] X.env = (false, eval e2 X.env) :: starEach [] X.env := by rfl)
    (hpl : (backTo pos (starEach [e2] X.env)).any (·.1) = false := by rfl) :
    IJ (fun G2 s s2 => C G2 s s2 ∧ C' G2 s s2) X (.Tuple elts kk tpos) (.Call (.Name "zip" p1) [e, e2] [] pos) (iZipk k1 k2 X.K (tCons t (tCons t2 tNil))) G (m1.bind fun x => m2.bind fun y => some (x.zip y)) := ⟨pi_zipk k1 k2 hg hm (pa_cons h.pe (pa_cons h'.pe pa_nil nb) na) na hpl, fun B Hi T tv s H R zs hx hl hs k => by
  obtain ⟨xs, e1, hx⟩ := bind_some hx
  obtain ⟨ys, e2, e3⟩ := bind_some hx
  cases e3
  refine h.ev B Hi T tv s H _ xs e1 hl hs fun a T' tv' Hi1 H1 l1 s1 hz hT hw => ?_
  refine h'.ev B Hi1 T' tv' s H1 _ ys e2 l1 s1 fun b T'' tv'' Hi2 H2 l2 s2 hz2 hT2 hw2 => ?_
  obtain ⟨us, gq2, pr2⟩ := hw2 G s Hi2 H2 (h'.c s) s2
  obtain ⟨vs, gq, pr⟩ := hw G s Hi2 H2 (h.c s) (hT2 G s Hi2 H2 s2)
  refine ⟨a, b, vs, us, rfl, gq, gq2, k _ T'' tv'' Hi2 H2 l2 s2 (by rw [List.length_zip]; omega) (fun G2 s2 Hi2 H2 z => hT _ _ _ _ (hT2 _ _ _ _ z)) fun F fv G3 s3 Hi3 H3 lf c z => ?_⟩
  obtain ⟨us, gq2, pr2⟩ := hw2 G3 s3 Hi3 H3 c.2 (z.dropF lf)
  obtain ⟨vs, gq, pr⟩ := hw G3 s3 Hi3 H3 c.1 (hT2 _ _ _ _ (z.dropF lf))
  refine ⟨⟨vs, us, gq, gq2, by rw [List.length_zip, Paired.length pr, Paired.length pr2]⟩, fun i x hi => ?_⟩
  obtain ⟨f1, f2⟩ := zip_get hi
  obtain ⟨u, hu, ru⟩ := Paired.get pr f1
  obtain ⟨w, hw', rw'⟩ := Paired.get pr2 f2
  refine ⟨⟨vs, us, u, w, gq, gq2, hu, hw'⟩, fun v H4 y => ?_⟩
  obtain ⟨q, u', w', y1, y2, y3, y4, y5⟩ := y
  have e3 := y4 vs gq
  rw [hu] at e3
  cases e3
  have e4 := y5 us gq2
  rw [hw'] at e4
  cases e4
  subst y1 y3
  exact sat_pair z y2 ru rw', fun s => ⟨h.c s, h'.c s⟩⟩
theorem ij_enumT [Rq α] {C} {m : Option (List α)} {p1 tpos : Pos} {elts : List Expr} {kk : Nat} (h : KJ true C X e t G m) (hm : X.mg "enumerate" = none) (hg : Gl X "enumerate" := by rfl) (na : starEach [e] X.env = (false, eval e X.env) :: starEach [] X.env := by rfl) (hs : starEach [e] X.env = [(false, eval e X.env)] := by rfl) :
    IJ C X (.Tuple elts kk tpos) (.Call (.Name "enumerate" p1) [e] [] pos) (iEnumT X.K (tCons t tNil)) G (m.bind fun x => some (enumL x)) := ⟨pi_enumT hg hm (pa_cons h.pe pa_nil na) hs, fun B Hi T tv s H R zs hx hl hs k => by
  obtain ⟨xs, e1, e2⟩ := bind_some hx
  cases e2
  refine h.ev B Hi T tv s H _ xs e1 hl hs fun a T' tv' Hi1 H1 l1 s1 hz hT hw => ?_
  obtain ⟨vs, gq, pr⟩ := hw G s Hi1 H1 (h.c s) s1
  refine ⟨a, vs, rfl, gq, k _ T' tv' Hi1 H1 l1 s1 (by rw [enumL_len]; exact hz) hT fun F fv G2 s2 Hi2 H2 lf c z => ?_⟩
  obtain ⟨us, gq2, pr2⟩ := hw G2 s2 Hi2 H2 c (z.dropF lf)
  refine ⟨⟨us, gq2, by rw [enumL_len, Paired.length pr2]⟩, fun i x hi => ?_⟩
  obtain ⟨f1, f2⟩ := enumL_get hi
  obtain ⟨u, hu, ru⟩ := Paired.get pr2 f1
  refine ⟨⟨us, u, gq2, hu⟩, fun v H3 y => ?_⟩
  obtain ⟨q, u', y1, y2, y3, y4⟩ := y
  have e3 := y4 us gq2
  rw [hu] at e3
  cases e3
  subst y1 y3
  exact sat_pair z y2 (by rw [f2]; rfl) ru, h.c⟩
/-- for x in a tuple -/
theorem ij_tupK [Rq α] {C} {m : Option (List α)} (h : KJ true C X e t G m) : IJ C X tg e (iTup X.K t) G m := ⟨pi_tup h.pe, fun B Hi T tv s H R xs hx hl hs k => by
  refine h.ev B Hi T tv s H _ xs hx hl hs fun a T' tv' Hi1 H1 l1 s1 hz hT hw => ?_
  obtain ⟨vs, gq, pr⟩ := hw G s Hi1 H1 (h.c s) s1
  refine ⟨a, rfl, ⟨vs, gq⟩, k _ T' tv' Hi1 H1 l1 s1 hz hT fun F fv G2 s2 Hi2 H2 lf c z => ?_⟩
  obtain ⟨us, hq2, pr⟩ := hw G2 s2 Hi2 H2 c (z.dropF lf)
  refine ⟨⟨us, hq2, by rw [Paired.length pr]; exact Nat.le_refl _⟩, fun i x hi => ?_⟩
  obtain ⟨u, hu, ru⟩ := Paired.get pr hi
  refine ⟨⟨us, u, hq2, hu⟩, fun v H3 y => ?_⟩
  obtain ⟨y1, y2⟩ := y
  subst y1
  have e3 := y2 us hq2
  rw [hu] at e3
  cases e3
  exact ⟨Hi2, z, ru⟩, h.c⟩
/-- t + u, tuples -/
def catTC {α : Type} (x y : Tp α) : Option (Tp α) := if x.l.length + y.l.length ≤ sizeLine then some ⟨x.l ++ y.l⟩ else none
theorem paired_app {F : α → β → Prop} : ∀ {xs : List α} {ys : List β} {zs : List α} {ws : List β}, Paired F xs ys → Paired F zs ws → Paired F (xs ++ zs) (ys ++ ws)
  | _, _, _, _, .nil, h => h
  | _, _, _, _, .cons r t, h => .cons r (paired_app t h)
theorem ej_catT [Rq α] {m1 m2 : Option (Tp α)} (ha : EJ X a ta G m1) (hb : EJ X b tb G m2) : EJ X (.BinOp a .Add b pos) (tOp (rCatA X.K) ta tb) G (m1.bind fun x => m2.bind fun y => catTC x y) := ⟨pe_op op_catA ha.pe hb.pe, fun B Hi T tv s H Q z hx hl hs k => by
  obtain ⟨x, e1, hx⟩ := bind_some hx
  obtain ⟨y, e2, e3⟩ := bind_some hx
  unfold catTC at e3
  by_cases hz : x.l.length + y.l.length ≤ sizeLine
  · rw [if_pos hz] at e3
    cases e3
    refine ha.ev B Hi T tv s H _ x e1 hl hs fun v Hi1 H1 s1 r1 => ?_
    refine hb.ev B Hi1 (fz x :: T) (some v :: tv) s H1 _ y e2 (by simp [hl]) ⟨⟨v, rfl, r1⟩, s1⟩ fun v2 Hi2 H2 s2 r2 => ?_
    obtain ⟨⟨v', e4, r1'⟩, s2⟩ := s2
    cases e4
    obtain ⟨q, vs, h1, h2, h3, h4⟩ := id r1'
    obtain ⟨q', us, g1, g2, g3, g4⟩ := id r2
    have l1 := Paired.length h4
    have l2 := Paired.length g4
    refine ⟨q, q', vs, us, h1, g1, SqT.of (s2.sub _ _ h2), SqT.of (s2.sub _ _ g2), by omega, fun n => ?_, fun _ n => ?_, fun _ _ p hp => ?_⟩
    · have n0 : vs.length = 0 := by rw [n]; rfl
      have e : x.l = [] := List.length_eq_zero_iff.mp (by omega)
      rw [← g1]
      exact k _ _ H2 s2 (by rw [e]; exact r2)
    · have n0 : us.length = 0 := by rw [n]; rfl
      have e : y.l = [] := List.length_eq_zero_iff.mp (by omega)
      rw [← h1]
      exact k _ _ H2 s2 (by rw [e, List.append_nil]; exact r1')
    · obtain ⟨s3, sm⟩ := sat_tup (vs := vs ++ us) s2 hp
      exact k _ _ _ s3 ⟨p, vs ++ us, rfl, upd_same, by rw [List.length_append]; omega, Paired.mono (paired_app h4 g4) fun _ _ => Rq.mono sm⟩
  · rw [if_neg hz] at e3
    cases e3⟩
end
end GM
namespace GM
open PySem PySem.Spec PyProof.Rows L2
/-! ### an instance of one of several classes -/
def tEi (t u : TE) : TE := fun σ H Q => t σ H Q ∨ u σ H Q
section
variable {X : Cx} {e : Expr} {t u : TE} {G : List SV} {α β : Type}
theorem pe_ei (h : PE X e t) (h' : PE X e u) : PE X e (tEi t u) := ⟨fun pins s σ H Q I q => by
  rcases q with q | q
  · exact h.run pins s σ H Q I q
  · exact h'.run pins s σ H Q I q⟩
theorem or_some {α : Type} {a b : Option α} {x : α} (h : a.or b = some x) : a = some x ∨ b = some x := by
  cases a with
  | none => exact .inr h
  | some y => exact .inl h
theorem ej_ei [Rq α] {m m' : Option α} (h : EJ X e t G m) (h' : EJ X e u G m') : EJ X e (tEi t u) G (m.or m') := ⟨pe_ei h.pe h'.pe, fun B Hi T tv s H Q x hx hl hs k => by
  rcases or_some hx with q | q
  · exact .inl (h.ev B Hi T tv s H Q x q hl hs k)
  · exact .inr (h'.ev B Hi T tv s H Q x q hl hs k)⟩
theorem oj_ei [Rq α] {m m' : Option (List α)} (h : OJ X e t G m) (h' : OJ X e u G m') : OJ X e (tEi t u) G (m.or m') := ⟨pe_ei h.pe h'.pe, fun B Hi T tv s H Q x hx hl hs k => by
  rcases or_some hx with q | q
  · exact .inl (h.ev B Hi T tv s H Q x q hl hs k)
  · exact .inr (h'.ev B Hi T tv s H Q x q hl hs k)⟩
theorem ej_inU [Rq α] [Rq β] {f : α → β} {m : Option α} (h : ∀ {H x v}, rq H x v → rq H (f x) v) (he : EJ X e t G m) : EJ X e t G (m.bind fun x => some (f x)) := ⟨he.pe, fun B Hi T tv s H Q x hx hl hs k => by
  obtain ⟨y, e1, e2⟩ := bind_some hx
  cases e2
  exact he.ev B Hi T tv s H Q y e1 hl hs fun v Hi1 H1 s1 r1 => k v Hi1 H1 s1 (h r1)⟩
theorem ej_as [Rq α] [Rq β] {g : α → Option β} {m : Option α} (h : ∀ {x y H v}, g x = some y → rq H x v → rq H y v) (he : EJ X e t G m) : EJ X e t G (m.bind g) := ⟨he.pe, fun B Hi T tv s H Q x hx hl hs k => by
  obtain ⟨y, e1, e2⟩ := bind_some hx
  exact he.ev B Hi T tv s H Q y e1 hl hs fun v Hi1 H1 s1 r1 => k v Hi1 H1 s1 (h e2 r1)⟩
end
/-! ### a class that refuses -/
def tMakeS (C : Addr) (sp : Sp) (E : L2.St → XK) (t : TA) : TE := fun σ H Q => t σ H fun vs H1 => ∀ x dx, H1 x = none → H1 dx = none → dx ≠ x →
  sp (.ref x :: vs) (upd (upd H1 dx (.own x)) x (.ins C dx [])) (fun v H2 => v = .non ∧ Q (.ref x) H2) (E σ)
section
variable {X : Cx} {CX : CXT} {k : Nat} {f C : Addr} {fd : FuncData} {ps : List Str} {sp : Sp} {E : L2.St → XK} {x : Str} {p pos : Pos} {e : Expr} {es : List Expr} {t : TA}
theorem run_makeS {pins : List (Addr × Obj)} {σ : L2.St} {H : Hp} {s : Shared} {Q : VK} {us : List Value} {vs : List V} (M : Mk X.K C f) (F : FnOk X.prog X.w X.K X.mg X.base CX k f fd ps sp) (hr : Room (k + 1) X.A) (hb : Binds X.K fd ps []) (hx : PassesAt CX X σ (E σ)) (I : L2.Inv X pins σ H s) (r : Vals vs us)
    (h : ∀ x dx, H x = none → H dx = none → dx ≠ x → sp (.ref x :: vs) (upd (upd H dx (.own x)) x (.ins C dx [])) (fun v H2 => v = .non ∧ Q (.ref x) H2) (E σ)) :
    wpAny (model X.prog X.w) X.A (call (.ref C) us) (EP X pins σ Q) X.xe s := by
  have hq := h (s.heap.objs.size + 1) s.heap.objs.size (I.hok.fresh (Nat.le_succ _)) (I.hok.fresh (Nat.le_refl _)) (Nat.ne_of_lt (Nat.lt_succ_self _))
  have I2 := Inv.made (C := C) I
  have r2 : Vals (V.ref (s.heap.objs.size + 1) :: vs) (Value.ref (s.heap.objs.size + 1) :: us) := .cons rfl r
  have hl : (Value.ref (s.heap.objs.size + 1) :: us ++ []).length = ps.length := by
    have e := r2.length
    rw [F.len _ _ _ _ hq] at e
    rw [List.append_nil]
    exact e.symm
  have hbb := hb _ (Value.ref (s.heap.objs.size + 1) :: us) I2.kIn hl
  rw [List.append_nil] at hbb
  refine wpAny_call (make_map (f := f) I.kIn M.makes M.init (beq_iff_eq.mp M.fn) (codeAny_mono (F.run _ X.stack _ _ ⟨Value.ref (s.heap.objs.size + 1) :: us, []⟩ (Value.ref (s.heap.objs.size + 1) :: us) _ _ (E σ) (hr.make C us [])
    (I2.env0.make C us []) hbb r2 hq) fun r s' hq' => ?_))
  cases r with
  | error e => exact hx pins _ _ e s' I2 hq'
  | ok fl =>
    cases fl with
    | ret u =>
      obtain ⟨v, H', I3, rv, ev, q3⟩ := I2.after hq'
      subst ev
      exact ⟨rv, ⟨V.ref (s.heap.objs.size + 1), H', I3, rfl, q3⟩⟩
    | next => exact False.elim hq'
    | brk => exact False.elim hq'
    | cont => exact False.elim hq'
theorem pe_makeS (M : Mk X.K C f) (F : FnOk X.prog X.w X.K X.mg X.base CX k f fd ps sp) (hr : Room (k + 1) X.A) (hg : Gl X x) (hm : X.mg x = some (.ref C)) (hb : Binds X.K fd ps []) (hx : ∀ σ, PassesAt CX X σ (E σ))
    (ha : PA X (e :: es) t) (hdb : (x == ("__debug__" : Str)) = false := by decide) (he : starEach (e :: es) X.env = (false, eval e X.env) :: starEach es X.env := by rfl) (hpl : (backTo pos (starEach es X.env)).any (·.1) = false := by rfl) :
    PE X (.Call (.Name x p) (e :: es) [] pos) (tMakeS C sp E t) := by
  refine ⟨fun pins s σ H Q I h => ?_⟩
  refine wpAny_Call_Name_kw (ld_glob I hg hm ?_ hdb)
  refine PySem.W.callWith_K (h₀ := X.base) I.ok.mod.kin M.kp (thn (ha.run pos pins s σ H _ I h) fun us s1 ⟨vs, H1, I1, r, q⟩ => ⟨I1.kIn, ?_⟩) he hpl
  exact run_makeS M F hr hb (hx σ) I1 r q
end
def SpX0N {τ : Type} [RpL τ] (C : Addr) (cls : Value) (F : τ → Option Unit) : Sp := fun vs H _ E => ∃ (a dx : Addr) (us : List V) (Ha : Hp) (x : τ), vs = .ref a :: us ∧ H a = some (.ins C dx []) ∧ Same Ha (del H a) ∧ RpL.reps Ha x us ∧ F x = some () ∧ ∀ H', Same (del H a) H' → E cls none H'
def SpX1N {τ : Type} [RpL τ] (C : Addr) (cls : Value) (f : Str) (F : τ → Option Int) : Sp := fun vs H _ E => ∃ (a dx : Addr) (us : List V) (Ha : Hp) (x : τ) (r : Int), vs = .ref a :: us ∧ H a = some (.ins C dx []) ∧ Same Ha (del H a) ∧ RpL.reps Ha x us ∧ F x = some r ∧ ∀ d H', Same (del H a) H' → del H a d = none → H' d = some (.xd [(f, .int r)]) → E cls (some d) H'
structure MakXX (X : Cx) (C : Addr) (sp : Sp) : Prop where
  ok : ∃ (k : Nat) (f : Addr) (fd : FuncData) (ps : List Str), FnOk X.prog X.w X.K X.mg X.base (L2.CX X.prog X.w) k f fd ps sp ∧ Room (k + 1) X.A ∧ Mk X.K C f ∧ Binds X.K fd ps []
structure CalNX (P : Program) (w : World) (K : PySem.W.Frag) (mg : Str → Option Value) (base : Heap) (k : Nat) (C : Addr) (sp : Sp) : Prop where
  ok : ∃ (f : Addr) (fd : FuncData) (ps : List Str), FnOk P w K mg base (L2.CX P w) k f fd ps sp ∧ Mk K C f ∧ Binds K fd ps []
theorem CalNX.at {X : Cx} {k : Nat} {C : Addr} {sp : Sp} (M : CalNX X.prog X.w X.K X.mg X.base k C sp) (hr : Room (k + 1) X.A) : MakXX X C sp := by
  obtain ⟨f, fd, ps, h1, h2, h3⟩ := M.ok
  exact ⟨k, f, fd, ps, h1, hr, h2, h3⟩
section
variable {P : Program} {w : World} {K : PySem.W.Frag} {mg : Str → Option Value} {base : Heap} {x qual fl : Str} {st : Stmt} {f C : Addr} {fd : FuncData} {N ps : List Str} {k : Nat} {τ ρ : Type} {cls : Value}
theorem sat_self [RpL τ] {H Ha : Hp} {a dx : Addr} {us : List V} {z : τ} (h1 : H a = some (.ins C dx [])) (h2 : Same Ha (del H a)) (h3 : RpL.reps Ha z us) :
    SatG ⟨del H a, Ha⟩ Ha (oself C a [] :: (RpL.svs z ++ List.replicate (N.length - (RpL.n τ + 1)) .un)) (start N (.ref a :: us)) H := by
  have s0 : SatG ⟨del H a, Ha⟩ Ha (RpL.svs z ++ List.replicate (N.length - (RpL.n τ + 1)) .un) (us.map some ++ List.replicate (N.length - (RpL.n τ + 1)) none) (del H a) := RpL.sat h3 (sat_uns ⟨h2, Same.refl _, Same.refl Ha, fun _ _ _ => rfl⟩ _)
  have s1 : SatG ⟨del H a, Ha⟩ Ha (oself C a [] :: (RpL.svs z ++ List.replicate (N.length - (RpL.n τ + 1)) .un)) (some (.ref a) :: (us.map some ++ List.replicate (N.length - (RpL.n τ + 1)) none)) H :=
    ⟨a, one a (.ins C dx []), rfl, same_one h1, ⟨rfl, dx, [], one_same, fun b => by
      cases q : one a (HO.ins C dx []) b with
      | none => unfold del; split <;> first | rfl | exact q
      | some o => obtain ⟨rfl, _⟩ := one_is q; exact del_same⟩, by rw [minus_one]; exact s0⟩
  have st0 : start N (.ref a :: us) = some (.ref a) :: (us.map some ++ List.replicate (N.length - (RpL.n τ + 1)) none) := by
    unfold L2.start
    rw [List.map_cons, List.cons_append, List.length_cons, RpL.len h3]
  rw [st0]; exact s1
theorem fun_X0N [RpL τ] {F : τ → Option Unit} (Fn : Fun K x qual st f fd) (S : FnScope N ps (defScope st)) (hn : RpL.n τ + 1 = ps.length)
    (body : ∀ (cdv : Value) (A : Around) (outer : List Env) (s : Shared) (H : Hp) (E : XK), Room k (A.deeper (envOfC qual (defScope st) s.heap.objs.size f cdv)) →
      ∀ (a : Addr) (z : τ), ∃ t m, BJ (cxOf (L2.CX P w) P w K mg base N qual (defScope st) f cdv A outer s H E) (defBody st) t (oself C a [] :: (RpL.svs z ++ List.replicate (N.length - (RpL.n τ + 1)) .un)) m (PX0 cls E) ∧ m = F z)
    (hm : Mk K C f) (hb : Binds K fd ps []) : CalNX P w K mg base (k + 1) C (SpX0N C cls F) := by
  refine ⟨f, fd, ps, Fn.okX S (fun vs H Q E h => ?_) (fun cdv A outer s H vs Q E hr h => ?_), hm, hb⟩
  · obtain ⟨a, dx, us, Ha, z, rfl, h1, h2, h3, _⟩ := h
    rw [List.length_cons, RpL.len h3, hn]
  · obtain ⟨a, dx, us, Ha, z, rfl, h1, h2, h3, h4, h5⟩ := h
    obtain ⟨t, m, b, e⟩ := body cdv A outer s H E hr a z
    subst e
    exact ⟨t, b.ps, b.ev ⟨del H a, Ha⟩ Ha [] [] (start N (.ref a :: us)) H _ () h4 rfl (sat_self h1 h2 h3) fun Hi H' q => h5 H' q.2.1⟩
theorem fun_X1N [RpL τ] {F : τ → Option Int} (Fn : Fun K x qual st f fd) (S : FnScope N ps (defScope st)) (hn : RpL.n τ + 1 = ps.length)
    (body : ∀ (cdv : Value) (A : Around) (outer : List Env) (s : Shared) (H : Hp) (E : XK), Room k (A.deeper (envOfC qual (defScope st) s.heap.objs.size f cdv)) →
      ∀ (a : Addr) (z : τ), ∃ t m, BJ (cxOf (L2.CX P w) P w K mg base N qual (defScope st) f cdv A outer s H E) (defBody st) t (oself C a [] :: (RpL.svs z ++ List.replicate (N.length - (RpL.n τ + 1)) .un)) m (PX1 cls fl E) ∧ m = F z)
    (hm : Mk K C f) (hb : Binds K fd ps []) : CalNX P w K mg base (k + 1) C (SpX1N C cls fl F) := by
  refine ⟨f, fd, ps, Fn.okX S (fun vs H Q E h => ?_) (fun cdv A outer s H vs Q E hr h => ?_), hm, hb⟩
  · obtain ⟨a, dx, us, Ha, z, r, rfl, h1, h2, h3, _⟩ := h
    rw [List.length_cons, RpL.len h3, hn]
  · obtain ⟨a, dx, us, Ha, z, r, rfl, h1, h2, h3, h4, h5⟩ := h
    obtain ⟨t, m, b, e⟩ := body cdv A outer s H E hr a z
    subst e
    exact ⟨t, b.ps, b.ev ⟨del H a, Ha⟩ Ha [] [] (start N (.ref a :: us)) H _ r h4 rfl (sat_self h1 h2 h3) fun d Hi H' q q0 q1 => h5 d H' q.2.1 q0 q1⟩
end
section
variable {X : Cx} {e a b c : Expr} {es : List Expr} {t ta tb : TE} {tr : TA} {G : List SV} {τ α β O ρ : Type} {pos pos1 pos2 pos3 pos' p p4 p5 npp : Pos} {n x nE nC fl : Str} {j : Nat} {rest : List Stmt} {u : TS} {P : Post O} {c0 C : Addr} {cH : Value}
/-- try: C(..) except x as nE: nC = nE -/
theorem bj_tryKeepN [RpL τ] {F : τ → Option Unit} {m1 : Option τ} {m2 : Option O} (hN : X.N.Nodup) (i j : Nat) (Cg : MakXX X C (SpX0N C (.ref c0) F)) (hm : X.mg n = some (.ref C)) (hx : PySem.W.exmOne X.K (.ref c0) cH = some true) (hc : Names X x cH)
    (ha : ∀ (pn : List (Addr × Obj)) (xe : Value → Shared → Prop), AJ (X.tr pn xe) (e :: es) tr G m1) (hr : BJ X rest u (((G.set i .un).set j (sx0 (.ref c0))).set i .un) m2 P)
    (hi : X.N[i]? = some nE := by rfl) (hj : X.N[j]? = some nC := by rfl) (hGi : G[i]? = some .un := by rfl) (hln : X.env.kindOf nE = some .local := by rfl) (hLj : Loc X.env.scope nC := by first | exact Or.inl rfl | exact Or.inr rfl) (hvi : Vis X.env.scope nE := by first | exact Or.inl rfl | exact Or.inr (Or.inl rfl) | exact Or.inr (Or.inr rfl))
    (hd : (nE == ("__debug__" : Str)) = false := by decide) (hcd : (nE == ("__classdict__" : Str)) = false := by decide)
    (hs : X.stack = X.env :: X.outer := by rfl) (hf : X.env.frame = some X.env.locals := by rfl) (hex : X.ex = [] := by rfl) (hfj : X.fn nC = true ∨ X.env.scope.names.lookup nC = some .local := by first | exact .inl rfl | exact .inr rfl | assumption)
    (hg : Gl X n := by rfl) (hdb : (n == ("__debug__" : Str)) = false := by decide) (he : starEach (e :: es) X.env = (false, eval e X.env) :: starEach es X.env := by rfl) (hpl : (backTo pos1 (starEach es X.env)).any (·.1) = false := by rfl)
    (hsw : swapsWith (.Call (.Name n p) (e :: es) [] pos1) none pos2.line X.env = pure false := by rfl) (hsw2 : swapsWith (.Name nE p5) (some (.Name nC p4)) pos3.line X.env = pure false := by rfl) :
    BJ X (.Try [.Expr (.Call (.Name n p) (e :: es) [] pos1) pos2] [.ExceptHandler (some (.Name x npp)) (some nE) [.Assign [.Name nC p4] (.Name nE p5) pos3] pos'] [] [] pos :: rest)
      (tSeq (fun D σ H => (fun W : WX => tSeq (tDrop (tMakeS C (SpX0N C (.ref c0) F) (WE W) tr)) tNext) (wKeep X.K cH i (fun _ _ _ => tSeq (tAsg (tVar i) (gName j)) tNext) D) noEnds σ H) u) G (m1.bind fun z => (F z).bind fun _ => m2) P := by
  obtain ⟨k, f, fd, ps, Fk, hrm, hk, hb⟩ := Cg.ok
  refine ⟨pss_cons (ps_try_keep hs hf hN hi hln hc hex (fun W pn xe tk _ => pss_cons (ps_expr (pe_makeS (X := X.tr pn xe) hk Fk hrm hg hm hb (fun σ => passAt tk σ) (ha pn xe).pa hdb he hpl) hsw) pss_nil) (fun a oe cls d pn _ _ => pss_cons (ps_set (X := X.suite a ((a, oe) :: pn)) hN hj hLj (pe_var hi hvi hd hcd) hsw2 hfj) pss_nil)) hr.ps, fun B Hi T tv s H D o hx1 hl hsat k2 => ?_⟩
  obtain ⟨z, e1, hx1⟩ := bind_some hx1
  obtain ⟨⟨⟩, e2, e3⟩ := bind_some hx1
  refine (ha [] (fun _ _ => False)).ev B Hi T tv s H _ z e1 hl hsat fun vs Hi1 H1 s1 r1 => ?_
  intro a0 dx ha1 hd1 hne
  have hdel := mk_dx (u := .ins C dx []) (w := .own a0) ha1 hne
  have up : Same H1 (upd H1 dx (.own a0)) := fun b o h => by rw [upd_ne (ne_of_none h hd1)]; exact h
  refine ⟨a0, dx, vs, Hi1, z, rfl, upd_same, by rw [hdel]; exact s1.sub.trans up, r1, e2, fun H' sm => ⟨hx, fun a na => ?_⟩⟩
  rw [hdel] at sm
  have sm := up.trans sm
  have ls : i < s.length := by
    have h1 := hsat.len
    rw [List.length_append, List.length_append] at h1
    have h2 : i < G.length := (List.getElem?_eq_some_iff.mp hGi).1
    omega
  refine ⟨.ref a, by rw [List.getElem?_set_self ls], ?_⟩
  have g1 := (s1.grow sm).newF (p := a) (u := ExQ (.ref c0) none a) na
  have g2 := sat_unsetT (i := i) (o := some (.ref a)) hl g1
  have g3 : SatG B (upd (join Hi1 H1 H') a (ExQ (.ref c0) none a)) (sx0 (.ref c0) :: (T ++ G.set i .un)) (some (.ref a) :: (tv ++ s.set i (some (.ref a)))) (upd H' a (ExQ (.ref c0) none a)) := ⟨⟨.ref a, rfl, a, rfl, upd_same⟩, g2⟩
  have g4 := sat_unsetT (i := i) (o := none) hl (g3.putT (i := j) hl)
  exact hr.ev B _ T tv _ _ D o e3 hl g4 k2
theorem bj_tryKeep1N [RpL τ] {F : τ → Option Int} {m1 : Option τ} {m2 : Int → Option O} (hN : X.N.Nodup) (i j : Nat) (Cg : MakXX X C (SpX1N C (.ref c0) fl F)) (hm : X.mg n = some (.ref C)) (hx : PySem.W.exmOne X.K (.ref c0) cH = some true) (hc : Names X x cH)
    (ha : ∀ (pn : List (Addr × Obj)) (xe : Value → Shared → Prop), AJ (X.tr pn xe) (e :: es) tr G m1) (hr : ∀ r : Int, BJ X rest u (((G.set i .un).set j (sx1 (.ref c0) fl r)).set i .un) (m2 r) P)
    (hi : X.N[i]? = some nE := by rfl) (hj : X.N[j]? = some nC := by rfl) (hGi : G[i]? = some .un := by rfl) (hln : X.env.kindOf nE = some .local := by rfl) (hLj : Loc X.env.scope nC := by first | exact Or.inl rfl | exact Or.inr rfl) (hvi : Vis X.env.scope nE := by first | exact Or.inl rfl | exact Or.inr (Or.inl rfl) | exact Or.inr (Or.inr rfl))
    (hd : (nE == ("__debug__" : Str)) = false := by decide) (hcd : (nE == ("__classdict__" : Str)) = false := by decide)
    (hs : X.stack = X.env :: X.outer := by rfl) (hf : X.env.frame = some X.env.locals := by rfl) (hex : X.ex = [] := by rfl) (hfj : X.fn nC = true ∨ X.env.scope.names.lookup nC = some .local := by first | exact .inl rfl | exact .inr rfl | assumption)
    (hg : Gl X n := by rfl) (hdb : (n == ("__debug__" : Str)) = false := by decide) (he : starEach (e :: es) X.env = (false, eval e X.env) :: starEach es X.env := by rfl) (hpl : (backTo pos1 (starEach es X.env)).any (·.1) = false := by rfl)
    (hsw : swapsWith (.Call (.Name n p) (e :: es) [] pos1) none pos2.line X.env = pure false := by rfl) (hsw2 : swapsWith (.Name nE p5) (some (.Name nC p4)) pos3.line X.env = pure false := by rfl) :
    BJ X (.Try [.Expr (.Call (.Name n p) (e :: es) [] pos1) pos2] [.ExceptHandler (some (.Name x npp)) (some nE) [.Assign [.Name nC p4] (.Name nE p5) pos3] pos'] [] [] pos :: rest)
      (tSeq (fun D σ H => (fun W : WX => tSeq (tDrop (tMakeS C (SpX1N C (.ref c0) fl F) (WE W) tr)) tNext) (wKeep X.K cH i (fun _ _ _ => tSeq (tAsg (tVar i) (gName j)) tNext) D) noEnds σ H) u) G (m1.bind fun z => (F z).bind m2) P := by
  obtain ⟨k, f, fd, ps, Fk, hrm, hk, hb⟩ := Cg.ok
  refine ⟨pss_cons (ps_try_keep hs hf hN hi hln hc hex (fun W pn xe tk _ => pss_cons (ps_expr (pe_makeS (X := X.tr pn xe) hk Fk hrm hg hm hb (fun σ => passAt tk σ) (ha pn xe).pa hdb he hpl) hsw) pss_nil) (fun a oe cls d pn _ _ => pss_cons (ps_set (X := X.suite a ((a, oe) :: pn)) hN hj hLj (pe_var hi hvi hd hcd) hsw2 hfj) pss_nil)) (hr 0).ps, fun B Hi T tv s H D o hx1 hl hsat k2 => ?_⟩
  obtain ⟨z, e1, hx1⟩ := bind_some hx1
  obtain ⟨r, e2, e3⟩ := bind_some hx1
  refine (ha [] (fun _ _ => False)).ev B Hi T tv s H _ z e1 hl hsat fun vs Hi1 H1 s1 r1 => ?_
  intro a0 dx ha1 hd1 hne
  have hdel := mk_dx (u := .ins C dx []) (w := .own a0) ha1 hne
  have up : Same H1 (upd H1 dx (.own a0)) := fun b o h => by rw [upd_ne (ne_of_none h hd1)]; exact h
  refine ⟨a0, dx, vs, Hi1, z, r, rfl, upd_same, by rw [hdel]; exact s1.sub.trans up, r1, e2, fun d H' sm nd hd' => ⟨hx, fun a na => ?_⟩⟩
  rw [hdel] at sm nd
  have nd : H1 d = none := by
    cases q : H1 d with
    | none => rfl
    | some o => rw [up _ _ q] at nd; cases nd
  have sm := up.trans sm
  have ls : i < s.length := by
    have h1 := hsat.len
    rw [List.length_append, List.length_append] at h1
    have h2 : i < G.length := (List.getElem?_eq_some_iff.mp hGi).1
    omega
  have da : d ≠ a := fun z => by rw [z, na] at hd'; cases hd'
  refine ⟨.ref a, by rw [List.getElem?_set_self ls], ?_⟩
  have g1 := (s1.grow sm).newF (p := a) (u := ExQ (.ref c0) (some d) a) na
  have g2 := sat_unsetT (i := i) (o := some (.ref a)) hl g1
  have g3 : SatG B (upd (join Hi1 H1 H') a (ExQ (.ref c0) (some d) a)) (sx1 (.ref c0) fl r :: (T ++ G.set i .un)) (some (.ref a) :: (tv ++ s.set i (some (.ref a)))) (upd H' a (ExQ (.ref c0) (some d) a)) := ⟨⟨.ref a, rfl, a, d, rfl, upd_same, by rw [upd_ne da, join_none nd]; exact hd'⟩, g2⟩
  have g4 := sat_unsetT (i := i) (o := none) hl (g3.putT (i := j) hl)
  exact (hr r).ev B _ T tv _ _ D o e3 hl g4 k2
end
end GM
namespace GM
open PySem PySem.Spec PyProof.Rows L2
namespace Mx
section
variable {prog : Program} {w : World} {A : Around} {E : Value → Shared → Prop} {s : Shared} {l : Addr} {its : List Value} {ns : List Int} {Q : Value → Shared → Prop}
theorem rawT (hh : A.handled = none) (hl : s.heap.IsTuple l its.toArray) (hi : IntsAre its ns) (d : Value)
    (h : ∀ v h' tk, (∀ b o, s.heap.get? b = some o → h'.get? b = some o) → (ns = [] → v = d) → (ns ≠ [] → ∃ M t', v = .int M t' ∧ M ∈ ns ∧ ∀ a ∈ ns, a ≤ M) → Q v { s with heap := h', toks := tk }) :
    wpAny (model prog w) A (call (.builtin "max") [.ref l] [(Str.ofString "default", d)]) Q E s := by
  obtain ⟨xs, e⟩ := hi.allInts.items
  have hn : numsOf (intItems xs).toList = ns := by rw [← e]; exact hi.numsOf
  rw [nums_intItems] at hn
  subst hn
  rw [e] at hl
  refine kmk_tree PySem.F.kind_max PySem.F.plain_max PySem.F.entry_max (argsD _ _) ?_
  show wpAny _ A.in1 (Builtin.Builtins.bindParams "max" ["key", "default"] 0 ⟨[], [(Str.ofString "default", d)]⟩ >>= _) _ _ s
  refine wpAny_bind (wpAny_of_eq (show Builtin.Builtins.bindParams "max" ["key", "default"] 0 ⟨[], [(Str.ofString "default", d)]⟩ = pure [none, some d] from rfl) ?_)
  refine wpAny_bind (wpAny_pure ?_)
  have hlt : l < s.heap.objs.size := by obtain ⟨_, e, _⟩ := hl; exact Heap.lt_size e
  have hlI : l ≠ s.heap.objs.size := Nat.ne_of_lt hlt
  refine wpAny_bind (wpAny_pyIter_tuple hl ?_)
  have st : (s.heap.push { cls := .type "tuple_iterator", data := .fields #[.ref l, .int 0 0] }).IsTupleIter s.heap.objs.size l 0 ∧ (s.heap.push { cls := .type "tuple_iterator", data := .fields #[.ref l, .int 0 0] }).IsTuple l (intItems xs) := ⟨⟨_, Heap.get?_push_size _ rfl, rfl, rfl⟩, by
    obtain ⟨o, ho, r⟩ := hl
    exact ⟨o, Heap.get?_push_of_some _ ho, r⟩⟩
  have hfp : ∀ b ∈ [s.heap.objs.size, l], b < (s.heap.push { cls := .type "tuple_iterator", data := .fields #[.ref l, .int 0 0] }).objs.size := fun b hb => by
    rw [Heap.size_push]
    rcases List.mem_cons.mp hb with rfl | hb
    · exact Nat.lt_succ_self _
    · rcases List.mem_cons.mp hb with rfl | hb
      · exact Nat.lt_succ_of_lt hlt
      · cases hb
  have W := Walks.tuple (prog := prog) (w := w) (A := A.in1) hh _ l hlI (intItems xs)
  refine wpAny_bind (wpAny_newObj_type ?_)
  have hSf : (s.heap.push { cls := .type "tuple_iterator", data := .fields #[.ref l, .int 0 0] }).objs.size ∉ [s.heap.objs.size, l] := fun hm => Nat.lt_irrefl _ (hfp _ hm)
  rw [nm]
  refine wpAny_pure ⟨plainId_quiet F.plain_max_loop _, first W _ (CmpOf.ints_gt (numAt xs) (fun _ _ => intItems_at)) _ hSf d (W.frame _ _ _ st fun b _ o e => Heap.get?_push_of_some _ e) (Heap.get?_push_size _ rfl) fun v h' tk hP hk => ?_⟩
  have hk2 : ∀ b o, s.heap.get? b = some o → h'.get? b = some o := fun b o e0 => by
    have e : (s.heap.push { cls := .type "tuple_iterator", data := .fields #[.ref l, .int 0 0] }).get? b = some o := Heap.get?_push_of_some _ e0
    exact hk b o (by simp; exact Nat.ne_of_lt (Heap.lt_size e0)) (Nat.ne_of_lt (Heap.lt_size e)) (Heap.get?_push_of_some _ e)
  have sz : (intItems xs).size = xs.size := by simp [intItems]
  refine h v h' tk hk2 (fun e => ?_) fun hne => ?_
  · have : xs.size = 0 := by have := congrArg List.length e; simpa using this
    rw [if_pos (by rw [sz]; exact this)] at hP
    exact hP
  · have hpos : 0 < xs.size := by
      have := List.length_pos_iff.mpr hne
      simpa using this
    rw [if_neg (by rw [sz]; omega), sz] at hP
    obtain ⟨t, rfl⟩ := intItems_at hP
    obtain ⟨h1, h2⟩ := argBest_gt (numAt xs) (xs.size - 1)
    refine ⟨_, t, rfl, ?_, fun a ha => ?_⟩
    · rw [numAt_eq]; exact PySem.getD_mem (by rw [List.length_map, Array.length_toList]; omega)
    · obtain ⟨j, hj, rfl⟩ := mem_getD ha
      rw [List.length_map, Array.length_toList] at hj
      rw [← numAt_eq]; exact h2 j (by omega)
end
end Mx
section
variable {X : Cx} {e a b c : Expr} {es : List Expr} {t ta tb tc te : TE} {tr : TA} {G : List SV} {pos p : Pos}
def rMaxDT (K : PySem.W.Frag) : List V → List V → Hp → VK → Prop := fun vs zs H Q => ∃ (a : Addr) (ns : List Int) (d : Int), vs = [.ref a] ∧ zs = [.int d] ∧ SqT K H a (ns.map V.int) ∧ Q (.int ((maxL ns).getD d)) H
theorem cr_maxDT (hc : X.calm = true) : CallRK X (.builtin "max") [Str.ofString "default"] (rMaxDT X.K) := by
  intro pins s σ H xs zs us ws Q I rx rz h
  obtain ⟨a, ns, d, rfl, rfl, hs, q⟩ := h
  obtain ⟨its, rv, hl, _⟩ := I.tuple hs
  rw [Vals.ref1 rx]
  cases rz with
  | cons r0 rt =>
  cases rt
  obtain ⟨t0, rfl⟩ := r0
  refine Mx.rawT (I.ok.hd hc) (show s.heap.IsTuple a its.toArray from hl) rv.ints _ fun v h' tk hk h1 h2 => ?_
  cases ns with
  | nil =>
    rw [h1 rfl]
    exact ⟨.int d, H, I.kept hk, ⟨_, rfl⟩, q⟩
  | cons n ns =>
    obtain ⟨M, t', rfl, m1, m2⟩ := h2 (by simp)
    refine ⟨.int M, H, I.kept hk, ⟨_, rfl⟩, ?_⟩
    have e1 := foldmax ns n
    have : M = (maxL (n :: ns)).getD d := Int.le_antisymm (e1.2 _ m1) (m2 _ e1.1)
    rw [this]; exact q
theorem ej_maxDT {m1 : Option (Tp Int)} {m2 : Option Int} {kp2 : Pos} {ed : Expr} {td : TE} (hc : X.calm = true) (ha : EJ X a ta G m1) (hd : EJ X ed td G m2) (hm : X.mg "max" = none) (hg : Gl X "max" := by rfl) (hst : starEach [a] X.env = (false, eval a X.env) :: starEach [] X.env := by rfl)
    (he : backTo pos (starEach [a] X.env) = (false, eval a X.env) :: backTo pos (starEach [] X.env) := by rfl) (hpl : (backTo pos (starEach [a] X.env)).any (·.1) = false := by rfl)
    (hall : (backToKw pos (keywordEach [⟨some (Str.ofString "default"), ed, kp2⟩] X.env)).all (·.1.isSome) = true := by rfl) (hnone : (backToKw pos (keywordEach [⟨some (Str.ofString "default"), ed, kp2⟩] X.env)).any (·.1.isNone) = false := by rfl)
    (hks : (backToKw pos (keywordEach [⟨some (Str.ofString "default"), ed, kp2⟩] X.env)).filterMap (·.1) = [Str.ofString "default"] := by rfl) :
    EJ X (.Call (.Name "max" p) [a] [⟨some (Str.ofString "default"), ed, kp2⟩] pos) (tCKw (rMaxDT X.K) (tCons ta tNil) (tCons td tNil)) G (m1.bind fun x => m2.bind fun d => some ((maxL x.l).getD d)) :=
  ⟨pe_callBK (cr_maxDT hc) hg hm (by decide +kernel) (pa_cons ha.pe pa_nil hst) (pk_cons hd.pe pk_nil) (by decide) (by decide) he hpl hall hnone hks, fun B Hi T tv s H Q z hx hl hs k => by
    obtain ⟨x, e1, hx⟩ := bind_some hx
    obtain ⟨d, e2, e3⟩ := bind_some hx
    cases e3
    refine ha.ev B Hi T tv s H _ x e1 hl hs fun v Hi1 H1 s1 r1 => ?_
    refine hd.ev B Hi1 (fz x :: T) (some v :: tv) s H1 _ d e2 (by simp [hl]) ⟨⟨v, rfl, r1⟩, s1⟩ fun vd Hi2 H2 s2 r2 => ?_
    obtain ⟨⟨v', e4, r1'⟩, s2⟩ := s2
    cases e4
    cases r2
    obtain ⟨q, vs, h1, h2, h3, h4⟩ := r1'
    rw [paired_ints h4] at h2
    exact ⟨q, x.l, d, by rw [h1], rfl, SqT.of (s2.sub _ _ h2), k _ Hi2 H2 s2 rfl⟩⟩
end
end GM
namespace ZL
open PySem PySem.Spec PyProof.Rows PySem.Calls PySem.W
abbrev IsZipO (h : Heap) (z TI TO T : Addr) (f : Bool) : Prop :=
  h.get? z = some { cls := .type "zip", dict := none, data := .fields #[rawInt T, .bool f, .bool false, .ref TI, .ref TO], slots := #[] }
section
variable {prog : Program} {w : World} {A : Around} {E : Value → Shared → Prop} {s : Shared}
theorem zl_next_out {z TI TO i1 i2 l1 l2 T : Addr} {f : Bool} {oT : Obj} {k1 k2 : Nat} {xs ys : Array Value} {x y : Value} {Q : Value → Shared → Prop} (D : ZipApart z TI TO i1 i2 l1 l2)
    (hz : IsZipO s.heap z TI TO T f) (hT : s.heap.get? T = some oT) (hTI : IsPair s.heap TI (.ref i1) (.ref i2))
    (h1 : s.heap.IsListIter i1 l1 k1) (h2 : s.heap.IsListIter i2 l2 k2) (hl1 : s.heap.IsList l1 xs) (hl2 : s.heap.IsList l2 ys) (hx : xs[k1]? = some x) (hy : ys[k2]? = some y) (hTz : T ≠ z)
    (hQ : ∀ h', IsZipO h' z TI TO T true → h'.IsListIter i1 l1 (k1 + 1) → h'.IsListIter i2 l2 (k2 + 1) → IsPair h' s.heap.objs.size x y → h'.objs.size = s.heap.objs.size + 1 →
      (∀ c o, c ≠ z → c ≠ i1 → c ≠ i2 → s.heap.get? c = some o → h'.get? c = some o) → Q (.ref s.heap.objs.size) { s with heap := h' }) :
    wpAny (model prog w) A (Builtin.«zip.__next__» ⟨[.ref z], []⟩) (fun fin s' => ∃ v, fin = .done (.ret v) ∧ Q v s') E s := by
  show wpAny _ _ (field (.ref z) 2 >>= _) _ _ _
  refine wpAny_bind (wpAny_field hz rfl (x := .bool false) rfl ?_)
  show wpAny _ _ (field (.ref z) 3 >>= _) _ _ _
  refine wpAny_bind (wpAny_field hz rfl (x := .ref TI) rfl ?_)
  refine wpAny_bind (wpAny_seqItems hTI rfl ?_)
  show wpAny _ _ (Builtin.SmallTypes.ownedTupleIsFree (.ref z) >>= _) _ _ _
  refine wpAny_bind ?_
  unfold Builtin.SmallTypes.ownedTupleIsFree
  refine wpAny_bind (wpAny_field hz rfl (x := rawInt T) rfl ?_)
  show wpAny _ _ (loadIfAlive ((T : Int).toNat) >>= _) _ _ _
  rw [Int.toNat_natCast]
  refine wpAny_bind (kdx_alive hT ?_)
  simp only [Option.isNone_some, Bool.false_eq_true, if_false]
  refine wpAny_bind (wpAny_field hz rfl (x := .bool f) rfl ?_)
  refine L2.thn (Q := fun (b : Bool) (s' : Shared) => b = false ∧ ∃ h₁, s' = { s with heap := h₁ } ∧ IsZipO h₁ z TI TO T true ∧ Heap.SameBut z s.heap h₁) ?_ ?_
  · cases f with
    | true =>
      rw [if_neg (show ¬ ((Value.bool true != Value.bool true) = true) from Bool.false_ne_true)]
      exact wpAny_pure ⟨rfl, _, rfl, hz, Heap.SameBut.refl _ _⟩
    | false =>
      rw [if_pos (show (Value.bool false != Value.bool true) = true from rfl)]
      refine wpAny_bind (wpAny_setField_rec hz (by simp) fun h₃ he₃ hs₃ => ?_)
      exact wpAny_pure ⟨rfl, h₃, rfl, he₃, hs₃⟩
  rintro b s' ⟨rfl, h₁, rfl, hz₁, hs₁⟩
  rw [if_neg (by decide)]
  refine wpAny_bind ?_
  simp only [← Array.forIn_toList, List.forIn_cons, List.forIn_nil]
  refine wpAny_bind (wpAny_bind (wpAny_holding ?_))
  show wpAny _ _ (Builtin.SmallTypes.nextOf (.ref i1) >>= _) _ _ _
  refine wpAny_bind (wpAny_nextOf_list_item (h1.extBut hs₁.extBut D.i1z) (hl1.extBut hs₁.extBut D.l1z) hx fun h₂ h1₂ hs₂ => wpAny_pure (wpAny_pure ?_))
  refine wpAny_bind (wpAny_bind (wpAny_holding ?_))
  show wpAny _ _ (Builtin.SmallTypes.nextOf (.ref i2) >>= _) _ _ _
  refine wpAny_bind (wpAny_nextOf_list_item ((h2.extBut hs₁.extBut D.i2z).extBut hs₂.extBut D.i12.symm) ((hl2.extBut hs₁.extBut D.l2z).extBut hs₂.extBut D.l2i1) hy fun h₄ h2₄ hs₄ => wpAny_pure (wpAny_pure (wpAny_pure ?_)))
  show wpAny _ _ (newTuple [x, y] >>= _) _ _ _
  have hsz : h₄.objs.size = s.heap.objs.size := by rw [hs₄.1, hs₂.1, hs₁.1]
  refine wpAny_bind (wpAny_newTuple ?_)
  refine wpAny_pure ⟨_, rfl, ?_⟩
  show Q (.ref h₄.objs.size) _
  rw [hsz]
  have up : ∀ c o, h₄.get? c = some o → (h₄.push { cls := .type "tuple", data := .seq #[x, y] }).get? c = some o := fun c o e => Heap.get?_push_of_some _ e
  refine hQ _ (up _ _ (hs₄.extBut _ _ D.i2z.symm (hs₂.extBut _ _ D.i1z.symm hz₁))) (((h1₂.extBut hs₄.extBut D.i12)).at fun o e => up _ o e) (h2₄.at fun o e => up _ o e) (by rw [← hsz]; exact Heap.get?_push_size _ rfl) (by rw [Heap.size_push, hsz]) fun c o c1 c3 c4 e => up c o (hs₄.extBut _ _ c4 (hs₂.extBut _ _ c3 (hs₁.extBut _ _ c1 e)))
theorem zl_end_out {z TI TO i1 i2 l1 l2 T : Addr} {f : Bool} {oT : Obj} {k1 k2 : Nat} {xs ys : Array Value} {Q : Fin → Shared → Prop} (hh : A.handled = none) (D : ZipApart z TI TO i1 i2 l1 l2)
    (hz : IsZipO s.heap z TI TO T f) (hT : s.heap.get? T = some oT) (hTI : IsPair s.heap TI (.ref i1) (.ref i2))
    (h1 : s.heap.IsListIter i1 l1 k1) (h2 : s.heap.IsListIter i2 l2 k2) (hl1 : s.heap.IsList l1 xs) (hl2 : s.heap.IsList l2 ys) (hend : xs[k1]? = none ∨ ys[k2]? = none)
    (hE : ∀ h' e, (∀ c o, c ≠ z → c ≠ i1 → c ≠ i2 → s.heap.get? c = some o → h'.get? c = some o) → (∃ o, h'.get? e = some o ∧ o.cls = .type "StopIteration") → E (.ref e) { s with heap := h' }) :
    wpAny (model prog w) A (Builtin.«zip.__next__» ⟨[.ref z], []⟩) Q E s := by
  show wpAny _ _ (field (.ref z) 2 >>= _) _ _ _
  refine wpAny_bind (wpAny_field hz rfl (x := .bool false) rfl ?_)
  show wpAny _ _ (field (.ref z) 3 >>= _) _ _ _
  refine wpAny_bind (wpAny_field hz rfl (x := .ref TI) rfl ?_)
  refine wpAny_bind (wpAny_seqItems hTI rfl ?_)
  show wpAny _ _ (Builtin.SmallTypes.ownedTupleIsFree (.ref z) >>= _) _ _ _
  refine wpAny_bind ?_
  unfold Builtin.SmallTypes.ownedTupleIsFree
  refine wpAny_bind (wpAny_field hz rfl (x := rawInt T) rfl ?_)
  show wpAny _ _ (loadIfAlive ((T : Int).toNat) >>= _) _ _ _
  rw [Int.toNat_natCast]
  refine wpAny_bind (kdx_alive hT ?_)
  simp only [Option.isNone_some, Bool.false_eq_true, if_false]
  refine wpAny_bind (wpAny_field hz rfl (x := .bool f) rfl ?_)
  refine L2.thn (Q := fun (b : Bool) (s' : Shared) => b = false ∧ ∃ h₁, s' = { s with heap := h₁ } ∧ IsZipO h₁ z TI TO T true ∧ Heap.SameBut z s.heap h₁) ?_ ?_
  · cases f with
    | true =>
      rw [if_neg (show ¬ ((Value.bool true != Value.bool true) = true) from Bool.false_ne_true)]
      exact wpAny_pure ⟨rfl, _, rfl, hz, Heap.SameBut.refl _ _⟩
    | false =>
      rw [if_pos (show (Value.bool false != Value.bool true) = true from rfl)]
      refine wpAny_bind (wpAny_setField_rec hz (by simp) fun h₃ he₃ hs₃ => ?_)
      exact wpAny_pure ⟨rfl, h₃, rfl, he₃, hs₃⟩
  rintro b s' ⟨rfl, h₁, rfl, hz₁, hs₁⟩
  rw [if_neg (by decide)]
  refine wpAny_bind ?_
  simp only [← Array.forIn_toList, List.forIn_cons, List.forIn_nil]
  refine wpAny_bind (wpAny_bind (wpAny_holding ?_))
  show wpAny _ _ (Builtin.SmallTypes.nextOf (.ref i1) >>= _) _ _ _
  cases hx : xs[k1]? with
  | none =>
    refine wpAny_bind (wpAny_nextOf_list_end hh (h1.extBut hs₁.extBut D.i1z) (hl1.extBut hs₁.extBut D.l1z) hx fun h₂ e hs₂ he => ?_)
    exact hE h₂ e (fun c o c1 c3 _ x => hs₂ _ _ c3 (hs₁.extBut _ _ c1 x)) he
  | some x =>
    have hy : ys[k2]? = none := by rcases hend with h | h; rw [hx] at h; cases h; exact h
    refine wpAny_bind (wpAny_nextOf_list_item (h1.extBut hs₁.extBut D.i1z) (hl1.extBut hs₁.extBut D.l1z) hx fun h₂ h1₂ hs₂ => wpAny_pure (wpAny_pure ?_))
    refine wpAny_bind (wpAny_bind (wpAny_holding ?_))
    show wpAny _ _ (Builtin.SmallTypes.nextOf (.ref i2) >>= _) _ _ _
    refine wpAny_bind (wpAny_nextOf_list_end hh ((h2.extBut hs₁.extBut D.i2z).extBut hs₂.extBut D.i12.symm) ((hl2.extBut hs₁.extBut D.l2z).extBut hs₂.extBut D.l2i1) hy fun h₄ e hs₄ he => ?_)
    exact hE h₄ e (fun c o c1 c3 c4 x => hs₄ _ _ c4 (hs₂.extBut _ _ c3 (hs₁.extBut _ _ c1 x))) he
theorem zl_pyNext_item {z TI TO i1 i2 l1 l2 T : Addr} {f : Bool} {oT : Obj} {k1 k2 : Nat} {xs ys : Array Value} {x y : Value} {Q : Option Value → Shared → Prop} (D : ZipApart z TI TO i1 i2 l1 l2)
    (hz : IsZipO s.heap z TI TO T f) (hT : s.heap.get? T = some oT) (hTI : IsPair s.heap TI (.ref i1) (.ref i2))
    (h1 : s.heap.IsListIter i1 l1 k1) (h2 : s.heap.IsListIter i2 l2 k2) (hl1 : s.heap.IsList l1 xs) (hl2 : s.heap.IsList l2 ys) (hx : xs[k1]? = some x) (hy : ys[k2]? = some y) (hTz : T ≠ z)
    (hQ : ∀ h', IsZipO h' z TI TO T true → h'.IsListIter i1 l1 (k1 + 1) → h'.IsListIter i2 l2 (k2 + 1) → IsPair h' s.heap.objs.size x y → h'.objs.size = s.heap.objs.size + 1 →
      (∀ c o, c ≠ z → c ≠ i1 → c ≠ i2 → s.heap.get? c = some o → h'.get? c = some o) → Q (some (.ref s.heap.objs.size)) { s with heap := h' }) :
    wpAny (model prog w) A (pyNext (.ref z)) Q E s := by
  have hTy : s.TypeIs (.ref z) "zip" := ⟨_, hz, rfl⟩
  unfold pyNext
  exact wpAny_bind (wpAny_attempt (wpAny_callSpecial?_slot (name := Str.ofString "__next__") hTy F.slot_zip_next
    (wpAny_call_entry F.slot_zip_next hTy F.entry_zip_next
      (zl_next_out D hz hT hTI h1 h2 hl1 hl2 hx hy hTz fun h' a1 a2 a3 a4 a5 a6 => wpAny_pure (hQ h' a1 a2 a3 a4 a5 a6)) (F.args_zip_next_1 _))))
theorem zl_pyNext_end {z TI TO i1 i2 l1 l2 T : Addr} {f : Bool} {oT : Obj} {k1 k2 : Nat} {xs ys : Array Value} {Q : Option Value → Shared → Prop} (hh : A.handled = none) (D : ZipApart z TI TO i1 i2 l1 l2)
    (hz : IsZipO s.heap z TI TO T f) (hT : s.heap.get? T = some oT) (hTI : IsPair s.heap TI (.ref i1) (.ref i2))
    (h1 : s.heap.IsListIter i1 l1 k1) (h2 : s.heap.IsListIter i2 l2 k2) (hl1 : s.heap.IsList l1 xs) (hl2 : s.heap.IsList l2 ys) (hend : xs[k1]? = none ∨ ys[k2]? = none)
    (hQ : ∀ h', (∀ c o, c ≠ z → c ≠ i1 → c ≠ i2 → s.heap.get? c = some o → h'.get? c = some o) → Q none { s with heap := h' }) : wpAny (model prog w) A (pyNext (.ref z)) Q E s := by
  have hTy : s.TypeIs (.ref z) "zip" := ⟨_, hz, rfl⟩
  unfold pyNext
  refine wpAny_bind (wpAny_attempt (wpAny_callSpecial?_slot (name := Str.ofString "__next__") hTy F.slot_zip_next
    (wpAny_call_entry F.slot_zip_next hTy F.entry_zip_next (zl_end_out hh D hz hT hTI h1 h2 hl1 hl2 hend fun h' e hk he => ?_) (F.args_zip_next_1 _))))
  obtain ⟨o, ho, hc⟩ := he
  refine wpAny_bind (wpAny_isInstance (T := "StopIteration") (b := true) ⟨o, ho, hc⟩ isSubtype_stop ?_)
  exact wpAny_pure (hQ _ hk)
/-- the zip at turn i -/
def ZlSt (h : Heap) (z TI TO i1 i2 l1 l2 S : Addr) (i : Nat) : Prop :=
  IsPair h TI (.ref i1) (.ref i2) ∧ h.IsListIter i1 l1 i ∧ h.IsListIter i2 l2 i ∧ ((∃ a b, IsPair h TO a b) ∧ IsZip h z TI TO .none ∨ ∃ T f oT, IsZipO h z TI TO T f ∧ h.get? T = some oT ∧ T ≠ z ∧ T ≠ S ∧ T ≠ i1 ∧ T ≠ i2)
theorem ZlSt.keep {h h' : Heap} {z TI TO i1 i2 l1 l2 S : Addr} {i : Nat} (x : ZlSt h z TI TO i1 i2 l1 l2 S i) (hk : ∀ b o, b ≠ S → h.get? b = some o → h'.get? b = some o) (a1 : z ≠ S) (a2 : TI ≠ S) (a3 : TO ≠ S) (a4 : i1 ≠ S) (a5 : i2 ≠ S) : ZlSt h' z TI TO i1 i2 l1 l2 S i := by
  obtain ⟨h1, h2, h3, h4⟩ := x
  refine ⟨hk _ _ a2 h1, h2.at fun o e => hk _ o a4 e, h3.at fun o e => hk _ o a5 e, ?_⟩
  rcases h4 with ⟨⟨a, b, h5⟩, h6⟩ | ⟨T, f, oT, h5, h6, h7, h8, h9, h10⟩
  · exact .inl ⟨⟨a, b, hk _ _ a3 h5⟩, hk _ _ a1 h6⟩
  · exact .inr ⟨T, f, oT, hk _ _ a1 h5, hk _ _ h8 h6, h7, h8, h9, h10⟩
theorem zl_item {z TI TO i1 i2 l1 l2 S : Addr} {i : Nat} {xs ys : Array Value} {x y : Value} {Q : Option Value → Shared → Prop} (D : ZipApart z TI TO i1 i2 l1 l2) (hst : ZlSt s.heap z TI TO i1 i2 l1 l2 S i) (hS : S < s.heap.objs.size)
    (hl1 : s.heap.IsList l1 xs) (hl2 : s.heap.IsList l2 ys) (hx : xs[i]? = some x) (hy : ys[i]? = some y)
    (hQ : ∀ h', ZlSt h' z TI TO i1 i2 l1 l2 S (i + 1) → IsPair h' s.heap.objs.size x y → h'.objs.size = s.heap.objs.size + 1 →
      (∀ c o, c ≠ z → c ≠ TO → c ≠ i1 → c ≠ i2 → s.heap.get? c = some o → h'.get? c = some o) → Q (some (.ref s.heap.objs.size)) { s with heap := h' }) :
    wpAny (model prog w) A (pyNext (.ref z)) Q E s := by
  obtain ⟨hTI, h1, h2, h4⟩ := hst
  have lt1 : i1 < s.heap.objs.size := by obtain ⟨_, e, _⟩ := h1; exact Heap.lt_size e
  have lt2 : i2 < s.heap.objs.size := by obtain ⟨_, e, _⟩ := h2; exact Heap.lt_size e
  rcases h4 with ⟨⟨a, b, hTO⟩, hz⟩ | ⟨T, f, oT, hz, hT, hTz, hTS, hT1, hT2⟩
  · exact wpAny_pyNext_zip_item D hz hTI hTO h1 h2 hl1 hl2 hx hy fun h' a1 a2 a3 a4 a5 a6 a7 =>
      hQ h' ⟨a7 _ _ D.TIz D.TITO D.TIi1 D.TIi2 hTI, a3, a4, .inr ⟨_, false, _, a1, a5, Nat.ne_of_gt (Heap.lt_size hz), Nat.ne_of_gt hS, Nat.ne_of_gt lt1, Nat.ne_of_gt lt2⟩⟩ a5 a6 a7
  · exact zl_pyNext_item D hz hT hTI h1 h2 hl1 hl2 hx hy hTz fun h' a1 a3 a4 a5 a6 a7 =>
      hQ h' ⟨a7 _ _ D.TIz D.TIi1 D.TIi2 hTI, a3, a4, .inr ⟨T, true, oT, a1, a7 _ _ hTz hT1 hT2 hT, hTz, hTS, hT1, hT2⟩⟩ a5 a6 fun c o c1 _ c3 c4 e => a7 c o c1 c3 c4 e
theorem zl_done {z TI TO i1 i2 l1 l2 S : Addr} {i : Nat} {xs ys : Array Value} {Q : Option Value → Shared → Prop} (hh : A.handled = none) (D : ZipApart z TI TO i1 i2 l1 l2) (hst : ZlSt s.heap z TI TO i1 i2 l1 l2 S i)
    (hl1 : s.heap.IsList l1 xs) (hl2 : s.heap.IsList l2 ys) (hend : xs[i]? = none ∨ ys[i]? = none)
    (hQ : ∀ h', (∀ c o, c ≠ z → c ≠ TO → c ≠ i1 → c ≠ i2 → s.heap.get? c = some o → h'.get? c = some o) → Q none { s with heap := h' }) :
    wpAny (model prog w) A (pyNext (.ref z)) Q E s := by
  obtain ⟨hTI, h1, h2, h4⟩ := hst
  rcases h4 with ⟨⟨a, b, hTO⟩, hz⟩ | ⟨T, f, oT, hz, hT, hTz, hTS, hT1, hT2⟩
  · exact wpAny_pyNext_zip_end hh D hz hTI hTO h1 h2 hl1 hl2 hend hQ
  · exact zl_pyNext_end hh D hz hT hTI h1 h2 hl1 hl2 hend fun h' k => hQ h' fun c o c1 _ c3 c4 e => k c o c1 c3 c4 e
structure ZlG (xs ys : Array Value) (lo : Addr) (h : Heap) (as : List Addr) : Prop where
  rise : as.Pairwise (· < ·)
  above : ∀ a ∈ as, lo < a
  pairs : ∀ (j : Nat) (a : Addr), as[j]? = some a → ∃ x y, xs[j]? = some x ∧ ys[j]? = some y ∧ h.get? a = some { cls := .type "tuple", data := .seq #[x, y] }
theorem ZlG.there {xs ys : Array Value} {lo : Addr} {h : Heap} {as : List Addr} (g : ZlG xs ys lo h as) {a : Addr} (ha : a ∈ as) : a < h.objs.size := by
  obtain ⟨j, hj⟩ := List.mem_iff_getElem?.mp ha
  obtain ⟨_, _, _, _, e⟩ := g.pairs j a hj
  exact Heap.lt_size e
end
section
variable {prog : Program} {w : World} {A : Around} {s : Shared} {R : Result → Shared → Prop} {xs ys : Array Value}
theorem zl_loop {S z TI TO i1 i2 l1 l2 : Addr} (hh : A.handled = none) (D : ZipApart z TI TO i1 i2 l1 l2) (a1 : z ≠ S) (a2 : TI ≠ S) (a3 : TO ≠ S) (a4 : i1 ≠ S) (a5 : i2 ≠ S) (b1 : l1 ≠ S) (b2 : l2 ≠ S) (lo : Addr) (hlo : S ≤ lo) (hlo1 : z ≤ lo) (hlo2 : TO ≤ lo) (hlo3 : i1 ≤ lo) (hlo4 : i2 ≤ lo) {n : Nat} (hn1 : n = min xs.size ys.size) (hn : n ≤ sizeLine) (res : Value) {h₁ : Heap}
    (hR : ∀ h' tk acc c as, (∀ b o, b ≠ S → b ≠ z → b ≠ TO → b ≠ i1 → b ≠ i2 → h₁.get? b = some o → h'.get? b = some o) → h'.get? S = some { cls := .type "list", dict := none, data := .seq acc c, slots := #[] } → as.length = n → ZlG xs ys lo h' as →
      acc.toList = as.map Value.ref → R (.ok (.ret res)) { s with heap := h', toks := tk }) :
    ∀ (k i : Nat) (h : Heap) (tk c : Nat) (acc : Array Value) (as : List Addr), n - i = k → i ≤ n → ZlSt h z TI TO i1 i2 l1 l2 S i → h.IsList l1 xs → h.IsList l2 ys → (∀ b o, b ≠ S → b ≠ z → b ≠ TO → b ≠ i1 → b ≠ i2 → h₁.get? b = some o → h.get? b = some o) →
      h.get? S = some { cls := .type "list", dict := none, data := .seq acc c, slots := #[] } → acc.toList = as.map Value.ref → as.length = i → ZlG xs ys lo h as → lo < h.objs.size →
      codeAny (model prog w) A (.builtin "list.extend.loop" ⟨[.ref S, .ref z, res], []⟩) R { s with heap := h, toks := tk } := by
  intro k
  induction k with
  | zero =>
    intro i h tk c acc as hk hi hst hl1 hl2 hkeep hS hacc hal hG hIs
    have hin : i = n := by omega
    refine codeAny_builtin PySem.F.entry_extend_loop ?_
    rw [Around.under_plainId PySem.F.plain_extend_loop _]
    show wpAny _ A.in1 (pyNext (.ref z) >>= _) _ _ _
    refine wpAny_bind (zl_done (s := { s with heap := h, toks := tk }) (A := A.in1) hh D hst hl1 hl2 (by
      by_cases q : xs.size ≤ i
      · exact .inl (Array.getElem?_eq_none q)
      · exact .inr (Array.getElem?_eq_none (by omega))) fun h' he => ?_)
    refine wpAny_pure (hR h' tk acc c as (fun b o c0 c1 c2 c3 c4 e => he b o c1 c2 c3 c4 (hkeep b o c0 c1 c2 c3 c4 e)) (he S _ (Ne.symm a1) (Ne.symm a3) (Ne.symm a4) (Ne.symm a5) hS) (by omega) ⟨hG.rise, hG.above, fun j a hj => ?_⟩ hacc)
    obtain ⟨x, y, e1, e2, e3⟩ := hG.pairs j a hj
    have hb := hG.above a (List.mem_of_getElem? hj)
    exact ⟨x, y, e1, e2, he a _ (Nat.ne_of_gt (Nat.lt_of_le_of_lt hlo1 hb)) (Nat.ne_of_gt (Nat.lt_of_le_of_lt hlo2 hb)) (Nat.ne_of_gt (Nat.lt_of_le_of_lt hlo3 hb)) (Nat.ne_of_gt (Nat.lt_of_le_of_lt hlo4 hb)) e3⟩
  | succ k ih =>
    intro i h tk c acc as hk hi hst hl1 hl2 hkeep hS hacc hal hG hIs
    have hlt : i < n := by omega
    have hx : xs[i]? = some (xs[i]'(by omega)) := Array.getElem?_eq_getElem (by omega)
    have hy : ys[i]? = some (ys[i]'(by omega)) := Array.getElem?_eq_getElem (by omega)
    have hsz : acc.size = i := by rw [← Array.length_toList, hacc, List.length_map, hal]
    refine codeAny_builtin PySem.F.entry_extend_loop ?_
    rw [Around.under_plainId PySem.F.plain_extend_loop _]
    show wpAny _ A.in1 (pyNext (.ref z) >>= _) _ _ _
    refine wpAny_bind (zl_item (s := { s with heap := h, toks := tk }) (S := S) D hst (Heap.lt_size hS) hl1 hl2 hx hy fun h' hst' ht hz hkp => ?_)
    dsimp only at ht hz hkp ⊢
    have hS' := hkp S _ (Ne.symm a1) (Ne.symm a3) (Ne.symm a4) (Ne.symm a5) hS
    have up : ∀ b o, b ≠ S → h'.get? b = some o → (h'.update S (Obj.mapSeq (·.push (Value.ref h.objs.size)))).get? b = some o := fun b o hb e => (Heap.get?_update_other _ _ (Ne.symm hb)).trans e
    have hSl : S < h.objs.size := Heap.lt_size hS
    show wpAny _ A.in1 (updateSeq S (·.push (Value.ref h.objs.size)) >>= _) _ _ _
    refine wpAny_bind ?_
    refine wpAny_updateSeq hS' rfl (wpAny_pure ⟨plainId_quiet PySem.F.plain_extend_loop _, ih (i + 1) _ tk _ (acc.push (Value.ref h.objs.size)) (as ++ [h.objs.size]) (by omega) hlt (hst'.keep up a1 a2 a3 a4 a5) (hl1.at fun o e => up l1 o b1 (hkp l1 o D.l1z D.l1TO D.l1i1 D.l1i2 e)) (hl2.at fun o e => up l2 o b2 (hkp l2 o D.l2z D.l2TO D.l2i1 D.l2i2 e))
      (fun b o c0 c1 c2 c3 c4 e => up b o c0 (hkp b o c1 c2 c3 c4 (hkeep b o c0 c1 c2 c3 c4 e))) (Heap.get?_update_self _ hS' rfl) (by rw [Array.toList_push, hacc, List.map_append]; rfl) (by rw [List.length_append, hal]; rfl) ⟨?_, ?_, ?_⟩ ?_⟩) (by rw [hsz]; omega) (by show (acc.push (Value.ref h.objs.size)).size ≤ sizeLine + 1; rw [Array.size_push, hsz]; omega)
    · refine List.pairwise_append.mpr ⟨hG.rise, List.pairwise_singleton _ _, fun a ha b hb => ?_⟩
      rw [List.mem_singleton.mp hb]
      exact hG.there ha
    · intro a ha
      rcases List.mem_append.mp ha with ha | ha
      · exact hG.above a ha
      · rw [List.mem_singleton.mp ha]; exact hIs
    · intro j b hj
      rcases Nat.lt_trichotomy j as.length with h1 | h1 | h1
      · rw [List.getElem?_append_left h1] at hj
        obtain ⟨x', y', e1, e2, e3⟩ := hG.pairs j b hj
        have hb := hG.above b (List.mem_of_getElem? hj)
        exact ⟨x', y', e1, e2, up b _ (Nat.ne_of_gt (Nat.lt_of_le_of_lt hlo hb)) (hkp b _ (Nat.ne_of_gt (Nat.lt_of_le_of_lt hlo1 hb)) (Nat.ne_of_gt (Nat.lt_of_le_of_lt hlo2 hb)) (Nat.ne_of_gt (Nat.lt_of_le_of_lt hlo3 hb)) (Nat.ne_of_gt (Nat.lt_of_le_of_lt hlo4 hb)) e3)⟩
      · subst h1
        have hb : h.objs.size = b := by simpa using hj
        subst hb
        exact ⟨_, _, by rw [hal]; exact hx, by rw [hal]; exact hy, up _ _ (Nat.ne_of_gt hSl) ht⟩
      · have hnone : (as ++ [h.objs.size])[j]? = none := List.getElem?_eq_none (by rw [List.length_append, List.length_singleton]; omega)
        rw [hnone] at hj; cases hj
    · have e : (h'.update S (Obj.mapSeq (·.push (Value.ref h.objs.size)))).get? h.objs.size = _ := up _ _ (Nat.ne_of_gt hSl) ht
      exact Nat.lt_trans hIs (Heap.lt_size e)
end
theorem zl_len : typeLookup (.type "zip") "__len__" = pure none := by rw [typeLookup_type, builtinLookup_eq_fast]; kernel_rfl
theorem zl_lh : typeLookup (.type "zip") "__length_hint__" = pure none := by rw [typeLookup_type, builtinLookup_eq_fast]; kernel_rfl
section
variable {prog : Program} {w : World} {A : Around} {E : Value → Shared → Prop} {s : Shared}
theorem zl_hint {r : Addr} (hT : s.TypeIs (.ref r) "zip") {Q : Bool → Shared → Prop} (h : Q true s) : wpAny (model prog w) A (Builtin.List.listLengthHint (.ref r)) Q E s := by
  unfold Builtin.List.listLengthHint
  refine wpAny_bind (wpAny_specialOf hT zl_len ?_)
  show wpAny _ _ (specialOf (.ref r) "__length_hint__" >>= _) _ _ _
  refine wpAny_bind (wpAny_specialOf hT zl_lh ?_)
  exact wpAny_pure h
variable {xs ys : Array Value} {z TI TO i1 i2 l1 l2 : Addr}
theorem zl_extend {R : Result → Shared → Prop} (hh : A.handled = none) (D : ZipApart z TI TO i1 i2 l1 l2) (S : Addr) (hz : IsZip s.heap z TI TO .none) (hTI : IsPair s.heap TI (.ref i1) (.ref i2)) {a b : Value} (hTO : IsPair s.heap TO a b)
    (h1 : s.heap.IsListIter i1 l1 0) (h2 : s.heap.IsListIter i2 l2 0) (hl1 : s.heap.IsList l1 xs) (hl2 : s.heap.IsList l2 ys)
    (a1 : z ≠ S) (a2 : TI ≠ S) (a3 : TO ≠ S) (a4 : i1 ≠ S) (a5 : i2 ≠ S) (b1 : l1 ≠ S) (b2 : l2 ≠ S) (lo : Addr) (hlo : S ≤ lo) (hlo1 : z ≤ lo) (hlo2 : TO ≤ lo) (hlo3 : i1 ≤ lo) (hlo4 : i2 ≤ lo) (hlo5 : lo < s.heap.objs.size) {n : Nat} (hn1 : n = min xs.size ys.size) (hn : n ≤ sizeLine) (res : Value) (c₀ : Nat) (hS : s.heap.get? S = some { cls := .type "list", data := .seq #[] c₀ })
    (hR : ∀ h' tk acc c as, (∀ b o, b ≠ S → b ≠ z → b ≠ TO → b ≠ i1 → b ≠ i2 → s.heap.get? b = some o → h'.get? b = some o) → h'.get? S = some { cls := .type "list", dict := none, data := .seq acc c, slots := #[] } → as.length = n → ZlG xs ys lo h' as →
      acc.toList = as.map Value.ref → R (.ok (.ret res)) { s with heap := h', toks := tk }) :
    wpAny (model prog w) A.in1 (Builtin.List.listExtendWith (.ref S) (.ref z) res)
      (fun fin s' => match fin with | .done f => R (.ok f) s' | .again c' => c'.quiet = true ∧ codeAny (model prog w) A c' R s') (fun e s' => R (.error e) s') s := by
  have key : ∀ (h : Heap) (c₁ tk : Nat), (∀ b o, b ≠ S → s.heap.get? b = some o → h.get? b = some o) → lo < h.objs.size →
      h.get? S = some { cls := .type "list", data := .seq #[] c₁ } → codeAny (model prog w) A (.builtin "list.extend.loop" ⟨[.ref S, .ref z, res], []⟩) R { s with heap := h, toks := tk } := by
    intro h c₁ tk hk hl hS₁
    exact zl_loop (s := s) (h₁ := s.heap) hh D a1 a2 a3 a4 a5 b1 b2 lo hlo hlo1 hlo2 hlo3 hlo4 hn1 hn res hR n 0 h tk c₁ #[] [] (Nat.sub_zero _) (Nat.zero_le _)
      ⟨hk _ _ a2 hTI, h1.at fun o e => hk _ o a4 e, h2.at fun o e => hk _ o a5 e, .inl ⟨⟨a, b, hk _ _ a3 hTO⟩, hk _ _ a1 hz⟩⟩ (hl1.at fun o e => hk _ o b1 e) (hl2.at fun o e => hk _ o b2 e) (fun b o c0 _ _ _ _ e => hk b o c0 e) hS₁ rfl rfl
      ⟨List.Pairwise.nil, (fun _ ha => nomatch ha), (fun j a hj => by simp at hj)⟩ hl
  have hT : s.TypeIs (.ref z) "zip" := ⟨_, hz, rfl⟩
  unfold Builtin.List.listExtendWith
  refine wpAny_bind (wpAny_typeOf (T := "zip") hT ?_)
  have h1 : Builtin.List.listSameRef (.ref S) (.ref z) = false := by simp [Builtin.List.listSameRef, Ne.symm a1]
  have h2 : (Value.type "zip" == Value.type "list") = false := by decide
  have h3 : (Value.type "zip" == Value.type "tuple") = false := by decide
  simp only [h1, h2, h3, Bool.or_false, Bool.false_eq_true, if_false]
  refine wpAny_bind (wpAny_pyIter_zip hz ?_)
  refine wpAny_bind (wpAny_holding (zl_hint hT ?_))
  refine wpAny_ite_split (fun _ => ?_) (fun _ => wpAny_pure ⟨plainId_quiet PySem.F.plain_extend_loop _, key _ c₀ _ (fun b o _ e => e) hlo5 hS⟩)
  refine wpAny_bind (wpAny_rule ?_)
  refine wpAny_bind ?_
  show wpAny _ _ (updateSeq S (·.push .none) >>= fun _ => updateSeq S (·.pop)) _ _ _
  refine wpAny_bind (wpAny_updateSeq hS rfl ?_)
  have hS₂ := Heap.get?_update_self (Obj.mapSeq (·.push Value.none)) hS rfl
  refine wpAny_updateSeq (hz := by seq_fits) hS₂ rfl ?_
  have hS₃ := Heap.get?_update_self (Obj.mapSeq (·.pop)) hS₂ rfl
  refine wpAny_pure ⟨plainId_quiet PySem.F.plain_extend_loop _, key _ _ _ (fun b o hb e => ?_) (by rw [Heap.size_update, Heap.size_update]; exact hlo5) hS₃⟩
  exact (Heap.get?_update_other _ _ (Ne.symm hb)).trans ((Heap.get?_update_other _ _ (Ne.symm hb)).trans e)
theorem zl_init {R : Result → Shared → Prop} (hh : A.handled = none) (D : ZipApart z TI TO i1 i2 l1 l2) (S : Addr) (hz : IsZip s.heap z TI TO .none) (hTI : IsPair s.heap TI (.ref i1) (.ref i2)) {a b : Value} (hTO : IsPair s.heap TO a b)
    (h1 : s.heap.IsListIter i1 l1 0) (h2 : s.heap.IsListIter i2 l2 0) (hl1 : s.heap.IsList l1 xs) (hl2 : s.heap.IsList l2 ys)
    (a1 : z ≠ S) (a2 : TI ≠ S) (a3 : TO ≠ S) (a4 : i1 ≠ S) (a5 : i2 ≠ S) (b1 : l1 ≠ S) (b2 : l2 ≠ S) (lo : Addr) (hlo : S ≤ lo) (hlo1 : z ≤ lo) (hlo2 : TO ≤ lo) (hlo3 : i1 ≤ lo) (hlo4 : i2 ≤ lo) (hlo5 : lo < s.heap.objs.size) {n : Nat} (hn1 : n = min xs.size ys.size) (hn : n ≤ sizeLine) (hS : s.heap.get? S = some { cls := .type "list", data := .seq #[] })
    (hR : ∀ h' tk acc c as, (∀ b o, b ≠ S → b ≠ z → b ≠ TO → b ≠ i1 → b ≠ i2 → s.heap.get? b = some o → h'.get? b = some o) → h'.get? S = some { cls := .type "list", dict := none, data := .seq acc c, slots := #[] } → as.length = n → ZlG xs ys lo h' as →
      acc.toList = as.map Value.ref → R (.ok (.ret .none)) { s with heap := h', toks := tk }) :
    wpAny (model prog w) A.in1 (Builtin.«list.__init__» ⟨[.ref S, .ref z], []⟩)
      (fun fin s' => match fin with | .done f => R (.ok f) s' | .again c' => c'.quiet = true ∧ codeAny (model prog w) A c' R s') (fun e s' => R (.error e) s') s := by
  show wpAny _ _ (do let old ← Builtin.List.listItems (.ref S); Builtin.List.listUpdate (.ref S) (fun _ => #[]); letGo old.toList.reverse; Builtin.List.listExtendWith (.ref S) (.ref z) .none) _ _ s
  refine wpAny_bind ?_
  unfold Builtin.List.listItems
  refine wpAny_bind (wpAny_seqItems hS rfl (wpAny_pure ?_))
  show wpAny _ _ (updateSeq S (fun _ => #[]) >>= fun _ => letGo (#[] : Array Value).toList.reverse >>= fun _ => Builtin.List.listExtendWith (.ref S) (.ref z) .none) _ _ s
  refine wpAny_bind (wpAny_updateSeq hS rfl ?_)
  have hS₂ := Heap.get?_update_self (Obj.mapSeq (fun _ => (#[] : Array Value))) hS rfl
  have oth : ∀ b o, b ≠ S → s.heap.get? b = some o → (s.heap.update S (Obj.mapSeq (fun _ => (#[] : Array Value)))).get? b = some o :=
    fun b o hb e => (Heap.get?_update_other _ _ (Ne.symm hb)).trans e
  refine wpAny_bind (wpAny_letGo ?_)
  exact zl_extend (a := a) (b := b) hh D S (oth _ _ a1 hz) (oth _ _ a2 hTI) (oth _ _ a3 hTO) (h1.at fun o e => oth _ o a4 e) (h2.at fun o e => oth _ o a5 e) (hl1.at fun o e => oth _ o b1 e) (hl2.at fun o e => oth _ o b2 e) a1 a2 a3 a4 a5 b1 b2 lo hlo hlo1 hlo2 hlo3 hlo4 (by rw [Heap.size_update]; exact hlo5) hn1 hn .none _ hS₂
    fun h' tk acc c as hk hS' hl hG hacc => hR h' tk acc c as (fun b o c0 c1 c2 c3 c4 e => hk b o c0 c1 c2 c3 c4 (oth b o c0 e)) hS' hl hG hacc
theorem zl_call {Q : Value → Shared → Prop} (hh : A.handled = none) (D : ZipApart z TI TO i1 i2 l1 l2) (hz : IsZip s.heap z TI TO .none) (hTI : IsPair s.heap TI (.ref i1) (.ref i2)) {a b : Value} (hTO : IsPair s.heap TO a b)
    (h1 : s.heap.IsListIter i1 l1 0) (h2 : s.heap.IsListIter i2 l2 0) (hl1 : s.heap.IsList l1 xs) (hl2 : s.heap.IsList l2 ys) {n : Nat} (hn1 : n = min xs.size ys.size) (hn : n ≤ sizeLine)
    (hQ : ∀ h' tk acc c as, (∀ b o, b ≠ z → b ≠ TO → b ≠ i1 → b ≠ i2 → s.heap.get? b = some o → h'.get? b = some o) → h'.get? s.heap.objs.size = some { cls := .type "list", dict := none, data := .seq acc c, slots := #[] } → as.length = n → ZlG xs ys s.heap.objs.size h' as →
      acc.toList = as.map Value.ref → Q (.ref s.heap.objs.size) { s with heap := h', toks := tk }) :
    wpAny (model prog w) A (call (.type "list") [.ref z]) Q E s := by
  refine callType_codes (Q₁ := fun obj s₁ => obj = .ref s.heap.objs.size ∧ s₁ = { s with heap := s.heap.push { cls := .type "list", data := .seq #[] } }) PySem.F.called_list (PySem.F.typeCall_list_1 _) PySem.F.entry_list_init
    (code_list_new _ ⟨rfl, rfl⟩) fun obj s₁ h₁ => ?_
  obtain ⟨rfl, rfl⟩ := h₁
  have hS : (s.heap.push { cls := .type "list", data := .seq #[] }).get? s.heap.objs.size = some { cls := .type "list", data := .seq #[] } := Heap.get?_push_size _ rfl
  have z1 : z < s.heap.objs.size := Heap.lt_size hz
  have z2 : TI < s.heap.objs.size := Heap.lt_size hTI
  have z3 : TO < s.heap.objs.size := Heap.lt_size hTO
  have z4 : i1 < s.heap.objs.size := by obtain ⟨_, e, _⟩ := h1; exact Heap.lt_size e
  have z5 : i2 < s.heap.objs.size := by obtain ⟨_, e, _⟩ := h2; exact Heap.lt_size e
  have z6 : l1 < s.heap.objs.size := by obtain ⟨_, e, _⟩ := hl1; exact Heap.lt_size e
  have z7 : l2 < s.heap.objs.size := by obtain ⟨_, e, _⟩ := hl2; exact Heap.lt_size e
  have up : ∀ b o, s.heap.get? b = some o → (s.heap.push { cls := .type "list", data := .seq #[] }).get? b = some o := fun b o e => Heap.get?_push_of_some _ e
  refine ⟨⟨_, hS, rfl⟩, PySem.F.args_list_init_2 _ _, zl_init (A := A.in1) (s := { s with heap := s.heap.push { cls := .type "list", data := .seq #[] } }) (a := a) (b := b) hh D s.heap.objs.size (up _ _ hz) (up _ _ hTI) (up _ _ hTO) (h1.at fun o e => up _ o e) (h2.at fun o e => up _ o e) (hl1.at fun o e => up _ o e) (hl2.at fun o e => up _ o e)
    (Nat.ne_of_lt z1) (Nat.ne_of_lt z2) (Nat.ne_of_lt z3) (Nat.ne_of_lt z4) (Nat.ne_of_lt z5) (Nat.ne_of_lt z6) (Nat.ne_of_lt z7) s.heap.objs.size (Nat.le_refl _) (Nat.le_of_lt z1) (Nat.le_of_lt z3) (Nat.le_of_lt z4) (Nat.le_of_lt z5) (by rw [Heap.size_push]; exact Nat.lt_succ_self _) hn1 hn hS fun h' tk acc c as hk hS' hl hG hacc => ?_⟩
  exact ⟨rfl, hQ h' tk acc c as (fun b o c1 c2 c3 c4 e => hk b o (Nat.ne_of_lt (Heap.lt_size e)) c1 c2 c3 c4 (up b o e)) hS' hl hG hacc⟩
end
end ZL
namespace GM
open PySem PySem.Spec PyProof.Rows L2 ZL
def rZipL (K : PySem.W.Frag) : List V → Hp → VK → Prop := fun vs H Q => ∃ (a b : Addr) (xs ys : List V), vs = [.ref a, .ref b] ∧ SqL K H a xs ∧ SqL K H b ys ∧ min xs.length ys.length ≤ sizeLine ∧
  ∀ (H' : Hp) (p : Addr) (ts : List Addr), (∀ b o, H b = some o → H' b = some o) → H p = none → (∀ t ∈ ts, H t = none) → p ∉ ts → H' p = some (.lst (ts.map V.ref)) → Paired (fun (t : Addr) (q : V × V) => H' t = some (.tup [q.1, q.2])) ts (xs.zip ys) → Q (.ref p) H'
def tListZip (K : PySem.W.Frag) (ta : TA) : TE := fun σ H Q => ta σ H fun vs H1 => rZipL K vs H1 Q
/-- the tuples tracked at their addresses -/
def putZ : Hp → List Addr → List (V × V) → Hp
  | H, a :: as, p :: ps => putZ (upd H a (.tup [p.1, p.2])) as ps
  | H, _, _ => H
theorem putZ_off {b : Addr} : ∀ (as : List Addr) (ps : List (V × V)) (H : Hp), b ∉ as → putZ H as ps b = H b
  | [], _, _, _ => rfl
  | _ :: _, [], _, _ => rfl
  | a :: as, p :: ps, H, h => by
    unfold putZ
    rw [putZ_off as ps _ (fun z => h (List.mem_cons_of_mem _ z)), upd_ne (fun z => h (by rw [z]; exact List.mem_cons_self))]
theorem putZ_at : ∀ (as : List Addr) (ps : List (V × V)) (H : Hp), as.length = ps.length → as.Nodup → Paired (fun (t : Addr) (p : V × V) => putZ H as ps t = some (.tup [p.1, p.2])) as ps
  | [], [], _, _, _ => .nil
  | [], _ :: _, _, h, _ => by cases h
  | _ :: _, [], _, h, _ => by cases h
  | a :: as, p :: ps, H, h, hn => by
    obtain ⟨n1, n2⟩ := List.nodup_cons.mp hn
    refine .cons ?_ (putZ_at as ps (upd H a (.tup [p.1, p.2])) (Nat.succ.inj h) n2)
    show putZ (upd H a (.tup [p.1, p.2])) as ps a = _
    rw [putZ_off as ps _ n1, upd_same]
theorem paired_atM {α β : Type} {F : α → β → Prop} : ∀ {xs : List α} {ys : List β}, Paired F xs ys → ∀ {x : α}, x ∈ xs → ∃ (j : Nat) (y : β), xs[j]? = some x ∧ ys[j]? = some y ∧ F x y
  | _, _, .cons h t, x, hx => by
    rcases List.mem_cons.mp hx with e | hx
    · subst e; exact ⟨0, _, rfl, rfl, h⟩
    · obtain ⟨j, y, e1, e2, e3⟩ := paired_atM t hx
      exact ⟨j + 1, y, e1, e2, e3⟩
theorem vals_refsZ : ∀ as : List Addr, Vals (as.map V.ref) (as.map Value.ref)
  | [] => .nil
  | _ :: as => .cons rfl (vals_refsZ as)
theorem zip_laid {X : Cx} {pins : List (Addr × Obj)} {σ : L2.St} {H : Hp} {s : Shared} {h' : Heap} {tk : Nat} {xs ys : List V} {ux uy : List Value} {acc : Array Value} {c : Nat} {as : List Addr} {S : Addr} (I : Inv X pins σ H s) (rx : Vals xs ux) (ry : Vals ys uy) (hz : min xs.length ys.length ≤ sizeLine)
    (hk : ∀ b o, s.heap.get? b = some o → h'.get? b = some o) (hS0 : s.heap.objs.size ≤ S) (hS : h'.get? S = some { cls := .type "list", dict := none, data := .seq acc c, slots := #[] }) (hl : as.length = min ux.length uy.length) (hG : ZlG ux.toArray uy.toArray S h' as) (hacc : acc.toList = as.map Value.ref) :
    ∃ H' : Hp, (∀ b o, H b = some o → H' b = some o) ∧ H S = none ∧ (∀ t ∈ as, H t = none) ∧ S ∉ as ∧ H' S = some (.lst (as.map V.ref)) ∧ Paired (fun (t : Addr) (q : V × V) => H' t = some (.tup [q.1, q.2])) as (xs.zip ys) ∧ Inv X pins σ H' { s with heap := h', toks := tk } := by
  have lx := rx.length
  have ly := ry.length
  have hSn : S ∉ as := fun z => Nat.lt_irrefl _ (hG.above _ z)
  have nd : as.Nodup := List.Pairwise.imp (fun {a b} (h : a < b) => Nat.ne_of_lt h) hG.rise
  have lowas : ∀ t ∈ as, s.heap.objs.size ≤ t := fun t ht => Nat.le_of_lt (Nat.lt_of_le_of_lt hS0 (hG.above t ht))
  have new : ∀ t ∈ as, H t = none := fun t ht => I.hok.fresh (lowas t ht)
  have newS : H S = none := I.hok.fresh hS0
  have lz : as.length = (xs.zip ys).length := by rw [List.length_zip]; omega
  have atP := putZ_at as (xs.zip ys) (upd H S (.lst (as.map V.ref))) lz nd
  have off : ∀ b, b ∉ as → b ≠ S → putZ (upd H S (.lst (as.map V.ref))) as (xs.zip ys) b = H b := fun b h1 h2 => by rw [putZ_off as _ _ h1, upd_ne h2]
  have low : ∀ b o, s.heap.get? b = some o → b ∉ as ∧ b ≠ S := fun b o e => ⟨fun z => absurd (Heap.lt_size e) (Nat.not_lt.mpr (lowas b z)), Nat.ne_of_lt (Nat.lt_of_lt_of_le (Heap.lt_size e) hS0)⟩
  have kp : ∀ b u, H b = some u → (putZ (upd H S (.lst (as.map V.ref))) as (xs.zip ys)) b = some u := fun b u e => by
    rw [off b (fun z => by rw [new b z] at e; cases e) (fun z => by rw [z, newS] at e; cases e)]
    exact e
  have eS : putZ (upd H S (.lst (as.map V.ref))) as (xs.zip ys) S = some (.lst (as.map V.ref)) := by rw [putZ_off as _ _ hSn, upd_same]
  refine ⟨putZ (upd H S (.lst (as.map V.ref))) as (xs.zip ys), kp, newS, new, hSn, eS, atP, ?_⟩
  refine I.call' (ch := []) rfl ⟨fun b o q _ _ _ => hk b o q, fun b o q _ _ _ => ⟨o.slots, hk b o q⟩, fun b o q n _ => ?_, fun b o q _ => ⟨o, hk b o q⟩, fun b xs q => kp b _ q, fun b o u q => kp b _ q, fun b ps q => ⟨#[], by rw [kp b _ q]; simp⟩⟩ (fun b u q => ?_) I.bare fun b z => by simp at z
  · obtain ⟨z1, z2⟩ := low b o q
    rw [off b z1 z2]
    exact n
  · by_cases hb : b ∈ as
    · obtain ⟨j, pk, e1, e2, e3⟩ := paired_atM atP hb
      rw [e3] at q
      cases q
      obtain ⟨u1, u2, f1, f2, f3⟩ := hG.pairs j b e1
      rw [List.getElem?_zip_eq_some] at e2
      obtain ⟨w1, g1, g2⟩ := rx.get e2.1
      obtain ⟨w2, g3, g4⟩ := ry.get e2.2
      rw [List.getElem?_toArray, g1] at f1
      rw [List.getElem?_toArray, g3] at f2
      cases f1; cases f2
      exact ⟨by show 2 ≤ sizeLine; decide, [_, _], .cons g2 (.cons g4 .nil), ⟨_, f3, rfl, _, rfl⟩⟩
    · by_cases hb2 : b = S
      · rw [hb2] at q ⊢
        rw [eS] at q
        cases q
        refine ⟨by rw [List.length_map]; omega, acc.toList, c, by rw [hacc]; exact vals_refsZ as, ?_⟩
        rw [Array.toArray_toList]
        exact hS
      · rw [off b hb hb2] at q
        exact (I.hok b u q).stay (fun d v _ y => hk d v y) (fun d y => kp d _ y) fun d xs y => kp d _ y
theorem pe_listZip {X : Cx} {e e2 : Expr} {ta : TA} {p p2 zpos pos : Pos} (hc : X.calm = true) (ha : PA X [e, e2] ta) (hg : Gl X "list") (hm : X.mg "list" = none) (hv : bootBuiltins "list" = some (.type "list")) (hg2 : Gl X "zip") (hm2 : X.mg "zip" = none)
    (hs2 : starEach [e, e2] X.env = (false, eval e X.env) :: starEach [e2] X.env := by rfl) (hpl : (backTo zpos (starEach [e2] X.env)).any (·.1) = false := by rfl)
    (hs : starEach [.Call (.Name "zip" p2) [e, e2] [] zpos] X.env = (false, eval (.Call (.Name "zip" p2) [e, e2] [] zpos) X.env) :: starEach [] X.env := by rfl) :
    PE X (.Call (.Name "list" p) [.Call (.Name "zip" p2) [e, e2] [] zpos] [] pos) (tListZip X.K ta) := by
  refine ⟨fun pins s σ H Q I hq => ?_⟩
  refine wpAny_Call_Name_kw (ld_blt I hg hm hv ?_)
  refine PyProof.Rows.callWith_type1 ?_ hs rfl
  rw [hs]
  show wpAny _ _ (spliced ((false, eval (.Call (.Name "zip" p2) [e, e2] [] zpos) X.env) :: backTo pos (starEach [] X.env))) _ _ s
  refine Calls.spliced_cons ?_
  refine Call_ (ld_blt I hg2 hm2 PyProof.Rows.boot_zip (PyProof.Rows.callWith_type1 (thn (ha.run zpos pins s σ H _ I hq) fun us s1 ⟨vs, H1, I1, r1, q1⟩ => ?_) hs2 hpl))
  obtain ⟨a, b, xs, ys, ex, hqx, hqy, hmin, q⟩ := q1
  subst ex
  cases r1 with
  | cons r rr =>
    cases rr with
    | cons r' rr =>
      cases rr
      cases r
      cases r'
      obtain ⟨its, rv, p1, _⟩ := I1.list hqx
      obtain ⟨its2, rv2, p2, _⟩ := I1.list hqy
      have la : a < s1.heap.objs.size := p1.lt
      have lb : b < s1.heap.objs.size := p2.lt
      refine call_zip_2 p1.isList p2.isList fun h' hz hTI hTO h1 h2 hsz hk => ?_
      refine Calls.spliced_nil ?_
      refine zl_call (s := { s1 with heap := h' }) (I1.ok.hd hc) (PySem.W.ktu_apart s1.heap.objs.size a b la lb) hz hTI hTO h1 h2 (p1.isList.at fun o e => hk _ o e) (p2.isList.at fun o e => hk _ o e) (n := min its.length its2.length) (by simp) (by rw [← rv.length, ← rv2.length]; exact hmin) fun h'' tk acc c as hk2 hS hl hG hacc => ?_
      have up : ∀ b o, s1.heap.get? b = some o → h''.get? b = some o := fun b o e => by
        have hb := Heap.lt_size e
        have q : ∀ k : Nat, b ≠ s1.heap.objs.size + k := fun k => Nat.ne_of_lt (Nat.lt_of_lt_of_le hb (Nat.le_add_right _ _))
        exact hk2 b o (q 4) (q 3) (q 0) (q 1) (hk b o e)
      obtain ⟨H', k1, k2, k3, k4, k5, k6, J⟩ := zip_laid (tk := tk) I1 rv rv2 hmin up (S := h'.objs.size) (by rw [hsz]; exact Nat.le_add_right _ _) hS hl hG hacc
      exact ⟨.ref _, H', J, rfl, q H' _ as k1 k2 k3 k4 k5 k6⟩
theorem paired_zip {α β : Type} [Rq α] [Rq β] {H Hn : Hp} {ts : List Addr} (hn : Same H Hn) : ∀ {xs : List α} {ys : List β} {vs us : List V} {ts : List Addr}, Paired (rq H) xs vs → Paired (rq H) ys us → Paired (fun (t : Addr) (q : V × V) => Hn t = some (.tup [q.1, q.2])) ts (vs.zip us) → Paired (rq Hn) (xs.zip ys) (ts.map V.ref)
  | [], _, _, _, ts, .nil, _, h => by
    cases h; exact .nil
  | _ :: _, [], _, _, ts, .cons _ _, .nil, h => by
    cases h; exact .nil
  | x :: xs, y :: ys, _, _, ts, .cons r1 t1, .cons r2 t2, h => by
    cases h with
    | cons h h' => exact .cons ⟨_, _, _, rfl, h, Rq.mono hn r1, Rq.mono hn r2⟩ (paired_zip (ts := ts) hn t1 t2 h')
theorem oj_listZip {X : Cx} {a b : Expr} {ta tb : TE} {p p2 zpos pos : Pos} {G : List SV} {α β : Type} [Rq α] [Rq β] {m1 : Option (List α)} {m2 : Option (List β)} (hc : X.calm = true) (ha : LK X a ta G m1) (hb : LK X b tb G m2) (hm : X.mg "list" = none) (hm2 : X.mg "zip" = none) (hg : Gl X "list" := by rfl) (hg2 : Gl X "zip" := by rfl) (hv : bootBuiltins "list" = some (.type "list") := by decide +kernel)
    (hs2 : starEach [a, b] X.env = (false, eval a X.env) :: starEach [b] X.env := by rfl) (hs3 : starEach [b] X.env = (false, eval b X.env) :: starEach [] X.env := by rfl) (hpl : (backTo zpos (starEach [b] X.env)).any (·.1) = false := by rfl)
    (hs : starEach [.Call (.Name "zip" p2) [a, b] [] zpos] X.env = (false, eval (.Call (.Name "zip" p2) [a, b] [] zpos) X.env) :: starEach [] X.env := by rfl) :
    OJ X (.Call (.Name "list" p) [.Call (.Name "zip" p2) [a, b] [] zpos] [] pos) (tListZip X.K (tCons ta (tCons tb tNil))) G (m1.bind fun x => m2.bind fun y => some (x.zip y)) := ⟨pe_listZip hc (pa_cons ha.pe (pa_cons hb.pe pa_nil hs3) hs2) hg hm hv hg2 hm2 hs2 hpl hs, fun B Hi T tv s H Q z hx hl hs k => by
  obtain ⟨x, e1, hx⟩ := bind_some hx
  obtain ⟨y, e2, e3⟩ := bind_some hx
  cases e3
  refine ha.ev B Hi T tv s H _ x e1 hl hs fun vx T' tv' Hi1 H1 l1 s1 r1 => ?_
  refine hb.ev B Hi1 T' tv' s H1 _ y e2 l1 s1 fun vy T'' tv'' Hi2 H2 l2 s2 r2 => ?_
  obtain ⟨s3, r3⟩ := r2 Hi2 H2 s2
  obtain ⟨s4, r4⟩ := r1 Hi2 H2 s3
  obtain ⟨a, vs, g1, g2, g3, g4⟩ := r4
  obtain ⟨b, us, h1, h2, h3, h4⟩ := r3
  subst g1 h1
  refine ⟨a, b, vs, us, rfl, g2, h2, by omega, fun H' q ts k1 k2 k3 k4 k5 k6 => ?_⟩
  have sm : Same H2 (del H' q) := fun c o e => by rw [del_ne (ne_of_none e k2)]; exact k1 _ _ e
  have s5 := s4.grow sm
  have tj : ∀ t ∈ ts, join Hi2 H2 (del H' q) t = H' t := fun t ht => by rw [join_none (k3 t ht), del_ne (fun z => k4 (by rw [← z]; exact ht))]
  refine k q _ H' ⟨q, one q (.lst (ts.map V.ref)), rfl, same_one k5, ⟨_, rfl, _, rfl, ?_, ?_⟩, by rw [minus_one]; exact s5⟩
  · rw [List.length_map, Paired.length k6, List.length_zip]; omega
  · refine paired_zip (ts := ts) (same_join s4.sub) g4 h4 ?_
    have go : ∀ {ts' : List Addr} {ps : List (V × V)}, (∀ t ∈ ts', t ∈ ts) → Paired (fun (t : Addr) (q : V × V) => H' t = some (.tup [q.1, q.2])) ts' ps → Paired (fun (t : Addr) (q_1 : V × V) => join Hi2 H2 (del H' q) t = some (.tup [q_1.1, q_1.2])) ts' ps := by
      intro ts'
      induction ts' with
      | nil => intro ps _ h; cases h; exact .nil
      | cons t ts' ih =>
        intro ps hm h
        cases h with
        | cons h h' => exact .cons (by rw [tj t (hm t List.mem_cons_self)]; exact h) (ih (fun u hu => hm u (List.mem_cons_of_mem _ hu)) h')
    exact go (fun t ht => ht) k6⟩
end GM
namespace GM
open PySem PySem.Spec PyProof.Rows L2
/-! ### what needs no heap -/
class Flt (α : Type) [Rq α] : Prop where
  fl : ∀ {H H' : Hp} {x : α} {v : V}, rq H x v → rq H' x v
instance : Flt Int := ⟨fun h => h⟩
instance : Flt Bool := ⟨fun h => h⟩
instance : Flt Str := ⟨fun h => h⟩
instance : Flt Unit := ⟨fun h => h⟩
instance {α : Type} [Rp α] [Flt α] : Flt (Option α) := ⟨fun {H H' x v} h => by
  cases x with
  | none => exact h
  | some y => exact Flt.fl (α := α) (x := y) (H := H) (H' := H') h⟩
class FltD {α : Type} (d : OT α) : Prop where
  fl : ∀ {H H' : Hp} {x : α} {p : Addr} {F : Hp}, d.φ H x p F → d.φ H' x p F
instance {α : Type} [Rq α] [Flt α] : FltD (oL (α := α)) := ⟨fun ⟨u, h1, vs, h2, h3, h4⟩ => ⟨u, h1, vs, h2, h3, Paired.mono h4 fun _ _ => Flt.fl⟩⟩
theorem sepL.flD {α : Type} {d : OT α} [FltD d] {H H' : Hp} : ∀ {xs : List α} {vs : List V} {F : Hp}, sepL d H xs vs F → sepL d H' xs vs F
  | [], [], _, h => h
  | _ :: _, _ :: _, _, ⟨p, F1, h1, h2, h3, k⟩ => ⟨p, F1, h1, h2, FltD.fl h3, sepL.flD k⟩
instance {α : Type} {d : OT α} [FltD d] : FltD (oLL d) := ⟨fun ⟨vs, h1, h2, h3⟩ => ⟨vs, h1, h2, h3.flD⟩⟩
instance {α β : Type} {d : OT α} {d' : OT β} [FltD d] [FltD d'] : FltD (ot2 d d') := ⟨fun ⟨q, q', F1, F2, h1, h2, h3, h4, h5⟩ => ⟨q, q', F1, F2, h1, h2, FltD.fl h3, h4, FltD.fl h5⟩⟩
instance {α β : Type} {d : OT α} {d' : OT β} [FltD d] [FltD d'] : FltD (oll2 d d') := ⟨fun ⟨q, q', F1, F2, h1, h2, h3, h4, h5⟩ => ⟨q, q', F1, F2, h1, h2, FltD.fl h3, h4, FltD.fl h5⟩⟩
instance {α β : Type} [Rq α] [Rq β] [Flt α] [Flt β] : FltD (oLf (α := α) (β := β)) := ⟨fun ⟨v1, v2, h1, h2, h3⟩ => ⟨v1, v2, h1, Flt.fl h2, Flt.fl h3⟩⟩
def FltF (f : FV) : Prop := ∀ {H H' : Hp} {v : V} {F : Hp}, f.φ H v F → f.φ H' v F
theorem fltf_F {α : Type} [Rq α] [Flt α] {x : α} : FltF (fF x) := fun h => ⟨Flt.fl h.1, h.2⟩
theorem fltf_O {α : Type} [Rq α] {d : OT α} [Th d] [FltD d] {x : α} : FltF (fO d x) := fun ⟨p, h1, h2⟩ => ⟨p, h1, FltD.fl h2⟩
def FltFs : List (Str × FV) → Prop
  | [] => True
  | p :: L => FltF p.2 ∧ FltFs L
theorem FldsO.fl {H H' : Hp} : ∀ {L : List (Str × FV)} {fs : List (Str × V)} {F : Hp}, FltFs L → FldsO H L fs F → FldsO H' L fs F
  | [], [], _, _, h => h
  | n :: L, v :: fs, F, ⟨q, qs⟩, ⟨h1, F1, h2, h3, k⟩ => ⟨h1, F1, h2, q h3, FldsO.fl qs k⟩
theorem oIns_fl {α : Type} {C : Addr} {L : α → List (Str × FV)} (q : ∀ x, FltFs (L x)) : FltD (oIns C L) := ⟨fun ⟨dx, fs, h1, h2⟩ => ⟨dx, fs, h1, h2.fl (q _)⟩⟩
/-! ### a tuple of a value and something of our own -/
def otF {α β : Type} [Rq α] (d' : OT β) : OT (α × β) := ⟨fun H x p F => ∃ v q, F p = some (.tup [v, .ref q]) ∧ rq H x.1 v ∧ d'.φ H x.2 q (del F p),
  fun H H' x p F e ⟨v, q, h1, h2, h3⟩ => ⟨v, q, h1, Rq.mono e h2, d'.m _ _ _ _ _ e h3⟩⟩
instance {α β : Type} [Rq α] [Rq β] {d' : OT β} [Th d'] : Th (otF (α := α) d') := ⟨fun {H x p F} n ⟨v, q, h1, h2, h3⟩ =>
  ⟨p, v, .ref q, rfl, plus_some h1, Rq.mono (same_plus n) h2, Rq.mono (same_plus2 n del_sub) (Th.th (fun a u e => n a u (del_sub _ _ e)) h3)⟩⟩
instance {α β : Type} [Rq α] {d' : OT β} [NoL α] [NoLD d'] : NoLD (otF (α := α) d') := ⟨fun e ⟨v, q, h1, h2, h3⟩ => ⟨v, q, h1, NoL.tr e h2, NoLD.tr e h3⟩⟩
instance {α β : Type} [Rq α] {d' : OT β} [Flt α] [FltD d'] : FltD (otF (α := α) d') := ⟨fun ⟨v, q, h1, h2, h3⟩ => ⟨v, q, h1, Flt.fl h2, FltD.fl h3⟩⟩
theorem plus_in {Hi H F : Hp} (h1 : Same Hi H) (h2 : Same F H) : Same (plus Hi F) H := fun a o e => by
  cases z : F a with
  | some u => rw [plus_some z] at e; cases e; exact h2 _ _ z
  | none => rw [plus_none z] at e; exact h1 _ _ e
theorem full_q {α : Type} [Rq α] {d : OT α} [Th d] {Hi H F : Hp} {x : α} {p : Addr} (h1 : Same Hi H) (h2 : Same F H) (n : ∀ a u, F a = some u → Hi a = none) (h : d.φ Hi x p F) : rq H x (.ref p) := Rq.mono (plus_in h1 h2) (Th.th n h)
/-! ### to look at our own things without changing them: all the heap stands still meanwhile -/
inductive Vk : List SV → List SV → Prop
  | nil : Vk [] []
  | fv {φ m} {L L' : List SV} : Vk L L' → Vk (.fv φ m :: L) (.fv φ m :: L')
  | drop {c : SV} {L L' : List SV} : Vk L L' → Vk (c :: L) (.un :: L')
  | see {α : Type} [Rq α] {d : OT α} [Th d] {x : α} {L L' : List SV} : Vk L L' → Vk (oo d x :: L) (fz x :: L')
  | seeA {α : Type} [Rq α] {xs : List α} {q : Addr} {L L' : List SV} : Vk L L' → Vk (olA q xs :: L) (fz xs :: L')
  | seeX {α : Type} [Rq α] {d : OT α} [Th d] {x : α} {q : Addr} {F : Hp} {L L' : List SV} : Vk L L' → Vk (ex d x q F :: L) (fz x :: L')
def Seen (H : Hp) : List SV → L2.St → Prop
  | [], [] => True
  | c :: L, o :: s => (match c with | .un => True | .fv φ _ => ∃ v, o = some v ∧ φ H v | .ow _ _ => False) ∧ Seen H L s
  | [], _ :: _ => False
  | _ :: _, [] => False
theorem Seen.sat {H : Hp} : ∀ {L : List SV} {s : L2.St}, Seen H L s → SatG ⟨H, H⟩ H L s H
  | [], [], _ => ⟨Same.refl _, Same.refl _, Same.refl _, fun _ _ h => rfl⟩
  | c :: L, o :: s, ⟨h, k⟩ => by
    cases c with
    | un => exact Seen.sat (L := L) (s := s) k
    | fv φ m => exact ⟨h, Seen.sat (L := L) (s := s) k⟩
    | ow φ m => exact h.elim
theorem SatG.seen {B : Bk} {Hi H0 : Hp} : ∀ {L L' : List SV} {s : L2.St} {H : Hp}, Vk L L' → Same H H0 → (∀ a u, Hi a = some u → H a = some u) → SatG B Hi L s H → Seen H0 L' s
  | [], [], [], _, .nil, _, _, _ => trivial
  | _ :: _, _ :: _, [], _, _, _, _, h => h.elim
  | _, _, o :: s, H, @Vk.fv φ m L L' w, e, i, h => by
    obtain ⟨⟨v, h1, h2⟩, k⟩ := h
    exact ⟨⟨v, h1, m _ _ _ (Same.trans (fun a u z => i a u z) e) h2⟩, SatG.seen (L := L) w e i k⟩
  | _, _, o :: s, H, .drop (c := c) (L := L) w, e, i, h => by
    refine ⟨trivial, ?_⟩
    cases c with
    | un => exact SatG.seen (L := L) w e i h
    | fv φ m => exact SatG.seen (L := L) w e i h.2
    | ow φ m =>
      obtain ⟨p, F, _, _, _, k⟩ := h
      exact SatG.seen (L := L) w (minus_sub.trans e) (SatG.sub (L := L) (s := s) k) k
  | _, _, o :: s, H, @Vk.see α _ d _ x L L' w, e, i, h => by
    obtain ⟨p, F, h1, h2, h3, k⟩ := h
    have ks := SatG.sub (L := L) (s := s) k
    exact ⟨⟨.ref p, h1, full_q (d := d) (Same.trans (fun a u z => i a u z) e) (h2.trans e) (fun a u z => same_none ks (minus_some z)) h3⟩, SatG.seen (L := L) w (minus_sub.trans e) ks k⟩
  | _, _, o :: s, H, @Vk.seeA α _ xs q0 L L' w, e, i, h => by
    obtain ⟨p, F, h1, h2, ⟨h4, h3⟩, k⟩ := h
    have ks := SatG.sub (L := L) (s := s) k
    exact ⟨⟨.ref p, h1, full_q (d := oL (α := α)) (Same.trans (fun a u z => i a u z) e) (h2.trans e) (fun a u z => same_none ks (minus_some z)) h3⟩, SatG.seen (L := L) w (minus_sub.trans e) ks k⟩
  | _, _, o :: s, H, @Vk.seeX α _ d _ x q0 F0 L L' w, e, i, h => by
    obtain ⟨p, F, h1, h2, ⟨h4, h5, h3⟩, k⟩ := h
    subst h4 h5
    have ks := SatG.sub (L := L) (s := s) k
    exact ⟨⟨.ref _, h1, full_q (d := d) (Same.trans (fun a u z => i a u z) e) (h2.trans e) (fun a u z => same_none ks (minus_some z)) h3⟩, SatG.seen (L := L) w (minus_sub.trans e) ks k⟩
theorem vk_app : ∀ (T : List SV) {G G1 : List SV}, Vk G G1 → Vk (T ++ G) (T.map (fun _ => SV.un) ++ G1)
  | [], _, _, w => w
  | c :: T, _, _, w => .drop (vk_app T w)
section
variable {X : Cx} {e a b c : Expr} {es : List Expr} {t ta tb tc td ty te : TE} {tt : TT} {tr : TA} {G G1 : List SV} {α β γ τ ρ O S R : Type} {pos p : Pos} {n : Str} {rest : List Stmt} {u ts : TS} {P Px : Post O} {d : OT α} {d' : OT β} {F : Hp}
theorem ej_peek [Rq α] [Flt α] {m : Option α} (w : Vk G G1) (h : EJ X e t G1 m) : EJ X e t G m := ⟨h.pe, fun B Hi T tv s H Q x hx hl hs k => by
  have hs1 := (SatG.seen (vk_app T w) (Same.refl H) hs.sub hs).sat
  refine h.ev ⟨H, H⟩ H (T.map fun _ => .un) tv s H Q x hx (by rw [List.length_map]; exact hl) hs1 fun v Hi' H' s' r => ?_
  exact k v _ H' (hs.grow s'.sub0) (Flt.fl r)⟩
theorem tj_peek {m : Option Bool} (w : Vk G G1) (h : TJ X c tt G1 m) : TJ X c tt G m := ⟨h.pt, fun B Hi T tv s H Q x hx hl hs k => by
  have hs1 := (SatG.seen (vk_app T w) (Same.refl H) hs.sub hs).sat
  refine h.ev ⟨H, H⟩ H (T.map fun _ => .un) tv s H Q x hx (by rw [List.length_map]; exact hl) hs1 fun Hi' H' s' => ?_
  exact k _ H' (hs.grow s'.sub0)⟩
theorem qj_peek [FltD d] {m : Option α} (w : Vk G G1) (h : QJ d X e t G1 m) : QJ d X e t G m := ⟨h.pe, fun B Hi T tv s H Q x hx hl hs k => by
  have hs1 := (SatG.seen (vk_app T w) (Same.refl H) hs.sub hs).sat
  refine h.ev ⟨H, H⟩ H (T.map fun _ => .un) tv s H Q x hx (by rw [List.length_map]; exact hl) hs1 fun q Hi' H' s' => ?_
  obtain ⟨q', F, e1, h1, h2, k2⟩ := s'
  cases e1
  exact k q _ H' ⟨q, F, rfl, h1, FltD.fl h2, hs.grow (SatG.sub0 (L := T.map (fun _ => SV.un) ++ G1) (s := tv ++ s) k2)⟩⟩
theorem oj_peek [Rq α] [Flt α] {m : Option (List α)} (w : Vk G G1) (h : OJ X e t G1 m) : OJ X e t G m := oj_q (qj_peek w (qj_o h))
end
/-! ### a hole in something of our own -/
theorem sepL.atH {α : Type} {d : OT α} {H : Hp} : ∀ {xs : List α} {vs : List V} {F : Hp} {i : Nat} {x : α}, sepL d H xs vs F → xs[i]? = some x → ∃ p Fi, vs[i]? = some (.ref p) ∧ Same Fi F ∧ d.φ H x p Fi ∧
    ∀ H2, Same H H2 → ∀ x' p' Fi' F', d.φ H2 x' p' Fi' → Same Fi' F' → minus F' Fi' = minus F Fi → sepL d H2 (xs.set i x') (vs.set i (.ref p')) F'
  | [], [], _, _, _, _, e => by simp at e
  | y :: xs, v :: vs, F, 0, x, ⟨q, G1, h1, h2, h3, k⟩, e => by
    simp at e; subst e
    subst h1
    exact ⟨q, G1, rfl, h2, h3, fun H2 s2 x' p' Fi' F' hx hs hm => ⟨p', Fi', rfl, hs, hx, by rw [hm]; exact sepL.mono s2 k⟩⟩
  | y :: xs, v :: vs, F, i + 1, x, ⟨q, G1, h1, h2, h3, k⟩, e => by
    obtain ⟨p, Fi, g1, g2, g3, g4⟩ := sepL.atH k (by simpa using e)
    refine ⟨p, Fi, by simpa using g1, g2.trans minus_sub, g3, fun H2 s2 x' p' Fi' F' hx hs hm => ?_⟩
    have dj : ∀ a w, G1 a = some w → Fi' a = none ∧ F' a = some w := fun a w z => by
      have n1 : Fi a = none := by
        cases y : Fi a with
        | none => rfl
        | some x => have := g2 _ _ y; rw [minus_some z] at this; cases this
      have n2 : minus F Fi a = some w := by rw [minus_none n1]; exact h2 _ _ z
      rw [← hm] at n2
      exact minus_is n2
    refine ⟨q, G1, h1, fun a w z => (dj a w z).2, d.m _ _ _ _ _ s2 h3, g4 H2 s2 x' p' Fi' (minus F' G1) hx (fun a u z => ?_) ?_⟩
    · cases y : G1 a with
      | none => rw [minus_none y]; exact hs _ _ z
      | some x => have := (dj a x y).1; rw [z] at this; cases this
    · rw [minus_comm, hm, minus_comm]
theorem del_minus {F Fi : Hp} {a : Addr} : minus (del F a) Fi = del (minus F Fi) a := by
  funext b
  by_cases z : b = a
  · rw [z, del_same]
    cases y : Fi a with
    | none => rw [minus_none y, del_same]
    | some w => rw [minus_some y]
  · rw [del_ne z]
    cases y : Fi b with
    | none => rw [minus_none y, minus_none y, del_ne z]
    | some w => rw [minus_some y, minus_some y]
theorem oLL_open {α : Type} {d : OT α} {H : Hp} {ys : List α} {a : Addr} {F : Hp} {i : Nat} {x : α} (h : (oLL d).φ H ys a F) (hx : ys[i]? = some x) : ∃ vs q Fi, F a = some (.lst vs) ∧ ys.length = vs.length ∧ vs[i]? = some (.ref q) ∧ Same Fi F ∧ d.φ H x q Fi ∧
    ∀ H2, Same H H2 → ∀ y Fi' F', d.φ H2 y q Fi' → Same Fi' F' → minus F' Fi' = minus F Fi → (oLL d).φ H2 (ys.set i y) a F' := by
  obtain ⟨vs, h1, h2, h3⟩ := h
  obtain ⟨q, Fi, g1, g2, g3, g4⟩ := h3.atH hx
  have na : Fi a = none := by
    cases z : Fi a with
    | none => rfl
    | some w => have := g2 _ _ z; rw [del_same] at this; cases this
  refine ⟨vs, q, Fi, h1, h3.len, g1, g2.trans del_sub, g3, fun H2 s2 y Fi' F' hy sf hm => ?_⟩
  have fa : minus F' Fi' a = some (.lst vs) := by rw [hm, minus_none na]; exact h1
  obtain ⟨n1, n2⟩ := minus_is fa
  have ev : vs.set i (.ref q) = vs := set_get_self _ _ _ g1
  have := g4 H2 s2 y q Fi' (del F' a) hy (fun b o e => by
    have nb : b ≠ a := fun z => by rw [z, n1] at e; cases e
    rw [del_ne nb]; exact sf _ _ e) (by rw [del_minus, hm, del_minus])
  rw [ev] at this
  exact ⟨vs, n2, h2, this⟩
theorem otF_open {α β : Type} [Rq α] {d' : OT β} {H : Hp} {x : α × β} {p : Addr} {F : Hp} (h : (otF d').φ H x p F) : ∃ v q, F p = some (.tup [v, .ref q]) ∧ rq H x.1 v ∧ Same (del F p) F ∧ d'.φ H x.2 q (del F p) ∧
    ∀ H2, Same H H2 → ∀ y Fi' F', d'.φ H2 y q Fi' → Same Fi' F' → minus F' Fi' = minus F (del F p) → (otF d').φ H2 (x.1, y) p F' := by
  obtain ⟨v, q, h1, h2, h3⟩ := h
  refine ⟨v, q, h1, h2, del_sub, h3, fun H2 s2 y Fi' F' hy sf hm => ?_⟩
  have fp : minus F' Fi' p = some (.tup [v, .ref q]) := by rw [hm, minus_none del_same]; exact h1
  obtain ⟨n1, n2⟩ := minus_is fp
  have ed : del F' p = Fi' := by
    funext b
    by_cases z : b = p
    · rw [z, del_same, n1]
    · rw [del_ne z]
      cases y : Fi' b with
      | some w => exact sf _ _ y
      | none =>
        have e1 : minus F' Fi' b = none := by
          rw [hm]
          cases y2 : F b with
          | none => cases y3 : del F p b with
            | none => rw [minus_none y3]; exact y2
            | some w => rw [minus_some y3]
          | some w => rw [minus_some (o := w) (by rw [del_ne z]; exact y2)]
        rw [minus_none y] at e1
        exact e1
  exact ⟨v, q, n2, Rq.mono s2 h2, by rw [ed]; exact hy⟩
/-- something of our own without a part -/
def ohole {α β : Type} (D : OT α) (d : OT β) (a q : Addr) (put : β → α) : SV := .ow (fun H p F => p = a ∧ ∀ H2, Same H H2 → ∀ y Fi F', d.φ H2 y q Fi → Same Fi F' → minus F' Fi = F → D.φ H2 (put y) a F')
  (fun _ _ _ _ e ⟨h1, h2⟩ => ⟨h1, fun H2 s2 => h2 H2 (e.trans s2)⟩)
/-- our own thing at a place that is told -/
def ooA {α : Type} (d : OT α) (x : α) (a : Addr) : SV := .ow (fun H p F => p = a ∧ d.φ H x p F) (fun H H' p F e ⟨h1, h2⟩ => ⟨h1, d.m _ _ _ _ _ e h2⟩)
/-- a name of what is elsewhere ours -/
def al (a : Addr) : SV := .fv (fun _ v => v = .ref a) (fun _ _ _ _ h => h)
theorem minus2 {H F Fi : Hp} (s : Same Fi F) : minus (minus H Fi) (minus F Fi) = minus H F := by
  funext b
  cases y : Fi b with
  | some w => rw [minus_none (by rw [minus_some y] : minus F Fi b = none), minus_some y, minus_some (s _ _ y)]
  | none =>
    cases z : F b with
    | some w => rw [minus_some (o := w) (by rw [minus_none y]; exact z), minus_some z]
    | none => rw [minus_none (by rw [minus_none y]; exact z), minus_none y, minus_none z]
section
variable {α β : Type} {D : OT α} {d : OT β} {B : Bk} {Hi H : Hp} {L : List SV} {s : L2.St} {a q : Addr} {put : β → α} {x : α} {y : β}
theorem sat_open {F Fi : Hp} (k : SatG B Hi L s (minus H F)) (sF : Same F H) (si : Same Fi F) (hy : d.φ Hi y q Fi) (hole : ∀ H2, Same Hi H2 → ∀ y Fi' F', d.φ H2 y q Fi' → Same Fi' F' → minus F' Fi' = minus F Fi → D.φ H2 (put y) a F') :
    SatG B Hi (ooA d y q :: ohole D d a q put :: L) (some (.ref q) :: some (.ref a) :: s) H := by
  refine ⟨q, Fi, rfl, si.trans sF, ⟨rfl, hy⟩, a, minus F Fi, rfl, fun b o e => ?_, ⟨rfl, fun H2 s2 y Fi' F' h1 h2 h3 => hole H2 s2 y Fi' F' h1 h2 h3⟩, ?_⟩
  · obtain ⟨n1, n2⟩ := minus_is e
    rw [minus_none n1]; exact sF _ _ n2
  · rw [minus2 si]; exact k
theorem sat_close (h : SatG B Hi (ooA d y q :: ohole D d a q put :: L) (some (.ref q) :: some (.ref a) :: s) H) : SatG B Hi (ooA D (put y) a :: L) (some (.ref a) :: s) H := by
  obtain ⟨q', Fi, e1, s1, ⟨h0, h1⟩, a', F0, e2, s2, ⟨h2, h3⟩, k⟩ := h
  cases e1; cases e2
  have dj : ∀ b w, F0 b = some w → Fi b = none := fun b w z => (minus_is (s2 _ _ z)).1
  have em : minus (plus F0 Fi) Fi = F0 := by
    funext b
    cases y : Fi b with
    | some w =>
      rw [minus_some y]
      cases z : F0 b with
      | none => rfl
      | some u => rw [dj b u z] at y; cases y
    | none => rw [minus_none y, plus_none y]
  refine ⟨a, plus F0 Fi, rfl, fun b o e => ?_, ⟨rfl, h3 Hi (Same.refl _) y Fi _ h1 (fun b o e => plus_some e) em⟩, ?_⟩
  · cases y : Fi b with
    | some w => rw [plus_some y] at e; cases e; exact s1 _ _ y
    | none => rw [plus_none y] at e; exact minus_sub _ _ (s2 _ _ e)
  · have : minus H (plus F0 Fi) = minus (minus H Fi) F0 := by
      funext b
      cases y : Fi b with
      | some w =>
        rw [minus_some (o := w) (plus_some y)]
        cases z : F0 b with
        | none => rw [minus_none z, minus_some y]
        | some u => rw [minus_some z]
      | none =>
        cases z : F0 b with
        | some u => rw [minus_some (o := u) (by rw [plus_none y]; exact z), minus_some z]
        | none => rw [minus_none (by rw [plus_none y]; exact z), minus_none z, minus_none y]
    rw [this]; exact k
theorem SatG.ooA_oo (h : SatG B Hi (ooA D x a :: L) (some (.ref a) :: s) H) : SatG B Hi (oo D x :: L) (some (.ref a) :: s) H := by
  obtain ⟨p, F, e1, s1, ⟨_, h1⟩, k⟩ := h
  cases e1
  exact ⟨a, F, rfl, s1, h1, k⟩
end
theorem Wk.unpinA {α : Type} {d : OT α} {x : α} {a : Addr} {L L' : List SV} (w : Wk L L') : Wk (ooA d x a :: L) (oo d x :: L') := .imp (fun _ _ _ h => h.2) w
theorem SatG.replT {B : Bk} {Hi H : Hp} {T L : List SV} {tv s : L2.St} {i : Nat} {φ m} (e : tv.length = T.length) (h : SatG B Hi (T ++ L) (tv ++ s) H) (hi : L[i]? = some (.ow φ m)) : ∃ p F, s[i]? = some (some (.ref p)) ∧ Same F H ∧ φ Hi p F ∧ SatG B Hi (T ++ L.set i .un) (tv ++ s) (minus H F) ∧
    ∀ Hi' H' c, SatG B Hi' (c :: (T ++ L.set i .un)) (some (.ref p) :: (tv ++ s)) H' → SatG B Hi' (T ++ L.set i c) (tv ++ s) H' := by
  obtain ⟨q, F0, h1, _, _, _, _⟩ := h.ownFT e hi
  have z := h.front (i := T.length + i) (by rw [get_app]; exact hi)
  rw [set_app, ← e, get_app, h1] at z
  obtain ⟨p, F, e1, h2, h3, k⟩ := z
  cases e1
  refine ⟨q, F, h1, h2, h3, k, fun Hi' H' c hc => ?_⟩
  have y := hc.putT e (i := i)
  rw [List.set_set, set_get_self _ _ _ h1] at y
  exact y
section
variable {X : Cx} {e a b c iter : Expr} {es : List Expr} {t ta tb tc td ty te : TE} {tt : TT} {tr : TA} {G G1 : List SV} {α β γ τ ρ O S R : Type} {pos p : Pos} {n n1 n2 : Str} {rest : List Stmt} {u ts : TS} {P Px : Post O} {d : OT α} {d' : OT β} {F : Hp}
theorem bj_pinA {x : α} (i : Nat) {m : Option O} (h : ∀ q : Addr, BJ X rest u (G.set i (ooA d x q)) m P) (hi : G[i]? = some (oo d x) := by rfl) : BJ X rest u G m P := ⟨(h 0).ps, fun B Hi T tv s H D o hx hl hs k => by
  obtain ⟨q, F, h1, h2, h3, h4, up⟩ := hs.ownFT hl hi
  exact (h q).ev B Hi T tv s H D o hx hl (up F _ (fun H H' p F e h => ⟨h.1, d.m _ _ _ _ _ e h.2⟩) H ⟨rfl, h3⟩ h2 rfl) k⟩
/-- xs.clear(), where xs stays where it is -/
theorem bj_clearA {xs : List α} {q : Addr} {m3 : List α → Option O} (l : Nat) {D : OT (List α)} (hD : (∃ (x : Rq α), D = oL) ∨ ∃ d, D = oLL d) (hr : ∀ ys, BJ X rest u (G.set l (ooA D ys q)) (m3 ys) P) {p2 apos cpos : Pos} (hg : G[l]? = some (ooA D xs q) := by rfl)
    (hN : X.N[l]? = some n := by rfl) (hv : Vis X.env.scope n := by first | exact Or.inl rfl | exact Or.inr (Or.inl rfl) | exact Or.inr (Or.inr rfl)) (hd : (n == ("__debug__" : Str)) = false := by decide) (hcd : (n == ("__classdict__" : Str)) = false := by decide)
    (hbase : attributeBase (.Name n p2) "clear" X.env (eval (.Name n p2) X.env) = eval (.Name n p2) X.env := by rfl) (hline : (apos.endLine == cpos.line) = true := by rfl) (hsw : swapsWith (.Call (.Attribute (.Name n p2) "clear" apos) [] [] cpos) none pos.line X.env = pure false := by rfl) :
    BJ X (.Expr (.Call (.Attribute (.Name n p2) "clear" apos) [] [] cpos) pos :: rest) (tSeq (tDrop (tBM0 X.K "list" rClear (tVar l))) u) G ((some ([] : List α)).bind m3) P :=
  ⟨pss_cons (ps_expr (pe_bm0 PySem.F.plainAttrs_list PySem.F.slot_list_clear PySem.F.type_list_clear mt_clear (pe_var hN hv hd hcd) hbase hline) hsw) (hr []).ps, fun B Hi T tv s H D' o hx hl hs k => by
  obtain ⟨p, F, h1, h2, ⟨h0, h3⟩, h4, up⟩ := hs.replT hl hg
  subst h0
  have hF : ∃ vs, F p = some (.lst vs) := by
    rcases hD with ⟨x, rfl⟩ | ⟨d, rfl⟩
    · obtain ⟨u, e1, vs, e2, _⟩ := h3
      exact ⟨vs, by rw [e1, one_same, e2]⟩
    · obtain ⟨vs, e1, _⟩ := h3
      exact ⟨vs, e1⟩
  obtain ⟨vs, hF⟩ := hF
  have hH : H p = some (.lst vs) := h2 _ _ hF
  refine ⟨.ref p, h1, .inl ⟨rfl, _, SqL.of hH⟩, p, vs, rfl, rfl, hH, ?_⟩
  refine (hr []).ev B Hi T tv s _ D' o hx hl (up Hi _ _ ⟨p, one p (.lst []), rfl, same_one upd_same, ⟨rfl, ?_⟩, ?_⟩) k
  · rcases hD with ⟨x, rfl⟩ | ⟨d, rfl⟩
    · exact ⟨_, rfl, [], rfl, Nat.zero_le _, .nil⟩
    · refine ⟨[], one_same, Nat.zero_le _, fun b => ?_⟩
      by_cases z : b = p
      · rw [z, del_same]
      · rw [del_ne z, one_ne z]
  · rw [minus_one, del_upd]
    refine SatG.up (L := T ++ G.set l .un) (s := tv ++ s) h4 fun b o e => ?_
    obtain ⟨z1, z2⟩ := minus_is e
    rw [del_ne (fun z => by rw [z, hF] at z1; cases z1)]; exact z2⟩
theorem bj_clearQ {xs : List α} {m3 : List α → Option O} (l : Nat) {d : OT α} (hr : ∀ ys, BJ X rest u (G.set l (oo (oLL d) ys)) (m3 ys) P) {p2 apos cpos : Pos} (hg : G[l]? = some (oo (oLL d) xs) := by rfl)
    (hN : X.N[l]? = some n := by rfl) (hv : Vis X.env.scope n := by first | exact Or.inl rfl | exact Or.inr (Or.inl rfl) | exact Or.inr (Or.inr rfl)) (hd : (n == ("__debug__" : Str)) = false := by decide) (hcd : (n == ("__classdict__" : Str)) = false := by decide)
    (hbase : attributeBase (.Name n p2) "clear" X.env (eval (.Name n p2) X.env) = eval (.Name n p2) X.env := by rfl) (hline : (apos.endLine == cpos.line) = true := by rfl) (hsw : swapsWith (.Call (.Attribute (.Name n p2) "clear" apos) [] [] cpos) none pos.line X.env = pure false := by rfl) :
    BJ X (.Expr (.Call (.Attribute (.Name n p2) "clear" apos) [] [] cpos) pos :: rest) (tSeq (tDrop (tBM0 X.K "list" rClear (tVar l))) u) G ((some ([] : List α)).bind m3) P := by
  refine bj_pinA l (fun q => ?_) hg
  refine bj_clearA (xs := xs) (q := q) l (.inr ⟨d, rfl⟩) (fun ys => ⟨(hr ys).ps, fun B Hi T tv s H D o hx hl hs k => ?_⟩) (by
    obtain ⟨h1, h2⟩ := List.getElem?_eq_some_iff.mp hg
    rw [List.getElem?_set_self h1]) hN hv hd hcd hbase hline hsw
  rw [List.set_set] at hs
  refine (hr ys).ev B Hi T tv s H D o hx hl ?_ k
  obtain ⟨h1, h2⟩ := List.getElem?_eq_some_iff.mp hg
  obtain ⟨p, F, g1, g2, ⟨g3, g4⟩, g5, up⟩ := hs.replT hl (show (G.set l (ooA (oLL d) ys q))[l]? = some (ooA (oLL d) ys q) by rw [List.getElem?_set_self h1])
  have := up Hi H (oo (oLL d) ys) ⟨p, F, rfl, g2, g4, g5⟩
  rw [List.set_set] at this
  exact this
/-- xs.append(e), where xs stays where it is -/
theorem bj_appendA [Rq α] {xs : List α} {q : Addr} {m1 : Option α} {m3 : List α → Option O} (l : Nat) (h : EJ X e t G m1) (hr : ∀ ys, BJ X rest u (G.set l (ooA oL ys q)) (m3 ys) P) {p2 apos cpos : Pos} (hg : G[l]? = some (ooA oL xs q) := by rfl)
    (hN : X.N[l]? = some n := by rfl) (hv : Vis X.env.scope n := by first | exact Or.inl rfl | exact Or.inr (Or.inl rfl) | exact Or.inr (Or.inr rfl)) (hd : (n == ("__debug__" : Str)) = false := by decide) (hcd : (n == ("__classdict__" : Str)) = false := by decide)
    (hbase : attributeBase (.Name n p2) "append" X.env (eval (.Name n p2) X.env) = eval (.Name n p2) X.env := by rfl)
    (hfew : ((backTo cpos (starEach [e] X.env)).all (fun x => !x.1) && (backToKw cpos (keywordEach [] X.env)).all (fun x => x.1.isSome) && decide ([e].length + ([] : List Keyword).length + (if ([] : List Keyword).isEmpty then 0 else 1) < 30)) = true := by rfl)
    (hline : (apos.endLine == cpos.line) = true := by rfl) (hst : starEach [e] X.env = (false, eval e X.env) :: starEach [] X.env := by rfl) (hplain : (backTo cpos (starEach [] X.env)).any (·.1) = false := by rfl) (hsw : swapsWith (.Call (.Attribute (.Name n p2) "append" apos) [e] [] cpos) none pos.line X.env = pure false := by rfl) :
    BJ X (.Expr (.Call (.Attribute (.Name n p2) "append" apos) [e] [] cpos) pos :: rest) (tSeq (tDrop (tBM X.K "list" rAppend (tVar l) (tCons t tNil))) u) G (m1.bind fun y => (appC xs y).bind m3) P :=
  ⟨pss_cons (ps_expr (pe_bm PySem.F.plainAttrs_list PySem.F.slot_list_append PySem.F.type_list_append mt_append (pe_var hN hv hd hcd) (pa_cons h.pe pa_nil hst) hbase hfew hline hst hplain) hsw) (hr []).ps, fun B Hi T tv s H D o hx hl hs k => by
  obtain ⟨y, e1, hx⟩ := bind_some hx
  obtain ⟨ys, e2, e3⟩ := bind_some hx
  obtain ⟨p, F, h1, h2, ⟨h0, h3⟩, _, _⟩ := hs.replT hl hg
  subst h0
  obtain ⟨u0, e4, vs, e5, _⟩ := h3
  subst e4 e5
  refine ⟨.ref p, h1, .inl ⟨rfl, _, SqL.of (h2 _ _ one_same)⟩, ?_⟩
  refine h.ev B Hi T tv s H _ y e1 hl hs fun v Hi1 H1 s1 r1 => ?_
  obtain ⟨p', F', g1, g2, ⟨g0, g3⟩, g4, up⟩ := s1.replT hl hg
  cases g0
  obtain ⟨u1, f1, vs', f2, f3, f4⟩ := g3
  subst f1 f2
  unfold appC at e2
  by_cases hz : xs.length < sizeLine
  · rw [if_pos hz] at e2
    cases e2
    refine ⟨p, vs', v, rfl, rfl, g2 _ _ one_same, by rw [← Paired.length f4]; exact hz, ?_⟩
    refine (hr _).ev B Hi1 T tv s _ D o e3 hl (up Hi1 _ _ ⟨p, one p (.lst (vs' ++ [v])), rfl, same_one upd_same, ⟨rfl, _, rfl, _, rfl, by rw [List.length_append, ← Paired.length f4]; exact hz, Paired.append f4 (.cons r1 .nil)⟩, ?_⟩) k
    rw [minus_one, del_upd]
    rw [minus_one] at g4
    exact g4
  · rw [if_neg hz] at e2; cases e2⟩
/-- name.append(something new of our own) -/
theorem bj_appQ {xs : List α} {m1 : Option α} {m3 : List α → Option O} (l : Nat) (h : QJ d X e t G m1) (hr : ∀ ys, BJ X rest u (G.set l (oo (oLL d) ys)) (m3 ys) P) {p2 apos cpos : Pos} (hg : G[l]? = some (oo (oLL d) xs) := by rfl)
    (hN : X.N[l]? = some n := by rfl) (hv : Vis X.env.scope n := by first | exact Or.inl rfl | exact Or.inr (Or.inl rfl) | exact Or.inr (Or.inr rfl)) (hd : (n == ("__debug__" : Str)) = false := by decide) (hcd : (n == ("__classdict__" : Str)) = false := by decide)
    (hbase : attributeBase (.Name n p2) "append" X.env (eval (.Name n p2) X.env) = eval (.Name n p2) X.env := by rfl)
    (hfew : ((backTo cpos (starEach [e] X.env)).all (fun x => !x.1) && (backToKw cpos (keywordEach [] X.env)).all (fun x => x.1.isSome) && decide ([e].length + ([] : List Keyword).length + (if ([] : List Keyword).isEmpty then 0 else 1) < 30)) = true := by rfl)
    (hline : (apos.endLine == cpos.line) = true := by rfl) (hst : starEach [e] X.env = (false, eval e X.env) :: starEach [] X.env := by rfl) (hplain : (backTo cpos (starEach [] X.env)).any (·.1) = false := by rfl) (hsw : swapsWith (.Call (.Attribute (.Name n p2) "append" apos) [e] [] cpos) none pos.line X.env = pure false := by rfl) :
    BJ X (.Expr (.Call (.Attribute (.Name n p2) "append" apos) [e] [] cpos) pos :: rest) (tSeq (tDrop (tBM X.K "list" rAppend (tVar l) (tCons t tNil))) u) G (m1.bind fun y => (appC xs y).bind m3) P :=
  ⟨pss_cons (ps_expr (pe_bm PySem.F.plainAttrs_list PySem.F.slot_list_append PySem.F.type_list_append mt_append (pe_var hN hv hd hcd) (pa_cons h.pe pa_nil hst) hbase hfew hline hst hplain) hsw) (hr []).ps, fun B Hi T tv s H D o hx hl hs k => by
  obtain ⟨y, e1, hx⟩ := bind_some hx
  obtain ⟨ys, e2, e3⟩ := bind_some hx
  obtain ⟨p, F, h1, h2, ⟨vs0, h3, _, _⟩, _, _⟩ := hs.replT hl hg
  refine ⟨.ref p, h1, .inl ⟨rfl, _, SqL.of (h2 _ _ h3)⟩, ?_⟩
  refine h.ev B Hi T tv s H _ y e1 hl hs fun q Hi1 H1 s1 => ?_
  have l1 : (some (V.ref q) :: tv).length = (oo d y :: T).length := by simp [hl]
  obtain ⟨p', F', g1, g2, g3, g4, up⟩ := SatG.replT (T := oo d y :: T) (tv := some (.ref q) :: tv) l1 s1 hg
  rw [h1] at g1
  cases g1
  have g3' := g3
  obtain ⟨vs, f1, f2, f3⟩ := g3'
  obtain ⟨hz, rfl⟩ := appC_is e2
  have hH : H1 p = some (.lst vs) := g2 _ _ f1
  refine ⟨p, vs, .ref q, rfl, rfl, hH, by rw [← f3.len]; exact hz, ?_⟩
  -- item first, then the list
  have st : SatG B Hi1 (oo d y :: oo (oLL d) xs :: (T ++ G.set l .un)) (some (.ref q) :: some (.ref p) :: (tv ++ s)) H1 := by
    obtain ⟨q', Fq, e4, q1, q2, q3⟩ := g4
    cases e4
    refine ⟨q, Fq, rfl, q1.trans minus_sub, q2, p, F', rfl, fun b o e => ?_, g3, ?_⟩
    · rw [minus_none]
      · exact g2 _ _ e
      · cases z : Fq b with
        | none => rfl
        | some w => have := (minus_is (q1 _ _ z)).1; rw [e] at this; cases this
    · rw [minus_comm]; exact q3
  have s3 := sat_snoc (L := T ++ G.set l .un) (s := tv ++ s) st hH (by rw [← f3.len]; exact hz)
  have s4 := s3.putT hl (i := l)
  rw [List.set_set, set_get_self _ _ _ h1] at s4
  exact (hr _).ev B Hi1 T tv s _ D o e3 hl s4 k⟩
/-- (a, b) with b our own -/
theorem qj_tF [Rq α] {d' : OT β} {m1 : Option α} {m2 : Option β} {x1} (ha : EJ X a ta G m1) (hb : QJ d' X b tb G m2) (he : starEach [a, b] X.env = (false, eval a X.env) :: starEach [b] X.env := by rfl) (he2 : starEach [b] X.env = (false, eval b X.env) :: starEach [] X.env := by rfl) :
    QJ (otF (α := α) d') X (.Tuple [a, b] x1 pos) (tTup (tCons ta (tCons tb tNil))) G (m1.bind fun x => m2.bind fun y => some (x, y)) :=
  ⟨pe_tup (pa_cons ha.pe (pa_cons hb.pe pa_nil he2) he), fun B Hi T tv s H Q z hx hl hs k => by
  obtain ⟨x, e1, hx⟩ := bind_some hx
  obtain ⟨y, e2, e3⟩ := bind_some hx
  cases e3
  refine ha.ev B Hi T tv s H _ x e1 hl hs fun v Hi1 H1 s1 r1 => ?_
  refine hb.ev B Hi1 (fz x :: T) (some v :: tv) s H1 _ y e2 (by simp [hl]) ⟨⟨v, rfl, r1⟩, s1⟩ fun p2 Hi2 H2 s2 => ?_
  refine ⟨by show 2 ≤ sizeLine; decide, fun q hq => ?_⟩
  obtain ⟨p2', F, e4, sF, hy, ⟨v', e5, r1'⟩, kk⟩ := s2
  cases e4; cases e5
  have nF : F q = none := by
    cases z : F q with
    | none => rfl
    | some w => rw [sF _ _ z] at hq; cases hq
  refine k q Hi2 _ ⟨q, upd F q (.tup [v, .ref p2]), rfl, fun b o e => ?_, ⟨v, p2, upd_same, r1', ?_⟩, ?_⟩
  · by_cases z : b = q
    · rw [z, upd_same] at e; rw [z, upd_same]; exact e
    · rw [upd_ne z] at e; rw [upd_ne z]; exact sF _ _ e
  · rw [del_upd, del_new nF]; exact hy
  · have : minus (upd H2 q (.tup [v, .ref p2])) (upd F q (.tup [v, .ref p2])) = minus H2 F := by
      funext b
      by_cases z : b = q
      · rw [z, minus_some (o := .tup [v, .ref p2]) upd_same, minus_none nF, hq]
      · cases w : F b with
        | some o => rw [minus_some (o := o) (by rw [upd_ne z]; exact w), minus_some w]
        | none => rw [minus_none (by rw [upd_ne z]; exact w), minus_none w, upd_ne z]
    rw [this]; exact kk⟩
theorem qj_nilL {d : OT α} : QJ (oLL d) X (.List [] pos) (tLst tNil) G (some []) := ⟨pe_lst pa_nil, fun B Hi T tv s H Q z hx hl hs k => by
  cases hx
  refine ⟨Nat.zero_le _, fun q hq => ?_⟩
  refine k q Hi _ ⟨q, one q (.lst []), rfl, same_one upd_same, ⟨[], one_same, Nat.zero_le _, fun b => ?_⟩, by rw [minus_one, del_upd, del_new hq]; exact hs⟩
  by_cases z : b = q
  · rw [z, del_same]
  · rw [del_ne z, one_ne z]⟩
end
/-! ### a for over our own list of our own things, each of which is changed -/
def forMS {α S : Type} : List α → S → (α → S → Option (α × S)) → Option (List α × S)
  | [], s, _ => some ([], s)
  | x :: xs, s, f => (f x s).bind fun z => (forMS xs z.2 f).bind fun w => some (z.1 :: w.1, w.2)
section
variable {X : Cx} {e a b c iter : Expr} {es : List Expr} {t ta tb tc td ty te : TE} {tt : TT} {tr : TA} {G G1 : List SV} {α β γ τ ρ O S R : Type} {pos p : Pos} {n n1 n2 : Str} {rest : List Stmt} {u ts tB : TS} {P Px : Post O} {d : OT α} {d' : OT β} {F : Hp} {body : List Stmt}
theorem bj_forM {xs : List α} {N : Addr → S → List SV} {Nr : Addr → List α → S → List SV} {mb : α → S → Option (α × S)} {mr : List α → S → Option O} (l i : Nat) (hcalm : X.calm = true) (hN : X.N.Nodup) (s0 : S) (x0 : α) (a : Addr) (hli : l ≠ i)
    (w0 : Wk (G.set l (al a)) (N a s0)) (hb : ∀ q x st, BJ X body tB ((N a st).set i (ooA d x q)) (mb x st) (PP fun z : α × S => (N a z.2).set i (ooA d z.1 q))) (hr : ∀ ys st, BJ X rest u (Nr a ys st) (mr ys st) P)
    (hp : PassesOwn (model X.prog X.w) X.A X.env X.xe) {p1 p2 : Pos} (hg : G[l]? = some (ooA (oLL d) xs a) := by rfl) (hNl : ∀ st, (N a st)[l]? = some (al a) := by intro _; rfl) (hNi : ∀ st, (N a st).set i .un = N a st := by intro _; rfl) (hgi : ∀ q x st, ((N a st).set i (ooA d x q))[i]? = some (ooA d x q) := by intro _ _ _; rfl) (hNr : ∀ ys st, (N a st).set l (ooA (oLL d) ys a) = Nr a ys st := by intro _ _; rfl)
    (hi : X.N[i]? = some n := by rfl) (hx : Loc X.env.scope n := by first | exact Or.inl rfl | exact Or.inr rfl) (hf : X.fn n = true ∨ X.env.scope.names.lookup n = some .local := by first | exact .inl rfl | exact .inr rfl | assumption)
    (hNn : X.N[l]? = some n2 := by rfl) (hv : Vis X.env.scope n2 := by first | exact Or.inl rfl | exact Or.inr (Or.inl rfl) | exact Or.inr (Or.inr rfl)) (hd : (n2 == ("__debug__" : Str)) = false := by decide) (hcd : (n2 == ("__classdict__" : Str)) = false := by decide) (hs : ∀ x, foldedSetIterable (.Name n2 p2) X.env x = pure x := by intro _; rfl) :
    BJ X (.For (.Name n p1) (.Name n2 p2) body [] pos :: rest) (tSeq (tFor (iList X.K (tVar l)) (gName i) tB) u) G ((forMS xs s0 mb).bind fun z => mr z.1 z.2) P :=
  ⟨pss_cons (ps_for hp hcalm (pi_list (pe_var hNn hv hd hcd)) (pg_name hN hi hx hf) (hb 0 x0 s0).ps hs) (hr [] s0).ps, fun B Hi T tv s H D o hx' hl hs' k => by
    obtain ⟨fr, e2, e3⟩ := bind_some hx'
    obtain ⟨p, F, h1, h2, ⟨h0, h3⟩, h4, up⟩ := hs'.replT hl hg
    subst h0
    have hF : ∃ vs, F p = some (.lst vs) := by obtain ⟨vs, z, _⟩ := h3; exact ⟨vs, z⟩
    obtain ⟨vs0, hF⟩ := hF
    refine ⟨.ref p, h1, p, rfl, ⟨vs0, SqL.of (h2 _ _ hF)⟩, ?_⟩
    -- the state at a turn: the list is ours in front
    have st0 : SatG B Hi (ooA (oLL d) xs p :: (T ++ N p s0)) (some (.ref p) :: (tv ++ s)) H := by
      refine ⟨p, F, rfl, h2, ⟨rfl, h3⟩, ?_⟩
      have y1 : SatG B Hi (al p :: (T ++ G.set l .un)) (some (.ref p) :: (tv ++ s)) (minus H F) := ⟨⟨.ref p, rfl, rfl⟩, h4⟩
      have y2 := y1.putT hl (i := l)
      rw [List.set_set, set_get_self _ _ _ h1] at y2
      exact SatG.wkT hl w0 y2
    refine ⟨fun j m σ H2 => m = xs.length - j ∧ j ≤ xs.length ∧ σ[l]? = some (some (.ref p)) ∧ ∃ Hi2 st done zs, done.length = j ∧ SatG B Hi2 (ooA (oLL d) (done ++ xs.drop j) p :: (T ++ N p st)) (some (.ref p) :: (tv ++ σ)) H2 ∧ forMS (xs.drop j) st mb = some zs ∧ fr = (done ++ zs.1, zs.2), ⟨xs.length, by simp, Nat.zero_le _, h1, Hi, s0, [], fr, rfl, by simpa using st0, by simpa using e2, by simp⟩, ?_⟩
    rintro j m σ H2 ⟨rfl, hj, hσ, Hi2, st, done, zs, ld, s2, e4, e5⟩
    have s2' := s2
    obtain ⟨p', F2, e6, q1, ⟨_, q2⟩, q3⟩ := s2'
    cases e6
    by_cases hlt : j < xs.length
    · refine .inr ?_
      have hdr : xs.drop j = xs[j] :: xs.drop (j + 1) := by rw [List.drop_eq_getElem_cons hlt]
      have hy : (done ++ xs.drop j)[j]? = some xs[j] := by
        rw [List.getElem?_append_right (by omega), ld, Nat.sub_self, hdr]; rfl
      obtain ⟨vs, q, Fi, f1, f2, f3, f4, f5, f6⟩ := oLL_open q2 hy
      have hH : H2 p = some (.lst vs) := q1 _ _ f1
      rw [hdr] at e4
      obtain ⟨z, e7, e8⟩ := bind_some e4
      obtain ⟨w, e9, e10⟩ := bind_some e8
      cases e10
      have sop := sat_open (L := T ++ N p st) (s := tv ++ σ) (D := oLL d) (d := d) (put := fun y => (done ++ xs.drop j).set j y) q3 q1 f4 f5 f6
      have setj : (done ++ xs.drop j).set j z.1 = (done ++ [z.1]) ++ xs.drop (j + 1) := by
        rw [List.set_append_right _ _ (by omega), ld, Nat.sub_self, hdr, List.set_cons_zero, List.append_assoc]; rfl
      refine ⟨⟨vs, .ref q, SqL.of hH, f3⟩, fun σ3 H3 => σ3[l]? = some (some (.ref p)) ∧ ∃ Hi3, SatG B Hi3 (ooA (oLL d) ((done ++ [z.1]) ++ xs.drop (j + 1)) p :: (T ++ N p z.2)) (some (.ref p) :: (tv ++ σ3)) H3, fun σ3 H3 ⟨hσ3, Hi3, g1⟩ => ⟨xs.length - (j + 1), by omega, rfl, hlt, hσ3, Hi3, z.2, done ++ [z.1], w, by rw [List.length_append, ld]; rfl, g1, e9, by rw [e5, List.append_assoc]; rfl⟩, fun v H3 hy2 => ?_⟩
      obtain ⟨y1, y2⟩ := hy2
      subst y1
      have y3 := y2 vs (SqL.of hH)
      rw [f3] at y3
      cases y3
      show tB _ (σ.set i (some (.ref q))) H3
      have l1 : (some (V.ref p) :: tv).length = (ohole (oLL d) d p q (fun y => (done ++ xs.drop j).set j y) :: T).length := by simp [hl]
      have s4 := SatG.putT (T := ohole (oLL d) d p q (fun y => (done ++ xs.drop j).set j y) :: T) (tv := some (.ref p) :: tv) (L := N p st) (s := σ) (i := i) l1 sop
      refine (hb q xs[j] st).ev B Hi2 (ohole (oLL d) d p q (fun y => (done ++ xs.drop j).set j y) :: T) (some (.ref p) :: tv) _ H3 _ z e7 l1 s4 fun s5 Hi5 H5 q5 => ?_
      have back : s5[l]? = some (some (.ref p)) ∧ ∃ Hi3, SatG B Hi3 (ooA (oLL d) ((done ++ [z.1]) ++ xs.drop (j + 1)) p :: (T ++ N p z.2)) (some (.ref p) :: (tv ++ s5)) H5 := by
        obtain ⟨p1, F1, r1, r2, ⟨r0, r3⟩, r4, _⟩ := SatG.replT (T := ohole (oLL d) d p q (fun y => (done ++ xs.drop j).set j y) :: T) (tv := some (.ref p) :: tv) l1 q5 (hgi q z.1 z.2)
        subst r0
        rw [List.set_set, hNi] at r4
        have hal := SatG.getT (T := ohole (oLL d) d p p1 (fun y => (done ++ xs.drop j).set j y) :: T) (tv := some (.ref p) :: tv) l1 r4 (hNl z.2)
        obtain ⟨v1, a1, a2⟩ := hal
        have cl := sat_close (L := T ++ N p z.2) (s := tv ++ s5) (D := oLL d) (d := d) (a := p) (q := p1) (put := fun y => (done ++ xs.drop j).set j y) (y := z.1) (H := H5) ⟨p1, F1, rfl, r2, ⟨rfl, r3⟩, r4⟩
        have a2 : v1 = .ref p := a2
        subst a2
        rw [setj] at cl
        exact ⟨a1, Hi5, cl⟩
      exact ⟨back, back⟩
    · have e : j = xs.length := by omega
      subst e
      rw [List.drop_length] at e4 s2 q2
      cases e4
      obtain ⟨vs, f1, f2, f3⟩ := q2
      have hH : H2 p = some (.lst vs) := q1 _ _ f1
      refine .inl ⟨⟨vs, SqL.of hH, by rw [← f3.len, List.append_nil, ld]; exact Nat.le_refl _⟩, ?_⟩
      have s6 := s2.putT hl (i := l)
      rw [set_get_self _ _ _ hσ, hNr] at s6
      rw [e5] at e3
      exact (hr _ _).ev B Hi2 T tv σ H2 D o e3 hl s6 k⟩
theorem bj_forM2 [Rq α] {d' : OT β} {xs : List (α × β)} {N : Addr → S → List SV} {Nr : Addr → List (α × β) → S → List SV} {mb : α × β → S → Option (β × S)} {mr : List (α × β) → S → Option O} {kk : Nat} {ppos p3 p4 : Pos} (l i1 i2 : Nat) (hcalm : X.calm = true) (hN : X.N.Nodup) (s0 : S) (x0 : α × β) (a : Addr)
    (w0 : Wk (G.set l (al a)) (N a s0)) (hb : ∀ q x st, BJ X body tB (((N a st).set i1 (fz x.1)).set i2 (ooA d' x.2 q)) (mb x st) (PP fun z : β × S => (N a z.2).set i2 (ooA d' z.1 q))) (hr : ∀ ys st, BJ X rest u (Nr a ys st) (mr ys st) P)
    (hp : PassesOwn (model X.prog X.w) X.A X.env X.xe) {p2 : Pos} (hg : G[l]? = some (ooA (oLL (otF (α := α) d')) xs a) := by rfl) (hNl : ∀ st, (N a st)[l]? = some (al a) := by intro _; rfl) (hNi : ∀ st, (N a st).set i2 .un = N a st := by intro _; rfl) (hgi : ∀ q (y : β) st, ((N a st).set i2 (ooA d' y q))[i2]? = some (ooA d' y q) := by intro _ _ _; rfl) (hNr : ∀ ys st, (N a st).set l (ooA (oLL (otF d')) ys a) = Nr a ys st := by intro _ _; rfl)
    (hi1 : X.N[i1]? = some n := by rfl) (hx1 : Loc X.env.scope n := by first | exact Or.inl rfl | exact Or.inr rfl) (hf1 : X.fn n = true ∨ X.env.scope.names.lookup n = some .local := by first | exact .inl rfl | exact .inr rfl | assumption)
    (hi2 : X.N[i2]? = some n1 := by rfl) (hx2 : Loc X.env.scope n1 := by first | exact Or.inl rfl | exact Or.inr rfl) (hf2 : X.fn n1 = true ∨ X.env.scope.names.lookup n1 = some .local := by first | exact .inl rfl | exact .inr rfl | assumption)
    (ht1 : (assignEach [.Name n p3, .Name n1 p4] X.env).map (·.2) = assign (.Name n p3) X.env :: (assignEach [.Name n1 p4] X.env).map (·.2) := by rfl) (ht2 : (assignEach [.Name n1 p4] X.env).map (·.2) = assign (.Name n1 p4) X.env :: (assignEach [] X.env).map (·.2) := by rfl)
    (hn : (assignEach [.Name n p3, .Name n1 p4] X.env).length = 2 := by rfl) (hst : (assignEach [.Name n p3, .Name n1 p4] X.env).findIdx? (·.1) = none := by rfl)
    (hNn : X.N[l]? = some n2 := by rfl) (hv : Vis X.env.scope n2 := by first | exact Or.inl rfl | exact Or.inr (Or.inl rfl) | exact Or.inr (Or.inr rfl)) (hd : (n2 == ("__debug__" : Str)) = false := by decide) (hcd : (n2 == ("__classdict__" : Str)) = false := by decide) (hs : ∀ x, foldedSetIterable (.Name n2 p2) X.env x = pure x := by intro _; rfl) :
    BJ X (.For (.Tuple [.Name n p3, .Name n1 p4] kk ppos) (.Name n2 p2) body [] pos :: rest) (tSeq (tFor (iList X.K (tVar l)) (gTup X.K 2 (gCons (gName i1) (gCons (gName i2) gNil))) tB) u) G ((forMS xs s0 fun x st => (mb x st).bind fun z => some ((x.1, z.1), z.2)).bind fun z => mr z.1 z.2) P :=
  ⟨pss_cons (ps_for hp hcalm (pi_list (pe_var hNn hv hd hcd)) (pg_tup hcalm (pgs_cons (pg_name hN hi1 hx1 hf1) (pgs_cons (pg_name hN hi2 hx2 hf2) pgs_nil ht2) ht1) hn hst) (hb 0 x0 s0).ps hs) (hr [] s0).ps, fun B Hi T tv s H D o hx' hl hs' k => by
    obtain ⟨fr, e2, e3⟩ := bind_some hx'
    obtain ⟨p, F, h1, h2, ⟨h0, h3⟩, h4, up⟩ := hs'.replT hl hg
    subst h0
    have hF : ∃ vs, F p = some (.lst vs) := by obtain ⟨vs, z, _⟩ := h3; exact ⟨vs, z⟩
    obtain ⟨vs0, hF⟩ := hF
    refine ⟨.ref p, h1, p, rfl, ⟨vs0, SqL.of (h2 _ _ hF)⟩, ?_⟩
    have st0 : SatG B Hi (ooA (oLL (otF d')) xs p :: (T ++ N p s0)) (some (.ref p) :: (tv ++ s)) H := by
      refine ⟨p, F, rfl, h2, ⟨rfl, h3⟩, ?_⟩
      have y1 : SatG B Hi (al p :: (T ++ G.set l .un)) (some (.ref p) :: (tv ++ s)) (minus H F) := ⟨⟨.ref p, rfl, rfl⟩, h4⟩
      have y2 := y1.putT hl (i := l)
      rw [List.set_set, set_get_self _ _ _ h1] at y2
      exact SatG.wkT hl w0 y2
    refine ⟨fun j m σ H2 => m = xs.length - j ∧ j ≤ xs.length ∧ σ[l]? = some (some (.ref p)) ∧ ∃ Hi2 st done zs, done.length = j ∧ SatG B Hi2 (ooA (oLL (otF d')) (done ++ xs.drop j) p :: (T ++ N p st)) (some (.ref p) :: (tv ++ σ)) H2 ∧ forMS (xs.drop j) st (fun x st => (mb x st).bind fun z => some ((x.1, z.1), z.2)) = some zs ∧ fr = (done ++ zs.1, zs.2), ⟨xs.length, by simp, Nat.zero_le _, h1, Hi, s0, [], fr, rfl, by simpa using st0, by simpa using e2, by simp⟩, ?_⟩
    rintro j m σ H2 ⟨rfl, hj, hσ, Hi2, st, done, zs, ld, s2, e4, e5⟩
    have s2' := s2
    obtain ⟨p', F2, e6, q1, ⟨_, q2⟩, q3⟩ := s2'
    cases e6
    by_cases hlt : j < xs.length
    · refine .inr ?_
      have hdr : xs.drop j = xs[j] :: xs.drop (j + 1) := by rw [List.drop_eq_getElem_cons hlt]
      have hy : (done ++ xs.drop j)[j]? = some xs[j] := by
        rw [List.getElem?_append_right (by omega), ld, Nat.sub_self, hdr]; rfl
      obtain ⟨vs, q, Fi, f1, f2, f3, f4, f5, f6⟩ := oLL_open q2 hy
      have hH : H2 p = some (.lst vs) := q1 _ _ f1
      rw [hdr] at e4
      obtain ⟨z, e7', e8⟩ := bind_some e4
      obtain ⟨z', e7, e77⟩ := bind_some e7'
      cases e77
      obtain ⟨w, e9, e10⟩ := bind_some e8
      cases e10
      have sop := sat_open (L := T ++ N p st) (s := tv ++ σ) (D := oLL (otF d')) (d := otF d') (put := fun y => (done ++ xs.drop j).set j y) q3 q1 f4 f5 f6
      have sop' := sop
      obtain ⟨q'', Fi', e11, t1, ⟨_, t2⟩, t3⟩ := sop'
      cases e11
      obtain ⟨v1, qb, g1, g2, g3, g4, g5⟩ := otF_open t2
      have sop2 := sat_open (L := ohole (oLL (otF d')) (otF d') p q (fun y => (done ++ xs.drop j).set j y) :: (T ++ N p st)) (s := some (.ref p) :: (tv ++ σ)) (D := otF (α := α) d') (d := d') (put := fun y => (xs[j].1, y)) t3 t1 g3 g4 g5
      have setj : (done ++ xs.drop j).set j (xs[j].1, z'.1) = (done ++ [(xs[j].1, z'.1)]) ++ xs.drop (j + 1) := by
        rw [List.set_append_right _ _ (by omega), ld, Nat.sub_self, hdr, List.set_cons_zero, List.append_assoc]; rfl
      have hq : H2 q = some (.tup [v1, .ref qb]) := t1 _ _ g1
      refine ⟨⟨vs, .ref q, SqL.of hH, f3⟩, fun σ3 H3 => σ3[l]? = some (some (.ref p)) ∧ ∃ Hi3, SatG B Hi3 (ooA (oLL (otF d')) ((done ++ [(xs[j].1, z'.1)]) ++ xs.drop (j + 1)) p :: (T ++ N p z'.2)) (some (.ref p) :: (tv ++ σ3)) H3, fun σ3 H3 ⟨hσ3, Hi3, g1⟩ => ⟨xs.length - (j + 1), by omega, rfl, hlt, hσ3, Hi3, z'.2, done ++ [(xs[j].1, z'.1)], w, by rw [List.length_append, ld]; rfl, g1, e9, by rw [e5, List.append_assoc]; rfl⟩, fun v H3 hy2 => ?_⟩
      obtain ⟨y1, y2⟩ := hy2
      subst y1
      have y3 := y2 vs (SqL.of hH)
      rw [f3] at y3
      cases y3
      refine ⟨q, [v1, .ref qb], rfl, SqT.of hq, rfl, v1, [.ref qb], rfl, .ref qb, [], rfl, rfl, ?_⟩
      let h1' := ohole (otF (α := α) d') d' q qb (fun y => (xs[j].1, y))
      let h2' := ohole (oLL (otF (α := α) d')) (otF d') p q (fun y => (done ++ xs.drop j).set j y)
      have l1 : (some (V.ref q) :: some (V.ref p) :: tv).length = (h1' :: h2' :: T).length := by simp [hl]
      -- the tuple's first: let in
      have s3 : SatG B Hi2 (fz xs[j].1 :: ooA d' xs[j].2 qb :: h1' :: h2' :: (T ++ N p st)) (some v1 :: some (.ref qb) :: some (.ref q) :: some (.ref p) :: (tv ++ σ)) H3 := ⟨⟨v1, rfl, g2⟩, sop2⟩
      have s4 := SatG.putT (T := ooA d' xs[j].2 qb :: h1' :: h2' :: T) (tv := some (.ref qb) :: some (.ref q) :: some (.ref p) :: tv) (L := N p st) (s := σ) (i := i1) (by simp [hl]) s3
      have s5 := SatG.putT (T := h1' :: h2' :: T) (tv := some (.ref q) :: some (.ref p) :: tv) (L := (N p st).set i1 (fz xs[j].1)) (s := σ.set i1 (some v1)) (i := i2) l1 s4
      refine (hb qb xs[j] st).ev B Hi2 (h1' :: h2' :: T) (some (.ref q) :: some (.ref p) :: tv) _ H3 _ z' e7 l1 s5 fun s6 Hi5 H5 q5 => ?_
      have back : s6[l]? = some (some (.ref p)) ∧ ∃ Hi3, SatG B Hi3 (ooA (oLL (otF d')) ((done ++ [(xs[j].1, z'.1)]) ++ xs.drop (j + 1)) p :: (T ++ N p z'.2)) (some (.ref p) :: (tv ++ s6)) H5 := by
        obtain ⟨p1, F1, r1, r2, ⟨r0, r3⟩, r4, _⟩ := SatG.replT (T := h1' :: h2' :: T) (tv := some (.ref q) :: some (.ref p) :: tv) l1 q5 (hgi qb z'.1 z'.2)
        subst r0
        rw [List.set_set, hNi] at r4
        have hal := SatG.getT (T := h1' :: h2' :: T) (tv := some (.ref q) :: some (.ref p) :: tv) l1 r4 (hNl z'.2)
        obtain ⟨v1, a1, a2⟩ := hal
        have cl := sat_close (L := h2' :: (T ++ N p z'.2)) (s := some (.ref p) :: (tv ++ s6)) (D := otF (α := α) d') (d := d') (a := q) (q := p1) (put := fun y => (xs[j].1, y)) (y := z'.1) (H := H5) ⟨p1, F1, rfl, r2, ⟨rfl, r3⟩, r4⟩
        have cl2 := sat_close (L := T ++ N p z'.2) (s := tv ++ s6) (D := oLL (otF d')) (d := otF (α := α) d') (a := p) (q := q) (put := fun y => (done ++ xs.drop j).set j y) (y := (xs[j].1, z'.1)) (H := H5) cl
        have a2 : v1 = .ref p := a2
        subst a2
        rw [setj] at cl2
        exact ⟨a1, Hi5, cl2⟩
      exact ⟨back, back⟩
    · have e : j = xs.length := by omega
      subst e
      rw [List.drop_length] at e4 s2 q2
      cases e4
      obtain ⟨vs, f1, f2, f3⟩ := q2
      have hH : H2 p = some (.lst vs) := q1 _ _ f1
      refine .inl ⟨⟨vs, SqL.of hH, by rw [← f3.len, List.append_nil, ld]; exact Nat.le_refl _⟩, ?_⟩
      have s6 := s2.putT hl (i := l)
      rw [set_get_self _ _ _ hσ, hNr] at s6
      rw [e5] at e3
      exact (hr _ _).ev B Hi2 T tv σ H2 D o e3 hl s6 k⟩
theorem sat_tF {B : Bk} {Hi H : Hp} {L : List SV} {s : L2.St} [Rq α] {d' : OT β} {x : α} {y : β} {v : V} {p2 q : Addr} (h : SatG B Hi (oo d' y :: fz x :: L) (some (.ref p2) :: some v :: s) H) (hq : H q = none) :
    SatG B Hi (oo (otF (α := α) d') (x, y) :: L) (some (.ref q) :: s) (upd H q (.tup [v, .ref p2])) := by
  obtain ⟨p2', F, e4, sF, hy, ⟨v', e5, r1'⟩, kk⟩ := h
  cases e4; cases e5
  have nF : F q = none := by
    cases z : F q with
    | none => rfl
    | some w => rw [sF _ _ z] at hq; cases hq
  refine ⟨q, upd F q (.tup [v, .ref p2]), rfl, fun b o e => ?_, ⟨v, p2, upd_same, r1', ?_⟩, ?_⟩
  · by_cases z : b = q
    · rw [z, upd_same] at e; rw [z, upd_same]; exact e
    · rw [upd_ne z] at e; rw [upd_ne z]; exact sF _ _ e
  · rw [del_upd, del_new nF]; exact hy
  · have : minus (upd H q (.tup [v, .ref p2])) (upd F q (.tup [v, .ref p2])) = minus H F := by
      funext b
      by_cases z : b = q
      · rw [z, minus_some (o := .tup [v, .ref p2]) upd_same, minus_none nF, hq]
      · cases w : F b with
        | some o => rw [minus_some (o := o) (by rw [upd_ne z]; exact w), minus_some w]
        | none => rw [minus_none (by rw [upd_ne z]; exact w), minus_none w, upd_ne z]
    rw [this]; exact kk
theorem sat_appQ {B : Bk} {Hi H1 : Hp} {T G : List SV} {tv s : L2.St} {xs : List α} {y : α} {q : Addr} {l : Nat} (hl : tv.length = T.length) (s1 : SatG B Hi (oo d y :: (T ++ G)) (some (.ref q) :: (tv ++ s)) H1) (hg : G[l]? = some (oo (oLL d) xs)) (hz : xs.length < sizeLine) :
    ∃ p vs, s[l]? = some (some (.ref p)) ∧ H1 p = some (.lst vs) ∧ vs.length < sizeLine ∧ SatG B Hi (T ++ G.set l (oo (oLL d) (xs ++ [y]))) (tv ++ s) (upd H1 p (.lst (vs ++ [.ref q]))) := by
  have l1 : (some (V.ref q) :: tv).length = (oo d y :: T).length := by simp [hl]
  obtain ⟨p, F', g1, g2, g3, g4, up⟩ := SatG.replT (T := oo d y :: T) (tv := some (.ref q) :: tv) l1 s1 hg
  have g3' := g3
  obtain ⟨vs, f1, f2, f3⟩ := g3'
  have hH : H1 p = some (.lst vs) := g2 _ _ f1
  have st : SatG B Hi (oo d y :: oo (oLL d) xs :: (T ++ G.set l .un)) (some (.ref q) :: some (.ref p) :: (tv ++ s)) H1 := by
    obtain ⟨q', Fq, e4, q1, q2, q3⟩ := g4
    cases e4
    refine ⟨q, Fq, rfl, q1.trans minus_sub, q2, p, F', rfl, fun b o e => ?_, g3, ?_⟩
    · rw [minus_none]
      · exact g2 _ _ e
      · cases z : Fq b with
        | none => rfl
        | some w => have := (minus_is (q1 _ _ z)).1; rw [e] at this; cases this
    · rw [minus_comm]; exact q3
  have s3 := sat_snoc (L := T ++ G.set l .un) (s := tv ++ s) st hH (by rw [← f3.len]; exact hz)
  have s4 := s3.putT hl (i := l)
  rw [List.set_set, set_get_self _ _ _ g1] at s4
  exact ⟨p, vs, g1, hH, by rw [← f3.len]; exact hz, s4⟩
/-- name.append((a, m)), where m is our own and goes in -/
theorem bj_appMove [Rq α] {xs : List (α × β)} {d' : OT β} {y : β} {m1 : Option α} {m3 : List (α × β) → Option O} {x1 : Nat} {p5 p6 : Pos} (l j : Nat) (h : EJ X a ta G m1) (hr : ∀ ys, BJ X rest u ((G.set j .un).set l (oo (oLL (otF (α := α) d')) ys)) (m3 ys) P) {p2 apos cpos : Pos} (hlj : j ≠ l) (hg : G[l]? = some (oo (oLL (otF (α := α) d')) xs) := by rfl) (hgj : G[j]? = some (oo d' y) := by rfl)
    (hN : X.N[l]? = some n := by rfl) (hv : Vis X.env.scope n := by first | exact Or.inl rfl | exact Or.inr (Or.inl rfl) | exact Or.inr (Or.inr rfl)) (hd : (n == ("__debug__" : Str)) = false := by decide) (hcd : (n == ("__classdict__" : Str)) = false := by decide)
    (hNj : X.N[j]? = some n1 := by rfl) (hvj : Vis X.env.scope n1 := by first | exact Or.inl rfl | exact Or.inr (Or.inl rfl) | exact Or.inr (Or.inr rfl)) (hdj : (n1 == ("__debug__" : Str)) = false := by decide) (hcdj : (n1 == ("__classdict__" : Str)) = false := by decide)
    (he : starEach [a, .Name n1 p5] X.env = (false, eval a X.env) :: starEach [.Name n1 p5] X.env := by rfl) (he2 : starEach [.Name n1 p5] X.env = (false, eval (.Name n1 p5) X.env) :: starEach [] X.env := by rfl)
    (hbase : attributeBase (.Name n p2) "append" X.env (eval (.Name n p2) X.env) = eval (.Name n p2) X.env := by rfl)
    (hfew : ((backTo cpos (starEach [.Tuple [a, .Name n1 p5] x1 p6] X.env)).all (fun x => !x.1) && (backToKw cpos (keywordEach [] X.env)).all (fun x => x.1.isSome) && decide ([Expr.Tuple [a, .Name n1 p5] x1 p6].length + ([] : List Keyword).length + (if ([] : List Keyword).isEmpty then 0 else 1) < 30)) = true := by rfl)
    (hline : (apos.endLine == cpos.line) = true := by rfl) (hst : starEach [.Tuple [a, .Name n1 p5] x1 p6] X.env = (false, eval (.Tuple [a, .Name n1 p5] x1 p6) X.env) :: starEach [] X.env := by rfl) (hplain : (backTo cpos (starEach [] X.env)).any (·.1) = false := by rfl) (hsw : swapsWith (.Call (.Attribute (.Name n p2) "append" apos) [.Tuple [a, .Name n1 p5] x1 p6] [] cpos) none pos.line X.env = pure false := by rfl) :
    BJ X (.Expr (.Call (.Attribute (.Name n p2) "append" apos) [.Tuple [a, .Name n1 p5] x1 p6] [] cpos) pos :: rest) (tSeq (tDrop (tBM X.K "list" rAppend (tVar l) (tCons (tTup (tCons ta (tCons (tVar j) tNil))) tNil))) u) G (m1.bind fun x => (appC xs (x, y)).bind m3) P :=
  ⟨pss_cons (ps_expr (pe_bm PySem.F.plainAttrs_list PySem.F.slot_list_append PySem.F.type_list_append mt_append (pe_var hN hv hd hcd) (pa_cons (pe_tup (pa_cons h.pe (pa_cons (pe_var hNj hvj hdj hcdj) pa_nil he2) he)) pa_nil hst) hbase hfew hline hst hplain) hsw) (hr []).ps, fun B Hi T tv s H D o hx hl hs k => by
  obtain ⟨x, e1, hx⟩ := bind_some hx
  obtain ⟨ys, e2, e3⟩ := bind_some hx
  obtain ⟨p, F, h1, h2, ⟨vs0, h3, _, _⟩, _, _⟩ := hs.replT hl hg
  refine ⟨.ref p, h1, .inl ⟨rfl, _, SqL.of (h2 _ _ h3)⟩, ?_⟩
  refine h.ev B Hi T tv s H _ x e1 hl hs fun v Hi1 H1 s1 r1 => ?_
  have s1' : SatG B Hi1 ((fz x :: T) ++ G) ((some v :: tv) ++ s) H1 := ⟨⟨v, rfl, r1⟩, s1⟩
  obtain ⟨pj, Fj, j1, j2, j3, j4, _⟩ := s1'.replT (by simp [hl]) hgj
  refine ⟨.ref pj, j1, by show 2 ≤ sizeLine; decide, fun q hq => ?_⟩
  obtain ⟨hz, rfl⟩ := appC_is e2
  have s2 := sat_tF (q := q) (L := T ++ G.set j .un) (s := tv ++ s) (x := x) (y := y) (v := v) (p2 := pj) (H := H1) ⟨pj, Fj, rfl, j2, j3, j4⟩ hq
  obtain ⟨p', vs, g1, g2, g3, g4⟩ := sat_appQ (T := T) (G := G.set j .un) (tv := tv) (s := s) (l := l) hl s2 (by rw [List.getElem?_set_ne hlj]; exact hg) hz
  rw [h1] at g1
  cases g1
  refine ⟨p, vs, .ref q, rfl, rfl, g2, g3, ?_⟩
  exact (hr _).ev B Hi1 T tv s _ D o e3 hl g4 k⟩
/-- name[i][1].append(e) -/
def appAt {α β : Type} (xs : List (α × List β)) (i : Int) (y : β) : Option (List (α × List β)) := (atI xs i).bind fun it => (appC it.2 y).bind fun ys => setC xs i (it.1, ys)
theorem bj_appLT [Rq α] [Rq β] {xs : List (α × List β)} {m1 : Option Int} {m2 : Option β} {m3 : List (α × List β) → Option O} {jj} {p4 p5 p6 : Pos} (l : Nat) (hix : EJ X a ta G m1) (h : EJ X e t G m2) (hr : ∀ ys, BJ X rest u (G.set l (oo (oLL (otF (α := α) (oL (α := β)))) ys)) (m3 ys) P) {p2 apos cpos : Pos} {q0 : Addr} (hg : G[l]? = some (ex (oLL (otF (α := α) (oL (α := β)))) xs q0 F) := by rfl) (hpl : PlainIx a := by exact fun _ _ => rfl)
    (hN : X.N[l]? = some n := by rfl) (hv : Vis X.env.scope n := by first | exact Or.inl rfl | exact Or.inr (Or.inl rfl) | exact Or.inr (Or.inr rfl)) (hd : (n == ("__debug__" : Str)) = false := by decide) (hcd : (n == ("__classdict__" : Str)) = false := by decide)
    (hbase : attributeBase (.Subscript (.Subscript (.Name n p2) a p4) (.Constant (.int 1) jj p5) p6) "append" X.env (eval (.Subscript (.Subscript (.Name n p2) a p4) (.Constant (.int 1) jj p5) p6) X.env) = eval (.Subscript (.Subscript (.Name n p2) a p4) (.Constant (.int 1) jj p5) p6) X.env := by rfl)
    (hfew : ((backTo cpos (starEach [e] X.env)).all (fun x => !x.1) && (backToKw cpos (keywordEach [] X.env)).all (fun x => x.1.isSome) && decide ([e].length + ([] : List Keyword).length + (if ([] : List Keyword).isEmpty then 0 else 1) < 30)) = true := by rfl)
    (hline : (apos.endLine == cpos.line) = true := by rfl) (hst : starEach [e] X.env = (false, eval e X.env) :: starEach [] X.env := by rfl) (hplain : (backTo cpos (starEach [] X.env)).any (·.1) = false := by rfl) (hsw : swapsWith (.Call (.Attribute (.Subscript (.Subscript (.Name n p2) a p4) (.Constant (.int 1) jj p5) p6) "append" apos) [e] [] cpos) none pos.line X.env = pure false := by rfl) :
    BJ X (.Expr (.Call (.Attribute (.Subscript (.Subscript (.Name n p2) a p4) (.Constant (.int 1) jj p5) p6) "append" apos) [e] [] cpos) pos :: rest) (tSeq (tDrop (tBM X.K "list" rAppend (tOp (rIxT X.K) (tOp (rIxL X.K) (tVar l) ta) (tC (.int 1))) (tCons t tNil))) u) G (m1.bind fun i => m2.bind fun y => (appAt xs i y).bind m3) P :=
  ⟨pss_cons (ps_expr (pe_bm PySem.F.plainAttrs_list PySem.F.slot_list_append PySem.F.type_list_append mt_append (pe_ix ix_tup (pe_ix ix_list (pe_var hN hv hd hcd) hix.pe hpl) pe_int (fun _ _ => rfl)) (pa_cons h.pe pa_nil hst) hbase hfew hline hst hplain) hsw) (hr []).ps, fun B Hi T tv s H D o hx hl hs k => by
  obtain ⟨i, e1, hx⟩ := bind_some hx
  obtain ⟨y, e2, hx⟩ := bind_some hx
  obtain ⟨ys, e3, e4⟩ := bind_some hx
  obtain ⟨it, c1, e3⟩ := bind_some e3
  obtain ⟨us', c2, c3⟩ := bind_some e3
  obtain ⟨p, F0, h1, h2, ⟨rfl, rfl, h3⟩, _, _⟩ := hs.ownFT hl hg
  refine ⟨.ref p, h1, ?_⟩
  refine hix.ev B Hi T tv s H _ i e1 hl hs fun iv Hi1 H1 s1 r1 => ?_
  cases r1
  obtain ⟨p', F', g1, g2, ⟨rfl, rfl, g3⟩, _, _⟩ := s1.ownFT hl hg
  obtain ⟨jx, c4⟩ : ∃ jx, ixN xs.length i = some jx ∧ xs[jx]? = some it := by
    unfold atI at c1
    cases hj : ixN xs.length i with
    | none => rw [hj] at c1; cases c1
    | some jx => rw [hj] at c1; exact ⟨jx, rfl, c1⟩
  obtain ⟨c4, c5⟩ := c4
  obtain ⟨vs, q, Fi, f1, f2, f3, f4, f5, f6⟩ := oLL_open g3 c5
  obtain ⟨v1, qb, t1, t2, t3, t4, t5⟩ := otF_open f5
  have hv1 : atI vs i = some (.ref q) := by
    unfold atI
    rw [← f2, c4]; exact f3
  refine ⟨p', vs, i, .ref q, rfl, rfl, SqL.of (g2 _ _ f1), hv1, ?_⟩
  refine ⟨q, [v1, .ref qb], 1, .ref qb, rfl, rfl, SqT.of (g2 _ _ (f4 _ _ t1)), atI_nat (j := 1) rfl, ?_⟩
  have hqb : ∃ us0, F' qb = some (.lst us0) := by
    obtain ⟨u0, k1, us0, k2, _⟩ := t4
    refine ⟨us0, f4 _ _ (t3 _ _ (by rw [k1, one_same, k2]))⟩
  obtain ⟨us0, hqb⟩ := hqb
  refine .inl ⟨rfl, _, SqL.of (g2 _ _ hqb)⟩ |> fun z => ⟨z, ?_⟩
  refine h.ev B Hi1 T tv s H1 _ y e2 hl s1 fun v Hi3 H3 s3 r3 => ?_
  obtain ⟨p2', F2, w1, w2, ⟨w0, w00, w3⟩, w4, up⟩ := s3.replT hl hg
  subst w0 w00
  obtain ⟨vs', q', Fi', y1, y2, y3, y4, y5, y6⟩ := oLL_open w3 c5
  rw [f1] at y1
  cases y1
  rw [f3] at y3
  cases y3
  obtain ⟨v1', qb', z1, z2, z3, z4, z5⟩ := otF_open y5
  have eq1 : v1' = v1 ∧ qb' = qb := by
    have a1 := f4 _ _ t1
    have a2 := y4 _ _ z1
    rw [a1] at a2
    cases a2; exact ⟨rfl, rfl⟩
  obtain ⟨rfl, rfl⟩ := eq1
  have so1 := sat_open (L := T ++ G.set l .un) (s := tv ++ s) (D := oLL (otF (α := α) (oL (α := β)))) (d := otF (α := α) (oL (α := β))) (put := fun y => xs.set jx y) w4 w2 y4 y5 y6
  have so1' := so1
  obtain ⟨_, Fi2, e11, u1, ⟨_, u2⟩, u3⟩ := so1'
  cases e11
  obtain ⟨v1'', qb'', b1, b2, b3, b4, b5⟩ := otF_open u2
  have eq2 : v1'' = v1' ∧ qb'' = qb' := by
    have a1 := u1 _ _ b1
    have a2 := w2 _ _ (y4 _ _ z1)
    rw [a1] at a2
    cases a2; exact ⟨rfl, rfl⟩
  obtain ⟨rfl, rfl⟩ := eq2
  have so2 := sat_open (L := ohole (oLL (otF (α := α) (oL (α := β)))) (otF (α := α) (oL (α := β))) p2' q (fun y => xs.set jx y) :: (T ++ G.set l .un)) (s := some (.ref p2') :: (tv ++ s)) (D := otF (α := α) (oL (α := β))) (d := oL (α := β)) (put := fun y => (it.1, y)) u3 u1 b3 b4 b5
  obtain ⟨_, Fq, e12, k1, ⟨_, uo, k2, us, k3, k4, k5⟩, k6⟩ := so2
  cases e12
  subst k2 k3
  have hH3 : H3 qb'' = some (.lst us) := k1 _ _ one_same
  obtain ⟨hz, rfl⟩ := appC_is c2
  refine ⟨qb'', us, v, rfl, rfl, hH3, by rw [← Paired.length k5]; exact hz, ?_⟩
  have so3 : SatG B Hi3 (ooA (oL (α := β)) (it.2 ++ [y]) qb'' :: ohole (otF (α := α) (oL (α := β))) (oL (α := β)) q qb'' (fun y => (it.1, y)) :: ohole (oLL (otF (α := α) (oL (α := β)))) (otF (α := α) (oL (α := β))) p2' q (fun y => xs.set jx y) :: (T ++ G.set l .un)) (some (.ref qb'') :: some (.ref q) :: some (.ref p2') :: (tv ++ s)) (upd H3 qb'' (.lst (us ++ [v]))) := by
    refine ⟨qb'', one qb'' (.lst (us ++ [v])), rfl, same_one upd_same, ⟨rfl, _, rfl, _, rfl, by rw [List.length_append, ← Paired.length k5]; exact hz, Paired.append k5 (.cons r3 .nil)⟩, ?_⟩
    rw [minus_one, del_upd]
    rw [minus_one] at k6
    exact k6
  have so4 := sat_close so3
  have so5 := sat_close so4
  obtain ⟨jx', c6, c7⟩ := setC_is c3
  rw [c4] at c6
  cases c6
  subst c7
  exact (hr _).ev B Hi3 T tv s _ D o e4 hl (up _ _ _ so5.ooA_oo) k⟩
end
end GM
namespace GM
open PySem PySem.Spec PyProof.Rows L2 PySem.W
/-! ### C() of a class without an __init__ -/
structure NewO (K : Frag) (C : Addr) : Prop where
  makes : makesIn K C = true
  ini : findIn K (.ref C) "__init__" = some (some (.builtin "object.__init__"))
  top : mroIn K C (.type "object") = some true
  kp : keepIn K (.ref C) = true
def tNew0 (C : Addr) : TE := fun σ H Q => ∀ a dx, H a = none → H dx = none → dx ≠ a → Q (.ref a) (upd (upd H dx (.own a)) a (.ins C dx []))
section
variable {X : Cx} {C : Addr} {n : Str} {p pos : Pos} {G : List SV} {α : Type}
theorem pe_new0 (N : NewO X.K C) (hm : X.mg n = some (.ref C)) (hg : Gl X n) (hdb : (n == ("__debug__" : Str)) = false) : PE X (.Call (.Name n p) [] [] pos) (tNew0 C) := by
  refine ⟨fun pins s σ H Q I h => ?_⟩
  refine wpAny_Call_Name_kw (ld_glob I hg hm ?_ hdb)
  refine callWith_K0 I.kIn N.kp ?_
  have hq := h (s.heap.objs.size + 1) s.heap.objs.size (I.hok.fresh (Nat.le_succ _)) (I.hok.fresh (Nat.le_refl _)) (Nat.ne_of_lt (Nat.lt_succ_self _))
  have I2 := Inv.made (C := C) I
  have e2 : ((s.heap.push emptyDict).push (instObj C s.heap.objs.size)).get? (s.heap.objs.size + 1) = some (instObj C s.heap.objs.size) := by
    have := Heap.get?_push_size (s.heap.push emptyDict) (o := instObj C s.heap.objs.size) rfl
    rwa [Heap.size_push] at this
  have t1 := NwA.type_at (M := model X.prog X.w) (C := C) e2 rfl
  have t2 : Looks (model X.prog X.w) ((s.heap.push emptyDict).push (instObj C s.heap.objs.size)) (isInstance (.ref (s.heap.objs.size + 1)) (.type "object")) true := t1.andThen (looks_mroIn I2.kIn N.top)
  refine wpAny_call (make_map0 I.kIn N.makes N.ini (fun self => Looks.of_pure (oi_bind _)) ?_)
  refine codeAny_call_builtin oi_plain entry_oi (@check_slot (model X.prog X.w) _ _ _ "object.__init__" "object" "__init__" (.ref (s.heap.objs.size + 1)) [] [] _ oi_kind oi_split t2 (oi_args _) ?_)
  rw [oi_run]
  exact wpAny_pure ⟨rfl, ⟨V.ref (s.heap.objs.size + 1), _, I2, rfl, hq⟩⟩
theorem qj_new0 {L : α → List (Str × FV)} {x : α} (N : NewO X.K C) (hm : X.mg n = some (.ref C)) (hL : L x = []) (hg : Gl X n := by rfl) (hdb : (n == ("__debug__" : Str)) = false := by decide) : QJ (oIns C L) X (.Call (.Name n p) [] [] pos) (tNew0 C) G (some x) :=
  ⟨pe_new0 N hm hg hdb, fun B Hi T tv s H Q z hx hl hs k => by
    cases hx
    intro a dx ha hd hne
    refine k a Hi _ ⟨a, one a (.ins C dx []), rfl, same_one upd_same, ⟨dx, [], one_same, ?_⟩, ?_⟩
    · rw [hL]
      intro b
      by_cases z : b = a
      · rw [z, del_same]
      · rw [del_ne z, one_ne z]
    · rw [minus_one, del_upd, del_new (by rw [upd_ne (Ne.symm hne)]; exact ha)]
      exact hs.up fun b o e => by rw [upd_ne (ne_of_none e hd)]; exact e⟩
end
section
variable {X : Cx} {e a b c : Expr} {es : List Expr} {t ta tb tc td ty te : TE} {G : List SV} {α β : Type} {pos p p2 : Pos}
/-- t[i], t a tuple of any length -/
theorem ej_ixTp [Rq α] {m1 : Option (Tp α)} {m2 : Option Int} (ha : EJ X a ta G m1) (hb : EJ X b tb G m2) (hs : PlainIx b := by exact fun _ _ => rfl) : EJ X (.Subscript a b pos) (tOp (rIxT X.K) ta tb) G (m1.bind fun x => m2.bind fun y => atI x.l y) :=
  ⟨pe_ix ix_tup ha.pe hb.pe hs, fun B Hi T tv s H Q z hx hl hs k => by
    obtain ⟨x, e1, hx⟩ := bind_some hx
    obtain ⟨i, e2, e3⟩ := bind_some hx
    refine ha.ev B Hi T tv s H _ x e1 hl hs fun v Hi1 H1 s1 r1 => ?_
    refine hb.ev B Hi1 (fz x :: T) (some v :: tv) s H1 _ i e2 (by simp [hl]) ⟨⟨v, rfl, r1⟩, s1⟩ fun w Hi2 H2 s2 r2 => ?_
    cases r2
    obtain ⟨⟨v', e4, q, vs, h1, h2, h3, h4⟩, s2⟩ := s2
    cases e4; subst h1
    obtain ⟨y, h5, h6⟩ := Paired.atI h4 e3
    exact ⟨q, vs, i, y, rfl, rfl, SqT.of (s2.sub _ _ h2), h5, k y Hi2 H2 s2 h6⟩⟩
theorem cut_whole {xs : List α} {l u : Option Int} (h : HT.sIx xs.length 0 l = 0 ∧ HT.sIx xs.length xs.length u = xs.length) : cutL xs l u = xs := by
  unfold cutL
  rw [h.1, h.2, List.drop_zero, Nat.sub_zero, List.take_length]
/-- t[i:j], t a tuple of any length -/
theorem ej_slTp [Rq α] {lo hi : Option Expr} {tl th : TO} {m : Option (Tp α)} {m1 m2 : Option (Option Int)} (h : EJ X e t G m) (h1 : PX X lo tl G m1) (h2 : PX X hi th G m2) :
    EJ X (.Subscript e (.Slice lo hi none p2) pos) (tSl (rSlA X.K) t tl th) G (m.bind fun x => m1.bind fun l => m2.bind fun u => some (Tp.mk (cutL x.l l u))) := ⟨pe_slice sl_tupA h.pe h1.po h2.po, fun B Hi T tv s H Q z hx hl hs k => by
  obtain ⟨x, e1, hx⟩ := bind_some hx
  obtain ⟨l, e2, hx⟩ := bind_some hx
  obtain ⟨u, e3, e4⟩ := bind_some hx
  cases e4
  refine h.ev B Hi T tv s H _ x e1 hl hs fun vx Hi1 H1 s1 r1 => ?_
  refine h1.ev B Hi1 (fz x :: T) (some vx :: tv) s H1 _ l e2 (by simp [hl]) ⟨⟨vx, rfl, r1⟩, s1⟩ fun Hi2 H2 s2 => ?_
  refine h2.ev B Hi2 (fz x :: T) (some vx :: tv) s H2 _ u e3 (by simp [hl]) s2 fun Hi3 H3 s3 => ?_
  obtain ⟨⟨v', e5, r3⟩, s4⟩ := s3
  cases e5
  obtain ⟨a, vs, g1, g2, g3, g4⟩ := id r3
  have le := Paired.length g4
  refine ⟨a, vs, g1, SqT.of (s4.sub _ _ g2), fun w => ?_, fun _ q hq => ?_⟩
  · rw [← g1]
    refine k _ Hi3 H3 s4 ?_
    rw [cut_whole (by rw [le]; exact w)]
    exact r3
  · have s5 := SatG.newF (u := .tup (cutV vs l u)) s4 hq
    exact k _ _ _ s5 ⟨q, _, rfl, upd_same, Nat.le_trans (cutV_length vs l u) g3, Paired.mono (Paired.cut (xs := vs) g4 l u) fun _ _ => Rq.mono (same_new (same_none s4.sub hq))⟩⟩
end
end GM
namespace GM
open PySem PySem.Spec PyProof.Rows L2
section
variable {X : Cx} {e e' a b c : Expr} {es es' : List Expr} {t ta tb : TE} {tc : TT} {tr tr' : TA} {G : List SV} {τ τ' α β O ρ : Type} {pos pos1 pos2 pos3 pos' pos1' pos2' posi p p' p4 p5 npp : Pos} {n n' x nE nC fl : Str} {j : Nat} {rest : List Stmt} {u : TS} {P : Post O} {c0 C C' : Addr} {cH : Value}
/-- try: if c: C(..) else: C'(..) except x as nE: nC = nE -/
theorem bj_tryKeepIfN [RpL τ] [RpL τ'] {F : τ → Option Unit} {F' : τ' → Option Unit} {mc : Option Bool} {m1 : Option τ} {m1' : Option τ'} {m2 : Option O} (hN : X.N.Nodup) (i j : Nat) (Cg : MakXX X C (SpX0N C (.ref c0) F)) (hm : X.mg n = some (.ref C)) (Cg' : MakXX X C' (SpX0N C' (.ref c0) F')) (hm' : X.mg n' = some (.ref C')) (hx : PySem.W.exmOne X.K (.ref c0) cH = some true) (hc : Names X x cH)
    (ht : ∀ (pn : List (Addr × Obj)) (xe : Value → Shared → Prop), TJ (X.tr pn xe) c tc G mc)
    (ha : ∀ (pn : List (Addr × Obj)) (xe : Value → Shared → Prop), AJ (X.tr pn xe) (e :: es) tr G m1) (ha' : ∀ (pn : List (Addr × Obj)) (xe : Value → Shared → Prop), AJ (X.tr pn xe) (e' :: es') tr' G m1') (hr : BJ X rest u (((G.set i .un).set j (sx0 (.ref c0))).set i .un) m2 P)
    (hi : X.N[i]? = some nE := by rfl) (hj : X.N[j]? = some nC := by rfl) (hGi : G[i]? = some .un := by rfl) (hln : X.env.kindOf nE = some .local := by rfl) (hLj : Loc X.env.scope nC := by first | exact Or.inl rfl | exact Or.inr rfl) (hvi : Vis X.env.scope nE := by first | exact Or.inl rfl | exact Or.inr (Or.inl rfl) | exact Or.inr (Or.inr rfl))
    (hd : (nE == ("__debug__" : Str)) = false := by decide) (hcd : (nE == ("__classdict__" : Str)) = false := by decide)
    (hs : X.stack = X.env :: X.outer := by rfl) (hf : X.env.frame = some X.env.locals := by rfl) (hex : X.ex = [] := by rfl) (hfj : X.fn nC = true ∨ X.env.scope.names.lookup nC = some .local := by first | exact .inl rfl | exact .inr rfl | assumption)
    (hg : Gl X n := by rfl) (hdb : (n == ("__debug__" : Str)) = false := by decide) (he : starEach (e :: es) X.env = (false, eval e X.env) :: starEach es X.env := by rfl) (hpl : (backTo pos1 (starEach es X.env)).any (·.1) = false := by rfl)
    (hg' : Gl X n' := by rfl) (hdb' : (n' == ("__debug__" : Str)) = false := by decide) (he' : starEach (e' :: es') X.env = (false, eval e' X.env) :: starEach es' X.env := by rfl) (hpl' : (backTo pos1' (starEach es' X.env)).any (·.1) = false := by rfl)
    (hsw : swapsWith (.Call (.Name n p) (e :: es) [] pos1) none pos2.line X.env = pure false := by rfl) (hsw' : swapsWith (.Call (.Name n' p') (e' :: es') [] pos1') none pos2'.line X.env = pure false := by rfl) (hsw2 : swapsWith (.Name nE p5) (some (.Name nC p4)) pos3.line X.env = pure false := by rfl) :
    BJ X (.Try [.If c [.Expr (.Call (.Name n p) (e :: es) [] pos1) pos2] [.Expr (.Call (.Name n' p') (e' :: es') [] pos1') pos2'] posi] [.ExceptHandler (some (.Name x npp)) (some nE) [.Assign [.Name nC p4] (.Name nE p5) pos3] pos'] [] [] pos :: rest)
      (tSeq (fun D σ H => (fun W : WX => tSeq (tIfS tc (tSeq (tDrop (tMakeS C (SpX0N C (.ref c0) F) (WE W) tr)) tNext) (tSeq (tDrop (tMakeS C' (SpX0N C' (.ref c0) F') (WE W) tr')) tNext)) tNext) (wKeep X.K cH i (fun _ _ _ => tSeq (tAsg (tVar i) (gName j)) tNext) D) noEnds σ H) u) G ((mc.bind fun x => if x = true then m1.bind F else m1'.bind F').bind fun _ => m2) P := by
  obtain ⟨k, f, fd, ps, Fk, hrm, hk, hb⟩ := Cg.ok
  obtain ⟨k', f', fd', ps', Fk', hrm', hk', hb'⟩ := Cg'.ok
  refine ⟨pss_cons (ps_try_keep hs hf hN hi hln hc hex (fun W pn xe tk _ => pss_cons (ps_if (ht pn xe).pt (pss_cons (ps_expr (pe_makeS (X := X.tr pn xe) hk Fk hrm hg hm hb (fun σ => passAt tk σ) (ha pn xe).pa hdb he hpl) hsw) pss_nil) (pss_cons (ps_expr (pe_makeS (X := X.tr pn xe) hk' Fk' hrm' hg' hm' hb' (fun σ => passAt tk σ) (ha' pn xe).pa hdb' he' hpl') hsw') pss_nil)) pss_nil) (fun a oe cls d pn _ _ => pss_cons (ps_set (X := X.suite a ((a, oe) :: pn)) hN hj hLj (pe_var hi hvi hd hcd) hsw2 hfj) pss_nil)) hr.ps, fun B Hi T tv s H D o hx1 hl hsat k2 => ?_⟩
  obtain ⟨⟨⟩, e1, e3⟩ := bind_some hx1
  obtain ⟨bx, e0, e1⟩ := bind_some e1
  have fin : ∀ {Hi1 H1 : Hp}, SatG B Hi1 (T ++ G) (tv ++ s) H1 → ∀ {C : Addr} {a0 dx : Addr}, H1 a0 = none → H1 dx = none → dx ≠ a0 → ∀ H', Same (del (upd (upd H1 dx (.own a0)) a0 (.ins C dx [])) a0) H' → ∀ a, H' a = none → ∃ v : V, (s.set i (some (.ref a)))[i]? = some (some v) ∧ (gName j v (s.set i (some (.ref a))) (upd H' a (ExQ (.ref c0) none a)) fun σ' H'' => u D (σ'.set i none) H'') := fun {Hi1 H1} s1 {C a0 dx} ha1 hd1 hne H' sm a na => by
    have hdel := mk_dx (u := .ins C dx []) (w := .own a0) ha1 hne
    have up : Same H1 (upd H1 dx (.own a0)) := fun b o h => by rw [upd_ne (ne_of_none h hd1)]; exact h
    rw [hdel] at sm
    have sm := up.trans sm
    have ls : i < s.length := by
      have h1 := hsat.len
      rw [List.length_append, List.length_append] at h1
      have h2 : i < G.length := (List.getElem?_eq_some_iff.mp hGi).1
      omega
    refine ⟨.ref a, by rw [List.getElem?_set_self ls], ?_⟩
    have g1 := (s1.grow sm).newF (p := a) (u := ExQ (.ref c0) none a) na
    have g2 := sat_unsetT (i := i) (o := some (.ref a)) hl g1
    have g3 : SatG B (upd (join Hi1 H1 H') a (ExQ (.ref c0) none a)) (sx0 (.ref c0) :: (T ++ G.set i .un)) (some (.ref a) :: (tv ++ s.set i (some (.ref a)))) (upd H' a (ExQ (.ref c0) none a)) := ⟨⟨.ref a, rfl, a, rfl, upd_same⟩, g2⟩
    have g4 := sat_unsetT (i := i) (o := none) hl (g3.putT (i := j) hl)
    exact hr.ev B _ T tv _ _ D o e3 hl g4 k2
  refine (ht [] (fun _ _ => False)).ev B Hi T tv s H _ bx e0 hl hsat fun Hi0 H0 s0 => ?_
  cases bx with
  | true =>
    rw [if_pos rfl] at e1 ⊢
    obtain ⟨z, e1, e2⟩ := bind_some e1
    refine (ha [] (fun _ _ => False)).ev B Hi0 T tv s H0 _ z e1 hl s0 fun vs Hi1 H1 s1 r1 => ?_
    intro a0 dx ha1 hd1 hne
    have hdel := mk_dx (u := .ins C dx []) (w := .own a0) ha1 hne
    have up : Same H1 (upd H1 dx (.own a0)) := fun b o h => by rw [upd_ne (ne_of_none h hd1)]; exact h
    refine ⟨a0, dx, vs, Hi1, z, rfl, upd_same, by rw [hdel]; exact s1.sub.trans up, r1, e2, fun H' sm => ⟨hx, fun a na => ?_⟩⟩
    exact fin s1 ha1 hd1 hne H' sm a na
  | false =>
    rw [if_neg Bool.false_ne_true] at e1 ⊢
    obtain ⟨z, e1, e2⟩ := bind_some e1
    refine (ha' [] (fun _ _ => False)).ev B Hi0 T tv s H0 _ z e1 hl s0 fun vs Hi1 H1 s1 r1 => ?_
    intro a0 dx ha1 hd1 hne
    have hdel := mk_dx (u := .ins C' dx []) (w := .own a0) ha1 hne
    have up : Same H1 (upd H1 dx (.own a0)) := fun b o h => by rw [upd_ne (ne_of_none h hd1)]; exact h
    refine ⟨a0, dx, vs, Hi1, z, rfl, upd_same, by rw [hdel]; exact s1.sub.trans up, r1, e2, fun H' sm => ⟨hx, fun a na => ?_⟩⟩
    exact fin s1 ha1 hd1 hne H' sm a na
end
section
variable {X : Cx} {a b : Expr} {ta tb : TE} {G : List SV} {pos p : Pos}
/-- list(range(a, b)) -/
theorem oj_listRg2 {m1 m2 : Option Int} {p1 p2 : Pos} (hc : X.calm = true) (ha : EJ X a ta G m1) (hb : EJ X b tb G m2) (hm : X.mg "list" = none) (hmr : X.mg "range" = none) (hg : Gl X "list" := by rfl) (hgr : Gl X "range" := by rfl) (na : starEach [a, b] X.env = (false, eval a X.env) :: starEach [b] X.env := by rfl) (na2 : starEach [b] X.env = (false, eval b X.env) :: starEach [] X.env := by rfl) (hpl : (backTo p2 (starEach [b] X.env)).any (·.1) = false := by rfl)
    (nb : starEach [.Call (.Name "range" p1) [a, b] [] p2] X.env = (false, eval (.Call (.Name "range" p1) [a, b] [] p2) X.env) :: starEach [] X.env := by rfl) :
    OJ X (.Call (.Name "list" p) [.Call (.Name "range" p1) [a, b] [] p2] [] pos) (tLstRg (tRg2 ta tb)) G (m1.bind fun x => m2.bind fun y => rngC x y) :=
  ⟨pe_listRg hc hg hm (prg_2 hgr hmr ha.pe hb.pe na na2 hpl) nb, fun B Hi T tv s H Q z hx hl hs k => by
    obtain ⟨x, e1, hx⟩ := bind_some hx
    obtain ⟨y, e2, e3⟩ := bind_some hx
    refine ha.ev B Hi T tv s H _ x e1 hl hs fun vx Hi1 H1 s1 r1 => ?_
    refine hb.ev B Hi1 T tv s H1 _ y e2 hl s1 fun vy Hi2 H2 s2 r2 => ?_
    cases r1; cases r2
    obtain ⟨h1, h2⟩ := rngC_is e3
    have h3 := rngC_small e3
    refine ⟨x, y, rfl, rfl, h1, fun q hq => ?_⟩
    rw [rgV_ints, ← h2]
    exact k q Hi2 _ (s2.newO (φ := isL z) hq ⟨_, rfl, by rw [List.length_map]; exact h3, ints_paired z⟩)⟩
end
section
variable {X : Cx} {a e : Expr} {ta t : TE} {G : List SV} {α O : Type} {pos : Pos} {rest : List Stmt} {u : TS} {P : Post O}
/-- (something new).append(e) -/
theorem bj_appTemp [Rq α] {m1 : Option (List α)} {m2 : Option α} {m3 : Option O} (ha : OJ X a ta G m1) (h : EJ X e t G m2) (hr : BJ X rest u G m3 P) {apos cpos : Pos}
    (hbase : attributeBase a "append" X.env (eval a X.env) = eval a X.env := by rfl)
    (hfew : ((backTo cpos (starEach [e] X.env)).all (fun x => !x.1) && (backToKw cpos (keywordEach [] X.env)).all (fun x => x.1.isSome) && decide ([e].length + ([] : List Keyword).length + (if ([] : List Keyword).isEmpty then 0 else 1) < 30)) = true := by rfl)
    (hline : (apos.endLine == cpos.line) = true := by rfl) (hst : starEach [e] X.env = (false, eval e X.env) :: starEach [] X.env := by rfl) (hplain : (backTo cpos (starEach [] X.env)).any (·.1) = false := by rfl) (hsw : swapsWith (.Call (.Attribute a "append" apos) [e] [] cpos) none pos.line X.env = pure false := by rfl) :
    BJ X (.Expr (.Call (.Attribute a "append" apos) [e] [] cpos) pos :: rest) (tSeq (tDrop (tBM X.K "list" rAppend ta (tCons t tNil))) u) G (m1.bind fun xs => m2.bind fun y => (appC xs y).bind fun _ => m3) P :=
  ⟨pss_cons (ps_expr (pe_bm PySem.F.plainAttrs_list PySem.F.slot_list_append PySem.F.type_list_append mt_append ha.pe (pa_cons h.pe pa_nil hst) hbase hfew hline hst hplain) hsw) hr.ps, fun B Hi T tv s H D o hx hl hs k => by
  obtain ⟨xs, e1, hx⟩ := bind_some hx
  obtain ⟨y, e2, hx⟩ := bind_some hx
  obtain ⟨ys, e3, e4⟩ := bind_some hx
  obtain ⟨hz, _⟩ := appC_is e3
  refine ha.ev B Hi T tv s H _ xs e1 hl hs fun p Hi1 H1 s1 => ?_
  have hp : ∃ vs, H1 p = some (.lst vs) := by
    obtain ⟨p', F, e5, sF, ⟨u0, hF, vs, hu, _⟩, _⟩ := s1
    cases e5
    subst hF hu
    exact ⟨vs, sF _ _ one_same⟩
  obtain ⟨vs0, hp⟩ := hp
  refine ⟨.inl ⟨rfl, _, SqL.of hp⟩, ?_⟩
  refine h.ev B Hi1 (ol xs :: T) (some (.ref p) :: tv) s H1 _ y e2 (by simp [hl]) s1 fun v Hi2 H2 s2 r2 => ?_
  obtain ⟨p', F, e5, sF, ⟨u0, hF, vs, hu, h1, h2⟩, kk⟩ := s2
  cases e5
  subst hF hu
  refine ⟨p, vs, v, rfl, rfl, sF _ _ one_same, by rw [← Paired.length h2]; exact hz, ?_⟩
  rw [minus_one] at kk
  exact hr.ev B Hi2 T tv s _ D o e4 hl (SatG.up (L := T ++ G) (s := tv ++ s) kk fun b w q => by
    obtain ⟨nb, q⟩ := del_some q
    rw [upd_ne nb]; exact q) k⟩
end
section
variable {X : Cx} {a b : Expr} {ta tb : TE} {G : List SV} {pos p : Pos} {α : Type}
/-- x in t, t a tuple of any length -/
theorem ev_inTp [Rp α] [DecidableEq α] [Sc α] {K : PySem.W.Frag} {neg : Bool} {m1 : Option α} {m2 : Option (Tp α)} (ha : EvJ ta G m1) (hb : EvJ tb G m2) : EvJ (tOp (rIn K neg) ta tb) G (m1.bind fun x => m2.bind fun y => some (if neg then !decide (x ∈ y.l) else decide (x ∈ y.l))) := fun B Hi T tv s H Q z hx hl hs k => by
  obtain ⟨x, e1, hx⟩ := bind_some hx
  obtain ⟨y, e2, e3⟩ := bind_some hx
  cases e3
  refine ha B Hi T tv s H _ x e1 hl hs fun vx Hi1 H1 s1 r1 => ?_
  refine hb B Hi1 (fz x :: T) (some vx :: tv) s H1 _ y e2 (by simp [hl]) ⟨⟨vx, rfl, r1⟩, s1⟩ fun vy Hi2 H2 s2 r2 => ?_
  obtain ⟨⟨v', e4, r1'⟩, s3⟩ := s2
  cases e4
  obtain ⟨q, vs, h1, h2, h3, h4⟩ := r2
  subst h1
  obtain ⟨g1, g2⟩ := in_pair r1' h4
  exact ⟨q, vs, rfl, .inr (SqT.of (s3.sub _ _ h2)), Sc.flat (α := α) r1', g2, k _ Hi2 H2 s3 (by rw [g1]; rfl)⟩
theorem ej_inTp [Rp α] [DecidableEq α] [Sc α] {m1 : Option α} {m2 : Option (Tp α)} (ha : EJ X a ta G m1) (hb : EJ X b tb G m2) (hm : behindInMarks .In b = false := by with_unfolding_all rfl) :
    EJ X (.Compare a [.In] [b] pos) (tOp (rIn X.K false) ta tb) G (m1.bind fun x => m2.bind fun y => some (decide (x ∈ y.l))) := ⟨pe_cmpR op_in_seq ha.pe hb.pe hm, ev_inTp (neg := false) ha.ev hb.ev⟩
theorem ej_notinTp [Rp α] [DecidableEq α] [Sc α] {m1 : Option α} {m2 : Option (Tp α)} (ha : EJ X a ta G m1) (hb : EJ X b tb G m2) (hm : behindInMarks .NotIn b = false := by with_unfolding_all rfl) :
    EJ X (.Compare a [.NotIn] [b] pos) (tOp (rIn X.K true) ta tb) G (m1.bind fun x => m2.bind fun y => some (!decide (x ∈ y.l))) := ⟨pe_cmpR op_notIn_seq ha.pe hb.pe hm, ev_inTp (neg := true) ha.ev hb.ev⟩
theorem tj_inTp [Rp α] [DecidableEq α] [Sc α] {m1 : Option α} {m2 : Option (Tp α)} (ha : EJ X a ta G m1) (hb : EJ X b tb G m2) (hm : behindInMarks .In b = false := by with_unfolding_all rfl) :
    TJ X (.Compare a [.In] [b] pos) (tTest (tOp (rIn X.K false) ta tb)) G (m1.bind fun x => m2.bind fun y => some (decide (x ∈ y.l))) := ⟨pt_cmpR op_in_seq ha.pe hb.pe hm, tv_test (ev_inTp (neg := false) ha.ev hb.ev)⟩
theorem tj_notinTp [Rp α] [DecidableEq α] [Sc α] {m1 : Option α} {m2 : Option (Tp α)} (ha : EJ X a ta G m1) (hb : EJ X b tb G m2) (hm : behindInMarks .NotIn b = false := by with_unfolding_all rfl) :
    TJ X (.Compare a [.NotIn] [b] pos) (tTest (tOp (rIn X.K true) ta tb)) G (m1.bind fun x => m2.bind fun y => some (!decide (x ∈ y.l))) := ⟨pt_cmpR op_notIn_seq ha.pe hb.pe hm, tv_test (ev_inTp (neg := true) ha.ev hb.ev)⟩
end
end GM
namespace ZL
open PySem PySem.Spec PyProof.Rows PySem.Calls PySem.W RT
section
variable {prog : Program} {w : World} {A : Around} {E : Value → Shared → Prop} {s : Shared} {items : Array Value} {it l : Addr}
theorem rv_extend {R : Result → Shared → Prop} (hh : A.handled = none) (S : Addr) (hit : s.heap.IsRevIter it l ((items.size : Int) - 1)) (hl : s.heap.IsList l items) (hne : l ≠ it) (hSi : S ≠ it) (hSl : S ≠ l) (hn : items.size ≤ sizeLine) (res : Value) (c₀ : Nat) (hS : s.heap.get? S = some { cls := .type "list", data := .seq #[] c₀ })
    (hR : ∀ (h' : Heap) (tk : Nat) (acc : Array Value) (c : Nat), (∀ b o, b ≠ S → b ≠ it → s.heap.get? b = some o → h'.get? b = some o) → h'.get? S = some { cls := .type "list", dict := none, data := .seq acc c, slots := #[] } → ItemsOf (fun i v => items[items.size - 1 - i]? = some v) acc items.size → R (.ok (.ret res)) { s with heap := h', toks := tk }) :
    wpAny (model prog w) A.in1 (Builtin.List.listExtendWith (.ref S) (.ref it) res)
      (fun fin s' => match fin with | .done f => R (.ok f) s' | .again c' => c'.quiet = true ∧ codeAny (model prog w) A c' R s') (fun e s' => R (.error e) s') s := by
  have W := (Walks.listRev (prog := prog) (w := w) (A := A.in1) hh it l hne items).toS
  have hSf : S ∉ [it, l] := by simp only [List.mem_cons, List.not_mem_nil, or_false, not_or]; exact ⟨hSi, hSl⟩
  have hT : s.TypeIs (.ref it) "list_reverseiterator" := Heap.IsRevIter.typeIs hit
  have h1 : Builtin.List.listSameRef (.ref S) (.ref it) = false := by simp [Builtin.List.listSameRef, hSi]
  unfold Builtin.List.listExtendWith
  refine wpAny_bind (wpAny_typeOf hT ?_)
  rw [if_neg (by rw [h1]; decide)]
  refine wpAny_bind (wpAny_pyIter_revIter hit ?_)
  refine wpAny_bind (wpAny_holding ?_)
  unfold Builtin.List.listLengthHint
  refine wpAny_bind (wpAny_specialOf hT nolen_lri ?_)
  show wpAny _ A.in1 (specialOf (Value.ref it) (Str.ofString "__length_hint__") >>= _) _ _ _
  refine wpAny_bind (wpAny_specialOf hT hint_lri ?_)
  generalize hid : ("list_reverseiterator.__length_hint__" : String) = id0
  wp_delta
  rw [show splitId id0 = some ("list_reverseiterator", "__length_hint__") from by subst hid; decide +kernel]
  subst hid
  refine wpAny_bind (wpAny_isInstance (b := true) hT (by rw [isSubtype_type]; kernel_rfl) ?_)
  refine wpAny_pure ?_
  rw [if_neg (by decide)]
  have e0 : ((items.size : Nat) : Int) - 1 - ((0 : Nat) : Int) = (items.size : Int) - 1 := by omega
  refine wpAny_pure ⟨plainId_quiet F.plain_extend_loop _, codeAny_extend_loopS W hn S hSf res items.size 0 _ _ _ rfl (Nat.zero_le _) ⟨Nat.zero_le _, by rw [e0]; exact hit, hl⟩ hS (ItemsOf.nil _) fun s' acc' c' hm hS' hacc => ?_⟩
  rw [Moved.eq_with hm]
  refine hR s'.heap s'.toks acc' c' (fun b o hb hb2 e => hm.heap b o (fun hmem => ?_) e) hS' hacc
  rcases List.mem_cons.mp hmem with e' | hmem
  · exact hb e'
  · exact hb2 (List.mem_singleton.mp hmem)
theorem rv_init {R : Result → Shared → Prop} (hh : A.handled = none) (S : Addr) (hit : s.heap.IsRevIter it l ((items.size : Int) - 1)) (hl : s.heap.IsList l items) (hne : l ≠ it) (hSi : S ≠ it) (hSl : S ≠ l) (hn : items.size ≤ sizeLine) (hS : s.heap.get? S = some { cls := .type "list", data := .seq #[] })
    (hR : ∀ (h' : Heap) (tk : Nat) (acc : Array Value) (c : Nat), (∀ b o, b ≠ S → b ≠ it → s.heap.get? b = some o → h'.get? b = some o) → h'.get? S = some { cls := .type "list", dict := none, data := .seq acc c, slots := #[] } → ItemsOf (fun i v => items[items.size - 1 - i]? = some v) acc items.size → R (.ok (.ret .none)) { s with heap := h', toks := tk }) :
    wpAny (model prog w) A.in1 (Builtin.«list.__init__» ⟨[.ref S, .ref it], []⟩)
      (fun fin s' => match fin with | .done f => R (.ok f) s' | .again c' => c'.quiet = true ∧ codeAny (model prog w) A c' R s') (fun e s' => R (.error e) s') s := by
  show wpAny _ _ (do let old ← Builtin.List.listItems (.ref S); Builtin.List.listUpdate (.ref S) (fun _ => #[]); letGo old.toList.reverse; Builtin.List.listExtendWith (.ref S) (.ref it) .none) _ _ s
  refine wpAny_bind ?_
  unfold Builtin.List.listItems
  refine wpAny_bind (wpAny_seqItems hS rfl (wpAny_pure ?_))
  show wpAny _ _ (updateSeq S (fun _ => #[]) >>= fun _ => letGo (#[] : Array Value).toList.reverse >>= fun _ => Builtin.List.listExtendWith (.ref S) (.ref it) .none) _ _ s
  refine wpAny_bind (wpAny_updateSeq hS rfl ?_)
  have hS₂ := Heap.get?_update_self (Obj.mapSeq (fun _ => (#[] : Array Value))) hS rfl
  have oth : ∀ b o, b ≠ S → s.heap.get? b = some o → (s.heap.update S (Obj.mapSeq (fun _ => (#[] : Array Value)))).get? b = some o :=
    fun b o hb e => (Heap.get?_update_other _ _ (Ne.symm hb)).trans e
  refine wpAny_bind (wpAny_letGo ?_)
  exact rv_extend hh S (hit.at fun o e => oth _ o (Ne.symm hSi) e) (hl.at fun o e => oth _ o (Ne.symm hSl) e) hne hSi hSl hn .none _ hS₂
    fun h' tk acc c hk hS' hacc => hR h' tk acc c (fun b o c0 c1 e => hk b o c0 c1 (oth b o c0 e)) hS' hacc
theorem rv_call {Q : Value → Shared → Prop} (hh : A.handled = none) (hit : s.heap.IsRevIter it l ((items.size : Int) - 1)) (hl : s.heap.IsList l items) (hne : l ≠ it) (hn : items.size ≤ sizeLine)
    (hQ : ∀ (h' : Heap) (tk : Nat) (acc : Array Value) (c : Nat), (∀ b o, b ≠ it → s.heap.get? b = some o → h'.get? b = some o) → h'.get? s.heap.objs.size = some { cls := .type "list", dict := none, data := .seq acc c, slots := #[] } → ItemsOf (fun i v => items[items.size - 1 - i]? = some v) acc items.size →
      Q (.ref s.heap.objs.size) { s with heap := h', toks := tk }) :
    wpAny (model prog w) A (call (.type "list") [.ref it]) Q E s := by
  refine callType_codes (Q₁ := fun obj s₁ => obj = .ref s.heap.objs.size ∧ s₁ = { s with heap := s.heap.push { cls := .type "list", data := .seq #[] } }) PySem.F.called_list (PySem.F.typeCall_list_1 _) PySem.F.entry_list_init
    (code_list_new _ ⟨rfl, rfl⟩) fun obj s₁ h₁ => ?_
  obtain ⟨rfl, rfl⟩ := h₁
  have hS : (s.heap.push { cls := .type "list", data := .seq #[] }).get? s.heap.objs.size = some { cls := .type "list", data := .seq #[] } := Heap.get?_push_size _ rfl
  have z1 : it < s.heap.objs.size := by obtain ⟨_, e, _⟩ := hit; exact Heap.lt_size e
  have z2 : l < s.heap.objs.size := by obtain ⟨_, e, _⟩ := hl; exact Heap.lt_size e
  have up : ∀ b o, s.heap.get? b = some o → (s.heap.push { cls := .type "list", data := .seq #[] }).get? b = some o := fun b o e => Heap.get?_push_of_some _ e
  refine ⟨⟨_, hS, rfl⟩, PySem.F.args_list_init_2 _ _, rv_init (A := A.in1) (s := { s with heap := s.heap.push { cls := .type "list", data := .seq #[] } }) hh s.heap.objs.size (hit.at fun o e => up _ o e) (hl.at fun o e => up _ o e) hne (Nat.ne_of_gt z1) (Nat.ne_of_gt z2) hn hS fun h' tk acc c hk hS' hacc => ?_⟩
  exact ⟨rfl, hQ h' tk acc c (fun b o c1 e => hk b o (Nat.ne_of_lt (Heap.lt_size e)) c1 (up b o e)) hS' hacc⟩
end
end ZL
namespace GM
open PySem PySem.Spec PyProof.Rows L2 ZL RT
def tListRev (K : PySem.W.Frag) (te : TE) : TE := fun σ H Q => te σ H fun v H1 => ∃ (a : Addr) (xs : List V), v = .ref a ∧ SqL K H1 a xs ∧ ∀ q, H1 q = none → Q (.ref q) (upd H1 q (.lst xs.reverse))
section
variable {X : Cx}
theorem pe_listRev {e : Expr} {te : TE} {p p2 pos pos2 : Pos} (hc : X.calm = true) (hg : Gl X "list") (hm : X.mg "list" = none) (hv : bootBuiltins "list" = some (.type "list")) (hg2 : Gl X "reversed") (hm2 : X.mg "reversed" = none) (he : PE X e te)
    (hs : starEach [e] X.env = (false, eval e X.env) :: starEach [] X.env := by rfl)
    (hs2 : starEach [.Call (.Name "reversed" p2) [e] [] pos2] X.env = (false, eval (.Call (.Name "reversed" p2) [e] [] pos2) X.env) :: starEach [] X.env := by rfl) :
    PE X (.Call (.Name "list" p) [.Call (.Name "reversed" p2) [e] [] pos2] [] pos) (tListRev X.K te) := by
  refine ⟨fun pins s σ H Q I h => ?_⟩
  refine Call_ (ld_blt I hg hm hv (PyProof.Rows.callWith_type1 (args_cons (Call_ (ld_blt I hg2 hm2 PyProof.Rows.boot_reversed (PyProof.Rows.callWith_type1 (args_cons (thn (he.run pins s σ H _ I h) fun u s1 ⟨v, H1, I1, r1, q1⟩ => args_nil ?_) hs) hs rfl))) hs2) hs2 rfl))
  obtain ⟨a, xs, ev, hq, q⟩ := q1
  subst ev
  obtain rfl : u = Value.ref a := r1
  obtain ⟨its, rv, p', hz⟩ := I1.list hq
  refine call_reversed_list p'.isList (args_nil ?_)
  have k0 : ∀ b o, s1.heap.get? b = some o → (s1.heap.push (revObj a ((its.toArray.size : Int) - 1))).get? b = some o := fun b o e => Heap.get?_push_of_some _ e
  have I2 : Inv X pins σ H1 { s1 with heap := s1.heap.push (revObj a ((its.toArray.size : Int) - 1)) } := I1.kept (t' := s1.toks) k0
  have fp := I1.fpOk (H' := H1) (b := s1.heap.objs.size) (Nat.le_refl _) (I1.hok.fresh (Nat.le_refl _))
  have hl := p'.isList
  obtain ⟨ol, hol, _⟩ := id hl
  have hne : a ≠ s1.heap.objs.size := Nat.ne_of_lt (Heap.lt_size hol)
  have hn : its.toArray.size ≤ sizeLine := by rw [List.size_toArray, ← rv.length]; exact hz
  refine rv_call (s := { s1 with heap := s1.heap.push (revObj a ((its.toArray.size : Int) - 1)) }) (I1.ok.hd hc) ⟨_, Heap.get?_push_size _ rfl, rfl, rfl⟩ (hl.push _) hne hn fun h' tk acc c hk hS hi => ?_
  have hT : (s1.heap.push (revObj a ((its.toArray.size : Int) - 1))).objs.size ≤ (s1.heap.push (revObj a ((its.toArray.size : Int) - 1))).objs.size := Nat.le_refl _
  refine ⟨.ref _, upd H1 (s1.heap.push (revObj a ((its.toArray.size : Int) - 1))).objs.size (.lst xs.reverse), Inv.turnedNew (t' := tk) (ch := [s1.heap.objs.size]) I2 (fun b o hb e => hk b o (fun z => hb (by rw [z]; exact List.mem_cons_self)) e) (fun b hb => by rw [List.mem_singleton.mp hb]; exact fp) hT ⟨by rw [List.length_reverse]; exact hz, acc.toList, c, vals_rev rv hi, ?_⟩, rfl, q _ (I2.hok.fresh hT)⟩
  rw [Array.toArray_toList]
  exact hS
theorem oj_listRev [Rq α] {e : Expr} {te : TE} {p p2 pos pos2 : Pos} {G : List SV} {m : Option (List α)} (hc : X.calm = true) (ha : LK X e te G m) (hm : X.mg "list" = none) (hm2 : X.mg "reversed" = none) (hg : Gl X "list" := by rfl) (hg2 : Gl X "reversed" := by rfl) (hv : bootBuiltins "list" = some (.type "list") := by decide +kernel)
    (hs : starEach [e] X.env = (false, eval e X.env) :: starEach [] X.env := by rfl)
    (hs2 : starEach [.Call (.Name "reversed" p2) [e] [] pos2] X.env = (false, eval (.Call (.Name "reversed" p2) [e] [] pos2) X.env) :: starEach [] X.env := by rfl) :
    OJ X (.Call (.Name "list" p) [.Call (.Name "reversed" p2) [e] [] pos2] [] pos) (tListRev X.K te) G (m.bind fun x => some x.reverse) := ⟨pe_listRev hc hg hm hv hg2 hm2 ha.pe hs hs2, fun B Hi T tv s H Q z hx hl hs k => by
  obtain ⟨x, e1, e2⟩ := bind_some hx
  cases e2
  refine ha.ev B Hi T tv s H _ x e1 hl hs fun vx T' tv' Hi1 H1 l1 s1 r1 => ?_
  obtain ⟨s4, a, vs, g1, g2, g3, g4⟩ := r1 Hi1 H1 s1
  exact ⟨a, vs, g1, g2, fun q hq => k q Hi1 _ (s4.newO (φ := isL _) hq ⟨_, rfl, by rw [List.length_reverse]; exact g3, Paired.reverse g4⟩)⟩⟩
/-- a list of ints, short, as the script -/
def scrL (xs : List Int) : Option (List Int) := if xs.length ≤ 63 then some xs else none
theorem ej_scr {K : PySem.W.Frag} {e : Expr} {te : TE} {G : List SV} {m : Option (List Int)} (h : EJ X e te G m) : EJ X e te G (m.bind fun x => (scrL x).bind fun y => some (⟨y⟩ : Scr K)) := ⟨h.pe, fun B Hi T tv s H Q x hx hl hs k => by
  obtain ⟨y, e1, hx⟩ := bind_some hx
  obtain ⟨y', e2, e3⟩ := bind_some hx
  cases e3
  unfold scrL at e2
  split at e2
  · cases e2
    refine h.ev B Hi T tv s H Q y e1 hl hs fun v Hi1 H1 s1 r1 => k v Hi1 H1 s1 ?_
    obtain ⟨a, vs, g1, g2, g3, g4⟩ := r1
    refine ⟨a, g1, ?_, by assumption⟩
    have : ∀ {xs : List Int} {vs : List V}, Paired (rq Hi1) xs vs → vs = xs.map V.int := fun {xs vs} h => by
      induction h with
      | nil => rfl
      | cons r t ih => rw [List.map_cons, ← ih]; congr 1
    rw [this g4] at g2
    exact SqL.of g2
  · cases e2⟩
end
end GM
namespace GM
open PySem PySem.Spec PyProof.Rows L2
section
variable {X : Cx} {e a b b' c : Expr} {t ta tb tb' tc : TE} {G : List SV} {α β O : Type} {pos : Pos} {n : Str} {rest : List Stmt} {u : TS} {P : Post O}
/-- name[i], name[j] = a pair -/
theorem bj_setPar [Rq α] {xs : List α} {m1 : Option (α × α)} {m2 m3 : Option Int} {m4 : List α → Option O} (hc : X.calm = true) (l : Nat) (h : EJ X e t G m1) (hi : EJ X b tb G m2) (hj : ∀ ys : List α, EJ X b' tb' (G.set l (ol ys)) m3) (hr : ∀ ys, BJ X rest u (G.set l (ol ys)) (m4 ys) P) {p2 p3 p4 p5 pt : Pos} {kt} (hg : G[l]? = some (ol xs) := by rfl)
    (hN : X.N[l]? = some n := by rfl) (hv : Vis X.env.scope n := by first | exact Or.inl rfl | exact Or.inr (Or.inl rfl) | exact Or.inr (Or.inr rfl)) (hd : (n == ("__debug__" : Str)) = false := by decide) (hcd : (n == ("__classdict__" : Str)) = false := by decide)
    (hs : swapsWithSole [.Tuple [.Subscript (.Name n p2) b p3, .Subscript (.Name n p4) b' p5] kt pt] e pos.line X.env = pure false := by rfl) (hw : swappedStores [.Tuple [.Subscript (.Name n p2) b p3, .Subscript (.Name n p4) b' p5] kt pt] e X.env = pure none := by rfl)
    (h1 : (assignEach [.Tuple [.Subscript (.Name n p2) b p3, .Subscript (.Name n p4) b' p5] kt pt] X.env).map (·.2) = [assign (.Tuple [.Subscript (.Name n p2) b p3, .Subscript (.Name n p4) b' p5] kt pt) X.env] := by rfl)
    (hn : (assignEach [.Subscript (.Name n p2) b p3, .Subscript (.Name n p4) b' p5] X.env).length = 2 := by rfl) (hst : (assignEach [.Subscript (.Name n p2) b p3, .Subscript (.Name n p4) b' p5] X.env).findIdx? (·.1) = none := by rfl)
    (hs1 : (assignEach [.Subscript (.Name n p2) b p3, .Subscript (.Name n p4) b' p5] X.env).map (·.2) = assign (.Subscript (.Name n p2) b p3) X.env :: (assignEach [.Subscript (.Name n p4) b' p5] X.env).map (·.2) := by rfl)
    (hs2 : (assignEach [.Subscript (.Name n p4) b' p5] X.env).map (·.2) = assign (.Subscript (.Name n p4) b' p5) X.env :: (assignEach [] X.env).map (·.2) := by rfl)
    (ha1 : ∀ v, assign (.Subscript (.Name n p2) b p3) X.env v = (do
      let ov ← holding [v] (eval (.Name n p2) X.env)
      let iv ← holding [v, ov] (eval b X.env)
      standAt p3
      holding [v, ov, iv] (setItem ov iv v)
      release [v, ov, iv] []) := by intro _; rfl)
    (ha2 : ∀ v, assign (.Subscript (.Name n p4) b' p5) X.env v = (do
      let ov ← holding [v] (eval (.Name n p4) X.env)
      let iv ← holding [v, ov] (eval b' X.env)
      standAt p5
      holding [v, ov, iv] (setItem ov iv v)
      release [v, ov, iv] []) := by intro _; rfl) :
    BJ X (.Assign [.Tuple [.Subscript (.Name n p2) b p3, .Subscript (.Name n p4) b' p5] kt pt] e pos :: rest) (tSeq (tAsg t (gTup X.K 2 (gCons (gSub (tVar l) tb rSetL) (gCons (gSub (tVar l) tb' rSetL) gNil)))) u) G
      (m1.bind fun x => m2.bind fun i => (setC xs i x.1).bind fun ys => m3.bind fun j => (setC ys j x.2).bind m4) P :=
  ⟨pss_cons (ps_asg h.pe (pg_tup hc (pgs_cons (pg_sub (pe_var hN hv hd hcd) hi.pe set_list ha1) (pgs_cons (pg_sub (pe_var hN hv hd hcd) (hj []).pe set_list ha2) pgs_nil hs2) hs1) hn hst) hs hw h1) (hr []).ps, fun B Hi T tv s H D o hx hl hsat k => by
  obtain ⟨x, e1, hx⟩ := bind_some hx
  obtain ⟨i, e2, hx⟩ := bind_some hx
  obtain ⟨ys, e3, hx⟩ := bind_some hx
  obtain ⟨j, e4, hx⟩ := bind_some hx
  obtain ⟨zs, e5, e6⟩ := bind_some hx
  refine h.ev B Hi T tv s H _ x e1 hl hsat fun v Hi1 H1 s1 r1 => ?_
  obtain ⟨a, v1, v2, g1, g2, g3, g4⟩ := r1
  subst g1
  refine ⟨a, [v1, v2], rfl, SqT.of (s1.sub _ _ g2), rfl, v1, [v2], rfl, ?_⟩
  have sT : SatG B Hi1 ((fz x.1 :: fz x.2 :: T) ++ G) ((some v1 :: some v2 :: tv) ++ s) H1 := ⟨⟨v1, rfl, g3⟩, ⟨v2, rfl, g4⟩, s1⟩
  obtain ⟨q, w, h1, h2, ⟨vs, h3, h4, h5⟩, h6, up⟩ := s1.ownT hl hg
  refine ⟨.ref q, h1, ?_⟩
  refine hi.ev B Hi1 (fz x.1 :: fz x.2 :: T) (some v1 :: some v2 :: tv) s H1 _ i e2 (by simp [hl]) sT fun iv Hi2 H2 s2 r2 => ?_
  have s2c : SatG B Hi2 ((fz x.1 :: fz x.2 :: T) ++ G) ((some v1 :: some v2 :: tv) ++ s) H2 := s2
  obtain ⟨⟨v1', k1, r1'⟩, ⟨v2', k2, r2'⟩, s2'⟩ := s2
  cases k1
  cases k2
  obtain ⟨q', w', f1, f2, ⟨us, f3, f4, f5⟩, f6, up⟩ := s2c.ownT (T := fz x.1 :: fz x.2 :: T) (tv := some v1 :: some v2 :: tv) (by simp [hl]) hg
  rw [h1] at f1
  cases f1
  subst f3
  obtain ⟨jj, k3, k4⟩ := setC_is e3
  subst k4
  refine ⟨q, us, i, jj, rfl, r2, f2, by rw [← Paired.length f5]; exact k3, ?_⟩
  have s3 := up (.lst (us.set jj v1)) (isL (xs.set jj x.1)) (fun _ _ _ e ⟨vs, h1, h2, h3⟩ => ⟨vs, h1, h2, Paired.mono h3 fun _ _ => Rq.mono e⟩) ⟨_, rfl, by rw [List.length_set]; exact f4, Paired.set r1' jj f5⟩
  have s3c : SatG B Hi2 ((fz x.1 :: fz x.2 :: T) ++ G.set l (ol (xs.set jj x.1))) ((some v1 :: some v2 :: tv) ++ s) _ := s3
  have hg2 : (G.set l (ol (xs.set jj x.1)))[l]? = some (ol (xs.set jj x.1)) := by rw [List.getElem?_set, if_pos rfl, if_pos (List.getElem?_eq_some_iff.mp hg).1]
  refine ⟨v2, [], rfl, .ref q, h1, ?_⟩
  refine (hj (xs.set jj x.1)).ev B Hi2 (fz x.1 :: fz x.2 :: T) (some v1 :: some v2 :: tv) s _ _ j e4 (by simp [hl]) s3c fun jv Hi3 H3 s4 r4 => ?_
  have s4c : SatG B Hi3 ((fz x.1 :: fz x.2 :: T) ++ G.set l (ol (xs.set jj x.1))) ((some v1 :: some v2 :: tv) ++ s) H3 := s4
  obtain ⟨⟨v1'', k5, r5⟩, ⟨v2'', k6, r6⟩, s4'⟩ := s4
  cases k5
  cases k6
  obtain ⟨q'', w'', f1', f2', ⟨us', f3', f4', f5'⟩, f6', up'⟩ := s4c.ownT (T := fz x.1 :: fz x.2 :: T) (tv := some v1 :: some v2 :: tv) (by simp [hl]) hg2
  rw [h1] at f1'
  cases f1'
  subst f3'
  obtain ⟨j2, k7, k8⟩ := setC_is e5
  subst k8
  refine ⟨q, us', j, j2, rfl, r4, f2', by rw [← Paired.length f5']; exact k7, rfl, ?_⟩
  have s5 := up' (.lst (us'.set j2 v2)) (isL ((xs.set jj x.1).set j2 x.2)) (fun _ _ _ e ⟨vs, h1, h2, h3⟩ => ⟨vs, h1, h2, Paired.mono h3 fun _ _ => Rq.mono e⟩) ⟨_, rfl, by rw [List.length_set]; exact f4', Paired.set r6 j2 f5'⟩
  rw [List.set_set] at s5
  have s6 : SatG B Hi3 (T ++ G.set l (ol ((xs.set jj x.1).set j2 x.2))) (tv ++ s) _ := s5.2.2
  exact (hr _).ev B Hi3 T tv s _ D o e6 hl s6 k⟩
end
end GM
namespace GM
open PySem PySem.Spec PyProof.Rows L2
/-! ### tuples of four -/
structure T4 (α β γ δ : Type) where
  a : α
  b : β
  c : γ
  d : δ
def repT4 {α β γ δ : Type} [Rq α] [Rq β] [Rq γ] [Rq δ] (H : Hp) (x : T4 α β γ δ) (v : V) : Prop := ∃ a v1 v2 v3 v4, v = .ref a ∧ H a = some (.tup [v1, v2, v3, v4]) ∧ rq H x.a v1 ∧ rq H x.b v2 ∧ rq H x.c v3 ∧ rq H x.d v4
instance {α β γ δ : Type} [Rq α] [Rq β] [Rq γ] [Rq δ] : Rp (T4 α β γ δ) := ⟨repT4, fun {H H' x v} e h => by
  obtain ⟨a, v1, v2, v3, v4, h1, h2, h3, h4, h5, h6⟩ := h
  exact ⟨a, v1, v2, v3, v4, h1, e _ _ h2, Rq.mono e h3, Rq.mono e h4, Rq.mono e h5, Rq.mono e h6⟩, fun h => by
  obtain ⟨a, v1, v2, v3, v4, h1, h2, h3, h4, h5, h6⟩ := h
  rw [h1]; exact fun z => by cases z⟩
instance {α β γ δ : Type} [Rq α] [Rq β] [Rq γ] [Rq δ] [NoL α] [NoL β] [NoL γ] [NoL δ] : NoL (T4 α β γ δ) := ⟨fun e h => by
  obtain ⟨a, v1, v2, v3, v4, h1, h2, h3, h4, h5, h6⟩ := h
  exact ⟨a, v1, v2, v3, v4, h1, e _ _ h2, NoL.tr e h3, NoL.tr e h4, NoL.tr e h5, NoL.tr e h6⟩⟩
instance {α β γ δ : Type} [Rq α] [Rq β] [Rq γ] [Rq δ] : TyN (T4 α β γ δ) := ⟨"tuple", fun h => by obtain ⟨a, v1, v2, v3, v4, h1, h2, _⟩ := h; subst h1; exact .base (.tup h2)⟩
instance {α β γ δ : Type} [Inhabited α] [Inhabited β] [Inhabited γ] [Inhabited δ] : Inhabited (T4 α β γ δ) := ⟨⟨default, default, default, default⟩⟩
instance {α β γ δ : Type} [DecidableEq α] [DecidableEq β] [DecidableEq γ] [DecidableEq δ] : DecidableEq (T4 α β γ δ) := fun x y =>
  if h : x.a = y.a ∧ x.b = y.b ∧ x.c = y.c ∧ x.d = y.d then isTrue (by cases x; cases y; obtain ⟨h1, h2, h3, h4⟩ := h; cases h1; cases h2; cases h3; cases h4; rfl) else isFalse (fun e => h (by rw [e]; exact ⟨rfl, rfl, rfl, rfl⟩))
instance instDaT4 {α β γ δ : Type} [Rq α] [Rq β] [Rq γ] [Rq δ] [DecidableEq α] [DecidableEq β] [DecidableEq γ] [DecidableEq δ] [Da α] [Da β] [Da γ] [Da δ] : Da (T4 α β γ δ) := ⟨fun x => .tuple [Da.dat x.a, Da.dat x.b, Da.dat x.c, Da.dat x.d], max (Da.dep α) (max (Da.dep β) (max (Da.dep γ) (Da.dep δ))) + 1, fun h => by
    obtain ⟨a, v1, v2, v3, v4, h1, h2, h3, h4, h5, h6⟩ := h
    subst h1
    exact .tup (SqT.of h2) (.cons (Da.dp h3) (.cons (Da.dp h4) (.cons (Da.dp h5) (.cons (Da.dp h6) .nil)))), fun x => by
    show max (PyData.depth (Da.dat x.a)) (max (PyData.depth (Da.dat x.b)) (max (PyData.depth (Da.dat x.c)) (max (PyData.depth (Da.dat x.d)) 0))) + 1 ≤ _
    have := Da.hd x.a
    have := Da.hd x.b
    have := Da.hd x.c
    have := Da.hd x.d
    omega, fun x => by
    show (PyData.canLay0 (Da.dat x.a) && (PyData.canLay0 (Da.dat x.b) && (PyData.canLay0 (Da.dat x.c) && (PyData.canLay0 (Da.dat x.d) && true)))) = true
    rw [Da.lay, Da.lay, Da.lay, Da.lay]; rfl, fun x y => by
    show (PyData.eqv (Da.dat x.a) (Da.dat y.a) && (PyData.eqv (Da.dat x.b) (Da.dat y.b) && (PyData.eqv (Da.dat x.c) (Da.dat y.c) && (PyData.eqv (Da.dat x.d) (Da.dat y.d) && true)))) = _
    rw [Da.eqv, Da.eqv, Da.eqv, Da.eqv, Bool.and_true, ← Bool.decide_and, ← Bool.decide_and, ← Bool.decide_and]
    exact dec_iff ⟨fun h => by cases x; cases y; obtain ⟨h1, h2, h3, h4⟩ := h; cases h1; cases h2; cases h3; cases h4; rfl, fun h => by rw [h]; exact ⟨rfl, rfl, rfl, rfl⟩⟩⟩
section
variable {X : Cx} {a b c d : Expr} {ta : TE} {tr : TA} {G : List SV} {α β γ δ : Type} {pos : Pos}
theorem ej_tup4 [Rq α] [Rq β] [Rq γ] [Rq δ] {m : Option (α × β × γ × δ × Unit)} {x1} (h : AJ X [a, b, c, d] tr G m) : EJ X (.Tuple [a, b, c, d] x1 pos) (tTup tr) G (m.bind fun x => some (T4.mk x.1 x.2.1 x.2.2.1 x.2.2.2.1)) := ⟨pe_tup h.pa, fun B Hi T tv s H Q z hx hl hs k => by
  obtain ⟨x, e1, e2⟩ := bind_some hx
  cases e2
  refine h.ev B Hi T tv s H _ x e1 hl hs fun vs Hi1 H1 s1 r1 => ?_
  obtain ⟨v1, us, rfl, h1, v2, us2, rfl, h2, v3, us3, rfl, h3, v4, us4, rfl, h4, h5⟩ := r1
  cases h5
  refine ⟨by show 4 ≤ sizeLine; decide, fun p hp => ?_⟩
  obtain ⟨s2, sm⟩ := sat_tup (vs := [v1, v2, v3, v4]) s1 hp
  exact k _ _ _ s2 ⟨p, v1, v2, v3, v4, rfl, upd_same, Rq.mono sm h1, Rq.mono sm h2, Rq.mono sm h3, Rq.mono sm h4⟩⟩
theorem ej_ix40 [Rq α] [Rq β] [Rq γ] [Rq δ] {m : Option (T4 α β γ δ)} {j} {p2 : Pos} (ha : EJ X a ta G m) : EJ X (.Subscript a (.Constant (.int 0) j p2) pos) (tOp (rIxT X.K) ta (tC (.int 0))) G (m.bind fun x => some x.a) :=
  ⟨pe_ix ix_tup ha.pe pe_int (fun _ _ => rfl), fun B Hi T tv s H Q z hx hl hs k => by
    obtain ⟨x, e1, e2⟩ := bind_some hx
    cases e2
    refine ha.ev B Hi T tv s H _ x e1 hl hs fun v Hi1 H1 s1 r1 => ?_
    obtain ⟨q, v1, v2, v3, v4, h1, h2, h3, h4, h5, h6⟩ := r1
    exact ⟨q, [v1, v2, v3, v4], 0, v1, h1, rfl, SqT.of (s1.sub _ _ h2), atI_nat (j := 0) rfl, k v1 Hi1 H1 s1 h3⟩⟩
theorem ej_ix41 [Rq α] [Rq β] [Rq γ] [Rq δ] {m : Option (T4 α β γ δ)} {j} {p2 : Pos} (ha : EJ X a ta G m) : EJ X (.Subscript a (.Constant (.int 1) j p2) pos) (tOp (rIxT X.K) ta (tC (.int 1))) G (m.bind fun x => some x.b) :=
  ⟨pe_ix ix_tup ha.pe pe_int (fun _ _ => rfl), fun B Hi T tv s H Q z hx hl hs k => by
    obtain ⟨x, e1, e2⟩ := bind_some hx
    cases e2
    refine ha.ev B Hi T tv s H _ x e1 hl hs fun v Hi1 H1 s1 r1 => ?_
    obtain ⟨q, v1, v2, v3, v4, h1, h2, h3, h4, h5, h6⟩ := r1
    exact ⟨q, [v1, v2, v3, v4], 1, v2, h1, rfl, SqT.of (s1.sub _ _ h2), atI_nat (j := 1) rfl, k v2 Hi1 H1 s1 h4⟩⟩
theorem ej_ix42 [Rq α] [Rq β] [Rq γ] [Rq δ] {m : Option (T4 α β γ δ)} {j} {p2 : Pos} (ha : EJ X a ta G m) : EJ X (.Subscript a (.Constant (.int 2) j p2) pos) (tOp (rIxT X.K) ta (tC (.int 2))) G (m.bind fun x => some x.c) :=
  ⟨pe_ix ix_tup ha.pe pe_int (fun _ _ => rfl), fun B Hi T tv s H Q z hx hl hs k => by
    obtain ⟨x, e1, e2⟩ := bind_some hx
    cases e2
    refine ha.ev B Hi T tv s H _ x e1 hl hs fun v Hi1 H1 s1 r1 => ?_
    obtain ⟨q, v1, v2, v3, v4, h1, h2, h3, h4, h5, h6⟩ := r1
    exact ⟨q, [v1, v2, v3, v4], 2, v3, h1, rfl, SqT.of (s1.sub _ _ h2), atI_nat (j := 2) rfl, k v3 Hi1 H1 s1 h5⟩⟩
theorem ej_ix43 [Rq α] [Rq β] [Rq γ] [Rq δ] {m : Option (T4 α β γ δ)} {j} {p2 : Pos} (ha : EJ X a ta G m) : EJ X (.Subscript a (.Constant (.int 3) j p2) pos) (tOp (rIxT X.K) ta (tC (.int 3))) G (m.bind fun x => some x.d) :=
  ⟨pe_ix ix_tup ha.pe pe_int (fun _ _ => rfl), fun B Hi T tv s H Q z hx hl hs k => by
    obtain ⟨x, e1, e2⟩ := bind_some hx
    cases e2
    refine ha.ev B Hi T tv s H _ x e1 hl hs fun v Hi1 H1 s1 r1 => ?_
    obtain ⟨q, v1, v2, v3, v4, h1, h2, h3, h4, h5, h6⟩ := r1
    exact ⟨q, [v1, v2, v3, v4], 3, v4, h1, rfl, SqT.of (s1.sub _ _ h2), atI_nat (j := 3) rfl, k v4 Hi1 H1 s1 h6⟩⟩
end
end GM
namespace GM.Mn
open PySem PySem.Spec PyProof.Rows
section
variable {prog : Program} {w : World} {A : Around} {I : Addr} {fp wr : List Addr} {n : Nat} {P : Nat → Value → Prop} {St : Nat → Heap → Prop}
theorem nm : (toString "min" ++ toString ".loop" : String) = "min.loop" := by decide
/-- the turns behind the first one, whatever keywords go along -/
theorem turns {R : Result → Shared → Prop} (W : Walks prog w A.in1 I fp wr n P St) (bt : Nat → Nat → Bool) (hcmp : CmpOf prog w A.in1 .Lt P bt) (S : Addr) (hSf : S ∉ fp) (kws : List (Str × Value)) :
    ∀ (k j : Nat) (s : Shared) (vb : Value) (c : Nat), n - (j + 1) = k → j + 1 ≤ n → St (j + 1) s.heap → P (argBest bt j) vb →
    s.heap.get? S = some { cls := .type "list", dict := none, data := .seq #[vb, vb] c, slots := #[] } →
    (∀ v h' tk, P (argBest bt (n - 1)) v → (∀ b o, b ∉ wr → b ≠ S → s.heap.get? b = some o → h'.get? b = some o) → R (.ok (.ret v)) { s with heap := h', toks := tk }) →
    codeAny (model prog w) A (.builtin "min.loop" ⟨[.ref I, .none, .ref S], kws⟩) R s := by
  have nw : S ∉ wr := fun h => hSf (W.sub _ h)
  intro k
  induction k with
  | zero =>
    intro j s vb c hk hj hst hb hS hR
    have hn : j + 1 = n := by omega
    refine codeAny_builtin F.entry_min_loop ?_
    rw [Around.under_plainId F.plain_min_loop _]
    show wpAny _ A.in1 (seqItems? (.ref S) >>= _) _ _ s
    refine wpAny_bind (wpAny_seqItems hS rfl ?_)
    show wpAny _ A.in1 (tryCatch (pyNext (.ref I)) _ >>= _) _ _ s
    refine wpAny_bind (wpAny_tryCatch (W.done s _ _ (hn ▸ hst) fun h' tk hk' => ?_))
    have hS' := hk' S _ nw hS
    show wpAny _ A.in1 (updateSeq S (fun _ => #[]) >>= _) _ _ _
    refine wpAny_bind (wpAny_updateSeq hS' rfl (wpAny_bind (wpAny_letGo (wpAny_pure ?_))))
    refine hR vb _ tk (by rw [← hn]; exact hb) fun b o h1 h2 e => (Heap.get?_update_other _ _ (Ne.symm h2)).trans (hk' b o h1 e)
  | succ k ih =>
    intro j s vb c hk hj hst hb hS hR
    have hlt : j + 1 < n := by omega
    refine codeAny_builtin F.entry_min_loop ?_
    rw [Around.under_plainId F.plain_min_loop _]
    show wpAny _ A.in1 (seqItems? (.ref S) >>= _) _ _ s
    refine wpAny_bind (wpAny_seqItems hS rfl ?_)
    show wpAny _ A.in1 (tryCatch (pyNext (.ref I)) _ >>= _) _ _ s
    refine wpAny_bind (wpAny_tryCatch (W.item (j + 1) s _ _ hlt hst fun v h' tk hP hst' hk' => ?_))
    have hS' := hk' S _ nw hS
    show wpAny _ A.in1 (tryCatch (holding [v, v] (richCompare .Lt v vb >>= _)) _ >>= _) _ _ _
    refine wpAny_bind (wpAny_tryCatch (wpAny_holding (wpAny_bind (hcmp (j + 1) (argBest bt j) v vb _ _ _ hP hb ?_))))
    refine wpAny_bind (wpAny_holding (wpAny_truthy_bool (wpAny_bind (wpAny_letGo (wpAny_pure ?_)))))
    cases q : bt (j + 1) (argBest bt j) with
    | true =>
      simp only [if_true]
      refine wpAny_bind (wpAny_updateSeq hS' rfl (wpAny_bind (wpAny_letGo ?_)))
      rw [nm]
      refine wpAny_pure ⟨plainId_quiet F.plain_min_loop _, ih (j + 1) _ v _ (by omega) hlt (W.frame _ _ _ hst' fun b hbf o e => (Heap.get?_update_other _ _ (fun h : S = b => hSf (by rw [h]; exact hbf))).trans e) (by simp only [argBest, q, if_true]; exact hP) (Heap.get?_update_self _ hS' rfl)
        fun v' h'' tk'' hP' hk'' => hR v' h'' tk'' hP' fun b o h1 h2 e => hk'' b o h1 h2 ((Heap.get?_update_other _ _ (Ne.symm h2)).trans (hk' b o h1 e))⟩
    | false =>
      simp only [Bool.false_eq_true, if_false]
      refine wpAny_bind (wpAny_letGo ?_)
      rw [nm]
      exact wpAny_pure ⟨plainId_quiet F.plain_min_loop _, ih (j + 1) _ vb c (by omega) hlt hst' (by simp only [argBest, q, Bool.false_eq_true, if_false]; exact hb) hS' fun v' h'' tk'' hP' hk'' => hR v' h'' tk'' hP' fun b o h1 h2 e => hk'' b o h1 h2 (hk' b o h1 e)⟩
/-- the loop from its first turn -/
theorem first {R : Result → Shared → Prop} (W : Walks prog w A.in1 I fp wr n P St) (bt : Nat → Nat → Bool) (hcmp : CmpOf prog w A.in1 .Lt P bt) (S : Addr) (hSf : S ∉ fp) (d : Value) {s : Shared} {c : Nat} (hst : St 0 s.heap)
    (hS : s.heap.get? S = some { cls := .type "list", dict := none, data := .seq #[] c, slots := #[] })
    (hR : ∀ v h' tk, (if n = 0 then v = d else P (argBest bt (n - 1)) v) → (∀ b o, b ∉ wr → b ≠ S → s.heap.get? b = some o → h'.get? b = some o) → R (.ok (.ret v)) { s with heap := h', toks := tk }) :
    codeAny (model prog w) A (.builtin "min.loop" ⟨[.ref I, .none, .ref S], [("default", d)]⟩) R s := by
  have nw : S ∉ wr := fun h => hSf (W.sub _ h)
  refine codeAny_builtin F.entry_min_loop ?_
  rw [Around.under_plainId F.plain_min_loop _]
  show wpAny _ A.in1 (seqItems? (.ref S) >>= _) _ _ s
  refine wpAny_bind (wpAny_seqItems hS rfl ?_)
  show wpAny _ A.in1 (tryCatch (pyNext (.ref I)) _ >>= _) _ _ s
  by_cases hn : n = 0
  · subst hn
    refine wpAny_bind (wpAny_tryCatch (W.done s _ _ hst fun h' tk hk' => ?_))
    show wpAny _ A.in1 (rule _ >>= _) _ _ _
    exact wpAny_bind (wpAny_rule (wpAny_pure (hR d h' tk (by rw [if_pos rfl]) fun b o h1 _ e => hk' b o h1 e)))
  · refine wpAny_bind (wpAny_tryCatch (W.item 0 s _ _ (by omega) hst fun v h' tk hP hst' hk' => ?_))
    have hS' := hk' S _ nw hS
    show wpAny _ A.in1 (updateSeq S (fun _ => #[v, v]) >>= _) _ _ _
    refine wpAny_bind (wpAny_updateSeq hS' rfl ?_)
    rw [nm]
    refine wpAny_pure ⟨plainId_quiet F.plain_min_loop _, turns W bt hcmp S hSf _ _ 0 _ v _ rfl (by omega) (W.frame _ _ _ hst' fun b hbf o e => (Heap.get?_update_other _ _ (fun h : S = b => hSf (by rw [h]; exact hbf))).trans e) hP (Heap.get?_update_self _ hS' rfl) fun v' h'' tk'' hP' hk'' =>
      hR v' h'' tk'' (by rw [if_neg hn]; exact hP') fun b o h1 h2 e => hk'' b o h1 h2 ((Heap.get?_update_other _ _ (Ne.symm h2)).trans (hk' b o h1 e))⟩
end
end GM.Mn
namespace GM
open PySem PySem.Spec PyProof.Rows L2
namespace Mn
section
variable {prog : Program} {w : World} {A : Around} {E : Value → Shared → Prop} {s : Shared} {l : Addr} {its : List Value} {ns : List Int} {Q : Value → Shared → Prop}
theorem argsD (a v : Value) : argsOk "min" ⟨[a], [(Str.ofString "default", v)]⟩ := by unfold argsOk; kernel_rfl
theorem raw (hh : A.handled = none) (hl : s.heap.IsList l its.toArray) (hi : IntsAre its ns) (d : Value)
    (h : ∀ v h' tk, (∀ b o, s.heap.get? b = some o → h'.get? b = some o) → (ns = [] → v = d) → (ns ≠ [] → ∃ M t', v = .int M t' ∧ M ∈ ns ∧ ∀ a ∈ ns, M ≤ a) → Q v { s with heap := h', toks := tk }) :
    wpAny (model prog w) A (call (.builtin "min") [.ref l] [(Str.ofString "default", d)]) Q E s := by
  obtain ⟨xs, e⟩ := hi.allInts.items
  have hn : numsOf (intItems xs).toList = ns := by rw [← e]; exact hi.numsOf
  rw [nums_intItems] at hn
  subst hn
  rw [e] at hl
  refine kmk_tree PySem.F.kind_min PySem.F.plain_min PySem.F.entry_min (argsD _ _) ?_
  show wpAny _ A.in1 (Builtin.Builtins.bindParams "min" ["key", "default"] 0 ⟨[], [(Str.ofString "default", d)]⟩ >>= _) _ _ s
  refine wpAny_bind (wpAny_of_eq (show Builtin.Builtins.bindParams "min" ["key", "default"] 0 ⟨[], [(Str.ofString "default", d)]⟩ = pure [none, some d] from rfl) ?_)
  refine wpAny_bind (wpAny_pure ?_)
  refine wpAny_bind (iter_intList hl fun s₂ e2 st hfp hlI => ?_)
  subst e2
  have W := Walks.list (prog := prog) (w := w) (A := A.in1) hh _ l hlI (intItems xs)
  refine wpAny_bind (wpAny_newObj_type ?_)
  have hSf : (s.heap.push { cls := .type "list_iterator", data := .fields #[.ref l, .int 0 0] }).objs.size ∉ [s.heap.objs.size, l] := fun hm => Nat.lt_irrefl _ (hfp _ hm)
  rw [nm]
  refine wpAny_pure ⟨plainId_quiet F.plain_min_loop _, first W _ (CmpOf.ints_lt (numAt xs) (fun _ _ => intItems_at)) _ hSf d (W.frame _ _ _ st fun b _ o e => Heap.get?_push_of_some _ e) (Heap.get?_push_size _ rfl) fun v h' tk hP hk => ?_⟩
  have hk2 : ∀ b o, s.heap.get? b = some o → h'.get? b = some o := old_kept fun b o hb e => hk b o hb (Nat.ne_of_lt (Heap.lt_size e)) (Heap.get?_push_of_some _ e)
  have sz : (intItems xs).size = xs.size := by simp [intItems]
  refine h v h' tk hk2 (fun e => ?_) fun hne => ?_
  · have : xs.size = 0 := by have := congrArg List.length e; simpa using this
    rw [if_pos (by rw [sz]; exact this)] at hP
    exact hP
  · have hpos : 0 < xs.size := by
      have := List.length_pos_iff.mpr hne
      simpa using this
    rw [if_neg (by rw [sz]; omega), sz] at hP
    obtain ⟨t, rfl⟩ := intItems_at hP
    obtain ⟨h1, h2⟩ := argBest_lt (numAt xs) (xs.size - 1)
    refine ⟨_, t, rfl, ?_, fun a ha => ?_⟩
    · rw [numAt_eq]; exact PySem.getD_mem (by rw [List.length_map, Array.length_toList]; omega)
    · obtain ⟨j, hj, rfl⟩ := mem_getD ha
      rw [List.length_map, Array.length_toList] at hj
      rw [← numAt_eq]; exact h2 j (by omega)
end
end Mn
section
variable {X : Cx} {e a b c : Expr} {es : List Expr} {t ta tb tc te : TE} {tr : TA} {G : List SV} {pos p : Pos}
def rMinDf (K : PySem.W.Frag) : List V → List V → Hp → VK → Prop := fun vs zs H Q => ∃ (a : Addr) (ns : List Int) (d : Int), vs = [.ref a] ∧ zs = [.int d] ∧ SqL K H a (ns.map V.int) ∧ Q (.int ((minL ns).getD d)) H
theorem cr_minDf (hc : X.calm = true) : CallRK X (.builtin "min") [Str.ofString "default"] (rMinDf X.K) := by
  intro pins s σ H xs zs us ws Q I rx rz h
  obtain ⟨a, ns, d, rfl, rfl, hs, q⟩ := h
  obtain ⟨its, rv, hl, _⟩ := I.list hs
  rw [Vals.ref1 rx]
  cases rz with
  | cons r0 rt =>
  cases rt
  obtain ⟨t0, rfl⟩ := r0
  refine Mn.raw (I.ok.hd hc) hl.isList rv.ints _ fun v h' tk hk h1 h2 => ?_
  cases ns with
  | nil =>
    rw [h1 rfl]
    exact ⟨.int d, H, I.kept hk, ⟨_, rfl⟩, q⟩
  | cons n ns =>
    obtain ⟨M, t', rfl, m1, m2⟩ := h2 (by simp)
    refine ⟨.int M, H, I.kept hk, ⟨_, rfl⟩, ?_⟩
    have e1 := foldmin ns n
    have : M = (minL (n :: ns)).getD d := Int.le_antisymm (m2 _ e1.1) (e1.2 _ m1)
    rw [this]; exact q
theorem ej_minD {m1 : Option (List Int)} {m2 : Option Int} {kp2 : Pos} {ed : Expr} {td : TE} (hc : X.calm = true) (ha : LK X a ta G m1) (hd : EJ X ed td G m2) (hm : X.mg "min" = none) (hg : Gl X "min" := by rfl) (hst : starEach [a] X.env = (false, eval a X.env) :: starEach [] X.env := by rfl)
    (he : backTo pos (starEach [a] X.env) = (false, eval a X.env) :: backTo pos (starEach [] X.env) := by rfl) (hpl : (backTo pos (starEach [a] X.env)).any (·.1) = false := by rfl)
    (hall : (backToKw pos (keywordEach [⟨some (Str.ofString "default"), ed, kp2⟩] X.env)).all (·.1.isSome) = true := by rfl) (hnone : (backToKw pos (keywordEach [⟨some (Str.ofString "default"), ed, kp2⟩] X.env)).any (·.1.isNone) = false := by rfl)
    (hks : (backToKw pos (keywordEach [⟨some (Str.ofString "default"), ed, kp2⟩] X.env)).filterMap (·.1) = [Str.ofString "default"] := by rfl) :
    EJ X (.Call (.Name "min" p) [a] [⟨some (Str.ofString "default"), ed, kp2⟩] pos) (tCKw (rMinDf X.K) (tCons ta tNil) (tCons td tNil)) G (m1.bind fun x => m2.bind fun d => some ((minL x).getD d)) :=
  ⟨pe_callBK (cr_minDf hc) hg hm (by decide +kernel) (pa_cons ha.pe pa_nil hst) (pk_cons hd.pe pk_nil) (by decide) (by decide) he hpl hall hnone hks, fun B Hi T tv s H Q z hx hl hs k => by
    obtain ⟨x, e1, hx⟩ := bind_some hx
    obtain ⟨d, e2, e3⟩ := bind_some hx
    cases e3
    refine ha.ev B Hi T tv s H _ x e1 hl hs fun vx T' tv' Hi1 H1 l1 s1 r1 => ?_
    refine hd.ev B Hi1 T' tv' s H1 _ d e2 l1 s1 fun vd Hi2 H2 s2 r2 => ?_
    cases r2
    obtain ⟨s3, q, vs, h1, h2, h3, h4⟩ := r1 Hi2 H2 s2
    rw [paired_ints h4] at h2
    exact ⟨q, x, d, by rw [h1], rfl, h2, k _ Hi2 H2 s3 rfl⟩⟩
end
end GM
namespace GM
open PySem PySem.Spec PyProof.Rows L2 LiI
section
variable {X : Cx} {e a b c : Expr} {t ta tb te : TE} {G : List SV} {α β O : Type} {p apos cpos pos : Pos}
theorem paired_items [Rq α] {H Hn : Hp} (hn : Same H Hn) : ∀ {d : List (Int × α)} {kvs : List (L2.Key × V)} {ts : List Addr}, Paired (prD H) d kvs → Paired (fun (t : Addr) (q : L2.Key × V) => Hn t = some (.tup [kV q.1, q.2])) ts kvs → Paired (rq Hn) d (ts.map V.ref)
  | _, _, _, .nil, h => by cases h; exact .nil
  | x :: d, y :: kvs, ts, .cons r tt, h => by
    cases h with
    | cons h h' => exact .cons ⟨_, _, _, rfl, h, by rw [r.1]; rfl, Rq.mono hn r.2⟩ (paired_items hn tt h')
/-- list(d.items()) -/
theorem oj_listItems [Rq α] {m : Option (Dc α)} (hc : X.calm = true) (he : DJ X e te G m) (hm : X.mg "list" = none) (hg : Gl X "list" := by rfl) (hv : bootBuiltins "list" = some (.type "list") := by decide +kernel) (hbase : attributeBase e "items" X.env (eval e X.env) = eval e X.env := by rfl) (hline : (apos.endLine == cpos.line) = true := by rfl)
    (hs : starEach [.Call (.Attribute e "items" apos) [] [] cpos] X.env = (false, eval (.Call (.Attribute e "items" apos) [] [] cpos) X.env) :: starEach [] X.env := by rfl) :
    OJ X (.Call (.Name "list" p) [.Call (.Attribute e "items" apos) [] [] cpos] [] pos) (tListItems te) G (m.bind fun d => some d.l) := ⟨pe_listItems hc he.pe hg hm hv hbase hline hs, fun B Hi T tv s H Q z hx hl hs k => by
    obtain ⟨d, e1, e2⟩ := bind_some hx
    cases e2
    refine he.ev B Hi T tv s H _ d e1 hl hs fun v T' tv' Hi1 H1 l1 s1 r1 => ?_
    obtain ⟨s2, a, kvs, h1, h2, h3, h4⟩ := r1 Hi1 H1 s1
    refine ⟨a, kvs, h1, h2, fun H' q ts k1 k2 k3 k4 k5 k6 => ?_⟩
    have sm : Same H1 (del H' q) := fun c o e => by rw [del_ne (ne_of_none e k2)]; exact k1 _ _ e
    have s5 := s2.grow sm
    have tj : ∀ t ∈ ts, join Hi1 H1 (del H' q) t = H' t := fun t ht => by rw [join_none (k3 t ht), del_ne (fun z => k4 (by rw [← z]; exact ht))]
    refine k q _ H' ⟨q, one q (.lst (ts.map V.ref)), rfl, same_one k5, ⟨_, rfl, _, rfl, ?_, ?_⟩, by rw [minus_one]; exact s5⟩
    · rw [List.length_map, Paired.length k6]; exact h3
    · refine paired_items (ts := ts) (same_join s2.sub) h4 ?_
      have go : ∀ {ts' : List Addr} {ps : List (L2.Key × V)}, (∀ t ∈ ts', t ∈ ts) → Paired (fun (t : Addr) (q : L2.Key × V) => H' t = some (.tup [kV q.1, q.2])) ts' ps → Paired (fun (t : Addr) (q_1 : L2.Key × V) => join Hi1 H1 (del H' q) t = some (.tup [kV q_1.1, q_1.2])) ts' ps := by
        intro ts'
        induction ts' with
        | nil => intro ps _ h; cases h; exact .nil
        | cons t ts' ih =>
          intro ps hm h
          cases h with
          | cons h h' => exact .cons (by rw [tj t (hm t List.mem_cons_self)]; exact h) (ih (fun u hu => hm u (List.mem_cons_of_mem _ hu)) h')
      exact go (fun t ht => ht) k6⟩
/-- {k: v} with a written int k -/
theorem bj_newD1 [Rq α] {m1 : Option α} {m2 : Dc α → Option O} {k : Int} {j} {kp p2 p3 : Pos} {n : Str} {rest : List Stmt} {u : TS} {P : Post O} (hN : X.N.Nodup) (i : Nat) (h : EJ X e te G m1) (hr : ∀ d : Dc α, BJ X rest u (G.set i (odc d)) (m2 d) P)
    (hi : X.N[i]? = some n := by rfl) (hx : Loc X.env.scope n := by first | exact Or.inl rfl | exact Or.inr rfl) (hs : swapsWith (.Dict [some (.Constant (.int k) j kp)] [e] p3) (some (.Name n p2)) pos.line X.env = pure false := by rfl) (hf : X.fn n = true ∨ X.env.scope.names.lookup n = some .local := by first | exact .inl rfl | exact .inr rfl | assumption) :
    BJ X (.Assign [.Name n p2] (.Dict [some (.Constant (.int k) j kp)] [e] p3) pos :: rest) (tSeq (tAsg (tDisp [(tC (.int k), te)]) (gName i)) u) G (m1.bind fun x => m2 ⟨[(k, x)]⟩) P :=
  ⟨pss_cons (ps_set hN hi hx (pe_disp (pps_cons pe_int h.pe pps_nil) rfl rfl (by simp) (by simp)) hs hf) (hr ⟨[]⟩).ps, fun B Hi T tv s H D o hxx hl hsat kk => by
  obtain ⟨x, e1, e2⟩ := bind_some hxx
  refine fun q hq => ?_
  have s1 := hsat.newO (φ := isDc (⟨[]⟩ : Dc α)) (m := isDc_mono _) hq ⟨[], rfl, Nat.zero_le _, .nil⟩
  show te s (upd H q (.dK [])) _
  refine h.ev B Hi (odc (⟨[]⟩ : Dc α) :: T) (some (.ref q) :: tv) s _ _ x e1 (by simp [hl]) s1 fun v Hi2 H2 s2 r2 => ?_
  have s2c : SatG B Hi2 ([] ++ (odc (⟨[]⟩ : Dc α) :: (T ++ G))) ([] ++ (some (.ref q) :: (tv ++ s))) H2 := s2
  obtain ⟨q', w, g1, g2, ⟨kvs, g3, g4, g5⟩, g6, up⟩ := s2c.ownT (T := []) (tv := []) rfl (i := 0) rfl
  cases g1
  subst g3
  cases g5
  refine ⟨g2, [(.inl k, v)], rfl, by simp, ?_⟩
  have s3 := up (.dK (mergeK [] [(.inl k, v)])) (isDc (⟨[(k, x)]⟩ : Dc α)) (isDc_mono _) ⟨_, rfl, by show 1 ≤ sizeLine; decide, .cons ⟨rfl, r2⟩ .nil⟩
  have s4 : SatG B Hi2 (odc (⟨[(k, x)]⟩ : Dc α) :: (T ++ G)) (some (.ref q) :: (tv ++ s)) (upd H2 q (.dK (mergeK [] [(.inl k, v)]))) := s3
  exact (hr _).ev B Hi2 T tv _ _ D o e2 hl (s4.putT hl) kk⟩
end
end GM
namespace ZL
open PySem PySem.Spec PyProof.Rows PySem.Calls PySem.W L2
section
variable {prog : Program} {w : World} {A : Around} {E : Value → Shared → Prop} {s : Shared}
theorem max_dictInts {d : Addr} {vs : List (L2.Key × Value)} {ns : List Int} {Q : Value → Shared → Prop} (hh : A.handled = none) (hs0 : (d == sysModules) = false) (hd : s.heap.DictOf (mixKind prog w) d vs) (hk : vs.map (·.1) = ns.map Sum.inl) (hne : ns ≠ [])
    (h : ∀ (M : Int) (t : Tok) h' tk, M ∈ ns → (∀ a ∈ ns, a ≤ M) → (∀ b o, s.heap.get? b = some o → h'.get? b = some o) → Q (.int M t) { s with heap := h', toks := tk }) :
    wpAny (model prog w) A (call (.builtin "max") [.ref d]) Q E s := by
  obtain ⟨ep, hat⟩ := hd.dictAt
  obtain ⟨o, es, ho, hc, hdat, _, hp, _⟩ := id hat
  have hlen : es.size = vs.length := by
    have := hp.length
    rw [Array.length_toList] at this
    exact this
  have hl : vs.length = ns.length := by
    have := congrArg List.length hk
    rw [List.length_map, List.length_map] at this
    exact this
  have hpos : 0 < ns.length := List.length_pos_iff.mpr hne
  have dlt : d < s.heap.objs.size := Heap.lt_size ho
  have val : ∀ (i : Nat) (v : Value), (∃ (k : L2.Key) (x : Value), vs[i]? = some (k, x) ∧ (mixKind prog w).is k v = true) → i < ns.length ∧ ∃ t, v = .int (ns.getD i 0) t := fun i v ⟨k, x, e, hi⟩ => by
    have hi' : i < vs.length := (List.getElem?_eq_some_iff.mp e).1
    have e1 : (vs.map (·.1))[i]? = some k := by rw [List.getElem?_map, e]; rfl
    rw [hk, List.getElem?_map, List.getElem?_eq_getElem (show i < ns.length by omega)] at e1
    cases e1
    have hi2 : keyIs (Sum.inl ns[i]) v = true := hi
    rcases keyIs_shape hi2 with ⟨j, t, e2, rfl⟩ | ⟨x, t, e2, _⟩
    · cases e2
      refine ⟨by omega, t, ?_⟩
      rw [List.getD_eq_getElem?_getD, List.getElem?_eq_getElem (show i < ns.length by omega)]; rfl
    · cases e2
  refine call_max_walk (iter_keys hs0 ho hc hdat ?_)
  rw [hlen]
  refine ⟨_, _, _, _, _, _, _, rfl, Walks.dictKeys (knd := mixKind prog w) (A := A.in1) hh s.heap.objs.size d (Nat.ne_of_lt dlt) vs ep, ⟨⟨_, Heap.get?_push_size _ rfl, rfl, rfl⟩, hat.at' fun o e => Heap.get?_push_of_some _ e⟩, fun b hb => ?_, by omega, CmpOf.ints_gt (fun i => ns.getD i 0) (fun i v hv => (val i v hv).2), fun v h' tk hP hk' => ?_⟩
  · rw [Heap.size_push]
    simp only [List.mem_cons, List.not_mem_nil, or_false] at hb
    rcases hb with rfl | rfl
    · exact Nat.lt_succ_self _
    · exact Nat.lt_succ_of_lt dlt
  · obtain ⟨hi, t, rfl⟩ := val _ _ hP
    obtain ⟨h1, h2⟩ := argBest_gt (fun i => ns.getD i 0) (vs.length - 1)
    refine h _ t h' tk ?_ (fun a ha => ?_) fun b o e => hk' b o (fun z => ?_) (Heap.get?_push_of_some _ e)
    · rw [List.getD_eq_getElem?_getD, List.getElem?_eq_getElem hi]
      exact List.getElem_mem _
    · obtain ⟨j, hj, rfl⟩ := List.getElem_of_mem ha
      have := h2 j (by omega)
      rw [List.getD_eq_getElem?_getD, List.getElem?_eq_getElem hj] at this
      exact this
    · rw [List.mem_singleton.mp z] at e
      exact absurd (Heap.lt_size e) (Nat.lt_irrefl _)
end
end ZL
namespace GM
open PySem PySem.Spec PyProof.Rows L2 ZL
def tMaxD (te : TE) : TE := fun σ H Q => te σ H fun x H1 => ∃ (d : Addr) (kvs : List (L2.Key × V)) (ns : List Int) (M : Int), x = .ref d ∧ H1 d = some (.dK kvs) ∧ kvs.map (·.1) = ns.map Sum.inl ∧ maxL ns = some M ∧ Q (.int M) H1
section
variable {X : Cx} {e : Expr} {te : TE} {G : List SV} {α : Type} {p pos : Pos}
theorem pe_maxDict (hc : X.calm = true) (he : PE X e te) (hg : Gl X "max") (hm : X.mg "max" = none) (hst : starEach [e] X.env = (false, eval e X.env) :: starEach [] X.env) : PE X (.Call (.Name "max" p) [e] [] pos) (tMaxD te) := by
  refine ⟨fun pins s σ H Q I h => ?_⟩
  refine Call_ (ld_blt I hg hm (show bootBuiltins "max" = some (.builtin "max") by decide +kernel) (PyProof.Rows.callWith_builtin1 (PyProof.Rows.args_cons (thn (he.run pins s σ H _ I h) fun u s1 ⟨x, H1, I1, r1, q1⟩ => PyProof.Rows.args_nil ?_) hst) hst rfl))
  obtain ⟨d, kvs, ns, M, ex, hd, hk, hM, q⟩ := q1
  subst ex
  obtain rfl : u = Value.ref d := r1
  obtain ⟨_, hs0, vs, kv, hdo⟩ := dk_of I1.hok hd
  have hne : ns ≠ [] := fun z => by subst z; cases hM
  have hk2 : vs.map (·.1) = ns.map Sum.inl := by
    rw [← hk]
    have : ∀ {kvs : List (L2.Key × V)} {vs : List (L2.Key × Value)}, KV kvs vs → vs.map (·.1) = kvs.map (·.1) := fun {kvs vs} h => by
      unfold KV at h
      induction h with
      | nil => rfl
      | cons h t ih => rw [List.map_cons, List.map_cons, ih, h.1]
    exact this kv
  refine max_dictInts (I1.ok.hd hc) hs0 hdo hk2 hne fun M' t h' tk m1 m2 hkp => ?_
  have eM : M' = M := by
    obtain ⟨y, ys, rfl⟩ := List.exists_cons_of_ne_nil hne
    have e1 := foldmax ys y
    have : some (ys.foldl (fun a b => if b > a then b else a) y) = some M := hM
    have e2 := Option.some.inj this
    rw [← e2]
    exact Int.le_antisymm (e1.2 _ m1) (m2 _ e1.1)
  subst eM
  exact ⟨.int M', H1, I1.kept (t' := tk) hkp, ⟨t, rfl⟩, q⟩
theorem ej_maxD1 [Rq α] {m : Option (Dc α)} (hc : X.calm = true) (he : DJ X e te G m) (hm : X.mg "max" = none) (hg : Gl X "max" := by rfl) (hst : starEach [e] X.env = (false, eval e X.env) :: starEach [] X.env := by rfl) : EJ X (.Call (.Name "max" p) [e] [] pos) (tMaxD te) G (m.bind fun d => maxL (dkeys d)) :=
  ⟨pe_maxDict hc he.pe hg hm hst, fun B Hi T tv s H Q z hx hl hs k => by
    obtain ⟨d, e1, e2⟩ := bind_some hx
    refine he.ev B Hi T tv s H _ d e1 hl hs fun v T' tv' Hi1 H1 l1 s1 r1 => ?_
    obtain ⟨s2, a, kvs, h1, h2, h3, h4⟩ := r1 Hi1 H1 s1
    have hk : kvs.map (·.1) = (dkeys d).map Sum.inl := by
      unfold dkeys
      have : ∀ {l : List (Int × α)} {kvs : List (L2.Key × V)}, Paired (prD Hi1) l kvs → kvs.map (·.1) = (l.map (·.1)).map Sum.inl := fun {l kvs} h => by
        induction h with
        | nil => rfl
        | cons h t ih => rw [List.map_cons, List.map_cons, List.map_cons, ih, h.1]
      exact this h4
    exact ⟨a, kvs, dkeys d, z, h1, h2, hk, e2, k (.int z) Hi1 H1 s2 rfl⟩⟩
end
end GM
namespace GM
open PySem PySem.Spec PyProof.Rows L2
/-! ### calls that leave the last parameters to their defaults -/
structure CalBD (P : Program) (w : World) (K : PySem.W.Frag) (mg : Str → Option Value) (base : Heap) (k : Nat) (x : Str) (sp : Sp) (dvs : List V) : Prop where
  ok : ∃ (f : Addr) (fd : FuncData) (ps : List Str) (ds : List Value), FnOk P w K mg base CX0 k f fd ps sp ∧ mg x = some (.ref f) ∧ PySem.W.keepIn K (.ref f) = true ∧ Binds K fd ps ds ∧ Vals dvs ds
structure CalD (X : Cx) (x : Str) (sp : Sp) (dvs : List V) : Prop where
  ok : ∃ (k : Nat) (f : Addr) (fd : FuncData) (ps : List Str) (ds : List Value), FnOk X.prog X.w X.K X.mg X.base CX0 k f fd ps sp ∧ Room k X.A ∧ X.mg x = some (.ref f) ∧ PySem.W.keepIn X.K (.ref f) = true ∧ Binds X.K fd ps ds ∧ Vals dvs ds
theorem CalBD.at {X : Cx} {k : Nat} {x : Str} {sp : Sp} {dvs : List V} (C : CalBD X.prog X.w X.K X.mg X.base k x sp dvs) (hr : Room k X.A) : CalD X x sp dvs := by
  obtain ⟨f, fd, ps, ds, h1, h2, h3, h4, h5⟩ := C.ok
  exact ⟨k, f, fd, ps, ds, h1, hr, h2, h3, h4, h5⟩
theorem CalBD.mono {P : Program} {w : World} {K : PySem.W.Frag} {mg : Str → Option Value} {base : Heap} {j k : Nat} {x : Str} {sp : Sp} {dvs : List V} (C : CalBD P w K mg base j x sp dvs) (h : j ≤ k) : CalBD P w K mg base k x sp dvs := by
  obtain ⟨f, fd, ps, ds, h1, h2, h3, h4, h5⟩ := C.ok
  exact ⟨f, fd, ps, ds, h1.mono h, h2, h3, h4, h5⟩
section
variable {P : Program} {w : World} {K : PySem.W.Frag} {mg : Str → Option Value} {base : Heap} {x qual : Str} {st : Stmt} {f : Addr} {fd : FuncData} {N ps : List Str} {k : Nat} {τ ρ : Type}
theorem funD_ok {sp : Sp} {dvs : List V} (F : FunD K x qual (defArgs st) (defBody st) (defScope st) dvs [] f fd) (S : FnScope N ps (defScope st)) (len : ∀ vs H Q E, sp vs H Q E → vs.length = ps.length)
    (hbody : ∀ (cdv : Value) (A : Around) (outer : List Env) (s : Shared) (H : Hp) (vs : List V) (Q : VK) (E : XK), Room k (A.deeper (envOfC qual (defScope st) s.heap.objs.size f cdv)) → sp vs H Q E →
      ∃ t, PSs (cxOf CX0 P w K mg base N qual (defScope st) f cdv A outer s H E).nox (defBody st) t ∧ t { nx := fun _ H' => Q .non H', rt := Q } (start N vs) H) : FnOk P w K mg base CX0 (k + 1) f fd ps sp := by
  obtain ⟨oc, od, dV, kV, doc, pm, an, cdv, ct, osl, rfl, lk, hcd, _, _⟩ := F.ex
  refine fn_of lk hcd S len fun A outer s H vs Q E hr hsp => ?_
  obtain ⟨t, h, q⟩ := hbody cdv A outer s H vs Q E hr hsp
  exact ⟨t, h.nox, q⟩
theorem fun_RD [RpL τ] [Rq ρ] {F : τ → Option ρ} {dvs dvs0 : List V} (Fn : FunD K x qual (defArgs st) (defBody st) (defScope st) dvs0 [] f fd) (S : FnScope N ps (defScope st)) (hn : RpL.n τ = ps.length)
    (body : ∀ (cdv : Value) (A : Around) (outer : List Env) (s : Shared) (H : Hp) (E : XK), Room k (A.deeper (envOfC qual (defScope st) s.heap.objs.size f cdv)) →
      ∀ z : τ, ∃ t m, BJ (cxOf CX0 P w K mg base N qual (defScope st) f cdv A outer s H E).nox (defBody st) t (gam N z) m PR ∧ m = F z)
    (hm : mg x = some (.ref f)) (hb : ∃ ds, Vals dvs ds ∧ Binds K fd ps ds) : CalBD P w K mg base (k + 1) x (SpR F) dvs := by
  obtain ⟨ds, hv, hb⟩ := hb
  refine ⟨f, fd, ps, ds, funD_ok Fn S (fun vs H Q E h => ?_) (fun cdv A outer s H vs Q E hr h => ?_), hm, Fn.kp, hb, hv⟩
  · obtain ⟨Ha, z, r, h1, h2, _⟩ := h
    rw [RpL.len h2, hn]
  · obtain ⟨Ha, z, r, h1, h2, h3, h4⟩ := h
    obtain ⟨t, m, b, e⟩ := body cdv A outer s H E hr z
    subst e
    refine ⟨t, b.ps, b.ev ⟨H, Ha⟩ Ha [] [] (start N vs) H _ r h3 rfl (sat_start h1 h2) fun v Hi H' q1 q2 => ?_⟩
    obtain ⟨g1, g2, g3, g4⟩ := q1
    refine h4 v H' g2 (Rq.mono (fun a o e => ?_) q2)
    cases q : H a with
    | none => rw [join_none q]; exact g1 _ _ e
    | some u => rw [join_some q]; exact (g4 _ _ q).symm.trans e
theorem fun_RE [RpL τ] [Rq ρ] {F : τ → Option ρ} {dvs0 : List V} (Fn : FunD K x qual (defArgs st) (defBody st) (defScope st) dvs0 [] f fd) (S : FnScope N ps (defScope st)) (hn : RpL.n τ = ps.length)
    (body : ∀ (cdv : Value) (A : Around) (outer : List Env) (s : Shared) (H : Hp) (E : XK), Room k (A.deeper (envOfC qual (defScope st) s.heap.objs.size f cdv)) →
      ∀ z : τ, ∃ t m, BJ (cxOf CX0 P w K mg base N qual (defScope st) f cdv A outer s H E).nox (defBody st) t (gam N z) m PR ∧ m = F z)
    (hm : mg x = some (.ref f)) (hb : Binds K fd ps []) : CalB P w K mg base (k + 1) x (SpR F) := by
  refine ⟨f, fd, ps, funD_ok Fn S (fun vs H Q E h => ?_) (fun cdv A outer s H vs Q E hr h => ?_), hm, Fn.kp, hb⟩
  · obtain ⟨Ha, z, r, h1, h2, _⟩ := h
    rw [RpL.len h2, hn]
  · obtain ⟨Ha, z, r, h1, h2, h3, h4⟩ := h
    obtain ⟨t, m, b, e⟩ := body cdv A outer s H E hr z
    subst e
    refine ⟨t, b.ps, b.ev ⟨H, Ha⟩ Ha [] [] (start N vs) H _ r h3 rfl (sat_start h1 h2) fun v Hi H' q1 q2 => ?_⟩
    obtain ⟨g1, g2, g3, g4⟩ := q1
    refine h4 v H' g2 (Rq.mono (fun a o e => ?_) q2)
    cases q : H a with
    | none => rw [join_none q]; exact g1 _ _ e
    | some u => rw [join_some q]; exact (g4 _ _ q).symm.trans e
/-- what K holds of a def with one int default -/
theorem funD_of {T : Addr} {oT : Obj} {i : Int} {t : Tok} {n : Nat} {oc : Value} {od : Option Addr} {kV doc pm : Value} {an : Option Addr} {cdv ct : Value} {osl : Array (Option Value)} {params : Arguments} {bd : List Stmt} {scope : Scope}
    (l : K.lookup f = some ⟨oc, od, .func (PySem.W.fnOf x qual params bd scope (.ref T) kV doc pm an cdv ct), osl⟩) (c : PySem.W.codeIn K cdv qual = true) (kp : PySem.W.keepIn K (.ref f) = true) (lT : K.lookup T = some oT) (hT : oT.data = .seq [Value.int i t].toArray n) :
    FunD K x qual params bd scope [.int i] [] f (PySem.W.fnOf x qual params bd scope (.ref T) kV doc pm an cdv ct) :=
  ⟨⟨oc, od, .ref T, kV, doc, pm, an, cdv, ct, osl, rfl, l, c, .inr ⟨by simp, T, oT, [.int i t], n, rfl, lT, hT, .cons ⟨t, rfl⟩ .nil⟩, .inl rfl⟩, kp⟩
theorem binds_all {dvs : List V} {ds0 : Prop} (h : ∃ ds, Vals [] ds ∧ Binds K fd ps ds) : Binds K fd ps [] := by
  obtain ⟨ds, hv, hb⟩ := h
  cases hv
  exact hb
end
section
variable {X : Cx} {e : Expr} {es : List Expr} {tr : TA} {G : List SV} {α β τ τ' ρ : Type} {pos p : Pos} {n : Str}
theorem ej_callD [RpL τ] [RpL τ'] [Rq ρ] {F : τ → Option ρ} {m : Option τ'} {g : τ' → τ} {dvs : List V} (C : CalD X n (SpR F) dvs) (hgg : ∀ {H : Hp} {y : τ'} {vs : List V}, RpL.reps H y vs → RpL.reps H (g y) (vs ++ dvs)) (ha : AJ X (e :: es) tr G m) (hg : Gl X n := by rfl) (hdb : (n == ("__debug__" : Str)) = false := by decide) (he : starEach (e :: es) X.env = (false, eval e X.env) :: starEach es X.env := by rfl)
    (hpl : (backTo pos (starEach es X.env)).any (·.1) = false := by rfl) : EJ X (.Call (.Name n p) (e :: es) [] pos) (tCall (SpR F) dvs E0 tr) G (m.bind fun y => F (g y)) := ⟨by
  obtain ⟨k, f, fd, ps, ds, Fk, hr, hm, hk, hb, hv⟩ := C.ok
  exact pe_call Fk hr hg hm hk hb hv pass0 ha.pa hdb he hpl, fun B Hi T tv s H Q z hx hl hs k => by
  obtain ⟨x, e1, e2⟩ := bind_some hx
  refine ha.ev B Hi T tv s H _ x e1 hl hs fun vs Hi1 H1 s1 r1 => ?_
  refine ⟨Hi1, g x, z, s1.sub, hgg r1, e2, fun v H' sm r => ?_⟩
  exact k v _ H' (s1.grow sm) r⟩
theorem dflt2 [Rq α] [Rq β] (k : Int) {H : Hp} {y : α × β × Unit} {vs : List V} (h : RpL.reps H y vs) : RpL.reps H ((y.1, y.2.1, k, ()) : α × β × Int × Unit) (vs ++ [V.int k]) := by
  obtain ⟨v, us, rfl, h1, v2, us2, rfl, h2, h3⟩ := h
  cases h3
  exact ⟨v, _, rfl, h1, v2, _, rfl, h2, _, _, rfl, rfl, rfl⟩
end
end GM
namespace GM
open PySem PySem.Spec PyProof.Rows L2
/-! ### texts -/
def splitC (a b : Str) : Option (List Str) := if (b.length == 0) = false ∧ a.length + 2 ≤ sizeLine ∧ (Txt.split a b).length ≤ sizeLine then some (Txt.split a b) else none
def partC (a b : Str) : Option (T3 Str Str Str) := if (b.length == 0) = false ∧ a.length ≤ sizeLine then some ⟨(Txt.partition a b).1, (Txt.partition a b).2.1, (Txt.partition a b).2.2⟩ else none
def joinC (a : Str) (ys : List Str) : Option Str := if (ys.map (·.length)).sum + ys.length * a.length ≤ 16777216 then some (Txt.join a ys) else none
def strI (i : Int) : Option Str := if i.natAbs.log2 < 1920 then some (toString i) else none
def intS (a : Str) : Option Int := if a.length ≤ 640 then PySem.intText? a else none
theorem strs_paired (H : Hp) : ∀ xs : List Str, Paired (rq H) xs (xs.map V.str)
  | [] => .nil
  | x :: xs => .cons rfl (strs_paired H xs)
theorem paired_strs {H : Hp} {xs : List Str} {vs : List V} (h : Paired (rq H) xs vs) : vs = xs.map V.str := by
  induction h with
  | nil => rfl
  | cons r t ih => rw [List.map_cons, ← ih]; congr 1
section
variable {X : Cx} {o e a b : Expr} {t te to ta tb : TE} {G : List SV} {apos pos p : Pos}
theorem oj_split {m1 m2 : Option Str} (ho : EJ X o to G m1) (he : EJ X e te G m2) (hs : starEach [e] X.env = [(false, eval e X.env)] := by rfl) (hbase : attributeBase o "split" X.env (eval o X.env) = eval o X.env := by rfl) (hline : (apos.endLine == pos.line) = true := by rfl) :
    OJ X (.Call (.Attribute o "split" apos) [e] [] pos) (tM1 (fun x xs H Q => ∃ a b, x = .str a ∧ xs = [.str b] ∧ (b.length == 0) = false ∧ a.length + 2 ≤ sizeLine ∧ rNewStrs (Txt.split a b) H Q) to te) G (m1.bind fun x => m2.bind fun y => splitC x y) :=
  ⟨pe_split ho.pe he.pe hs hbase hline, fun B Hi T tv s H Q z hx hl hsat k => by
    obtain ⟨x, e1, hx⟩ := bind_some hx
    obtain ⟨y, e2, e3⟩ := bind_some hx
    unfold splitC at e3
    split at e3
    · rename_i c
      cases e3
      refine ho.ev B Hi T tv s H _ x e1 hl hsat fun vx Hi1 H1 s1 r1 => ?_
      cases r1
      refine ⟨⟨x, rfl⟩, ?_⟩
      refine he.ev B Hi1 T tv s H1 _ y e2 hl s1 fun vy Hi2 H2 s2 r2 => ?_
      cases r2
      refine ⟨x, y, rfl, rfl, c.1, c.2.1, ?_⟩
      exact fun q hq => k q Hi2 _ (s2.newO (φ := isL (Txt.split x y)) hq ⟨_, rfl, by rw [List.length_map]; exact c.2.2, strs_paired Hi2 _⟩)
    · cases e3⟩
theorem ej_part {m1 m2 : Option Str} (ho : EJ X o to G m1) (he : EJ X e te G m2) (hs : starEach [e] X.env = [(false, eval e X.env)] := by rfl) (hbase : attributeBase o "partition" X.env (eval o X.env) = eval o X.env := by rfl) (hline : (apos.endLine == pos.line) = true := by rfl) :
    EJ X (.Call (.Attribute o "partition" apos) [e] [] pos) (tM1 (fun x xs H Q => ∃ a b, x = .str a ∧ xs = [.str b] ∧ (b.length == 0) = false ∧ a.length ≤ sizeLine ∧
      ∀ p, H p = none → Q (.ref p) (upd H p (.tup [.str (Txt.partition a b).1, .str (Txt.partition a b).2.1, .str (Txt.partition a b).2.2]))) to te) G (m1.bind fun x => m2.bind fun y => partC x y) :=
  ⟨pe_partition ho.pe he.pe hs hbase hline, fun B Hi T tv s H Q z hx hl hsat k => by
    obtain ⟨x, e1, hx⟩ := bind_some hx
    obtain ⟨y, e2, e3⟩ := bind_some hx
    unfold partC at e3
    split at e3
    · rename_i c
      cases e3
      refine ho.ev B Hi T tv s H _ x e1 hl hsat fun vx Hi1 H1 s1 r1 => ?_
      cases r1
      refine ⟨⟨x, rfl⟩, ?_⟩
      refine he.ev B Hi1 T tv s H1 _ y e2 hl s1 fun vy Hi2 H2 s2 r2 => ?_
      cases r2
      refine ⟨x, y, rfl, rfl, c.1, c.2, fun q hq => ?_⟩
      obtain ⟨s3, sm⟩ := sat_tup (vs := [.str (Txt.partition x y).1, .str (Txt.partition x y).2.1, .str (Txt.partition x y).2.2]) s2 hq
      exact k _ _ _ s3 ⟨q, _, _, _, rfl, upd_same, rfl, rfl, rfl⟩
    · cases e3⟩
theorem ej_join {m1 : Option Str} {m2 : Option (List Str)} (ho : EJ X o to G m1) (he : LK X e te G m2) (hs : starEach [e] X.env = [(false, eval e X.env)] := by rfl) (hbase : attributeBase o "join" X.env (eval o X.env) = eval o X.env := by rfl) (hline : (apos.endLine == pos.line) = true := by rfl) :
    EJ X (.Call (.Attribute o "join" apos) [e] [] pos) (tM1 (fun x xs H Q => ∃ a p, ∃ ys : List Str, x = .str a ∧ xs = [.ref p] ∧ (SqL X.K H p (ys.map V.str) ∨ SqT X.K H p (ys.map V.str)) ∧
      (ys.map (·.length)).sum + ys.length * a.length ≤ 16777216 ∧ Q (.str (Txt.join a ys)) H) to te) G (m1.bind fun x => m2.bind fun y => joinC x y) :=
  ⟨pe_join ho.pe he.pe hs hbase hline, fun B Hi T tv s H Q z hx hl hsat k => by
    obtain ⟨x, e1, hx⟩ := bind_some hx
    obtain ⟨y, e2, e3⟩ := bind_some hx
    unfold joinC at e3
    split at e3
    · rename_i c
      cases e3
      refine ho.ev B Hi T tv s H _ x e1 hl hsat fun vx Hi1 H1 s1 r1 => ?_
      cases r1
      refine ⟨⟨x, rfl⟩, ?_⟩
      refine he.ev B Hi1 T tv s H1 _ y e2 hl s1 fun vy T' tv' Hi2 H2 l2 s2 r2 => ?_
      obtain ⟨s3, q, vs, g1, g2, g3, g4⟩ := r2 Hi2 H2 s2
      subst g1
      rw [paired_strs g4] at g2
      exact ⟨x, q, y, rfl, rfl, .inl g2, c, k _ Hi2 H2 s3 rfl⟩
    · cases e3⟩
/-- texts one behind the other -/
def catS (a b : Str) : Option Str := if a.length + b.length ≤ sizeLine then some (a ++ b) else none
theorem ej_catS {m1 m2 : Option Str} (ha : EJ X a ta G m1) (hb : EJ X b tb G m2) : EJ X (.BinOp a .Add b pos) (tOp (fun x y H Q => ∃ i j, x = .str i ∧ y = .str j ∧ i.length + j.length ≤ sizeLine ∧ Q (.str (i ++ j)) H) ta tb) G (m1.bind fun x => m2.bind fun y => catS x y) := ⟨pe_op op_add_str ha.pe hb.pe, fun B Hi T tv s H Q z hx hl hs k => by
  obtain ⟨x, e1, hx⟩ := bind_some hx
  obtain ⟨y, e2, e3⟩ := bind_some hx
  unfold catS at e3
  split at e3
  · rename_i c
    cases e3
    refine ha.ev B Hi T tv s H _ x e1 hl hs fun v Hi1 H1 s1 r1 => ?_
    refine hb.ev B Hi1 (fz x :: T) (some v :: tv) s H1 _ y e2 (by simp [hl]) ⟨⟨v, rfl, r1⟩, s1⟩ fun v2 Hi2 H2 s2 r2 => ?_
    obtain ⟨⟨v', e4, r1'⟩, s2⟩ := s2
    cases e4
    cases r1'
    cases r2
    exact ⟨x, y, rfl, rfl, c, k _ Hi2 H2 s2 rfl⟩
  · cases e3⟩
/-- str(int) -/
theorem ej_strI {m1 : Option Int} (ha : EJ X a ta G m1) (hm : X.mg "str" = none) (hg : Gl X "str" := by rfl) (he : starEach [a] X.env = (false, eval a X.env) :: starEach [] X.env := by rfl) :
    EJ X (.Call (.Name "str" p) [a] [] pos) (tCB (fun xs H Q => ∃ i, xs = [.int i] ∧ i.natAbs.log2 < 1920 ∧ Q (.str (toString i)) H) (tCons ta tNil)) G (m1.bind strI) :=
  ⟨pe_callTy call_str_int hg hm (by decide +kernel) (pa_cons ha.pe pa_nil he) (by decide) (by decide) he rfl, ev_b1 (f := strI) (fun Hi H x v z Q sm h e k => by
    cases h
    unfold strI at e
    split at e
    · rename_i c
      cases e
      exact ⟨x, rfl, c, k _ rfl⟩
    · cases e) ha.ev⟩
/-- int(text) -/
theorem ej_intS {m1 : Option Str} (ha : EJ X a ta G m1) (hm : X.mg "int" = none) (hg : Gl X "int" := by rfl) (he : starEach [a] X.env = (false, eval a X.env) :: starEach [] X.env := by rfl) :
    EJ X (.Call (.Name "int" p) [a] [] pos) (tCB (fun xs H Q => ∃ a n, xs = [.str a] ∧ PySem.intText? a = some n ∧ a.length ≤ 640 ∧ Q (.int n) H) (tCons ta tNil)) G (m1.bind intS) :=
  ⟨pe_callTy call_int_str hg hm (by decide +kernel) (pa_cons ha.pe pa_nil he) (by decide) (by decide) he rfl, ev_b1 (f := intS) (fun Hi H x v z Q sm h e k => by
    cases h
    unfold intS at e
    split at e
    · rename_i c
      exact ⟨x, z, rfl, e, c, k _ rfl⟩
    · cases e) ha.ev⟩
/-- len(text) -/
def lenS (a : Str) : Option Int := if a.length ≤ sizeLine then some (a.length : Int) else none
theorem ej_lenS {m1 : Option Str} (ha : EJ X a ta G m1) (hm : X.mg "len" = none) (hg : Gl X "len" := by rfl) (he : starEach [a] X.env = (false, eval a X.env) :: starEach [] X.env := by rfl) :
    EJ X (.Call (.Name "len" p) [a] [] pos) (tCB (fun xs H Q => ∃ z, xs = [.str z] ∧ z.length ≤ sizeLine ∧ Q (.int z.length) H) (tCons ta tNil)) G (m1.bind lenS) :=
  ⟨pe_callB call_len_str hg hm (by decide +kernel) (pa_cons ha.pe pa_nil he) (by decide) (by decide) he rfl, ev_b1 (f := lenS) (fun Hi H x v z Q sm h e k => by
    cases h
    unfold lenS at e
    split at e
    · rename_i c
      cases e
      exact ⟨x, rfl, c, k _ rfl⟩
    · cases e) ha.ev⟩
/-- a text within a text -/
def inS (a b : Str) : Bool := !(Builtin.Str.occurrences b a 0 b.length 1).isEmpty
def rInS (g : Bool → Bool) : R2 := fun x y H Q => ∃ i j, x = .str i ∧ y = .str j ∧ Q (.bl (g (inS i j))) H
theorem ev_inS {g : Bool → Bool} {m1 m2 : Option Str} (ha : EvJ ta G m1) (hb : EvJ tb G m2) : EvJ (tOp (rInS g) ta tb) G (m1.bind fun x => m2.bind fun y => some (g (inS x y))) := fun B Hi T tv s H Q z hx hl hs k => by
  obtain ⟨x, e1, hx⟩ := bind_some hx
  obtain ⟨y, e2, e3⟩ := bind_some hx
  cases e3
  refine ha B Hi T tv s H _ x e1 hl hs fun v Hi1 H1 s1 r1 => ?_
  refine hb B Hi1 (fz x :: T) (some v :: tv) s H1 _ y e2 (by simp [hl]) ⟨⟨v, rfl, r1⟩, s1⟩ fun v2 Hi2 H2 s2 r2 => ?_
  obtain ⟨⟨v', e4, r1'⟩, s2⟩ := s2
  cases e4
  cases r1'
  cases r2
  exact ⟨x, y, rfl, rfl, k _ Hi2 H2 s2 rfl⟩
theorem ej_inS {m1 m2 : Option Str} (ha : EJ X a ta G m1) (hb : EJ X b tb G m2) (hm : behindInMarks .In b = false := by with_unfolding_all rfl) :
    EJ X (.Compare a [.In] [b] pos) (tOp (rInS id) ta tb) G (m1.bind fun x => m2.bind fun y => some (inS x y)) := ⟨pe_cmpR op_in_str ha.pe hb.pe hm, ev_inS (g := id) ha.ev hb.ev⟩
theorem ej_notinS {m1 m2 : Option Str} (ha : EJ X a ta G m1) (hb : EJ X b tb G m2) (hm : behindInMarks .NotIn b = false := by with_unfolding_all rfl) :
    EJ X (.Compare a [.NotIn] [b] pos) (tOp (rInS not) ta tb) G (m1.bind fun x => m2.bind fun y => some (!inS x y)) := ⟨pe_cmpR op_notin_str ha.pe hb.pe hm, ev_inS (g := not) ha.ev hb.ev⟩
theorem tj_inS {m1 m2 : Option Str} (ha : EJ X a ta G m1) (hb : EJ X b tb G m2) (hm : behindInMarks .In b = false := by with_unfolding_all rfl) :
    TJ X (.Compare a [.In] [b] pos) (tTest (tOp (rInS id) ta tb)) G (m1.bind fun x => m2.bind fun y => some (inS x y)) := ⟨pt_cmpR op_in_str ha.pe hb.pe hm, tv_test (ev_inS (g := id) ha.ev hb.ev)⟩
theorem tj_notinS {m1 m2 : Option Str} (ha : EJ X a ta G m1) (hb : EJ X b tb G m2) (hm : behindInMarks .NotIn b = false := by with_unfolding_all rfl) :
    TJ X (.Compare a [.NotIn] [b] pos) (tTest (tOp (rInS not) ta tb)) G (m1.bind fun x => m2.bind fun y => some (!inS x y)) := ⟨pt_cmpR op_notin_str ha.pe hb.pe hm, tv_test (ev_inS (g := not) ha.ev hb.ev)⟩
/-- text[i] -/
def ixS (a : Str) (i : Int) : Option Str := if a.length ≤ sizeLine then (atI a.cps.toList i).map fun c => ⟨#[c]⟩ else none
theorem ej_ixS {m1 : Option Str} {m2 : Option Int} (ha : EJ X a ta G m1) (hb : EJ X b tb G m2) (hs : PlainIx b := by exact fun _ _ => rfl) :
    EJ X (.Subscript a b pos) (tOp rIxS ta tb) G (m1.bind fun x => m2.bind fun y => ixS x y) := ⟨pe_ix ix_str ha.pe hb.pe hs, fun B Hi T tv s H Q z hx hl hs k => by
  obtain ⟨x, e1, hx⟩ := bind_some hx
  obtain ⟨y, e2, e3⟩ := bind_some hx
  unfold ixS at e3
  split at e3
  · rename_i c
    obtain ⟨ch, e5, e6⟩ := Option.map_eq_some_iff.1 e3
    subst e6
    refine ha.ev B Hi T tv s H _ x e1 hl hs fun v Hi1 H1 s1 r1 => ?_
    refine hb.ev B Hi1 (fz x :: T) (some v :: tv) s H1 _ y e2 (by simp [hl]) ⟨⟨v, rfl, r1⟩, s1⟩ fun v2 Hi2 H2 s2 r2 => ?_
    obtain ⟨⟨v', e4, r1'⟩, s2⟩ := s2
    cases e4
    cases r1'
    cases r2
    exact ⟨x, y, ch, rfl, rfl, c, e5, k _ Hi2 H2 s2 rfl⟩
  · cases e3⟩
/-- a text's signs, one by one -/
def signsC (a : Str) : Option (List Str) := if a.cps.size ≤ sizeLine then some (a.cps.toList.map fun c => ⟨#[c]⟩) else none
theorem ij_str {tg : Expr} {m : Option Str} (h : EJ X e te G m) : IJ C0 X tg e (iStr te) G (m.bind signsC) := ⟨pi_str h.pe, fun B Hi T tv s H R xs hx hl hs k => by
  obtain ⟨x, e1, e2⟩ := bind_some hx
  unfold signsC at e2
  split at e2
  · rename_i c
    cases e2
    refine h.ev B Hi T tv s H _ x e1 hl hs fun v Hi1 H1 s1 r1 => ?_
    cases r1
    refine ⟨x, rfl, k _ T tv Hi1 H1 hl s1 (by simpa using c) (fun G2 s2 Hi2 H2 z => z) fun F fv G2 s2 Hi2 H2 lf c z => ?_⟩
    refine ⟨?_, fun i y hi => ?_⟩
    · show x.cps.size ≤ _
      simp
    · rw [List.getElem?_map] at hi
      obtain ⟨ch, e5, e6⟩ := Option.map_eq_some_iff.1 hi
      subst e6
      rw [Array.getElem?_toList] at e5
      refine ⟨?_, fun v H3 hy => ?_⟩
      · show i < x.cps.size
        exact (Array.getElem?_eq_some_iff.1 e5).1
      · obtain ⟨rfl, c2, g1, rfl⟩ := hy
        rw [e5] at g1
        cases g1
        exact ⟨Hi2, z, rfl⟩
  · exact (nomatch e2), fun _ => trivial⟩
/-- the parts of f'..' -/
theorem ej_fmtI {m : Option Int} (h : EJ X e te G m) : EJ X (.FormattedValue e (-1) none pos) (tFmt te) G (m.bind strI) := ⟨pe_fmt h.pe, fun B Hi T tv s H Q z hx hl hs k => by
  obtain ⟨x, e1, e2⟩ := bind_some hx
  unfold strI at e2
  split at e2
  · rename_i c
    cases e2
    refine h.ev B Hi T tv s H _ x e1 hl hs fun v Hi1 H1 s1 r1 => ?_
    cases r1
    exact .inr ⟨x, rfl, c, k _ Hi1 H1 s1 rfl⟩
  · cases e2⟩
def fmtS (a : Str) : Option Str := if a.length ≤ sizeLine then some a else none
theorem ej_fmtS {m : Option Str} (h : EJ X e te G m) : EJ X (.FormattedValue e (-1) none pos) (tFmt te) G (m.bind fmtS) := ⟨pe_fmt h.pe, fun B Hi T tv s H Q z hx hl hs k => by
  obtain ⟨x, e1, e2⟩ := bind_some hx
  unfold fmtS at e2
  split at e2
  · rename_i c
    cases e2
    refine h.ev B Hi T tv s H _ _ e1 hl hs fun v Hi1 H1 s1 r1 => ?_
    cases r1
    exact .inl ⟨_, rfl, c, k _ Hi1 H1 s1 rfl⟩
  · cases e2⟩
def appS (a b : Str) : Option Str := if (a ++ b).length ≤ sizeLine then some (a ++ b) else none
structure FJ (X : Cx) (es : List Expr) (ts : List TE) (G : List SV) (f : Str → Option Str) : Prop where
  pj : L2.PJ X es ts
  ev : ∀ (B : Bk) (Hi : Hp) (T : List SV) (tv s : L2.St) (H : Hp) (Q : Str → Hp → Prop) (acc z : Str), f acc = some z → tv.length = T.length → SatG B Hi (T ++ G) (tv ++ s) H →
    (∀ Hi' H', SatG B Hi' (T ++ G) (tv ++ s) H' → Q z H') → tJs ts acc s H Q
theorem fj_nil : FJ X [] [] G some := ⟨.nil, fun B Hi T tv s H Q acc z hx hl hs k => by cases hx; exact k Hi H hs⟩
theorem fj_cons {es : List Expr} {ts : List TE} {f : Str → Option Str} {m : Option Str} (h : EJ X e te G m) (r : FJ X es ts G f) : FJ X (e :: es) (te :: ts) G (fun acc => m.bind fun y => (appS acc y).bind f) :=
  ⟨.cons h.pe r.pj, fun B Hi T tv s H Q acc z hx hl hs k => by
    obtain ⟨y, e1, hx⟩ := bind_some hx
    obtain ⟨w, e2, e3⟩ := bind_some hx
    unfold appS at e2
    split at e2
    · rename_i c
      cases e2
      refine h.ev B Hi T tv s H _ y e1 hl hs fun v Hi1 H1 s1 r1 => ?_
      cases r1
      exact ⟨y, rfl, c, r.ev B Hi1 T tv s H1 Q _ z e3 hl s1 k⟩
    · cases e2⟩
theorem ej_joined {v1 v2 : Expr} {rest : List Expr} {ts : List TE} {f : Str → Option Str} (h : FJ X (v1 :: v2 :: rest) ts G f) :
    EJ X (.JoinedStr (v1 :: v2 :: rest) pos) (fun σ H Q => tJs ts Str.empty σ H fun out H1 => Q (.str out) H1) G (f Str.empty) :=
  ⟨pe_joined h.pj, fun B Hi T tv s H Q z hx hl hs k => h.ev B Hi T tv s H _ Str.empty z hx hl hs fun Hi' H' s' => k _ Hi' H' s' rfl⟩
end
end GM
namespace GM
open PySem PySem.Spec PyProof.Rows L2
/-! ### what a module's name holds, tuple(list), len of a tuple of three -/
section
variable {X : Cx} {a e : Expr} {t te ta : TE} {G : List SV} {pos p : Pos} {α β γ : Type}
theorem ej_globI {i : Int} {n : Str} (hm : ∃ t, X.mg n = some (.int i t)) (hg : Gl X n := by rfl) (hd : (n == ("__debug__" : Str)) = false := by decide) : EJ X (.Name n pos) (tC (.int i)) G (some i) := by
  obtain ⟨t, hm⟩ := hm
  exact ej_c (pe_glob hg hm ⟨t, rfl⟩ hd) fun _ => rfl
theorem ej_globS {i : Str} {n : Str} (hm : ∃ t, X.mg n = some (.str i t)) (hg : Gl X n := by rfl) (hd : (n == ("__debug__" : Str)) = false := by decide) : EJ X (.Name n pos) (tC (.str i)) G (some i) := by
  obtain ⟨t, hm⟩ := hm
  exact ej_c (pe_glob hg hm ⟨t, rfl⟩ hd) fun _ => rfl
theorem ej_lenT3 [Rq α] [Rq β] [Rq γ] {m1 : Option (T3 α β γ)} (ha : EJ X a ta G m1) (hm : X.mg "len" = none) (hg : Gl X "len" := by rfl) (he : starEach [a] X.env = (false, eval a X.env) :: starEach [] X.env := by rfl) :
    EJ X (.Call (.Name "len" p) [a] [] pos) (tCB (fun xs H Q => ∃ p ys, xs = [.ref p] ∧ (SqL X.K H p ys ∨ SqT X.K H p ys) ∧ Q (.int ys.length) H) (tCons ta tNil)) G (m1.bind fun _ => some (3 : Int)) :=
  ⟨pe_callB call_len_seq hg hm PySem.boot_len (pa_cons ha.pe pa_nil he) (by decide) (by decide) he rfl, ev_s1 (P := fun Hi H x v => rq H x v) (f := fun _ : T3 α β γ => some (3 : Int)) (fun Hi H xs v z Q sm h e k => by
    obtain ⟨q, v1, v2, v3, h1, h2, h3, h4⟩ := h
    cases e
    exact ⟨q, [v1, v2, v3], by rw [h1], .inr (SqT.of h2), k _ rfl⟩) (StJ.ofE (fun _ _ _ _ e r => Rq.mono e r) ha.ev)⟩
theorem ej_tupOf [Rq α] {m : Option (List α)} (h : LJ X a ta G m) (hm : X.mg "tuple" = none) (hg : Gl X "tuple" := by rfl) (he : starEach [a] X.env = (false, eval a X.env) :: starEach [] X.env := by rfl) :
    EJ X (.Call (.Name "tuple" p) [a] [] pos) (tThen ta (kTup X.K)) G (m.bind fun x => some (Tp.mk x)) := ⟨pe_tupleOf hg hm h.pe he, fun B Hi T tv s H Q z hx hl hs k => by
  obtain ⟨x, e1, e2⟩ := bind_some hx
  cases e2
  refine h.ev B Hi T tv s H _ x e1 hl hs fun v T' tv' Hi2 H2 l2 s2 r2 => ?_
  obtain ⟨s3, q, vs, g1, g2, g3, g4⟩ := r2 Hi2 H2 s2
  refine .inl ⟨q, vs, g1, SqL.of g2, fun r hr => ?_⟩
  obtain ⟨s4, sm⟩ := sat_tup (vs := vs) s3 hr
  exact k _ _ _ s4 ⟨r, vs, rfl, upd_same, g3, Paired.mono g4 fun _ _ => Rq.mono sm⟩⟩
end
end GM
namespace GM
open PySem L2

/-! ### plain law: sizes -/
/-- below 2 ^ n in size -/
def Sm (n : Nat) (x : Int) : Prop := x.natAbs < 2 ^ n
instance {n : Nat} {x : Int} : Decidable (Sm n x) := inferInstanceAs (Decidable (x.natAbs < 2 ^ n))
theorem Sm.of {x : Int} (n : Nat) (B : Nat) (hB : B < 2 ^ n) (h1 : -(B : Int) ≤ x) (h2 : x ≤ B) : Sm n x := by
  unfold Sm
  have : x.natAbs ≤ B := by omega
  omega
theorem Sm.mono {x : Int} {m n : Nat} (h : Sm m x) (e : m ≤ n) : Sm n x := Nat.lt_of_lt_of_le h (Nat.pow_le_pow_right (by decide) e)
theorem Sm.le {x y : Int} {n : Nat} (h : Sm n y) (e : x.natAbs ≤ y.natAbs) : Sm n x := Nat.lt_of_le_of_lt e h
theorem Sm.mul {x y : Int} {m n : Nat} (h : Sm m x) (h' : Sm n y) : Sm (m + n) (x * y) := by
  unfold Sm at *
  rw [Int.natAbs_mul, Nat.pow_add]
  exact Nat.mul_lt_mul'' h h'
theorem Sm.add {x y : Int} {n : Nat} (h : Sm n x) (h' : Sm n y) : Sm (n + 1) (x + y) := by
  unfold Sm at *
  rw [Nat.pow_succ]
  omega
theorem Sm.sub {x y : Int} {n : Nat} (h : Sm n x) (h' : Sm n y) : Sm (n + 1) (x - y) := by
  unfold Sm at *
  rw [Nat.pow_succ]
  omega
theorem Sm.neg {x : Int} {n : Nat} (h : Sm n x) : Sm n (-x) := by
  unfold Sm at *
  rw [Int.natAbs_neg]; exact h
theorem Sm.log {x : Int} {n : Nat} (h : Sm n x) (h0 : 0 < n) : x.natAbs.log2 < n := PySem.Flt.log2_lt_of h0 h
theorem Sm.pos_le {x y : Int} {n : Nat} (h : Sm n y) (h0 : 0 ≤ x) (h1 : x ≤ y) : Sm n x := h.le (by omega)
theorem div_abs {a g : Int} (hg : 0 < g) : (a / g).natAbs ≤ a.natAbs := by
  by_cases ha : 0 ≤ a
  · have h4 : 0 ≤ a / g := Int.ediv_nonneg ha (by omega)
    have h5 : a / g ≤ a := Int.ediv_le_self _ ha
    omega
  · have h4 : a / g < 0 := Int.ediv_neg_of_neg_of_pos (by omega) hg
    have h5 : a ≤ a / g := by
      refine (Int.le_ediv_iff_mul_le hg).mpr ?_
      have k := Int.mul_nonneg (show 0 ≤ -a by omega) (show 0 ≤ g - 1 by omega)
      rw [Int.mul_sub, Int.mul_one, Int.neg_mul] at k
      omega
    omega
theorem Sm.div {a g : Int} {n : Nat} (h : Sm n a) (hg : 0 < g) : Sm n (a / g) := h.le (div_abs hg)
theorem gcd_step (a b : Int) : Int.gcd b (a % b) = Int.gcd a b := by
  rw [Int.emod_def, Int.gcd_sub_mul_left_right, Int.gcd_comm]
theorem gcd_pos_right {a b : Int} (h : 0 < b) : 0 < (Int.gcd a b : Int) := by
  have := Int.gcd_pos_of_ne_zero_right a (show b ≠ 0 by omega)
  omega
theorem gcd_le_right' {a b : Int} (h : 0 < b) : (Int.gcd a b : Int) ≤ b := Int.le_of_dvd h (Int.gcd_dvd_right ..)
theorem div_neg_iff {a g : Int} (hg : 0 < g) : a / g < 0 ↔ a < 0 := by
  constructor
  · intro h
    refine Int.not_le.mp fun z => ?_
    have := Int.ediv_nonneg z (show 0 ≤ g by omega)
    omega
  · intro h
    exact Int.ediv_neg_of_neg_of_pos h hg
theorem mulC_eq {x y : Int} {m n : Nat} (h : Sm m x) (h' : Sm n y) (e : m + n ≤ 900000 := by decide) : mulC x y = some (x * y) := by
  unfold mulC
  have a := (h.mono (Nat.le_succ m)).log (Nat.succ_pos _)
  have b := (h'.mono (Nat.le_succ n)).log (Nat.succ_pos _)
  rw [if_pos (by omega)]
theorem divC_eq {x y : Int} {n : Nat} (h0 : 0 < y) (h : Sm n y) (e : n < 9000 := by decide) : divC x y = some (x / y) := by
  unfold divC
  have a := (h.mono (Nat.le_succ n)).log (Nat.succ_pos _)
  rw [if_pos ⟨h0, by omega⟩]
theorem dmC_eq {x y : Int} {n : Nat} (h0 : 0 < y) (h : Sm n y) (e : n < 9000 := by decide) : dmC x y = some (x / y, x % y) := by
  unfold dmC
  have a := (h.mono (Nat.le_succ n)).log (Nat.succ_pos _)
  rw [if_pos ⟨h0, by omega⟩]
theorem modC_eq {x y : Int} (h0 : 0 < y) : modC x y = some (x % y) := by
  unfold modC
  rw [if_pos h0]
theorem catC_eq {α : Type} {xs ys : List α} (h : xs.length + ys.length ≤ 16777216) : catC xs ys = some (xs ++ ys) := by
  unfold catC
  rw [sizeLine_eq, if_pos h]
theorem appC_eq {α : Type} {xs : List α} {x : α} (h : xs.length < 16777216) : appC xs x = some (xs ++ [x]) := by
  unfold appC
  rw [sizeLine_eq, if_pos h]
theorem rngC_eq {a b : Int} (h1 : -1000000 ≤ a) (h2 : a ≤ 10000000) (h3 : -1000000 ≤ b) (h4 : b ≤ 10000000) : rngC a b = some (irange a b) := by
  unfold rngC
  rw [if_pos ⟨by omega, by omega, by omega, by omega, by omega⟩]
theorem atI_eq {α : Type} {xs : List α} {i : Int} (h0 : 0 ≤ i) (h1 : i < xs.length) : atI xs i = xs[i.toNat]? := by
  unfold atI ixN
  rw [if_pos h0, if_pos h1]; rfl
theorem atI_some {α : Type} {xs : List α} {i : Int} (h0 : 0 ≤ i) (h1 : i < xs.length) : atI xs i = some (xs[i.toNat]'(by omega)) := by
  rw [atI_eq h0 h1, List.getElem?_eq_getElem]
theorem atI_natE {α : Type} {xs : List α} {j : Nat} (h : j < xs.length) : atI xs (j : Int) = some xs[j] := by
  rw [atI_eq (by omega) (by omega)]
  simp [h]
theorem setC_eq {α : Type} {xs : List α} {i : Int} {x : α} (h0 : 0 ≤ i) (h1 : i < xs.length) : setC xs i x = some (xs.set i.toNat x) := by
  unfold setC ixN
  rw [if_pos h0, if_pos h1]; rfl
theorem FU_eq : FU = 10 ^ 1000 := rfl
theorem lt_FU {n : Nat} (h : n < 2 ^ 3000) : n < FU := by
  rw [FU_eq]
  exact Nat.lt_trans h (by decide +kernel)
/-! ### loops -/
theorem whileS_spec {S : Type} {c : S → Option Bool} {f : S → Option S} (I : S → Prop) (μ : S → Nat) (h : ∀ s, I s → ∃ b, c s = some b ∧ (b = true → ∃ s', f s = some s' ∧ I s' ∧ μ s' < μ s)) :
    ∀ n s, I s → μ s < n → ∃ s', whileS n s c f = some s' ∧ I s' ∧ c s' = some false
  | 0, s, _, hm => absurd hm (Nat.not_lt_zero _)
  | n + 1, s, hi, hm => by
    obtain ⟨b, hb, hf⟩ := h s hi
    cases b with
    | false => exact ⟨s, by unfold whileS; rw [hb]; rfl, hi, hb⟩
    | true =>
      obtain ⟨s', h1, h2, h3⟩ := hf rfl
      obtain ⟨s'', g1, g2, g3⟩ := whileS_spec I μ h n s' h2 (by omega)
      exact ⟨s'', by unfold whileS; rw [hb]; show ((f s).bind fun s' => whileS n s' c f) = _; rw [h1]; exact g1, g2, g3⟩
theorem forS_spec {α S : Type} {f : α → S → Option S} (I : List α → S → Prop) : ∀ (xs pre : List α) (s : S), I pre s → (∀ pre x post s, pre ++ x :: post = pre ++ x :: post → I pre s → x ∈ xs → ∃ s', f x s = some s' ∧ I (pre ++ [x]) s') →
    ∃ s', forS xs s f = some s' ∧ I (pre ++ xs) s'
  | [], pre, s, h, _ => ⟨s, rfl, by rw [List.append_nil]; exact h⟩
  | x :: xs, pre, s, h, k => by
    obtain ⟨s', h1, h2⟩ := k pre x xs s rfl h List.mem_cons_self
    obtain ⟨s'', g1, g2⟩ := forS_spec I xs (pre ++ [x]) s' h2 fun p y q t e hi hy => k p y q t rfl hi (List.mem_cons_of_mem _ hy)
    refine ⟨s'', by unfold forS; rw [h1]; exact g1, ?_⟩
    rw [List.append_assoc] at g2
    exact g2
/-- a loop that is a fold -/
theorem forS_fold {α S : Type} {f : α → S → Option S} {g : S → α → S} (I : S → Prop) : ∀ (xs : List α) (s : S), I s → (∀ x ∈ xs, ∀ s, I s → f x s = some (g s x) ∧ I (g s x)) → forS xs s f = some (xs.foldl g s) ∧ I (xs.foldl g s)
  | [], s, h, _ => ⟨rfl, h⟩
  | x :: xs, s, h, k => by
    obtain ⟨h1, h2⟩ := k x List.mem_cons_self s h
    obtain ⟨g1, g2⟩ := forS_fold I xs (g s x) h2 fun y hy => k y (List.mem_cons_of_mem _ hy)
    exact ⟨by unfold forS; rw [h1]; exact g1, g2⟩
/-- all turns go on, the state as it was -/
theorem forF_all {α S R : Type} {f : α → S → Option (Fl S R)} {s : S} : ∀ {xs : List α}, (∀ x ∈ xs, f x s = some (.go s)) → forF xs s f = some (.go s)
  | [], _ => rfl
  | x :: xs, h => by
    unfold forF
    rw [h x List.mem_cons_self]
    exact forF_all fun y hy => h y (List.mem_cons_of_mem _ hy)
theorem mapO_eq {α β : Type} {f : α → Option β} {g : α → β} : ∀ {xs : List α}, (∀ x ∈ xs, f x = some (g x)) → mapO xs f = some (xs.map g)
  | [], _ => rfl
  | x :: xs, h => by
    unfold mapO
    rw [h x List.mem_cons_self, mapO_eq fun y hy => h y (List.mem_cons_of_mem _ hy)]; rfl
theorem mem_irange {a b x : Int} : x ∈ irange a b ↔ a ≤ x ∧ x < b := by
  unfold irange
  rw [List.mem_map]
  constructor
  · rintro ⟨i, h1, h2⟩
    rw [List.mem_range] at h1
    omega
  · rintro ⟨h1, h2⟩
    exact ⟨(x - a).toNat, by rw [List.mem_range]; omega, by omega⟩
theorem mem_enumL {α : Type} {xs : List α} {z : Int × α} (h : z ∈ enumL xs) : 0 ≤ z.1 ∧ z.1 < xs.length ∧ z.2 ∈ xs := by
  obtain ⟨i, hi⟩ := List.getElem?_of_mem h
  obtain ⟨h1, h2⟩ := enumL_get hi
  have h3 := (List.getElem?_eq_some_iff.mp h1).1
  exact ⟨by omega, by omega, List.mem_of_getElem? h1⟩
theorem cutL_len {α : Type} (xs : List α) (lo hi : Option Int) : (cutL xs lo hi).length ≤ xs.length := by
  unfold cutL
  rw [List.length_take, List.length_drop]
  omega
theorem HT_nn {n d : Nat} {k : Int} (h : 0 ≤ k) : HT.sIx n d (some k) = min k.toNat n := by
  obtain ⟨m, rfl⟩ := Int.eq_ofNat_of_zero_le h
  rw [HT.sIx_nat]; simp
theorem cutL_to {α : Type} (xs : List α) {k : Int} (h : 0 ≤ k) : cutL xs none (some k) = xs.take k.toNat := by
  unfold cutL
  rw [HT_nn h, HT.sIx_none, List.drop_zero, Nat.sub_zero, Nat.min_comm]
  by_cases q : k.toNat ≤ xs.length
  · rw [Nat.min_eq_right q]
  · rw [Nat.min_eq_left (by omega), List.take_of_length_le (Nat.le_refl _), List.take_of_length_le (by omega)]
theorem cutL_from {α : Type} (xs : List α) {k : Int} (h : 0 ≤ k) : cutL xs (some k) none = xs.drop k.toNat := by
  unfold cutL
  rw [HT_nn h, HT.sIx_none]
  by_cases q : k.toNat ≤ xs.length
  · rw [Nat.min_eq_left q, List.take_of_length_le (by rw [List.length_drop]; exact Nat.le_refl _)]
  · have h1 : xs.drop (min k.toNat xs.length) = [] := List.drop_eq_nil_iff.mpr (by omega)
    have h2 : xs.drop k.toNat = [] := List.drop_eq_nil_iff.mpr (by omega)
    rw [h1, h2]; simp
theorem cutL_mid {α : Type} (xs : List α) {i j : Int} (hi : 0 ≤ i) (hj : 0 ≤ j) : cutL xs (some i) (some j) = (xs.take j.toNat).drop i.toNat := by
  unfold cutL
  rw [HT_nn hi, HT_nn hj, List.drop_take]
  by_cases q : i.toNat ≤ xs.length
  · rw [Nat.min_eq_left q]
    by_cases r : j.toNat ≤ xs.length
    · rw [Nat.min_eq_left r]
    · rw [Nat.min_eq_right (Nat.le_of_not_le r), List.take_of_length_le (by rw [List.length_drop]; exact Nat.le_refl _), List.take_of_length_le (by rw [List.length_drop]; omega)]
  · have h1 : xs.drop (min i.toNat xs.length) = [] := List.drop_eq_nil_iff.mpr (by omega)
    have h2 : xs.drop i.toNat = [] := List.drop_eq_nil_iff.mpr (by omega)
    rw [h1, h2]; simp
end GM
namespace GM
open PySem L2
theorem ite_t {α : Type} {c : Bool} (h : c = true) (a b : α) : (if c = true then a else b) = a := if_pos h
theorem ite_f {α : Type} {c : Bool} (h : c = false) (a b : α) : (if c = true then a else b) = b := if_neg (by rw [h]; exact Bool.false_ne_true)
/-! ### plain law: sums over lists -/
def sm {α : Type} (l : List α) (f : α → Int) : Int := (l.map f).sum
section
variable {α β : Type}
theorem sm_nil (f : α → Int) : sm [] f = 0 := rfl
theorem sm_cons (x : α) (l : List α) (f : α → Int) : sm (x :: l) f = f x + sm l f := by unfold sm; rw [List.map_cons, List.sum_cons]
theorem sm_app (l m : List α) (f : α → Int) : sm (l ++ m) f = sm l f + sm m f := by
  induction l with
  | nil => rw [List.nil_append, sm_nil]; omega
  | cons x l ih => rw [List.cons_append, sm_cons, sm_cons, ih]; omega
theorem sm_one (x : α) (f : α → Int) : sm [x] f = f x := by rw [sm_cons, sm_nil]; omega
theorem sm_add (l : List α) (f g : α → Int) : sm l (fun x => f x + g x) = sm l f + sm l g := by
  induction l with
  | nil => rfl
  | cons x l ih => rw [sm_cons, sm_cons, sm_cons, ih]; omega
theorem sm_mul (l : List α) (c : Int) (f : α → Int) : sm l (fun x => c * f x) = c * sm l f := by
  induction l with
  | nil => rw [sm_nil, sm_nil, Int.mul_zero]
  | cons x l ih => rw [sm_cons, sm_cons, ih, Int.mul_add]
theorem sm_sub (l : List α) (f g : α → Int) : sm l (fun x => f x - g x) = sm l f - sm l g := by
  induction l with
  | nil => rfl
  | cons x l ih => rw [sm_cons, sm_cons, sm_cons, ih]; omega
theorem sm_zero (l : List α) : sm l (fun _ => 0) = 0 := by
  induction l with
  | nil => rfl
  | cons x l ih => rw [sm_cons, ih]; omega
theorem sm_const (l : List α) (c : Int) : sm l (fun _ => c) = l.length * c := by
  induction l with
  | nil => rw [sm_nil, List.length_nil]; simp
  | cons x l ih =>
    rw [sm_cons, ih, List.length_cons, Int.natCast_add, Int.add_mul]; omega
theorem sm_le {l : List α} {f g : α → Int} (h : ∀ x ∈ l, f x ≤ g x) : sm l f ≤ sm l g := by
  induction l with
  | nil => exact Int.le_refl _
  | cons x l ih =>
    rw [sm_cons, sm_cons]
    have := h x List.mem_cons_self
    have := ih fun y hy => h y (List.mem_cons_of_mem _ hy)
    omega
theorem sm_congr {l : List α} {f g : α → Int} (h : ∀ x ∈ l, f x = g x) : sm l f = sm l g := by
  induction l with
  | nil => rfl
  | cons x l ih => rw [sm_cons, sm_cons, h x List.mem_cons_self, ih fun y hy => h y (List.mem_cons_of_mem _ hy)]
theorem sm_nn {l : List α} {f : α → Int} (h : ∀ x ∈ l, 0 ≤ f x) : 0 ≤ sm l f := by
  have := sm_le (f := fun _ => 0) (g := f) h
  rw [sm_zero] at this; exact this
theorem sm_mem {l : List α} {f : α → Int} (h : ∀ x ∈ l, 0 ≤ f x) {x : α} (hx : x ∈ l) : f x ≤ sm l f := by
  induction l with
  | nil => exact absurd hx List.not_mem_nil
  | cons y l ih =>
    rw [sm_cons]
    have h1 := h y List.mem_cons_self
    have h2 := sm_nn (f := f) fun z hz => h z (List.mem_cons_of_mem y hz)
    rcases List.mem_cons.mp hx with rfl | hx
    · omega
    · have := ih (fun z hz => h z (List.mem_cons_of_mem y hz)) hx
      omega
theorem sm_perm {l m : List α} (f : α → Int) (h : l.Perm m) : sm l f = sm m f := by
  induction h with
  | nil => rfl
  | cons x _ ih => rw [sm_cons, sm_cons, ih]
  | swap x y l => rw [sm_cons, sm_cons, sm_cons, sm_cons]; omega
  | trans _ _ ih1 ih2 => rw [ih1, ih2]
theorem sm_map (l : List β) (g : β → α) (f : α → Int) : sm (l.map g) f = sm l (fun x => f (g x)) := by
  unfold sm; rw [List.map_map]; rfl
theorem sm_filter (l : List α) (c : α → Bool) (f : α → Int) : sm (l.filter c) f = sm l (fun x => if c x = true then f x else 0) := by
  induction l with
  | nil => rfl
  | cons x l ih =>
    rw [sm_cons]
    by_cases h : c x = true
    · rw [List.filter_cons_of_pos h, sm_cons, ih, if_pos h]
    · rw [List.filter_cons_of_neg h, ih, if_neg h]; omega
theorem sm_swap (l : List α) (m : List β) (f : α → β → Int) : sm l (fun x => sm m (f x)) = sm m (fun y => sm l (fun x => f x y)) := by
  induction l with
  | nil => rw [sm_nil]; exact (sm_zero m).symm
  | cons x l ih =>
    rw [sm_cons, ih, ← sm_add]
    exact sm_congr fun y _ => (sm_cons x l fun x => f x y).symm
theorem sum_eq_sm (l : List Int) : l.sum = sm l (fun x => x) := by unfold sm; rw [List.map_id']
theorem sm_getElem {l : List α} {f : α → Int} (h : ∀ x ∈ l, 0 ≤ f x) {i j : Nat} (hi : i < j) (hj : j < l.length) : f (l[i]'(by omega)) + f l[j] ≤ sm l f := by
  induction l generalizing i j with
  | nil => exact absurd hj (Nat.not_lt_zero _)
  | cons y l ih =>
    have h1 := h y List.mem_cons_self
    have h2 : ∀ x ∈ l, 0 ≤ f x := fun z hz => h z (List.mem_cons_of_mem y hz)
    cases j with
    | zero => exact absurd hi (Nat.not_lt_zero _)
    | succ j =>
      rw [sm_cons]
      have hj' : j < l.length := by rw [List.length_cons] at hj; omega
      cases i with
      | zero =>
        have := sm_mem h2 (List.getElem_mem hj')
        show f y + f l[j] ≤ _
        omega
      | succ i =>
        have := ih h2 (i := i) (j := j) (by omega) hj'
        show f (l[i]'(by omega)) + f l[j] ≤ _
        omega
end
/-! ### the numbers from 0 on -/
theorem irange_succ (n : Nat) : irange 0 ((n : Int) + 1) = irange 0 n ++ [(n : Int)] := by
  unfold irange
  rw [show (((n : Int) + 1 - 0).toNat) = n + 1 by omega, show (((n : Int) - 0).toNat) = n by omega, List.range_succ, List.map_append]
  simp
theorem irange_zero : irange 0 0 = [] := rfl
theorem irange_at {n : Nat} {i : Nat} (h : i < (irange 0 n).length) : (irange 0 n)[i] = (i : Int) := by
  unfold irange at h ⊢
  rw [List.getElem_map, List.getElem_range]; omega
theorem irange_ix {a b : Int} {i : Nat} (h : i < (irange a b).length) : (irange a b)[i] = a + i := (irange_get (List.getElem?_eq_getElem h)).1
theorem irange_nodup (a b : Int) : (irange a b).Nodup := by
  unfold irange
  refine List.pairwise_map.mpr ((List.nodup_range).imp ?_)
  intro x y h e
  exact h (by omega)
theorem sm_ind (x : Int) (c : Int) : ∀ (n : Nat), sm (irange 0 n) (fun b => if x = b then c else 0) = if 0 ≤ x ∧ x < n then c else 0
  | 0 => by
    rw [show irange 0 ((0 : Nat) : Int) = [] from rfl, sm_nil, if_neg (by omega)]
  | n + 1 => by
    rw [Int.natCast_add, show ((1 : Nat) : Int) = 1 from rfl, irange_succ, sm_app, sm_ind x c n, sm_one]
    by_cases h1 : 0 ≤ x ∧ x < n
    · rw [if_pos h1, if_neg (by omega), if_pos (by omega)]; omega
    · rw [if_neg h1]
      by_cases h2 : x = n
      · rw [if_pos h2, if_pos (by omega)]; omega
      · rw [if_neg h2, if_neg (by omega)]; omega
/-- two alike among more than there are -/
theorem pigeon (m : Nat) (l : List Int) (h : ∀ x ∈ l, 0 ≤ x ∧ x < m) (hl : m < l.length) : ∃ i j, ∃ hi : i < j, ∃ hj : j < l.length, l[i] = l[j] := by
  have nn : ¬ l.Nodup := fun nd => by
    have key : ∀ (b : Int) (l : List Int), l.Nodup → sm l (fun x => if x = b then 1 else 0) ≤ 1 := by
      intro b l
      induction l with
      | nil => intro _; rw [sm_nil]; omega
      | cons x l ih =>
        intro nd
        rw [sm_cons]
        obtain ⟨h1, h2⟩ := List.nodup_cons.mp nd
        by_cases e : x = b
        · rw [if_pos e]
          have : sm l (fun x => if x = b then 1 else 0) = sm l (fun _ => 0) := sm_congr fun y hy => if_neg (fun e2 => h1 (by rw [e, ← e2]; exact hy))
          rw [this, sm_zero]; omega
        · rw [if_neg e]
          have := ih h2
          omega
    have e : sm (irange 0 m) (fun b => sm l (fun x => if x = b then 1 else 0)) = l.length := by
      rw [sm_swap]
      have : sm l (fun y => sm (irange 0 m) (fun b => if y = b then 1 else 0)) = sm l (fun _ => 1) := sm_congr fun y hy => by
        rw [sm_ind, if_pos (h y hy)]
      rw [this, sm_const]; omega
    have le := sm_le (l := irange 0 m) (f := fun b => sm l (fun x => if x = b then 1 else 0)) (g := fun _ => 1) fun b _ => key b l nd
    rw [e, sm_const, irange_len] at le
    omega
  have h2 : ¬ ∀ (i j : Nat) (hi : i < l.length) (hj : j < l.length), i < j → l[i] ≠ l[j] := fun k => nn (List.pairwise_iff_getElem.mpr k)
  refine Classical.byContradiction fun k => h2 fun i j hi hj hij e => k ⟨i, j, hij, hj, e⟩
theorem perm_lift {α β : Type} (f : α → β) : ∀ (r : List β) (l : List α), (l.map f).Perm r → ∃ l', l.Perm l' ∧ l'.map f = r
  | [], l, h => by
    have := h.eq_nil
    exact ⟨[], by rw [List.map_eq_nil_iff.mp this], rfl⟩
  | y :: r, l, h => by
    have hy : y ∈ l.map f := h.mem_iff.mpr List.mem_cons_self
    obtain ⟨x, hx, rfl⟩ := List.mem_map.mp hy
    obtain ⟨s, t, rfl⟩ := List.append_of_mem hx
    have p1 : (s ++ x :: t).Perm (x :: (s ++ t)) := List.perm_middle
    have p2 : ((s ++ t).map f).Perm r := by
      have := ((p1.map f).symm.trans h)
      rw [List.map_cons] at this
      exact this.cons_inv
    obtain ⟨l', h1, h2⟩ := perm_lift f r (s ++ t) p2
    exact ⟨x :: l', p1.trans (h1.cons x), by rw [List.map_cons, h2]⟩
/-! ### places by number -/
def at0 (xs : List Int) (i : Int) : Int := (xs[i.toNat]?).getD 0
theorem at0_nat {xs : List Int} {i : Nat} (h : i < xs.length) : at0 xs (i : Int) = xs[i] := by
  unfold at0
  rw [Int.toNat_natCast, List.getElem?_eq_getElem h]; rfl
theorem atI_at0 {xs : List Int} {i : Int} (h0 : 0 ≤ i) (h1 : i < xs.length) : atI xs i = some (at0 xs i) := by
  rw [atI_some h0 h1]
  unfold at0
  rw [List.getElem?_eq_getElem (by omega)]; rfl
theorem at0_set {xs : List Int} {i j : Int} {x : Int} (h0 : 0 ≤ i) (h1 : i < xs.length) (j0 : 0 ≤ j) : at0 (xs.set i.toNat x) j = if i = j then x else at0 xs j := by
  unfold at0
  rw [List.getElem?_set]
  by_cases h : i = j
  · rw [if_pos (by rw [h]), if_pos (by omega), if_pos h]; rfl
  · rw [if_neg (by omega), if_neg h]
theorem at0_mem {xs : List Int} {i : Int} (h0 : 0 ≤ i) (h1 : i < xs.length) : at0 xs i ∈ xs := by
  unfold at0
  rw [List.getElem?_eq_getElem (by omega)]
  exact List.getElem_mem _
theorem mem_at0 {xs : List Int} {x : Int} (h : x ∈ xs) : ∃ i : Nat, i < xs.length ∧ at0 xs i = x := by
  obtain ⟨i, hi, e⟩ := List.getElem_of_mem h
  exact ⟨i, hi, by rw [at0_nat hi]; exact e⟩
theorem list_at0 (xs : List Int) : xs = (irange 0 xs.length).map (at0 xs) := by
  refine List.ext_getElem (by rw [List.length_map, irange_len]; omega) fun i h1 h2 => ?_
  rw [List.getElem_map, irange_at, at0_nat h1]
theorem sm_at0 (xs : List Int) (f : Int → Int) : sm xs f = sm (irange 0 xs.length) (fun k => f (at0 xs k)) := by
  conv => lhs; rw [list_at0 xs]
  exact sm_map _ _ _
theorem zip_at0 {xs ys : List Int} (h : xs.length = ys.length) : xs.zip ys = (irange 0 xs.length).map fun k => (at0 xs k, at0 ys k) := by
  refine List.ext_getElem (by rw [List.length_map, irange_len, List.length_zip]; omega) fun i h1 h2 => ?_
  have h3 : i < xs.length := by rw [List.length_zip] at h1; omega
  rw [List.getElem_map, irange_at, List.getElem_zip, at0_nat h3, at0_nat (by omega)]
theorem maxL_spec {xs : List Int} {m : Int} (h : maxL xs = some m) : m ∈ xs ∧ ∀ x ∈ xs, x ≤ m := by
  cases xs with
  | nil => cases h
  | cons x xs => cases h; exact foldmax xs x
theorem maxL_some {xs : List Int} (h : xs ≠ []) : ∃ m, maxL xs = some m := by
  cases xs with
  | nil => exact absurd rfl h
  | cons x xs => exact ⟨_, rfl⟩
theorem sum_set : ∀ (xs : List Int) (i : Nat) (h : i < xs.length) (v : Int), (xs.set i v).sum = xs.sum - at0 xs i + v
  | [], i, h, _ => absurd h (Nat.not_lt_zero _)
  | x :: xs, 0, _, v => by
    rw [List.set_cons_zero, List.sum_cons, List.sum_cons]
    show v + xs.sum = x + xs.sum - x + v
    omega
  | x :: xs, i + 1, h, v => by
    have h' : i < xs.length := by rw [List.length_cons] at h; omega
    rw [List.set_cons_succ, List.sum_cons, List.sum_cons, sum_set xs i h' v, at0_nat h', at0_nat (xs := x :: xs) h]
    show _ = _ - xs[i] + v
    omega
/-! ### loops by number -/
theorem forS_ix {α S : Type} {f : α → S → Option S} (I : Nat → S → Prop) : ∀ (xs : List α) (s : S), I 0 s → (∀ (i : Nat) (h : i < xs.length) (s : S), I i s → ∃ s', f xs[i] s = some s' ∧ I (i + 1) s') → ∃ s', forS xs s f = some s' ∧ I xs.length s'
  | [], s, h, _ => ⟨s, rfl, h⟩
  | x :: xs, s, h, k => by
    obtain ⟨s', h1, h2⟩ := k 0 (by rw [List.length_cons]; omega) s h
    obtain ⟨s'', g1, g2⟩ := forS_ix (fun i => I (i + 1)) xs s' h2 fun i hi t ht => k (i + 1) (by rw [List.length_cons]; omega) t ht
    exact ⟨s'', by unfold forS; rw [show f x s = some s' from h1]; exact g1, g2⟩
theorem forS_rng {S : Type} {f : Int → S → Option S} (I : Nat → S → Prop) (n : Nat) (s : S) (h0 : I 0 s) (k : ∀ (i : Nat) (h : i < n) (s : S), I i s → ∃ s', f (i : Int) s = some s' ∧ I (i + 1) s') : ∃ s', forS (irange 0 n) s f = some s' ∧ I n s' := by
  have hl : (irange 0 (n : Int)).length = n := by rw [irange_len]; omega
  obtain ⟨s', h1, h2⟩ := forS_ix I (irange 0 n) s h0 fun i hi t ht => by
    rw [irange_at]
    exact k i (by omega) t ht
  exact ⟨s', h1, by rw [hl] at h2; exact h2⟩
theorem forF_ix {α S R : Type} {f : α → S → Option (Fl S R)} (I : Nat → S → Prop) : ∀ (xs : List α) (s : S), I 0 s → (∀ (i : Nat) (h : i < xs.length) (s : S), I i s → ∃ s', f xs[i] s = some (.go s') ∧ I (i + 1) s') → ∃ s', forF xs s f = some (.go s') ∧ I xs.length s'
  | [], s, h, _ => ⟨s, rfl, h⟩
  | x :: xs, s, h, k => by
    obtain ⟨s', h1, h2⟩ := k 0 (by rw [List.length_cons]; omega) s h
    obtain ⟨s'', g1, g2⟩ := forF_ix (fun i => I (i + 1)) xs s' h2 fun i hi t ht => k (i + 1) (by rw [List.length_cons]; omega) t ht
    exact ⟨s'', by unfold forF; rw [show f x s = some (.go s') from h1]; exact g1, g2⟩
end GM
namespace GM
open PySem L2
/-! ### plain law: dicts -/
section
variable {α : Type}
theorem dgetL_cons (p : Int × α) (l : List (Int × α)) (k : Int) : dgetL (p :: l) k = if p.1 = k then some p.2 else dgetL l k := by
  unfold dgetL
  rw [List.find?_cons]
  by_cases e : p.1 = k
  · rw [decide_eq_true e, if_pos e]; rfl
  · rw [decide_eq_false e, if_neg e]
theorem dgetL_app (l m : List (Int × α)) (k : Int) : dgetL (l ++ m) k = (dgetL l k).or (dgetL m k) := by
  induction l with
  | nil => rfl
  | cons p l ih =>
    rw [List.cons_append, dgetL_cons, dgetL_cons, ih]
    split <;> simp
theorem dgetL_any (l : List (Int × α)) (k : Int) : (l.any fun p => decide (p.1 = k)) = (dgetL l k).isSome := by
  induction l with
  | nil => rfl
  | cons p l ih =>
    rw [List.any_cons, dgetL_cons, ih]
    by_cases e : p.1 = k
    · rw [decide_eq_true e, if_pos e]; rfl
    · rw [decide_eq_false e, if_neg e]; rfl
theorem dgetL_put (l : List (Int × α)) (k j : Int) (v : α) : dgetL (dputL l k v) j = if j = k then some v else dgetL l j := by
  unfold dputL
  by_cases h : (l.any fun p => decide (p.1 = k)) = true
  · rw [if_pos h]
    rw [dgetL_any] at h
    induction l with
    | nil => cases h
    | cons p l ih =>
      rw [List.map_cons, dgetL_cons]
      by_cases e : p.1 = k
      · rw [if_pos e]
        by_cases e2 : j = k
        · rw [if_pos e2, if_pos (by rw [e2]; exact e)]
        · rw [if_neg e2, if_neg (fun z => e2 (by rw [← z]; exact e)), dgetL_cons, if_neg (fun z => e2 (by rw [← z]; exact e))]
          clear ih h
          induction l with
          | nil => rfl
          | cons q l ih =>
            rw [List.map_cons, dgetL_cons, dgetL_cons, ih]
            by_cases e3 : q.1 = k
            · rw [if_pos e3, if_neg (fun z => e2 (by rw [← z]; exact e3)), if_neg (fun z => e2 (by rw [← z]; exact e3))]
            · rw [if_neg e3]
      · rw [if_neg e]
        rw [dgetL_cons, if_neg e] at h
        rw [ih h, dgetL_cons]
        by_cases e2 : j = k
        · rw [if_pos e2, if_pos e2, if_neg (fun z => e (by rw [← e2]; exact z))]
        · rw [if_neg e2, if_neg e2]
  · rw [if_neg h]
    rw [dgetL_any] at h
    rw [dgetL_app, dgetL_cons]
    by_cases e : j = k
    · rw [if_pos e, if_pos e.symm, e]
      cases q : dgetL l k with
      | none => rfl
      | some x => rw [q] at h; exact absurd rfl h
    · rw [if_neg e, if_neg (fun z => e z.symm)]
      cases dgetL l j <;> rfl
theorem dputL_len (l : List (Int × α)) (k : Int) (v : α) : (dputL l k v).length ≤ l.length + 1 := by
  unfold dputL
  split
  · rw [List.length_map]; omega
  · rw [List.length_append]; exact Nat.le_refl _
theorem dputL_keys (l : List (Int × α)) (k : Int) (v : α) : (dputL l k v).map (·.1) = if k ∈ l.map (·.1) then l.map (·.1) else l.map (·.1) ++ [k] := by
  have h : (l.any fun p => decide (p.1 = k)) = decide (k ∈ l.map (·.1)) := by
    induction l with
    | nil => rfl
    | cons p l ih =>
      rw [List.any_cons, ih, List.map_cons, ← Bool.decide_or]
      exact dec_iff (by rw [List.mem_cons]; exact ⟨fun z => z.imp (fun e => e.symm) id, fun z => z.imp (fun e => e.symm) id⟩)
  unfold dputL
  rw [h]
  by_cases q : k ∈ l.map (·.1)
  · rw [if_pos q, if_pos (decide_eq_true q), List.map_map]
    refine List.map_congr_left fun p _ => ?_
    show (if p.1 = k then (p.1, v) else p).1 = p.1
    split <;> rfl
  · rw [if_neg q, if_neg (by rw [decide_eq_false q]; exact Bool.false_ne_true), List.map_append]; rfl
theorem dputL_nodup {l : List (Int × α)} (k : Int) (v : α) (h : (l.map (·.1)).Nodup) : ((dputL l k v).map (·.1)).Nodup := by
  rw [dputL_keys]
  split
  · exact h
  · rename_i q
    exact List.nodup_append.mpr ⟨h, List.pairwise_singleton _ _, fun x hx y hy e => q (by rw [← List.mem_singleton.mp hy, ← e]; exact hx)⟩
theorem dgetL_mem {l : List (Int × α)} {k : Int} : (dgetL l k).isSome = true ↔ k ∈ l.map (·.1) := by
  rw [← dgetL_any, List.any_eq_true, List.mem_map]
  constructor
  · rintro ⟨p, hp, e⟩
    exact ⟨p, hp, of_decide_eq_true e⟩
  · rintro ⟨p, hp, e⟩
    exact ⟨p, hp, decide_eq_true e⟩
theorem dputC_eq {d : Dc α} {k : Int} {v : α} (h : d.l.length < 16777216) : dputC d k v = some ⟨dputL d.l k v⟩ := by
  unfold dputC
  rw [sizeLine_eq, if_pos h]
theorem dget_put (d : Dc α) (k j : Int) (v : α) : dget ⟨dputL d.l k v⟩ j = if j = k then some v else dget d j := dgetL_put d.l k j v
theorem dhas_put (d : Dc α) (k j : Int) (v : α) : dhas ⟨dputL d.l k v⟩ j = (decide (j = k) || dhas d j) := by
  unfold dhas
  rw [dget_put]
  by_cases e : j = k
  · rw [if_pos e, decide_eq_true e]; rfl
  · rw [if_neg e, decide_eq_false e]; rfl
theorem dhas_nil (j : Int) : dhas (⟨[]⟩ : Dc α) j = false := rfl
end
theorem ddL_len {xs : List Int} (h : xs.Nodup) : (ddL xs).length = xs.length := ((List.perm_ext_iff_of_nodup (ddL_nodup xs) h).mpr fun a => ddL_mem).length_eq
theorem lenSetC_eq {xs : List Int} (h : xs.Nodup) (hl : xs.length ≤ 4000) : lenSetC xs = some (xs.length : Int) := by
  unfold lenSetC
  rw [if_pos hl, ddL_len h]
theorem filO_sel {α β : Type} {c : α → Option Bool} {f : α → Option β} {c' : α → Bool} {f' : α → β} : ∀ {xs : List α}, (∀ x ∈ xs, c x = some (c' x)) → (∀ x ∈ xs, c' x = true → f x = some (f' x)) → filO xs c f = some ((xs.filter c').map f')
  | [], _, _ => rfl
  | x :: xs, h, h' => by
    unfold filO
    rw [h x List.mem_cons_self, obs, filO_sel (fun y hy => h y (List.mem_cons_of_mem _ hy)) (fun y hy => h' y (List.mem_cons_of_mem _ hy)), List.filter_cons]
    cases e : c' x with
    | true => rw [if_pos rfl, if_pos rfl, h' x List.mem_cons_self e, obs, obs, List.map_cons]
    | false => rw [if_neg Bool.false_ne_true, if_neg Bool.false_ne_true]
/-- the items by their numbers -/
theorem enumL_at {α : Type} (xs : List α) (i : Nat) (h : i < (enumL xs).length) : (enumL xs)[i] = ((i : Int), xs[i]'(by rw [enumL_len] at h; exact h)) := by
  have hg := enumL_get (List.getElem?_eq_getElem h)
  have hl : i < xs.length := by rw [enumL_len] at h; exact h
  have h1 := hg.1
  rw [List.getElem?_eq_getElem hl] at h1
  exact Prod.ext hg.2 (Option.some.inj h1).symm
theorem nodup_le : ∀ {A B : List Int}, A.Nodup → (∀ x ∈ A, x ∈ B) → A.length ≤ B.length
  | [], _, _, _ => Nat.zero_le _
  | a :: A, B, nd, h => by
    obtain ⟨h1, h2⟩ := List.nodup_cons.mp nd
    have hb := h a List.mem_cons_self
    have := nodup_le (B := B.erase a) h2 fun x hx => (List.mem_erase_of_ne (fun e => h1 (by rw [← e]; exact hx))).mpr (h x (List.mem_cons_of_mem _ hx))
    rw [List.length_erase_of_mem hb] at this
    have := List.length_pos_of_mem hb
    rw [List.length_cons]
    omega
end GM
namespace M
open PySem L2 GM
def law_divisor (one : Int) (other : Int) : Option Int :=
  (whileS FU (one, other) (fun s1 : Int × Int => some (decide (0 < s1.2))) (fun s1 : Int × Int =>
    (((modC s1.1 s1.2).bind fun v2 => some (v2, (()))).bind fun r3 => some (s1.2, r3)).bind fun z4 =>
    some (z4.1, z4.2.1))).bind fun s1 =>
  some s1.1
def law_unit (amounts : List (Int × Int)) : Option Int :=
  let unit_here : Int := 1
  (forS amounts unit_here (fun (x2 : Int × Int) (s1 : Int) =>
    ((mulC s1 x2.2).bind fun v3 => (law_divisor s1 x2.2).bind fun v4 => divC v3 v4).bind fun unit_here =>
    some unit_here)).bind fun s1 =>
  some s1
def law_number (cell : Int) (k : Int) : Option Int :=
  ((((mulC k k).bind fun v1 => some ((cell % 100000000000000000000) + v1)).bind fun v2 => some (v2 + 1)).bind fun v3 => mulC v3 (48271 + (2 * k))).bind fun v4 => some (v4 % 2147483647)
def law_parts (cell : Int) (k : Int) : Option (Int × Int) :=
  (law_number cell (k + 400)).bind fun number_here =>
  (atI [1, 1, 2, 3, 4, 6, 7, 12, 1 + ((number_here / 8) % 12)] ((number_here / 128) % 9)).bind fun bottom =>
  let top : Int := (number_here / 1200) % 30
  (if (decide (number_here % 3 = 0)) = true then
    let top : Int := (((cell % 100000000000000000000) * 48271) + number_here) % 1000000000000
    some top
  else
    some top).bind fun s1 =>
  (law_divisor bottom s1).bind fun by_ =>
  ((divC s1 by_).bind fun v3 => ((divC bottom by_).bind fun v2 => some (v2, (()))).bind fun r4 => some (v3, r4)).bind fun z5 => some (z5.1, z5.2.1)
def law_is_wholes (found : List Int) (due : List Int) : Option Bool :=
  if ((!true) || (!decide ((found.length : Int) = (due.length : Int)))) = true then
    some false
  else
    (forF (R := Bool) (found.zip due) () (fun (x2 : Int × Int) (s1 : Unit) =>
      if ((!true) || (false || (!decide (x2.1 = x2.2)))) = true then
        some (Fl.ret false)
      else
        some (Fl.go ()))).bind (flR (fun s1 =>
      some true) id)
def law_is_read (found : T3 Str Int ((List Int) × (List (Tp Int)))) (unit_here : Int) (wholes_here : List Int) : Option Bool :=
  if ((!true) || ((!decide (3 = 3)) || (!true))) = true then
    some false
  else
    if ((!true) || (false || (!decide (found.b = unit_here)))) = true then
      some false
    else
      if ((!true) || ((!decide (2 = 2)) || (!decide (found.c.2 = ([] : List (Tp Int)))))) = true then
        some false
      else
        if (decide (found.a = (Str.ofString "touch"))) = true then if true = true then law_is_wholes found.c.1 wholes_here else some false else some false
def law_cell_at (script : List Int) (k : Int) : Option Int :=
  if (decide (k < (script.length : Int))) = true then
    atI script k
  else
    some 0
def shown_amount (one : Int × Int) : Option Str :=
  let z1 : Int × Int := one
  (dmC z1.1 z1.2).bind fun z2 =>
  if (decide (0 < z2.2)) = true then
    (fun acc => (strI z1.1).bind fun y => (appS acc y).bind (fun acc => (some (Str.ofString "/")).bind fun y => (appS acc y).bind (fun acc => (strI z1.2).bind fun y => (appS acc y).bind some))) Str.empty
  else
    strI z2.1
def law_written (one : Int × Int) : Option Str :=
  if (decide (one.2 = 1)) = true then
    strI one.1
  else
    ((strI one.1).bind fun v1 => catS v1 (Str.ofString "/")).bind fun v2 => (strI one.2).bind fun v3 => catS v2 v3
def law_shown (one : Int × Int) : Option Bool :=
  (shown_amount one).bind fun found =>
  if true = true then (law_written one).bind fun v1 => some (decide (found = v1)) else some false
def number_in (text : Str) (least : Int) (most : Int) : Option (Option Int) :=
  (if (decide (text = (Str.ofString ""))) = true then some true else ((lenS text).bind fun v1 => some (decide (12 < v1))).bind fun v5 => if v5 = true then some true else ((ixS text 0).bind fun v2 => some (decide (v2 = (Str.ofString "0")))).bind fun v4 => if v4 = true then (lenS text).bind fun v3 => some (decide (1 < v3)) else some false).bind fun v8 => if v8 = true then
    some none
  else
    (signsC text).bind fun v7 => (forF (R := (Option Int)) v7 () (fun (sign : Str) (s6 : Unit) =>
      if (!inS sign (Str.ofString "0123456789")) = true then
        some (Fl.ret none)
      else
        some (Fl.go ()))).bind (flR (fun s6 =>
      (intS text).bind fun number =>
      if ((decide (number < least)) || (decide (most < number))) = true then
        some none
      else
        some (some number)) id)
def common_factor (high : Int) (low : Int) : Option Int :=
  (whileS FU (high, low) (fun s1 : Int × Int => some (decide (0 < s1.2))) (fun s1 : Int × Int =>
    (((modC s1.1 s1.2).bind fun v2 => some (v2, (()))).bind fun r3 => some (s1.2, r3)).bind fun z4 =>
    some (z4.1, z4.2.1))).bind fun s1 =>
  some s1.1
def amount_in (text : Str) : Option (Option (Int × Int)) :=
  (partC text (Str.ofString "/")).bind fun z1 =>
  (number_in z1.a 0 1000000000000).bind fun number =>
  if (decide (z1.b = (Str.ofString ""))) = true then
    if number.isNone = true then
      some none
    else
      (((unN number).bind fun v2 => some (v2, (1, ()))).bind fun z3 => some (z3.1, z3.2.1)).bind fun v4 => some (some v4)
  else
    (number_in z1.c 2 12).bind fun under =>
    (if number.isNone = true then some true else if under.isNone = true then some true else (((unN number).bind fun v6 => ((unN under).bind fun v5 => some (v5, (()))).bind fun r7 => some (v6, r7)).bind fun z8 => common_factor z8.1 z8.2.1).bind fun v9 => some (!decide (v9 = 1))).bind fun v15 => if v15 = true then
      some none
    else
      (((unN number).bind fun v11 => ((unN under).bind fun v10 => some (v10, (()))).bind fun r12 => some (v11, r12)).bind fun z13 => some (z13.1, z13.2.1)).bind fun v14 => some (some v14)
def amounts_in (words : List Str) (line : Int) (least : Int) : Option (List (Int × Int)) :=
  let found : List (Int × Int) := ([] : List (Int × Int))
  (forS words found (fun (word : Str) (s1 : (List (Int × Int))) =>
    (amount_in word).bind fun one =>
    (if one.isNone = true then some true else ((unN one).bind fun v2 => some v2.1).bind fun v3 => some (decide (v3 < least))).bind fun v5 => if v5 = true then
      (none : Option ((List (Int × Int))))
    else
      (unN one).bind fun v4 => (appC s1 v4).bind fun found =>
      some found)).bind fun s1 =>
  some s1
def unit_of (amounts : List (Int × Int)) : Option Int :=
  let unit : Int := 1
  (forS amounts unit (fun (one : Int × Int) (s1 : Int) =>
    ((mulC s1 one.2).bind fun v2 => (common_factor s1 one.2).bind fun v3 => divC v2 v3).bind fun unit =>
    some unit)).bind fun s1 =>
  some s1
def numbers_in (words : List Str) (line : Int) (most : Int) : Option (List Int) :=
  let found : List Int := ([] : List Int)
  (forS words found (fun (word : Str) (s1 : (List Int)) =>
    (number_in word 0 (most - 1)).bind fun number =>
    (if number.isNone = true then some true else (unN number).bind fun v2 => some (decide (v2 ∈ s1))).bind fun v4 => if v4 = true then
      (none : Option ((List Int)))
    else
      (unN number).bind fun v3 => (appC s1 v3).bind fun found =>
      some found)).bind fun s1 =>
  some s1
def whole_by (one : Int × Int) (unit : Int) : Option Int :=
  (mulC one.1 unit).bind fun v1 => divC v1 one.2
def read_touch (rows : List (List Str)) : Option (Int × ((List Int) × (List (Tp Int)))) :=
  ((((atI rows 0).bind fun v1 => some (v1.length : Int)).bind fun v2 => some (decide (v2 < 2))).bind fun v5 => if v5 = true then some true else ((atI rows 0).bind fun v3 => some (v3.length : Int)).bind fun v4 => some (decide (40 + 1 < v4))).bind fun v22 => if v22 = true then
    (none : Option (Int × ((List Int) × (List (Tp Int)))))
  else
    ((((atI rows 0).bind fun v6 => some (cutL v6 (some 1) none)).bind fun v7 => some (v7, (0, 0, ()))).bind fun z8 => amounts_in z8.1 z8.2.1 z8.2.2.1).bind fun amounts =>
    let lines : List (Tp Int) := ([] : List (Tp Int))
    (forS (irange 1 rows.length) lines (fun (line : Int) (s9 : (List (Tp Int))) =>
      (if (decide (80 < line)) = true then some true else ((atI rows line).bind fun v10 => some (v10.length : Int)).bind fun v11 => some (!decide (v11 = 2))).bind fun v16 => if v16 = true then
        (none : Option ((List (Tp Int))))
      else
        ((((atI rows line).bind fun v12 => some (v12, (line, (amounts.length : Int), ()))).bind fun z13 => numbers_in z13.1 z13.2.1 z13.2.2.1).bind fun v14 => some (Tp.mk v14)).bind fun v15 => (appC s9 v15).bind fun lines =>
        some lines)).bind fun s9 =>
    (unit_of amounts).bind fun unit =>
    (((((mapO amounts (fun one : Int × Int => whole_by one unit)).bind fun v17 => some (v17, (s9, ()))).bind fun z18 => some (z18.1, z18.2.1)).bind fun v19 => some (v19, (()))).bind fun r20 => some (unit, r20)).bind fun z21 => some (z21.1, z21.2.1)
def read_kind (kind : Str) (rows : List (List Str)) : Option (Int × ((List Int) × (List (Tp Int)))) :=
  if (decide (kind = (Str.ofString "cover"))) = true then
    (none : Option (Int × ((List Int) × (List (Tp Int)))))
  else
    if (decide (kind = (Str.ofString "touch"))) = true then
      read_touch rows
    else
      if (decide (kind = (Str.ofString "round"))) = true then
        (none : Option (Int × ((List Int) × (List (Tp Int)))))
      else
        if (decide (kind = (Str.ofString "places"))) = true then
          (none : Option (Int × ((List Int) × (List (Tp Int)))))
        else
          if (decide (kind = (Str.ofString "benches"))) = true then
            (none : Option (Int × ((List Int) × (List (Tp Int)))))
          else
            if (decide (kind = (Str.ofString "bins"))) = true then
              (none : Option (Int × ((List Int) × (List (Tp Int)))))
            else
              if (decide (kind = (Str.ofString "sack"))) = true then
                (none : Option (Int × ((List Int) × (List (Tp Int)))))
              else
                (none : Option (Int × ((List Int) × (List (Tp Int)))))
def read (text : Str) : Option (T3 Str Int ((List Int) × (List (Tp Int)))) :=
  ((splitC text (Str.ofString "\n")).bind fun v1 => mapO v1 (fun line : Str => splitC line (Str.ofString " "))).bind fun rows =>
  ((atI rows 0).bind fun v2 => atI v2 0).bind fun kind =>
  (read_kind kind rows).bind fun z3 =>
  some (T3.mk kind z3.1 z3.2)
def law_wholes (amounts : List (Int × Int)) (unit_here : Int) : Option (List Int) :=
  mapO amounts (fun x1 : Int × Int => (mulC x1.1 unit_here).bind fun v2 => divC v2 x1.2)
def law (script : List Int) : Option Bool :=
  (((law_cell_at script 2).bind fun v1 => some (v1 :: [])).bind fun v2 => catC v2 (cutL script (some 3) (some 42))).bind fun cells =>
  (mapO (enumL cells) (fun x3 : Int × Int => law_parts x3.2 x3.1)).bind fun amounts =>
  (law_unit amounts).bind fun unit_here =>
  (((mapO amounts (fun one : Int × Int => law_written one)).bind fun v4 => catC [(Str.ofString "touch")] v4).bind fun v5 => joinC (Str.ofString " ") v5).bind fun text =>
  ((((read text).bind fun v8 => (((law_wholes amounts unit_here).bind fun v6 => some (v6, (()))).bind fun r7 => some (unit_here, r7)).bind fun r9 => some (v8, r9)).bind fun z10 => law_is_read z10.1 z10.2.1 z10.2.2.1).bind fun v11 => some (!v11)).bind fun v29 => if v29 = true then
    some false
  else
    (forF (R := Bool) amounts () (fun (one : Int × Int) (s12 : Unit) =>
      ((law_shown one).bind fun v13 => some (!v13)).bind fun v14 => if v14 = true then
        some (Fl.ret false)
      else
        some (Fl.go ()))).bind (flR (fun s12 =>
      ((law_cell_at script 0).bind fun v15 => some (v15 % 1000000000000000000000000000000000000000000000000000000000000)).bind fun top =>
      (((law_cell_at script 1).bind fun v18 => (((law_cell_at script 0).bind fun v16 => some (v16 % 2)).bind fun v17 => atI [1000000000000000000000000000000, 3] v17).bind fun v19 => modC v18 v19).bind fun v20 => some (1 + v20)).bind fun bottom =>
      (law_divisor bottom top).bind fun by_ =>
      (((((divC top by_).bind fun v22 => ((divC bottom by_).bind fun v21 => some (v21, (()))).bind fun r23 => some (v22, r23)).bind fun z24 => some (z24.1, z24.2.1)).bind fun v25 => some (v25, (()))).bind fun z26 => law_shown z26.1).bind fun v28 => if v28 = true then (law_shown (top, 1)).bind fun v27 => if v27 = true then law_shown (0, 1) else some false else some false) id)
end M
namespace GM
open PySem L2 TL
/-! ### texts, by their signs -/
/-- the text of these signs -/
def Sx (l : List Nat) : Str := ⟨l.toArray⟩
theorem tl_Sx (l : List Nat) : tl (Sx l) = l := rfl
theorem Sx_tl (x : Str) : Sx (tl x) = x := mk_tl x
theorem num_Sx {n : Int} (h : 0 ≤ n) : (toString n : Str) = Sx (numL n.toNat) := by
  obtain ⟨m, rfl⟩ := Int.eq_ofNat_of_zero_le h
  exact ext_tl (tl_num m)
theorem strI_eq {n : Int} (h : 0 ≤ n) (hs : Sm 1900 n) : strI n = some (Sx (numL n.toNat)) := by
  unfold strI
  rw [if_pos (Nat.lt_of_lt_of_le (hs.log (by decide)) (by decide)), num_Sx h]
theorem app_Sx (a b : List Nat) : Sx a ++ Sx b = Sx (a ++ b) := ext_tl (by rw [tl_append, tl_Sx, tl_Sx, tl_Sx])
theorem Sx_len (a : List Nat) : (Sx a).length = a.length := by rw [len_tl, tl_Sx]
theorem catS_eq {a b : List Nat} (h : a.length + b.length ≤ 16777216) : catS (Sx a) (Sx b) = some (Sx (a ++ b)) := by
  unfold catS
  rw [Sx_len, Sx_len, sizeLine_eq, if_pos h, app_Sx]
theorem appS_eq {a b : List Nat} (h : a.length + b.length ≤ 16777216) : appS (Sx a) (Sx b) = some (Sx (a ++ b)) := by
  unfold appS
  rw [app_Sx, Sx_len, List.length_append, sizeLine_eq, if_pos h]
theorem lenS_eq {a : List Nat} (h : a.length ≤ 16777216) : lenS (Sx a) = some (a.length : Int) := by
  unfold lenS
  rw [Sx_len, sizeLine_eq, if_pos h]
theorem signsC_eq {a : List Nat} (h : a.length ≤ 16777216) : signsC (Sx a) = some (a.map fun c => Sx [c]) := by
  unfold signsC
  rw [if_pos (by rw [sizeLine_eq]; simpa [Sx] using h)]
  rfl
theorem ixS0_eq {c : Nat} {a : List Nat} (h : a.length < 16777216) : ixS (Sx (c :: a)) 0 = some (Sx [c]) := by
  unfold ixS
  rw [Sx_len, sizeLine_eq, if_pos (by rw [List.length_cons]; omega), atI_some (by decide) (by rw [show (Sx (c :: a)).cps.toList = c :: a from rfl, List.length_cons]; omega)]
  rfl
theorem Sx_inj {a b : List Nat} : Sx a = Sx b ↔ a = b := ⟨fun h => by have := congrArg tl h; exact this, fun h => by rw [h]⟩
theorem inS_one (a : List Nat) (c : Nat) : inS (Sx [c]) (Sx a) = decide (c ∈ a) := PySem.StrLaws.found_one (Sx a) c
theorem intS_eq {a : List Nat} (h : NumText.AllDigits a) (h1 : a ≠ []) (h2 : a.length ≤ 640) : intS (Sx a) = some ((NumText.digitsVal a : Nat) : Int) := by
  unfold intS
  rw [Sx_len, if_pos h2]
  exact PySem.intText_digits (x := Sx a) h h1 (by rw [Sx_len]; omega)
/-- what stands before the first stroke, and behind it -/
theorem partC_eq {s : Nat} {a : List Nat} (hs : s < 256) (h : a.length ≤ 16777216) : partC (Sx a) (Sx [s]) = some (match par [s] [] a with | some (x, y) => ⟨Sx x, Sx [s], Sx y⟩ | none => ⟨Sx a, Sx [], Sx []⟩) := by
  unfold partC
  rw [if_pos ⟨by rw [Sx_len]; rfl, by rw [Sx_len, sizeLine_eq]; exact h⟩, partition_par _ _ (by rw [tl_Sx]; exact List.cons_ne_nil _ _), tl_Sx, tl_Sx]
  cases q : par [s] [] a with
  | none => rfl
  | some z => obtain ⟨x, y⟩ := z; rfl
theorem par_none_of {s : Nat} {a : List Nat} (h : s ∉ a) : par [s] [] a = none := par_none1 h
theorem par_some_of {s : Nat} {a b : List Nat} (h : s ∉ a) : par [s] [] (a ++ s :: b) = some (a, b) := by
  have := par_part1 (s := s) (S := []) (p := a) (rest := b) (acc := []) h
  rw [List.nil_append] at this
  exact this
/-- cut at each s -/
def cuts (s : Nat) (a : List Nat) : List (List Nat) := spl [s] 0 [] a
theorem map_Sx_tl : ∀ l : List Str, (l.map tl).map Sx = l
  | [] => rfl
  | x :: l => by rw [List.map_cons, List.map_cons, map_Sx_tl l, Sx_tl]
theorem split_cuts (s : Nat) (hs : s < 256) (a : List Nat) : Txt.split (Sx a) (Sx [s]) = (cuts s a).map Sx := by
  have h := split_spl (Sx a) (Sx [s]) (by rw [tl_Sx]; exact List.cons_ne_nil _ _) (kind_ok (by
    show (#[s] : Array Nat).all (· < 256) = true
    simpa using hs))
  rw [tl_Sx, tl_Sx] at h
  rw [← map_Sx_tl (Txt.split (Sx a) (Sx [s])), h]
  rfl
theorem cuts_len (s : Nat) : ∀ (a acc : List Nat), (spl [s] 0 acc a).length ≤ a.length + 1
  | [], acc => by rw [spl_nil]; simp
  | c :: a, acc => by
    cases h : pre [s] (c :: a) with
    | true =>
      rw [spl_hit h]
      have := cuts_len s a []
      show (acc :: spl [s] 0 [] a).length ≤ _
      rw [List.length_cons, List.length_cons]; omega
    | false =>
      rw [spl_miss h]
      have := cuts_len s a (acc ++ [c])
      rw [List.length_cons]; omega
theorem splitC_eq {s : Nat} {a : List Nat} (hs : s < 256) (h : a.length ≤ 16000000) : splitC (Sx a) (Sx [s]) = some ((cuts s a).map Sx) := by
  unfold splitC
  rw [split_cuts s hs, if_pos ⟨by rw [Sx_len]; rfl, by rw [Sx_len, sizeLine_eq]; omega, by
    rw [List.length_map, sizeLine_eq]
    have := cuts_len s a []
    unfold cuts
    omega⟩]
/-- joined with s between -/
abbrev joinS (s : Nat) (l : List (List Nat)) : List Nat := joinL [s] l
theorem joinC_eq {s : Nat} {l : List (List Nat)} (h : (l.map List.length).sum + l.length ≤ 16777216) : joinC (Sx [s]) (l.map Sx) = some (Sx (joinS s l)) := by
  unfold joinC
  rw [List.map_map, List.length_map, Sx_len, if_pos (by
    have e : (l.map ((fun x => x.length) ∘ Sx)) = l.map List.length := List.map_congr_left fun x _ => Sx_len x
    rw [e]
    simpa using h)]
  congr 1
  refine ext_tl ?_
  rw [join_eq, tl_join, tl_Sx, tl_Sx, List.map_map]
  have e : (l.map (tl ∘ Sx)) = l := by
    conv => rhs; rw [← List.map_id l]
    exact List.map_congr_left fun x _ => rfl
  rw [e]
theorem cuts_join {s : Nat} {l : List (List Nat)} (h : l ≠ []) (hp : ∀ p ∈ l, s ∉ p) : cuts s (joinS s l) = l := spl_join h hp
theorem joinS_len (s : Nat) : ∀ l : List (List Nat), (joinS s l).length ≤ (l.map List.length).sum + l.length
  | [] => Nat.zero_le _
  | [p] => by show p.length ≤ _; simp
  | p :: q :: r => by
    have h : (joinL [s] (q :: r)).length ≤ _ := joinS_len s (q :: r)
    show (p ++ ([s] ++ joinL [s] (q :: r))).length ≤ _
    rw [List.length_append, List.length_append, List.map_cons, List.sum_cons, List.length_cons (a := p)]
    simp only [List.length_cons, List.length_nil] at h ⊢
    omega
theorem joinS_mem {s : Nat} {c : Nat} : ∀ {l : List (List Nat)}, c ∈ joinS s l → c = s ∨ ∃ p ∈ l, c ∈ p
  | [], h => absurd h List.not_mem_nil
  | [p], h => .inr ⟨p, List.mem_singleton.mpr rfl, h⟩
  | p :: q :: r, h => by
    have h : c ∈ p ++ ([s] ++ joinL [s] (q :: r)) := h
    rcases List.mem_append.mp h with h | h
    · exact .inr ⟨p, List.mem_cons_self, h⟩
    · rcases List.mem_append.mp h with h | h
      · exact .inl (List.mem_singleton.mp h)
      · rcases joinS_mem (l := q :: r) h with h | ⟨p', h1, h2⟩
        · exact .inl h
        · exact .inr ⟨p', List.mem_cons_of_mem _ h1, h2⟩
/-! ### numbers and amounts, as a word writes them -/
/-- the number that these signs write, from a to b -/
def numV (l : List Nat) (a b : Int) : Option Int :=
  if l = [] ∨ 12 < l.length ∨ (l.head? = some 48 ∧ 1 < l.length) ∨ ¬ (∀ c ∈ l, 48 ≤ c ∧ c ≤ 57) then none
  else if ((NumText.digitsVal l : Nat) : Int) < a ∨ b < ((NumText.digitsVal l : Nat) : Int) then none else some ((NumText.digitsVal l : Nat) : Int)
/-- the amount that they write -/
def amV (l : List Nat) : Option (Int × Int) :=
  match par [47] [] l with
  | none => (numV l 0 1000000000000).map fun n => (n, 1)
  | some (x, y) => match numV x 0 1000000000000, numV y 2 12 with
    | some n, some u => if Int.gcd n u = 1 then some (n, u) else none
    | _, _ => none
theorem digit_mem {c : Nat} : c ∈ ([48, 49, 50, 51, 52, 53, 54, 55, 56, 57] : List Nat) ↔ 48 ≤ c ∧ c ≤ 57 := by
  simp only [List.mem_cons, List.not_mem_nil, or_false]
  omega
theorem figures_Sx : Str.ofString "0123456789" = Sx [48, 49, 50, 51, 52, 53, 54, 55, 56, 57] := by decide +kernel
theorem numL_head : ∀ {n : Nat}, (numL n).head? = some 48 → (numL n).length = 1 := by
  intro n
  induction n using Nat.strongRecOn with
  | _ n ih =>
    intro h
    by_cases q : n < 10
    · rw [numL_lt q]; rfl
    · exfalso
      rw [numL_step (by omega)] at h
      have hne := numL_ne (n / 10)
      cases e : numL (n / 10) with
      | nil => exact hne e
      | cons c l =>
        rw [e] at h
        have h' : c = 48 := by simpa using h
        have l1 := ih (n / 10) (by omega) (by rw [e, h']; rfl)
        have v := numL_val (n / 10)
        rw [e] at l1 v
        have : l = [] := by
          rw [List.length_cons] at l1
          exact List.length_eq_zero_iff.mp (by omega)
        rw [this, h'] at v
        have : n / 10 = 0 := by rw [← v]; decide
        omega
theorem numV_num {n : Nat} {a b : Int} (h : n < 10 ^ 12) (ha : a ≤ n) (hb : (n : Int) ≤ b) : numV (numL n) a b = some (n : Int) := by
  unfold numV
  rw [if_neg, if_neg, numL_val]
  · rw [numL_val]; omega
  · have l1 := numL_len (k := 12) (by decide) h
    rintro (z | z | z | z)
    · exact numL_ne n z
    · omega
    · have := numL_head z.1; omega
    · exact z (numL_digits n)
/-- an amount as it is written -/
def amL (z : Int × Int) : List Nat := if z.2 = 1 then numL z.1.toNat else numL z.1.toNat ++ 47 :: numL z.2.toNat
structure Am (z : Int × Int) : Prop where
  t0 : 0 ≤ z.1
  t1 : z.1 < 1000000000000
  b0 : 1 ≤ z.2
  b1 : z.2 ≤ 12
  g : Int.gcd z.1 z.2 = 1
theorem amV_amL {z : Int × Int} (h : Am z) : amV (amL z) = some z := by
  obtain ⟨t, b⟩ := z
  obtain ⟨h1, h2, h3, h4, h5⟩ := h
  dsimp only at h1 h2 h3 h4 h5
  unfold amV amL
  dsimp only
  by_cases q : b = 1
  · rw [if_pos q, par_none_of (numL_free (.inl (by decide)))]
    show (numV (numL t.toNat) 0 1000000000000).map _ = _
    rw [numV_num (by omega) (by omega) (by omega)]
    show some ((t.toNat : Int), (1 : Int)) = _
    rw [q, Int.toNat_of_nonneg h1]
  · rw [if_neg q, par_some_of (numL_free (.inl (by decide)))]
    show (match numV (numL t.toNat) 0 1000000000000, numV (numL b.toNat) 2 12 with
    | some n, some u => if Int.gcd n u = 1 then some (n, u) else none
    | _, _ => none) = _
    rw [numV_num (by omega) (by omega) (by omega), numV_num (by omega) (by omega) (by omega)]
    show (if Int.gcd (t.toNat : Int) (b.toNat : Int) = 1 then some ((t.toNat : Int), (b.toNat : Int)) else none) = _
    rw [Int.toNat_of_nonneg h1, Int.toNat_of_nonneg (by omega), if_pos h5]
theorem amL_free {z : Int × Int} {s : Nat} (h : s < 47) : s ∉ amL z := by
  unfold amL
  split
  · exact numL_free (.inl (by omega))
  · intro q
    rcases List.mem_append.mp q with q | q
    · exact numL_free (.inl (by omega)) q
    · rcases List.mem_cons.mp q with q | q
      · omega
      · exact numL_free (.inl (by omega)) q
theorem amL_len {z : Int × Int} (h : Am z) : (amL z).length ≤ 15 := by
  have h1 := h.t0
  have h2 := h.t1
  have h3 := h.b0
  have h4 := h.b1
  have l1 := numL_len (n := z.1.toNat) (k := 12) (by decide) (by omega)
  have l2 := numL_len (n := z.2.toNat) (k := 2) (by decide) (by omega)
  unfold amL
  split
  · omega
  · rw [List.length_append, List.length_cons]; omega
end GM

namespace M
open PySem L2 GM
theorem common_factor_eq {h l : Int} (h0 : 0 ≤ h) (l0 : 0 ≤ l) (ls : Sm 3000 l) : common_factor h l = some ((Int.gcd h l : Nat) : Int) := by
  obtain ⟨s, h1, ⟨i1, i2, i3⟩, h2⟩ := whileS_spec (S := Int × Int) (c := fun s1 => some (decide (0 < s1.2))) (f := fun s1 =>
    (((modC s1.1 s1.2).bind fun v2 => some (v2, (()))).bind fun r3 => some (s1.2, r3)).bind fun z4 => some (z4.1, z4.2.1)) (fun s => 0 ≤ s.1 ∧ 0 ≤ s.2 ∧ Int.gcd s.1 s.2 = Int.gcd h l) (fun s => s.2.toNat) (fun s ⟨i1, i2, i3⟩ => by
      refine ⟨_, rfl, fun hb => ?_⟩
      have hp : 0 < s.2 := of_decide_eq_true hb
      refine ⟨(s.2, s.1 % s.2), by rw [modC_eq hp]; rfl, ⟨i2, Int.emod_nonneg _ (by omega), ?_⟩, ?_⟩
      · rw [gcd_step]; exact i3
      · have := Int.emod_lt_of_pos s.1 hp
        have := Int.emod_nonneg s.1 (show s.2 ≠ 0 by omega)
        show (s.1 % s.2).toNat < s.2.toNat
        omega) FU (h, l) ⟨h0, l0, rfl⟩ (lt_FU (by
          unfold Sm at ls
          show l.toNat < _
          omega))
  have z : s.2 = 0 := by
    have := of_decide_eq_false (Option.some.inj h2)
    omega
  unfold common_factor
  rw [h1]
  show some s.1 = _
  rw [← i3, z, Int.gcd_zero_right]
  congr 1
  omega
end M

namespace M
open PySem L2 GM
theorem empty_Sx : Str.ofString "" = Sx [] := rfl
theorem zero_Sx : Str.ofString "0" = Sx [48] := by decide +kernel
theorem stroke_Sx : Str.ofString "/" = Sx [47] := by decide +kernel
theorem numV_bnd {l : List Nat} {a b n : Int} (h : numV l a b = some n) : a ≤ n ∧ n ≤ b ∧ 0 ≤ n := by
  unfold numV at h
  split at h
  · cases h
  · split at h
    · cases h
    · cases h; omega
theorem number_in_eq {l : List Nat} {a b : Int} (h : l.length ≤ 16000000) : number_in (Sx l) a b = some (numV l a b) := by
  unfold number_in
  cases l with
  | nil => rfl
  | cons c l =>
    have hl : l.length + 1 ≤ 16000000 := h
    rw [empty_Sx, zero_Sx, figures_Sx, if_neg (by rw [decide_eq_true_eq, Sx_inj]; exact List.cons_ne_nil _ _), lenS_eq (by omega), ixS0_eq (by omega), signsC_eq (by omega)]
    simp only [obs, List.length_cons]
    unfold numV
    by_cases h1 : 12 < l.length + 1
    · rw [decide_eq_true (show (12 : Int) < ((l.length + 1 : Nat) : Int) by omega), if_pos rfl, obs, if_pos rfl, if_pos (.inr (.inl h1))]
    · rw [decide_eq_false (show ¬ (12 : Int) < ((l.length + 1 : Nat) : Int) by omega), if_neg Bool.false_ne_true]
      by_cases h2 : c = 48 ∧ 1 < l.length + 1
      · rw [if_pos (by rw [decide_eq_true_eq, Sx_inj, h2.1]), decide_eq_true (show (1 : Int) < ((l.length + 1 : Nat) : Int) by omega), obs, if_pos rfl, if_pos (.inr (.inr (.inl ⟨by rw [h2.1]; rfl, h2.2⟩)))]
      · have e : (if decide (Sx [c] = Sx [48]) = true then some (decide (1 < ((l.length + 1 : Nat) : Int))) else some false) = some false := by
          by_cases q : c = 48
          · rw [if_pos (by rw [decide_eq_true_eq, Sx_inj, q]), decide_eq_false (by omega)]
          · rw [if_neg (by rw [decide_eq_true_eq, Sx_inj]; exact fun z => q (List.cons.inj z).1)]
        rw [e, obs, if_neg Bool.false_ne_true]
        by_cases h3 : ∀ x ∈ c :: l, 48 ≤ x ∧ x ≤ 57
        · rw [forF_all (s := ()) fun x hx => by
            obtain ⟨y, hy, rfl⟩ := List.mem_map.mp hx
            rw [inS_one, decide_eq_true (digit_mem.mpr (h3 y hy))]; rfl]
          show (intS (Sx (c :: l))).bind _ = _
          rw [intS_eq h3 (List.cons_ne_nil _ _) (by rw [List.length_cons]; omega), obs, if_neg (c := _ ∨ _) (by
            rintro (z | z | z | z)
            · exact List.cons_ne_nil _ _ z
            · rw [List.length_cons] at z; omega
            · exact h2 ⟨by simpa using z.1, z.2⟩
            · exact z h3)]
          by_cases q : ((NumText.digitsVal (c :: l) : Nat) : Int) < a ∨ b < ((NumText.digitsVal (c :: l) : Nat) : Int)
          · rw [if_pos (by rw [Bool.or_eq_true, decide_eq_true_eq, decide_eq_true_eq]; exact q), if_pos q]
          · rw [if_neg (by rw [Bool.or_eq_true, decide_eq_true_eq, decide_eq_true_eq]; exact q), if_neg q]
        · rw [if_pos (c := _ ∨ _) (.inr (.inr (.inr h3)))]
          have key : ∀ m : List Nat, (¬ ∀ x ∈ m, 48 ≤ x ∧ x ≤ 57) → forF (R := Option Int) (m.map fun c => Sx [c]) () (fun (sign : Str) (_ : Unit) => if (!inS sign (Sx [48, 49, 50, 51, 52, 53, 54, 55, 56, 57])) = true then some (Fl.ret none) else some (Fl.go ())) = some (.ret none) := by
            intro m
            induction m with
            | nil => intro k; exact absurd (fun x hx => absurd hx List.not_mem_nil) k
            | cons y m ih =>
              intro k
              rw [List.map_cons]
              unfold forF
              by_cases q : 48 ≤ y ∧ y ≤ 57
              · rw [inS_one, decide_eq_true (digit_mem.mpr q)]
                exact ih fun z => k fun x hx => by
                  rcases List.mem_cons.mp hx with rfl | hx
                  · exact q
                  · exact z x hx
              · rw [inS_one, decide_eq_false (fun z => q (digit_mem.mp z))]
                rfl
          rw [key _ h3]
          rfl
theorem par_len {s : Nat} : ∀ {l acc a b : List Nat}, TL.par [s] acc l = some (a, b) → a.length ≤ acc.length + l.length ∧ b.length ≤ l.length
  | [], _, _, _, h => by cases h
  | c :: l, acc, a, b, h => by
    cases q : TL.pre [s] (c :: l) with
    | true =>
      rw [TL.par_hit q] at h
      cases h
      rw [List.length_drop]; exact ⟨by omega, by omega⟩
    | false =>
      rw [TL.par_miss q] at h
      obtain ⟨h1, h2⟩ := par_len h
      rw [List.length_append] at h1
      simp only [List.length_cons, List.length_nil] at h1 h2 ⊢
      omega
theorem amount_in_eq {l : List Nat} (h : l.length ≤ 16000000) : amount_in (Sx l) = some (amV l) := by
  unfold amount_in
  rw [stroke_Sx, partC_eq (by decide) (by omega), obs]
  unfold amV
  cases q : TL.par [47] [] l with
  | none =>
    show (number_in (Sx l) 0 1000000000000).bind _ = _
    rw [number_in_eq h, obs]
    show (if decide (Sx [] = Sx []) = true then _ else _) = _
    rw [if_pos (decide_eq_true rfl)]
    show _ = some ((numV l 0 1000000000000).map fun n => (n, 1))
    cases numV l 0 1000000000000 <;> rfl
  | some z =>
    obtain ⟨x, y⟩ := z
    obtain ⟨lx, ly⟩ := par_len q
    rw [List.length_nil] at lx
    show (number_in (Sx x) 0 1000000000000).bind _ = _
    rw [number_in_eq (by omega), obs]
    show (if decide (Sx [47] = Sx []) = true then _ else (number_in (Sx y) 2 12).bind _) = _
    rw [if_neg (by decide +kernel), number_in_eq (by omega), obs]
    show _ = some (match numV x 0 1000000000000, numV y 2 12 with
      | some n, some u => if Int.gcd n u = 1 then some (n, u) else none
      | _, _ => none)
    cases h1 : numV x 0 1000000000000 with
    | none => rfl
    | some n =>
      cases h2 : numV y 2 12 with
      | none => rfl
      | some u =>
        obtain ⟨_, _, n0⟩ := numV_bnd h1
        obtain ⟨_, u1, u0⟩ := numV_bnd h2
        show (((common_factor n u).bind fun v9 => some (!decide (v9 = 1))).bind _) = _
        rw [common_factor_eq n0 u0 (Sm.of 3000 12 (by decide +kernel) (by omega) (by omega)), obs, obs]
        by_cases g : Int.gcd n u = 1
        · rw [decide_eq_true (show ((Int.gcd n u : Nat) : Int) = 1 by omega)]
          show some (some (n, u)) = some (if Int.gcd n u = 1 then some (n, u) else none)
          rw [if_pos g]
        · rw [decide_eq_false (show ¬ ((Int.gcd n u : Nat) : Int) = 1 by omega)]
          show some none = some (if Int.gcd n u = 1 then some (n, u) else none)
          rw [if_neg g]
theorem amounts_in_eq {line least : Int} {zs : List (Int × Int)} {ls : List (List Nat)} (h : ls.map amV = zs.map some) (hl : ∀ z ∈ zs, least ≤ z.1) (hs : ∀ l ∈ ls, l.length ≤ 16000000) (hn : ls.length ≤ 1000) :
    amounts_in (ls.map Sx) line least = some zs := by
  unfold amounts_in
  have key : ∀ (ls : List (List Nat)) (zs acc : List (Int × Int)), ls.map amV = zs.map some → (∀ z ∈ zs, least ≤ z.1) → (∀ l ∈ ls, l.length ≤ 16000000) → acc.length + ls.length ≤ 1000 →
      forS (ls.map Sx) acc (fun (word : Str) (s1 : (List (Int × Int))) =>
    (amount_in word).bind fun one =>
    (if one.isNone = true then some true else ((unN one).bind fun v2 => some v2.1).bind fun v3 => some (decide (v3 < least))).bind fun v5 => if v5 = true then
      (none : Option ((List (Int × Int))))
    else
      (unN one).bind fun v4 => (appC s1 v4).bind fun found =>
      some found) = some (acc ++ zs) := by
    intro ls
    induction ls with
    | nil =>
      intro zs acc e _ _ _
      cases zs with
      | nil => rw [List.append_nil]; rfl
      | cons z zs => cases e
    | cons l ls ih =>
      intro zs acc e h1 h2 h3
      cases zs with
      | nil => cases e
      | cons z zs =>
        rw [List.map_cons, List.map_cons] at e
        obtain ⟨e1, e2⟩ := List.cons.inj e
        rw [List.length_cons] at h3
        have hz := h1 z List.mem_cons_self
        rw [List.map_cons]
        unfold forS
        rw [amount_in_eq (h2 l List.mem_cons_self), e1, obs]
        show ((some (decide (z.1 < least))).bind _).bind _ = _
        rw [obs, decide_eq_false (by omega), if_neg Bool.false_ne_true]
        show ((appC acc z).bind fun found => some found).bind _ = _
        rw [appC_eq (by omega), obs, obs, ih zs (acc ++ [z]) e2 (fun y hy => h1 y (List.mem_cons_of_mem _ hy)) (fun y hy => h2 y (List.mem_cons_of_mem _ hy)) (by rw [List.length_append]; simp only [List.length_cons, List.length_nil]; omega), List.append_assoc]
        rfl
  show (forS (ls.map Sx) [] _).bind _ = _
  rw [key ls zs [] h hl hs (by rw [List.length_nil]; omega), obs, List.nil_append]
end M

namespace M
open PySem L2 GM
theorem cell_eq (script : List Int) {k : Int} (h : 0 ≤ k) : ∃ c, law_cell_at script k = some c := by
  unfold law_cell_at
  by_cases q : k < (script.length : Int)
  · rw [if_pos (decide_eq_true q)]
    exact ⟨_, atI_some h q⟩
  · rw [if_neg (by simpa using q)]
    exact ⟨0, rfl⟩
theorem mapO_ex {α β : Type} {f : α → Option β} {p : β → Prop} : ∀ {xs : List α}, (∀ x ∈ xs, ∃ y, f x = some y ∧ p y) → ∃ ys, mapO xs f = some ys ∧ ys.length = xs.length ∧ ∀ y ∈ ys, p y
  | [], _ => ⟨[], rfl, rfl, fun y hy => absurd hy List.not_mem_nil⟩
  | x :: xs, h => by
    obtain ⟨y, e1, p1⟩ := h x List.mem_cons_self
    obtain ⟨ys, e2, l2, p2⟩ := mapO_ex (xs := xs) fun z hz => h z (List.mem_cons_of_mem _ hz)
    refine ⟨y :: ys, ?_, by rw [List.length_cons, List.length_cons, l2], fun z hz => ?_⟩
    · unfold mapO
      rw [e1, e2]; rfl
    · rcases List.mem_cons.mp hz with rfl | hz
      · exact p1
      · exact p2 z hz
theorem number_eq (c : Int) {k : Int} (h0 : 0 ≤ k) (h1 : k ≤ 1000) : ∃ v, law_number c k = some v ∧ 0 ≤ v ∧ v < 2147483647 := by
  have sk : Sm 20 k := Sm.of 20 1000 (by decide) (by omega) (by omega)
  have kk : 0 ≤ k * k := Int.mul_nonneg h0 h0
  have kl : k * k ≤ 1000 * 1000 := Int.mul_le_mul h1 h1 h0 (by decide)
  have c0 := Int.emod_nonneg c (show (100000000000000000000 : Int) ≠ 0 by decide)
  have c1 := Int.emod_lt_of_pos c (show (0 : Int) < 100000000000000000000 by decide)
  unfold law_number
  rw [mulC_eq sk sk, obs, obs, obs, mulC_eq (m := 80) (n := 80) (Sm.of 80 100000000000001000003 (by decide) (by omega) (by omega)) (Sm.of 80 100000 (by decide) (by omega) (by omega)), obs]
  exact ⟨_, rfl, Int.emod_nonneg _ (by decide), Int.emod_lt_of_pos _ (by decide)⟩
end M

namespace M
open PySem L2 GM
/-! ### drawn amounts, their unit, how they are written -/
theorem divisor_eq {h l : Int} (h0 : 0 ≤ h) (l0 : 0 ≤ l) (ls : Sm 3000 l) : law_divisor h l = some ((Int.gcd h l : Nat) : Int) := common_factor_eq h0 l0 ls
theorem part_eq {b t : Int} (b0 : 1 ≤ b) (t0 : 0 ≤ t) (n : Nat) (ts : Sm 3000 t) (bs : Sm 3000 b) : ∃ z : Int × Int, ((law_divisor b t).bind fun by_ =>
    ((divC t by_).bind fun v3 => ((divC b by_).bind fun v2 => some (v2, (()))).bind fun r4 => some (v3, r4)).bind fun z5 : Int × Int × Unit => some (z5.1, z5.2.1)) = some z ∧ 0 ≤ z.1 ∧ z.1 ≤ t ∧ 1 ≤ z.2 ∧ z.2 ≤ b ∧ Int.gcd z.1 z.2 = 1 := by
  have g0 : 0 < ((Int.gcd b t : Nat) : Int) := by
    have := Int.gcd_pos_of_ne_zero_left t (show b ≠ 0 by omega)
    omega
  have gl : ((Int.gcd b t : Nat) : Int) ≤ b := Int.le_of_dvd (by omega) (Int.gcd_dvd_left ..)
  have gd : ((Int.gcd b t : Nat) : Int) ∣ b := Int.gcd_dvd_left ..
  have sg : Sm 3000 ((Int.gcd b t : Nat) : Int) := bs.pos_le (by omega) gl
  rw [divisor_eq (by omega) t0 ts, obs, divC_eq g0 sg, divC_eq g0 sg, obs, obs, obs, obs]
  refine ⟨_, rfl, Int.ediv_nonneg t0 (by omega), Int.ediv_le_self _ t0, ?_, Int.ediv_le_self _ (by omega), ?_⟩
  · have := Int.ediv_pos_of_pos_of_dvd (show 0 < b by omega) (by omega) gd
    show 1 ≤ b / _
    omega
  · rw [Int.gcd_comm b t]
    exact Int.gcd_ediv_gcd_ediv_gcd (by rw [Int.gcd_comm]; omega)
theorem parts_eq (c : Int) {k : Int} (h0 : 0 ≤ k) (h1 : k ≤ 500) : ∃ z, law_parts c k = some z ∧ Am z := by
  obtain ⟨n, e, n0, n1⟩ := number_eq c (k := k + 400) (by omega) (by omega)
  have c0 := Int.emod_nonneg c (show (100000000000000000000 : Int) ≠ 0 by decide)
  have bt : ∃ b, atI [1, 1, 2, 3, 4, 6, 7, 12, 1 + ((n / 8) % 12)] ((n / 128) % 9) = some b ∧ 1 ≤ b ∧ b ≤ 12 := by
    rw [atI_some (by omega) (by simp; omega)]
    refine ⟨_, rfl, ?_⟩
    have all : ∀ x ∈ [1, 1, 2, 3, 4, 6, 7, 12, 1 + ((n / 8) % 12)], 1 ≤ x ∧ x ≤ 12 := by
      intro x hx
      simp only [List.mem_cons, List.not_mem_nil, or_false] at hx
      omega
    exact all _ (List.getElem_mem _)
  obtain ⟨b, e2, b0, b1⟩ := bt
  unfold law_parts
  rw [e, obs, e2, obs]
  have tp : ∃ t, (if (decide (n % 3 = 0)) = true then some ((((c % 100000000000000000000) * 48271) + n) % 1000000000000) else some ((n / 1200) % 30)) = some t ∧ 0 ≤ t ∧ t < 1000000000000 := by
    split
    · exact ⟨_, rfl, Int.emod_nonneg _ (by decide), Int.emod_lt_of_pos _ (by decide)⟩
    · exact ⟨_, rfl, by omega, by omega⟩
  obtain ⟨t, e3, t0, t1⟩ := tp
  obtain ⟨z, e4, z1, z2, z3, z4, z5⟩ := part_eq b0 t0 3000 (Sm.of 3000 1000000000000 (by decide +kernel) (by omega) (by omega)) (Sm.of 3000 12 (by decide +kernel) (by omega) (by omega))
  refine ⟨z, ?_, z1, by omega, z3, by omega, z5⟩
  show ((if (decide (n % 3 = 0)) = true then some ((((c % 100000000000000000000) * 48271) + n) % 1000000000000) else some ((n / 1200) % 30)).bind _) = _
  rw [e3, obs]
  exact e4
theorem stroke_Sx' : Str.ofString "/" = Sx [47] := by decide +kernel
/-- a fraction as it is written -/
theorem written_eq {z : Int × Int} (t0 : 0 ≤ z.1) (b0 : 1 ≤ z.2) (ts : Sm 1900 z.1) (bs : Sm 1900 z.2) (hl : (TL.numL z.1.toNat).length + 1 + (TL.numL z.2.toNat).length ≤ 16777216) : law_written z = some (Sx (amL z)) := by
  unfold law_written amL
  by_cases q : z.2 = 1
  · rw [if_pos (decide_eq_true q), if_pos q, strI_eq t0 ts]
  · rw [if_neg (by simpa using q), if_neg q, strI_eq t0 ts, strI_eq (by omega) bs, obs, stroke_Sx', catS_eq (by simp; omega), obs, obs, catS_eq (by simp; omega), List.append_assoc]
    rfl
theorem am_sm {z : Int × Int} (h : Am z) : Sm 60 z.1 ∧ Sm 60 z.2 := by
  have := h.t0
  have := h.t1
  have := h.b0
  have := h.b1
  exact ⟨Sm.of 60 1000000000000 (by decide) (by omega) (by omega), Sm.of 60 12 (by decide) (by omega) (by omega)⟩
theorem am_written {z : Int × Int} (h : Am z) : law_written z = some (Sx (amL z)) := by
  have := h.t0
  have := h.t1
  have := h.b0
  have := h.b1
  have l1 := TL.numL_len (n := z.1.toNat) (k := 12) (by decide) (by omega)
  have l2 := TL.numL_len (n := z.2.toNat) (k := 2) (by decide) (by omega)
  exact written_eq h.t0 h.b0 ((am_sm h).1.mono (by decide)) ((am_sm h).2.mono (by decide)) (by omega)
/-- the least whole number of which all bottoms are divisors -/
def unF (u b : Int) : Int := u * b / ((Int.gcd u b : Nat) : Int)
def unL (l : List (Int × Int)) : Int := l.foldl (fun u z => unF u z.2) 1
theorem twelve {b : Int} (b0 : 1 ≤ b) (b1 : b ≤ 12) : b ∣ 27720 := by
  have : b = 1 ∨ b = 2 ∨ b = 3 ∨ b = 4 ∨ b = 5 ∨ b = 6 ∨ b = 7 ∨ b = 8 ∨ b = 9 ∨ b = 10 ∨ b = 11 ∨ b = 12 := by omega
  rcases this with rfl | rfl | rfl | rfl | rfl | rfl | rfl | rfl | rfl | rfl | rfl | rfl <;> decide
structure Un (u : Int) : Prop where
  p : 0 < u
  d : u ∣ 27720
theorem Un.le {u : Int} (h : Un u) : u ≤ 27720 := Int.le_of_dvd (by decide) h.d
theorem unF_lcm {u b : Int} (u0 : 0 < u) (b0 : 0 < b) : unF u b = ((Int.lcm u b : Nat) : Int) := by
  unfold unF
  have g0 : 0 < ((Int.gcd u b : Nat) : Int) := gcd_pos_right b0
  refine Int.ediv_eq_of_eq_mul_left (by omega) ?_
  have h := Int.gcd_mul_lcm u b
  have e : u * b = ((u.natAbs * b.natAbs : Nat) : Int) := by
    rw [Int.natCast_mul]
    rw [Int.natAbs_of_nonneg (by omega), Int.natAbs_of_nonneg (by omega)]
  rw [e, ← h, Int.natCast_mul, Int.mul_comm]
theorem Un.step {u b : Int} (h : Un u) (b0 : 1 ≤ b) (b1 : b ≤ 12) : Un (unF u b) := by
  have hp := h.p
  have e := unF_lcm h.p (show 0 < b by omega)
  refine ⟨?_, ?_⟩
  · rw [e]
    have := Int.lcm_pos (show u ≠ 0 by omega) (show b ≠ 0 by omega)
    omega
  · rw [e]
    exact Int.coe_lcm_dvd h.d (twelve b0 b1)
theorem un_of : ∀ {l : List (Int × Int)} {u : Int}, Un u → (∀ z ∈ l, 1 ≤ z.2 ∧ z.2 ≤ 12) → Un (l.foldl (fun u z => unF u z.2) u)
  | [], _, h, _ => h
  | z :: l, _, h, k => un_of (l := l) (h.step (k z List.mem_cons_self).1 (k z List.mem_cons_self).2) fun y hy => k y (List.mem_cons_of_mem _ hy)
theorem unL_un {l : List (Int × Int)} (h : ∀ z ∈ l, Am z) : Un (unL l) := un_of ⟨by decide, by decide⟩ fun z hz => ⟨(h z hz).b0, (h z hz).b1⟩
theorem un_dvd : ∀ {l : List (Int × Int)} {u : Int}, 0 < u → (∀ z ∈ l, 1 ≤ z.2) → u ∣ l.foldl (fun u z => unF u z.2) u ∧ ∀ z ∈ l, z.2 ∣ l.foldl (fun u z => unF u z.2) u
  | [], u, _, _ => ⟨Int.dvd_refl _, fun z hz => absurd hz List.not_mem_nil⟩
  | z :: l, u, h, k => by
    have hz := k z List.mem_cons_self
    have e := unF_lcm h (show 0 < z.2 by omega)
    have up : 0 < unF u z.2 := by
      rw [e]
      have := Int.lcm_pos (show u ≠ 0 by omega) (show z.2 ≠ 0 by omega)
      omega
    obtain ⟨h1, h2⟩ := un_dvd (l := l) up fun y hy => k y (List.mem_cons_of_mem _ hy)
    rw [List.foldl_cons]
    refine ⟨Int.dvd_trans (by rw [e]; exact Int.dvd_lcm_left ..) h1, fun y hy => ?_⟩
    rcases List.mem_cons.mp hy with rfl | hy
    · exact Int.dvd_trans (by rw [e]; exact Int.dvd_lcm_right ..) h1
    · exact h2 y hy
theorem unL_dvd {l : List (Int × Int)} (h : ∀ z ∈ l, Am z) : ∀ z ∈ l, z.2 ∣ unL l := (un_dvd (by decide) fun z hz => (h z hz).b0).2
theorem un_step_eq {u b : Int} (h : Un u) (b0 : 1 ≤ b) (b1 : b ≤ 12) {cf : Int → Int → Option Int} (hc : cf u b = some ((Int.gcd u b : Nat) : Int)) : ((mulC u b).bind fun v3 => (cf u b).bind fun v4 => divC v3 v4) = some (unF u b) := by
  have := h.le
  have := h.p
  have g0 : 0 < ((Int.gcd u b : Nat) : Int) := gcd_pos_right (by omega)
  have gl : ((Int.gcd u b : Nat) : Int) ≤ b := gcd_le_right' (by omega)
  rw [mulC_eq (m := 60) (n := 60) (Sm.of 60 27720 (by decide) (by omega) (by omega)) (Sm.of 60 12 (by decide) (by omega) (by omega)), obs, hc, obs, divC_eq (n := 60) g0 (Sm.of 60 12 (by decide) (by omega) (by omega))]
  rfl
theorem law_unit_eq {l : List (Int × Int)} (h : ∀ z ∈ l, Am z) : law_unit l = some (unL l) := by
  unfold law_unit unL
  dsimp only
  rw [(forS_fold (g := fun u z => unF u z.2) (fun u => Un u) l 1 ⟨by decide, by decide⟩ fun z hz u hu => by
    have a := h z hz
    refine ⟨?_, hu.step a.b0 a.b1⟩
    rw [un_step_eq hu a.b0 a.b1 (divisor_eq (by have := hu.p; omega) (by have := a.b0; omega) ((am_sm a).2.mono (by decide))), obs]).1]
  rfl
theorem unit_of_eq {l : List (Int × Int)} (h : ∀ z ∈ l, Am z) : unit_of l = some (unL l) := by
  unfold unit_of unL
  dsimp only
  rw [(forS_fold (g := fun u z => unF u z.2) (fun u => Un u) l 1 ⟨by decide, by decide⟩ fun z hz u hu => by
    have a := h z hz
    refine ⟨?_, hu.step a.b0 a.b1⟩
    rw [un_step_eq hu a.b0 a.b1 (common_factor_eq (by have := hu.p; omega) (by have := a.b0; omega) ((am_sm a).2.mono (by decide))), obs]).1]
  rfl
/-- an amount by the unit -/
def whF (u : Int) (z : Int × Int) : Int := z.1 * u / z.2
theorem wh_eq {u : Int} (h : Un u) {z : Int × Int} (a : Am z) : ((mulC z.1 u).bind fun v2 => divC v2 z.2) = some (whF u z) := by
  have := h.le
  have := h.p
  have hp := a.b0
  rw [mulC_eq (m := 60) (n := 60) (am_sm a).1 (Sm.of 60 27720 (by decide) (by omega) (by omega)), obs, divC_eq (n := 60) (by omega) (am_sm a).2]
  rfl
theorem law_wholes_eq {u : Int} (h : Un u) {l : List (Int × Int)} (hl : ∀ z ∈ l, Am z) : law_wholes l u = some (l.map (whF u)) := mapO_eq fun z hz => wh_eq h (hl z hz)
theorem whole_by_eq {u : Int} (h : Un u) {z : Int × Int} (a : Am z) : whole_by z u = some (whF u z) := wh_eq h a
end M

namespace M
open PySem L2 GM
theorem blank_Sx : Str.ofString " " = Sx [32] := by decide +kernel
theorem end_Sx : Str.ofString "\n" = Sx [10] := by decide +kernel
theorem touch_Sx : Str.ofString "touch" = Sx [116, 111, 117, 99, 104] := by decide +kernel
/-- fractions of any size -/
structure Fr (z : Int × Int) : Prop where
  t0 : 0 ≤ z.1
  b0 : 1 ≤ z.2
  g : Int.gcd z.1 z.2 = 1
  ts : Sm 300 z.1
  bs : Sm 300 z.2
theorem numL_sm {n : Int} (h : 0 ≤ n) (s : Sm 300 n) : (TL.numL n.toNat).length ≤ 300 := TL.numL_len (by decide) (Nat.lt_of_lt_of_le (by unfold Sm at s; omega : n.toNat < 2 ^ 300) (Nat.pow_le_pow_left (by decide) 300))
theorem shown_eq {z : Int × Int} (h : Fr z) : shown_amount z = some (Sx (amL z)) := by
  have t0 := h.t0
  have b0 := h.b0
  have l1 := numL_sm h.t0 h.ts
  have l2 := numL_sm (by omega) h.bs
  unfold shown_amount
  dsimp only
  rw [dmC_eq (n := 300) (by omega) h.bs, obs]
  dsimp only
  unfold amL
  by_cases q : z.2 = 1
  · rw [if_pos q, q, Int.emod_one, Int.ediv_one, if_neg (by simp), strI_eq h.t0 (h.ts.mono (by decide))]
  · have nz : 0 < z.1 % z.2 := by
      have := Int.emod_nonneg z.1 (show z.2 ≠ 0 by omega)
      rcases Int.lt_or_eq_of_le this with k | k
      · exact k
      · exfalso
        have d : z.2 ∣ z.1 := Int.dvd_of_emod_eq_zero k.symm
        have d2 : z.2 ∣ ((Int.gcd z.1 z.2 : Nat) : Int) := Int.dvd_coe_gcd d (Int.dvd_refl _)
        rw [h.g] at d2
        have := Int.le_of_dvd (by decide) d2
        omega
    rw [if_neg q, if_pos (decide_eq_true nz), strI_eq h.t0 (h.ts.mono (by decide)), strI_eq (by omega) (h.bs.mono (by decide)), stroke_Sx']
    show ((some (Sx (TL.numL z.1.toNat))).bind fun y => (appS (Sx []) y).bind _) = _
    rw [obs, appS_eq (by simp; omega), obs, obs, appS_eq (by simp; omega), obs, obs, appS_eq (by simp; omega), obs, List.nil_append, List.append_assoc]
    rfl
theorem shown_ok {z : Int × Int} (h : Fr z) : law_shown z = some true := by
  have l1 := numL_sm h.t0 h.ts
  have l2 := numL_sm (by have := h.b0; omega) h.bs
  unfold law_shown
  rw [shown_eq h, obs, if_pos rfl, written_eq h.t0 h.b0 (h.ts.mono (by decide)) (h.bs.mono (by decide)) (by omega), obs, decide_eq_true rfl]
theorem fr_am {z : Int × Int} (h : Am z) : Fr z := ⟨h.t0, h.b0, h.g, (am_sm h).1.mono (by decide), (am_sm h).2.mono (by decide)⟩
theorem is_wholes_refl (xs : List Int) : law_is_wholes xs xs = some true := by
  unfold law_is_wholes
  rw [if_neg (by simp)]
  rw [forF_all (s := ()) fun x hx => by
    have e : x.1 = x.2 := by
      obtain ⟨i, hi, e⟩ := List.getElem_of_mem hx
      rw [List.getElem_zip] at e
      rw [← e]
    rw [e, if_neg (by simp)]]
  rfl
theorem read_eq {as : List (Int × Int)} (h : ∀ z ∈ as, Am z) (h1 : 1 ≤ as.length) (h2 : as.length ≤ 40) :
    read (Sx (joinS 32 ([116, 111, 117, 99, 104] :: as.map amL))) = some (T3.mk (Str.ofString "touch") (unL as) (as.map (whF (unL as)), [])) := by
  have fr : ∀ s, s < 47 → ∀ p ∈ ([116, 111, 117, 99, 104] :: as.map amL), s ∉ p := fun s hs p hp => by
    rcases List.mem_cons.mp hp with rfl | hp
    · simp only [List.mem_cons, List.not_mem_nil, or_false]; omega
    · obtain ⟨z, _, rfl⟩ := List.mem_map.mp hp
      exact amL_free hs
  have n10 : 10 ∉ joinS 32 ([116, 111, 117, 99, 104] :: as.map amL) := fun q => by
    rcases joinS_mem q with q | ⟨p, h1, h2⟩
    · cases q
    · exact fr 10 (by decide) p h1 h2
  have sl : ∀ l : List (Int × Int), (∀ z ∈ l, Am z) → ((l.map amL).map List.length).sum ≤ 15 * l.length := by
    intro l
    induction l with
    | nil => intro _; exact Nat.le_refl _
    | cons z l ih =>
      intro k
      have a := amL_len (k z List.mem_cons_self)
      have b := ih fun y hy => k y (List.mem_cons_of_mem _ hy)
      simp only [List.map_cons, List.sum_cons, List.length_cons] at b ⊢
      omega
  have len : (joinS 32 ([116, 111, 117, 99, 104] :: as.map amL)).length ≤ 16000000 := by
    have a := joinS_len 32 ([116, 111, 117, 99, 104] :: as.map amL)
    have b := sl as h
    simp only [List.map_cons, List.sum_cons, List.length_cons, List.length_map, List.length_nil] at a b ⊢
    omega
  have un := unL_un h
  unfold read
  rw [end_Sx, blank_Sx, splitC_eq (by decide) len, obs, show cuts 10 (joinS 32 ([116, 111, 117, 99, 104] :: as.map amL)) = [joinS 32 ([116, 111, 117, 99, 104] :: as.map amL)] from cuts_join (l := [_]) (List.cons_ne_nil _ _) (fun p hp => by rw [List.mem_singleton.mp hp]; exact n10)]
  have e1 : mapO ([joinS 32 ([116, 111, 117, 99, 104] :: as.map amL)].map Sx) (fun line : Str => splitC line (Sx [32])) = some [(([116, 111, 117, 99, 104] :: as.map amL)).map Sx] := by
    show ((splitC (Sx (joinS 32 ([116, 111, 117, 99, 104] :: as.map amL))) (Sx [32])).bind fun y => (some []).bind fun ys => some (y :: ys)) = _
    rw [splitC_eq (by decide) len, obs, obs, cuts_join (List.cons_ne_nil _ _) (fr 32 (by decide))]
  rw [e1, obs]
  have e2 : atI [(([116, 111, 117, 99, 104] :: as.map amL)).map Sx] 0 = some ((([116, 111, 117, 99, 104] :: as.map amL)).map Sx) := rfl
  have e3 : atI ((([116, 111, 117, 99, 104] :: as.map amL)).map Sx) 0 = some (Sx [116, 111, 117, 99, 104]) := atI_some (by decide) (by simp)
  rw [e2, obs, e3, obs]
  have e4 : read_kind (Sx [116, 111, 117, 99, 104]) [(([116, 111, 117, 99, 104] :: as.map amL)).map Sx] = read_touch [(([116, 111, 117, 99, 104] :: as.map amL)).map Sx] := by
    unfold read_kind
    rw [if_neg (by decide +kernel), if_pos (by decide +kernel)]
  rw [e4]
  have e5 : read_touch [(([116, 111, 117, 99, 104] :: as.map amL)).map Sx] = some (unL as, (as.map (whF (unL as)), [])) := by
    unfold read_touch
    rw [e2, obs, obs, obs, obs, List.map_cons, List.length_cons, List.length_map, List.length_map, decide_eq_false (by omega), if_neg Bool.false_ne_true, obs, decide_eq_false (by omega), if_neg Bool.false_ne_true, obs, obs, obs, cutL_from _ (by decide)]
    rw [show (Sx [116, 111, 117, 99, 104] :: (as.map amL).map Sx).drop (1 : Int).toNat = (as.map amL).map Sx from rfl,
      amounts_in_eq (zs := as) (by
        rw [List.map_map]
        exact List.map_congr_left fun z hz => amV_amL (h z hz)) (fun z hz => (h z hz).t0) (fun l hl => by
        obtain ⟨z, hz, rfl⟩ := List.mem_map.mp hl
        have := amL_len (h z hz)
        omega) (by rw [List.length_map]; omega), obs]
    show (((some ([] : List (Tp Int))).bind _) : Option (Int × ((List Int) × (List (Tp Int))))) = _
    rw [obs, unit_of_eq h, obs, mapO_eq (g := whF (unL as)) fun z hz => whole_by_eq un (h z hz)]
    rfl
  rw [e5, obs, touch_Sx]
theorem law_holds : ∀ ns : List Int, ns.length ≤ 63 → M.law ns = some true := fun ns hn => by
  obtain ⟨c2, k2⟩ := cell_eq ns (k := 2) (by decide)
  obtain ⟨c0, k0⟩ := cell_eq ns (k := 0) (by decide)
  obtain ⟨c1, k1⟩ := cell_eq ns (k := 1) (by decide)
  unfold law
  rw [k2, k0, k1, obs, obs]
  have lc : (cutL ns (some 3) (some 42)).length ≤ 39 := by
    rw [cutL_mid _ (by decide) (by decide), List.length_drop, List.length_take]
    show min 42 ns.length - 3 ≤ 39
    omega
  rw [catC_eq (by simp; omega), obs]
  obtain ⟨as, e1, l1, p1⟩ := mapO_ex (xs := enumL ([c2] ++ cutL ns (some 3) (some 42))) (f := fun x3 : Int × Int => law_parts x3.2 x3.1) (p := Am) fun x hx => by
    obtain ⟨h0, h1, _⟩ := mem_enumL hx
    refine parts_eq _ h0 ?_
    rw [List.length_append] at h1
    simp only [List.length_cons, List.length_nil] at h1
    omega
  rw [e1, obs]
  rw [enumL_len, List.length_append] at l1
  simp only [List.length_cons, List.length_nil] at l1
  have un := unL_un p1
  rw [law_unit_eq p1, obs, mapO_eq (g := fun z => Sx (amL z)) (fun z hz => am_written (p1 z hz)), touch_Sx, blank_Sx]
  have sl : ∀ l : List (Int × Int), (∀ z ∈ l, Am z) → ((l.map amL).map List.length).sum ≤ 15 * l.length := by
    intro l
    induction l with
    | nil => intro _; exact Nat.le_refl _
    | cons z l ih =>
      intro k
      have a := amL_len (k z List.mem_cons_self)
      have b := ih fun y hy => k y (List.mem_cons_of_mem _ hy)
      simp only [List.map_cons, List.sum_cons, List.length_cons] at b ⊢
      omega
  have e2 : [Sx [116, 111, 117, 99, 104]] ++ as.map (fun z => Sx (amL z)) = ([116, 111, 117, 99, 104] :: as.map amL).map Sx := by
    rw [List.map_cons, List.map_map]; rfl
  rw [obs, catC_eq (by simp; omega), obs, e2, joinC_eq (by
    have b := sl as p1
    simp only [List.map_cons, List.sum_cons, List.length_cons, List.length_map, List.length_nil] at b ⊢
    omega), obs, read_eq p1 (by omega) (by omega), obs, law_wholes_eq un p1, obs, obs, obs, obs]
  have e3 : law_is_read (T3.mk (Str.ofString "touch") (unL as) (as.map (whF (unL as)), [])) (unL as) (as.map (whF (unL as))) = some true := by
    unfold law_is_read
    rw [if_neg (by decide), if_neg (by simp), if_neg (by simp), if_pos (decide_eq_true rfl), if_pos rfl]
    exact is_wholes_refl _
  rw [e3, obs, obs]
  show ((forF as () _).bind _) = _
  rw [forF_all (s := ()) fun z hz => by
    rw [shown_ok (fr_am (p1 z hz)), obs, obs]
    rfl]
  rw [obs]
  unfold flR
  dsimp only
  rw [obs, obs]
  have t0 := Int.emod_nonneg c0 (show (1000000000000000000000000000000000000000000000000000000000000 : Int) ≠ 0 by decide)
  have t1 := Int.emod_lt_of_pos c0 (show (0 : Int) < 1000000000000000000000000000000000000000000000000000000000000 by decide)
  have bt : ∃ b, ((((some c0).bind fun v16 => some (v16 % 2)).bind fun v17 => atI [1000000000000000000000000000000, 3] v17).bind fun v19 => modC c1 v19) = some b ∧ 0 ≤ b ∧ b < 1000000000000000000000000000000 := by
    rw [obs, obs]
    have : c0 % 2 = 0 ∨ c0 % 2 = 1 := by omega
    rcases this with q | q
    · rw [q, show atI [(1000000000000000000000000000000 : Int), 3] 0 = some 1000000000000000000000000000000 from rfl, obs, modC_eq (by decide)]
      exact ⟨_, rfl, Int.emod_nonneg _ (by decide), Int.emod_lt_of_pos _ (by decide)⟩
    · rw [q, show atI [(1000000000000000000000000000000 : Int), 3] 1 = some 3 from rfl, obs, modC_eq (by decide)]
      exact ⟨_, rfl, by omega, by omega⟩
  obtain ⟨b, e4, b0, b1⟩ := bt
  rw [obs, e4, obs, obs]
  generalize c0 % 1000000000000000000000000000000000000000000000000000000000000 = t at *
  have st : Sm 250 t := Sm.of 250 1000000000000000000000000000000000000000000000000000000000000 (by decide +kernel) (by omega) (by omega)
  have sb : Sm 250 (1 + b) := Sm.of 250 1000000000000000000000000000000000000000000000000000000000000 (by decide +kernel) (by omega) (by omega)
  obtain ⟨z, e5, z1, z2, z3, z4, z5⟩ := part_eq (b := 1 + b) (t := t) (by omega) t0 250 (st.mono (by decide)) (sb.mono (by decide))
  have fz : law_shown z = some true := shown_ok ⟨z1, z3, z5, (st.pos_le z1 z2).mono (by decide), (sb.pos_le (by omega) z4).mono (by decide)⟩
  have f1 : law_shown (t, 1) = some true := shown_ok ⟨t0, Int.le_refl 1, Int.gcd_one, st.mono (by decide), (Sm.of 300 1 (by decide +kernel) (by decide) (by decide) : Sm 300 (1 : Int))⟩
  have f0 : law_shown (0, 1) = some true := shown_ok ⟨by decide, by decide, by decide, Sm.of 300 1 (by decide +kernel) (by decide) (by decide), Sm.of 300 1 (by decide +kernel) (by decide) (by decide)⟩
  obtain ⟨by_, e6, e7⟩ := bind_some e5
  rw [e6, obs, e7, obs, obs]
  dsimp only
  rw [fz, f1, f0]
  rfl
end M

namespace Wk
open PySem PySem.Spec PyProof.Rows L2 GM
def topS (i : Nat) : Stmt := PySem.Challenge.pw_goodenough_k51_amounts_and_units.main.body.getD i (.Pass ⟨0, 0, 0, 0⟩)
structure Txt (mg : Str → Option Value) : Prop where
  n_bool : mg "bool" = none
  n_divmod : mg "divmod" = none
  n_enumerate : mg "enumerate" = none
  n_int : mg "int" = none
  n_isinstance : mg "isinstance" = none
  n_len : mg "len" = none
  n_list : mg "list" = none
  n_range : mg "range" = none
  n_str : mg "str" = none
  n_tuple : mg "tuple" = none
  n_zip : mg "zip" = none
  v_FIGURES : ∃ t, mg "FIGURES" = some (.str (Str.ofString "0123456789") t)
  v_MOST_LINES : ∃ t, mg "MOST_LINES" = some (.int 80 t)
  v_MOST_THINGS : ∃ t, mg "MOST_THINGS" = some (.int 40 t)
section
variable {P : Program} {w : World} {K : PySem.W.Frag} {mg : Str → Option Value} {base : Heap}
abbrev s__law_divisor : Stmt := topS 44
abbrev N__law_divisor : List Str := ["_law_one", "_law_other"]
theorem sc__law_divisor : FnScope N__law_divisor ["_law_one", "_law_other"] (defScope s__law_divisor) := ⟨rfl, rfl, rfl, by decide +kernel, rfl, by decide +kernel, by decide +kernel⟩
theorem ok__law_divisor {f : Addr} {fd : FuncData} (F : Fun K "_law_divisor" "_law_divisor" s__law_divisor f fd) (X : Txt mg)  (hm : mg "_law_divisor" = some (.ref f)) (hb : L2.Binds K fd ["_law_one", "_law_other"] []) : CalB P w K mg base 1 "_law_divisor" (SpR (τ := Int × Int × Unit) (ρ := Int) fun z => M.law_divisor z.1 z.2.1) :=
  have sc := sc__law_divisor
  fun_R F sc rfl (fun cdv A outer s H E hr z => let one := z.1; let other := z.2.1; ⟨_, _, (bj_while (N := (fun s1 : Int × Int => [fz s1.1, fz s1.2])) FU (one, other) (by exact (.same (.same .nil))) (fun s1 => (tj_cmp op_gt o2_gt (ej_n 1 rfl) ej_int)) (fun s1 => (bj_par rfl sc.nd 0 1 (aj_cons (ej_n 1 rfl) (aj_cons (ej_op op_mod o2_mod (ej_n 0 rfl) (ej_n 1 rfl)) aj_nil)) default (fun z4 => (bj_nilP (z4.1, z4.2.1) (by exact (.same (.same .nil))))))) (fun s1 => (bj_retI (ej_n 0 rfl))) PassesOwn.never), by unfold M.law_divisor; first | rfl | (simp only [obs, id_eq]; done) | (simp only [obs, id_eq, Option.bind_assoc]; done) | (simp only [obs, id_eq]; rfl)⟩) hm hb
abbrev s__law_unit : Stmt := topS 47
abbrev N__law_unit : List Str := ["_law_amounts", "_law_unit_here", "_law_top", "_law_bottom"]
theorem sc__law_unit : FnScope N__law_unit ["_law_amounts"] (defScope s__law_unit) := ⟨rfl, rfl, rfl, by decide +kernel, rfl, by decide +kernel, by decide +kernel⟩
theorem ok__law_unit {f : Addr} {fd : FuncData} (F : Fun K "_law_unit" "_law_unit" s__law_unit f fd) (X : Txt mg) (C__law_divisor : CalB P w K mg base 1 "_law_divisor" (SpR (τ := Int × Int × Unit) (ρ := Int) fun z => M.law_divisor z.1 z.2.1)) (hm : mg "_law_unit" = some (.ref f)) (hb : L2.Binds K fd ["_law_amounts"] []) : CalB P w K mg base 2 "_law_unit" (SpR (τ := (List (Int × Int)) × Unit) (ρ := Int) fun z => M.law_unit z.1) :=
  have sc := sc__law_unit
  fun_R F sc rfl (fun cdv A outer s H E hr z => let amounts := z.1; ⟨_, _, (bj_asg sc.nd 1 ej_int default (fun unit_here => (bj_for (N := (fun s1 : Int => [fz amounts, fz s1, .un, .un])) rfl unit_here default (ij_l (rj_e (ej_n 0 rfl))) (fun _ _ _ => trivial) (gj_pair rfl (gj_name sc.nd 2) (gj_name sc.nd 3)) (by exact (.same (.same (.same (.same .nil))))) (fun x2 s1 => (bj_asg sc.nd 1 (ej_op op_fdivW o2_div (ej_op op_mulW o2_mul (ej_n 1 rfl) (ej_n 3 rfl)) (ej_call (C__law_divisor.at (hr.mono (by decide))) (aj_cons (ej_n 1 rfl) (aj_cons (ej_n 3 rfl) aj_nil)))) default (fun unit_here => (bj_nilP unit_here (by exact (.same (.same (.drop (.drop .nil))))))))) (fun s1 => (bj_retI (ej_n 1 rfl))) PassesOwn.never))), by unfold M.law_unit; first | rfl | (simp only [obs, id_eq]; done) | (simp only [obs, id_eq, Option.bind_assoc]; done) | (simp only [obs, id_eq]; rfl)⟩) hm hb
abbrev s__law_number : Stmt := topS 42
abbrev N__law_number : List Str := ["_law_cell", "_law_k"]
theorem sc__law_number : FnScope N__law_number ["_law_cell", "_law_k"] (defScope s__law_number) := ⟨rfl, rfl, rfl, by decide +kernel, rfl, by decide +kernel, by decide +kernel⟩
theorem ok__law_number {f : Addr} {fd : FuncData} (F : Fun K "_law_number" "_law_number" s__law_number f fd) (X : Txt mg)  (hm : mg "_law_number" = some (.ref f)) (hb : L2.Binds K fd ["_law_cell", "_law_k"] []) : CalB P w K mg base 1 "_law_number" (SpR (τ := Int × Int × Unit) (ρ := Int) fun z => M.law_number z.1 z.2.1) :=
  have sc := sc__law_number
  fun_R F sc rfl (fun cdv A outer s H E hr z => let cell := z.1; let k := z.2.1; ⟨_, _, (bj_retI (ej_modK (by decide) (ej_op op_mulW o2_mul (ej_op op_add o2_add (ej_op op_add o2_add (ej_modP (by decide) (ej_n 0 rfl) (ej_powKK (z := 100000000000000000000) ⟨by decide, by decide, by decide⟩ (by decide +kernel))) (ej_op op_mulW o2_mul (ej_n 1 rfl) (ej_n 1 rfl))) ej_int) (ej_op op_add o2_add ej_int (ej_mulKL (by decide) (ej_n 1 rfl)))))), by unfold M.law_number; first | rfl | (simp only [obs, id_eq]; done) | (simp only [obs, id_eq, Option.bind_assoc]; done) | (simp only [obs, id_eq]; rfl)⟩) hm hb
abbrev s__law_parts : Stmt := topS 45
abbrev N__law_parts : List Str := ["_law_cell", "_law_k", "_law_number_here", "_law_bottom", "_law_top", "_law_by"]
theorem sc__law_parts : FnScope N__law_parts ["_law_cell", "_law_k"] (defScope s__law_parts) := ⟨rfl, rfl, rfl, by decide +kernel, rfl, by decide +kernel, by decide +kernel⟩
theorem ok__law_parts {f : Addr} {fd : FuncData} (F : Fun K "_law_parts" "_law_parts" s__law_parts f fd) (X : Txt mg) (C__law_divisor : CalB P w K mg base 1 "_law_divisor" (SpR (τ := Int × Int × Unit) (ρ := Int) fun z => M.law_divisor z.1 z.2.1)) (C__law_number : CalB P w K mg base 1 "_law_number" (SpR (τ := Int × Int × Unit) (ρ := Int) fun z => M.law_number z.1 z.2.1)) (hm : mg "_law_parts" = some (.ref f)) (hb : L2.Binds K fd ["_law_cell", "_law_k"] []) : CalB P w K mg base 2 "_law_parts" (SpR (τ := Int × Int × Unit) (ρ := (Int × Int)) fun z => M.law_parts z.1 z.2.1) :=
  have sc := sc__law_parts
  fun_R F sc rfl (fun cdv A outer s H E hr z => let cell := z.1; let k := z.2.1; ⟨_, _, (bj_asg sc.nd 2 (ej_call (C__law_number.at (hr.mono (by decide))) (aj_cons (ej_n 0 rfl) (aj_cons (ej_op op_add o2_add (ej_n 1 rfl) ej_int) aj_nil))) default (fun number_here => (bj_asg sc.nd 3 (ej_ix (lk_l (lj_e (ej_o (oj_lst (il_cons ej_int (il_cons ej_int (il_cons ej_int (il_cons ej_int (il_cons ej_int (il_cons ej_int (il_cons ej_int (il_cons ej_int (il_cons (ej_op op_add o2_add ej_int (ej_modK (by decide) (ej_divK ⟨by decide, by decide⟩ (ej_n 2 rfl)))) il_nil))))))))))))) (ej_modK (by decide) (ej_divK ⟨by decide, by decide⟩ (ej_n 2 rfl)))) default (fun bottom => (bj_asg sc.nd 4 (ej_modK (by decide) (ej_divK ⟨by decide, by decide⟩ (ej_n 2 rfl))) default (fun top => (bj_ifJ (N := (fun s1 : Int => [fz cell, fz k, fz number_here, fz bottom, fz s1, .un])) (tj_cmp op_eq o2_eq (ej_modK (by decide) (ej_n 2 rfl)) ej_int) (bj_asg sc.nd 4 (ej_modP (by decide) (ej_op op_add o2_add (ej_mulK (by decide) (ej_modP (by decide) (ej_n 0 rfl) (ej_powKK (z := 100000000000000000000) ⟨by decide, by decide, by decide⟩ (by decide +kernel)))) (ej_n 2 rfl)) (ej_powKK (z := 1000000000000) ⟨by decide, by decide, by decide⟩ (by decide +kernel))) default (fun top => (bj_nilN top (by exact (.same (.same (.same (.same (.same (.same .nil)))))))))) (bj_nilN top (by exact (.same (.same (.same (.same (.same (.same .nil)))))))) default (fun s1 => (bj_asg sc.nd 5 (ej_call (C__law_divisor.at (hr.mono (by decide))) (aj_cons (ej_n 3 rfl) (aj_cons (ej_n 4 rfl) aj_nil))) default (fun by_ => (bj_retI (ej_tup2 (aj_cons (ej_op op_fdivW o2_div (ej_n 4 rfl) (ej_n 5 rfl)) (aj_cons (ej_op op_fdivW o2_div (ej_n 3 rfl) (ej_n 5 rfl)) aj_nil)))))))))))))), by unfold M.law_parts; first | rfl | (simp only [obs, id_eq]; done) | (simp only [obs, id_eq, Option.bind_assoc]; done) | (simp only [obs, id_eq]; rfl)⟩) hm hb
abbrev s__law_is_wholes : Stmt := topS 49
abbrev N__law_is_wholes : List Str := ["_law_found", "_law_due", "_law_one", "_law_other"]
theorem sc__law_is_wholes : FnScope N__law_is_wholes ["_law_found", "_law_due"] (defScope s__law_is_wholes) := ⟨rfl, rfl, rfl, by decide +kernel, rfl, by decide +kernel, by decide +kernel⟩
theorem ok__law_is_wholes {f : Addr} {fd : FuncData} (F : Fun K "_law_is_wholes" "_law_is_wholes" s__law_is_wholes f fd) (X : Txt mg)  (hm : mg "_law_is_wholes" = some (.ref f)) (hb : L2.Binds K fd ["_law_found", "_law_due"] []) : CalB P w K mg base 1 "_law_is_wholes" (SpR (τ := (List Int) × (List Int) × Unit) (ρ := Bool) fun z => M.law_is_wholes z.1 z.2.1) :=
  have sc := sc__law_is_wholes
  fun_R F sc rfl (fun cdv A outer s H E hr z => let found := z.1; let due := z.2.1; ⟨_, _, (bj_ifX (tj_w (tw_orP (tj_not (tj_v (ej_isi (r := true) (cn := "list") (wj_e (ej_n 0 rfl)) (by decide +kernel) (by decide +kernel) X.n_isinstance X.n_list))) (tw_or1 (tj_cmp op_ne o2_ne (ej_len (lk_l (lj_e (ej_n 0 rfl))) X.n_len) (ej_len (lk_l (lj_e (ej_n 1 rfl))) X.n_len))))) (bj_retI ej_bl) (bj_forF (N := (fun s1 : Unit => [fz found, fz due, .un, .un])) (Pr := PR) (inj := id) rfl () default (ij_zip (rj_e (ej_n 0 rfl)) (rj_e (ej_n 1 rfl)) X.n_zip) (fun _ _ _ => ⟨trivial, trivial⟩) (gj_pair rfl (gj_name sc.nd 2) (gj_name sc.nd 3)) (by exact (.same (.same (.same (.same .nil))))) (fun x2 s1 => (bj_if (tj_w (tw_orP (tj_not (tj_v (ej_isi (r := true) (cn := "int") (wj_e (ej_n 2 rfl)) (by decide +kernel) (by decide +kernel) X.n_isinstance X.n_int))) (tw_orP (tj_v (ej_isi (r := false) (cn := "bool") (wj_e (ej_n 2 rfl)) (by decide +kernel) (by decide +kernel) X.n_isinstance X.n_bool)) (tw_or1 (tj_cmp op_ne o2_ne (ej_n 2 rfl) (ej_n 3 rfl)))))) (bj_ret (inj := Fl.ret) ej_bl) (bj_nilL () (by exact (.same (.same (.drop (.drop .nil)))))))) (fun s1 => (bj_retI ej_bl)) PassesOwn.never)), by unfold M.law_is_wholes; first | rfl | (simp only [obs, id_eq]; done) | (simp only [obs, id_eq, Option.bind_assoc]; done) | (simp only [obs, id_eq]; rfl)⟩) hm hb
abbrev s__law_is_read : Stmt := topS 51
abbrev N__law_is_read : List Str := ["_law_found", "_law_unit_here", "_law_wholes_here"]
theorem sc__law_is_read : FnScope N__law_is_read ["_law_found", "_law_unit_here", "_law_wholes_here"] (defScope s__law_is_read) := ⟨rfl, rfl, rfl, by decide +kernel, rfl, by decide +kernel, by decide +kernel⟩
theorem ok__law_is_read {f : Addr} {fd : FuncData} (F : Fun K "_law_is_read" "_law_is_read" s__law_is_read f fd) (X : Txt mg) (C__law_is_wholes : CalB P w K mg base 1 "_law_is_wholes" (SpR (τ := (List Int) × (List Int) × Unit) (ρ := Bool) fun z => M.law_is_wholes z.1 z.2.1)) (hm : mg "_law_is_read" = some (.ref f)) (hb : L2.Binds K fd ["_law_found", "_law_unit_here", "_law_wholes_here"] []) : CalB P w K mg base 2 "_law_is_read" (SpR (τ := (T3 Str Int ((List Int) × (List (Tp Int)))) × Int × (List Int) × Unit) (ρ := Bool) fun z => M.law_is_read z.1 z.2.1 z.2.2.1) :=
  have sc := sc__law_is_read
  fun_R F sc rfl (fun cdv A outer s H E hr z => let found := z.1; let unit_here := z.2.1; let wholes_here := z.2.2.1; ⟨_, _, (bj_ifX (tj_w (tw_orP (tj_not (tj_v (ej_isi (r := true) (cn := "tuple") (wj_e (ej_n 0 rfl)) (by decide +kernel) (by decide +kernel) X.n_isinstance X.n_tuple))) (tw_orP (tj_cmp op_ne o2_ne (ej_lenT3 (ej_n 0 rfl) X.n_len) ej_int) (tw_or1 (tj_not (tj_v (ej_isi (r := true) (cn := "str") (wj_e (ej_ix30 (ej_n 0 rfl))) (by decide +kernel) (by decide +kernel) X.n_isinstance X.n_str))))))) (bj_retI ej_bl) (bj_ifX (tj_w (tw_orP (tj_not (tj_v (ej_isi (r := true) (cn := "int") (wj_e (ej_ix31 (ej_n 0 rfl))) (by decide +kernel) (by decide +kernel) X.n_isinstance X.n_int))) (tw_orP (tj_v (ej_isi (r := false) (cn := "bool") (wj_e (ej_ix31 (ej_n 0 rfl))) (by decide +kernel) (by decide +kernel) X.n_isinstance X.n_bool)) (tw_or1 (tj_cmp op_ne o2_ne (ej_ix31 (ej_n 0 rfl)) (ej_n 1 rfl)))))) (bj_retI ej_bl) (bj_ifX (tj_w (tw_orP (tj_not (tj_v (ej_isi (r := true) (cn := "tuple") (wj_e (ej_ix32 (ej_n 0 rfl))) (by decide +kernel) (by decide +kernel) X.n_isinstance X.n_tuple))) (tw_orP (tj_cmp op_ne o2_ne (ej_lenP (ej_ix32 (ej_n 0 rfl)) X.n_len) ej_int) (tw_or1 (tj_neD (α := List (Tp Int)) hr.units (wj_e (ej_ix1 (ej_ix32 (ej_n 0 rfl)))) (wj_e (ej_o (oj_lst (il_nil (α := (Tp Int))))))))))) (bj_retI ej_bl) (bj_retI (ej_and (ej_cmp op_eq o2_eq (ej_ix30 (ej_n 0 rfl)) ej_str) (ej_and (ej_isi (r := true) (cn := "list") (wj_e (ej_ix1 (ej_ix32 (ej_n 0 rfl)))) (by decide +kernel) (by decide +kernel) X.n_isinstance X.n_list) (ej_one (ej_call (C__law_is_wholes.at (hr.mono (by decide))) (aj_cons (ej_ix0 (ej_ix32 (ej_n 0 rfl))) (aj_cons (ej_n 2 rfl) aj_nil)))))))))), by unfold M.law_is_read; first | rfl | (simp only [obs, id_eq]; done) | (simp only [obs, id_eq, Option.bind_assoc]; done) | (simp only [obs, id_eq]; rfl)⟩) hm hb
abbrev s__law_cell_at : Stmt := topS 41
abbrev N__law_cell_at : List Str := ["_law_script", "_law_k"]
theorem sc__law_cell_at : FnScope N__law_cell_at ["_law_script", "_law_k"] (defScope s__law_cell_at) := ⟨rfl, rfl, rfl, by decide +kernel, rfl, by decide +kernel, by decide +kernel⟩
theorem ok__law_cell_at {f : Addr} {fd : FuncData} (F : Fun K "_law_cell_at" "_law_cell_at" s__law_cell_at f fd) (X : Txt mg)  (hm : mg "_law_cell_at" = some (.ref f)) (hb : L2.Binds K fd ["_law_script", "_law_k"] []) : CalB P w K mg base 1 "_law_cell_at" (SpR (τ := Scr K × Int × Unit) (ρ := Int) fun z => M.law_cell_at z.1.l z.2.1) :=
  have sc := sc__law_cell_at
  fun_R F sc rfl (fun cdv A outer s H E hr z => let script := z.1.l; let k := z.2.1; ⟨_, _, (bj_ifX (tj_cmp op_lt o2_lt (ej_n 1 rfl) (ej_len (lk_s rfl 0 rfl) X.n_len)) (bj_retI (ej_ix (lk_s rfl 0 rfl) (ej_n 1 rfl))) (bj_retI ej_int)), by unfold M.law_cell_at; first | rfl | (simp only [obs, id_eq]; done) | (simp only [obs, id_eq, Option.bind_assoc]; done) | (simp only [obs, id_eq]; rfl)⟩) hm hb
abbrev s_shown_amount : Stmt := topS 39
abbrev N_shown_amount : List Str := ["one", "top", "bottom", "wholes", "left"]
theorem sc_shown_amount : FnScope N_shown_amount ["one"] (defScope s_shown_amount) := ⟨rfl, rfl, rfl, by decide +kernel, rfl, by decide +kernel, by decide +kernel⟩
theorem ok_shown_amount {f : Addr} {fd : FuncData} (F : Fun K "shown_amount" "shown_amount" s_shown_amount f fd) (X : Txt mg)  (hm : mg "shown_amount" = some (.ref f)) (hb : L2.Binds K fd ["one"] []) : CalB P w K mg base 1 "shown_amount" (SpR (τ := (Int × Int) × Unit) (ρ := Str) fun z => M.shown_amount z.1) :=
  have sc := sc_shown_amount
  fun_R F sc rfl (fun cdv A outer s H E hr z => let one := z.1; ⟨_, _, (bj_asgG (gj_pair rfl (gj_name sc.nd 1) (gj_name sc.nd 2)) (ej_n 0 rfl) (fun z1 => (bj_asgG (gj_pair rfl (gj_name sc.nd 3) (gj_name sc.nd 4)) (ej_divmod (ej_n 1 rfl) (ej_n 2 rfl) X.n_divmod) (fun z2 => (bj_ifX (tj_cmp op_gt o2_gt (ej_n 4 rfl) ej_int) (bj_retI (ej_joined (fj_cons (ej_fmtI (ej_n 1 rfl)) (fj_cons ej_str (fj_cons (ej_fmtI (ej_n 2 rfl)) fj_nil))))) (bj_retI (ej_strI (ej_n 3 rfl) X.n_str)))) (x0 := default))) (x0 := default)), by unfold M.shown_amount; first | rfl | (simp only [obs, id_eq]; done) | (simp only [obs, id_eq, Option.bind_assoc]; done) | (simp only [obs, id_eq]; rfl)⟩) hm hb
abbrev s__law_written : Stmt := topS 46
abbrev N__law_written : List Str := ["_law_one"]
theorem sc__law_written : FnScope N__law_written ["_law_one"] (defScope s__law_written) := ⟨rfl, rfl, rfl, by decide +kernel, rfl, by decide +kernel, by decide +kernel⟩
theorem ok__law_written {f : Addr} {fd : FuncData} (F : Fun K "_law_written" "_law_written" s__law_written f fd) (X : Txt mg)  (hm : mg "_law_written" = some (.ref f)) (hb : L2.Binds K fd ["_law_one"] []) : CalB P w K mg base 1 "_law_written" (SpR (τ := (Int × Int) × Unit) (ρ := Str) fun z => M.law_written z.1) :=
  have sc := sc__law_written
  fun_R F sc rfl (fun cdv A outer s H E hr z => let one := z.1; ⟨_, _, (bj_ifX (tj_cmp op_eq o2_eq (ej_ix1 (ej_n 0 rfl)) ej_int) (bj_retI (ej_strI (ej_ix0 (ej_n 0 rfl)) X.n_str)) (bj_retI (ej_catS (ej_catS (ej_strI (ej_ix0 (ej_n 0 rfl)) X.n_str) ej_str) (ej_strI (ej_ix1 (ej_n 0 rfl)) X.n_str)))), by unfold M.law_written; first | rfl | (simp only [obs, id_eq]; done) | (simp only [obs, id_eq, Option.bind_assoc]; done) | (simp only [obs, id_eq]; rfl)⟩) hm hb
abbrev s__law_shown : Stmt := topS 50
abbrev N__law_shown : List Str := ["_law_one", "_law_found"]
theorem sc__law_shown : FnScope N__law_shown ["_law_one"] (defScope s__law_shown) := ⟨rfl, rfl, rfl, by decide +kernel, rfl, by decide +kernel, by decide +kernel⟩
theorem ok__law_shown {f : Addr} {fd : FuncData} (F : Fun K "_law_shown" "_law_shown" s__law_shown f fd) (X : Txt mg) (C__law_written : CalB P w K mg base 1 "_law_written" (SpR (τ := (Int × Int) × Unit) (ρ := Str) fun z => M.law_written z.1)) (C_shown_amount : CalB P w K mg base 1 "shown_amount" (SpR (τ := (Int × Int) × Unit) (ρ := Str) fun z => M.shown_amount z.1)) (hm : mg "_law_shown" = some (.ref f)) (hb : L2.Binds K fd ["_law_one"] []) : CalB P w K mg base 2 "_law_shown" (SpR (τ := (Int × Int) × Unit) (ρ := Bool) fun z => M.law_shown z.1) :=
  have sc := sc__law_shown
  fun_R F sc rfl (fun cdv A outer s H E hr z => let one := z.1; ⟨_, _, (bj_asg sc.nd 1 (ej_call (C_shown_amount.at (hr.mono (by decide))) (aj_cons (ej_n 0 rfl) aj_nil)) default (fun found => (bj_retI (ej_and (ej_isi (r := true) (cn := "str") (wj_e (ej_n 1 rfl)) (by decide +kernel) (by decide +kernel) X.n_isinstance X.n_str) (ej_one (ej_cmp op_eq o2_eq (ej_n 1 rfl) (ej_call (C__law_written.at (hr.mono (by decide))) (aj_cons (ej_n 0 rfl) aj_nil)))))))), by unfold M.law_shown; first | rfl | (simp only [obs, id_eq]; done) | (simp only [obs, id_eq, Option.bind_assoc]; done) | (simp only [obs, id_eq]; rfl)⟩) hm hb
abbrev s_number_in : Stmt := topS 20
abbrev N_number_in : List Str := ["text", "least", "most", "sign", "number"]
theorem sc_number_in : FnScope N_number_in ["text", "least", "most"] (defScope s_number_in) := ⟨rfl, rfl, rfl, by decide +kernel, rfl, by decide +kernel, by decide +kernel⟩
theorem ok_number_in {f : Addr} {fd : FuncData} (F : Fun K "number_in" "number_in" s_number_in f fd) (X : Txt mg)  (hm : mg "number_in" = some (.ref f)) (hb : L2.Binds K fd ["text", "least", "most"] []) : CalB P w K mg base 1 "number_in" (SpR (τ := Str × Int × Int × Unit) (ρ := (Option Int)) fun z => M.number_in z.1 z.2.1 z.2.2.1) :=
  have sc := sc_number_in
  fun_R F sc rfl (fun cdv A outer s H E hr z => let text := z.1; let least := z.2.1; let most := z.2.2.1; ⟨_, _, (bj_ifX (tj_w (tw_or (tj_cmp op_eq o2_eq (ej_n 0 rfl) ej_str) (tw_or (tj_cmp op_gt o2_gt (ej_lenS (ej_n 0 rfl) X.n_len) ej_int) (tw_or1 (tj_w (tw_and (tj_cmp op_eq o2_eq (ej_ixS (ej_n 0 rfl) ej_int) ej_str) (tw_and1 (tj_cmp op_gt o2_gt (ej_lenS (ej_n 0 rfl) X.n_len) ej_int)))))))) (bj_retI ej_none) (bj_forF (N := (fun s6 : Unit => [fz text, fz least, fz most, .un, .un])) (Pr := PR) (inj := id) rfl () default (ij_str (ej_n 0 rfl)) (fun _ _ _ => trivial) (gj_name sc.nd 3) (by exact (.same (.same (.same (.same (.same .nil)))))) (fun sign s6 => (bj_if (tj_notinS (ej_n 3 rfl) (ej_globS X.v_FIGURES)) (bj_ret (inj := Fl.ret) ej_none) (bj_nilL () (by exact (.same (.same (.same (.drop (.same .nil))))))))) (fun s6 => (bj_asg sc.nd 4 (ej_intS (ej_n 0 rfl) X.n_int) default (fun number => (bj_ifX (tj_w (tw_orP (tj_cmp op_lt o2_lt (ej_n 4 rfl) (ej_n 1 rfl)) (tw_or1 (tj_cmp op_gt o2_gt (ej_n 4 rfl) (ej_n 2 rfl))))) (bj_retI ej_none) (bj_retI (ej_some (ej_n 4 rfl))))))) PassesOwn.never)), by unfold M.number_in; first | rfl | (simp only [obs, id_eq]; done) | (simp only [obs, id_eq, Option.bind_assoc]; done) | (simp only [obs, id_eq]; rfl)⟩) hm hb
abbrev s_common_factor : Stmt := topS 13
abbrev N_common_factor : List Str := ["high", "low"]
theorem sc_common_factor : FnScope N_common_factor ["high", "low"] (defScope s_common_factor) := ⟨rfl, rfl, rfl, by decide +kernel, rfl, by decide +kernel, by decide +kernel⟩
theorem ok_common_factor {f : Addr} {fd : FuncData} (F : Fun K "common_factor" "common_factor" s_common_factor f fd) (X : Txt mg)  (hm : mg "common_factor" = some (.ref f)) (hb : L2.Binds K fd ["high", "low"] []) : CalB P w K mg base 1 "common_factor" (SpR (τ := Int × Int × Unit) (ρ := Int) fun z => M.common_factor z.1 z.2.1) :=
  have sc := sc_common_factor
  fun_R F sc rfl (fun cdv A outer s H E hr z => let high := z.1; let low := z.2.1; ⟨_, _, (bj_while (N := (fun s1 : Int × Int => [fz s1.1, fz s1.2])) FU (high, low) (by exact (.same (.same .nil))) (fun s1 => (tj_cmp op_gt o2_gt (ej_n 1 rfl) ej_int)) (fun s1 => (bj_par rfl sc.nd 0 1 (aj_cons (ej_n 1 rfl) (aj_cons (ej_op op_mod o2_mod (ej_n 0 rfl) (ej_n 1 rfl)) aj_nil)) default (fun z4 => (bj_nilP (z4.1, z4.2.1) (by exact (.same (.same .nil))))))) (fun s1 => (bj_retI (ej_n 0 rfl))) PassesOwn.never), by unfold M.common_factor; first | rfl | (simp only [obs, id_eq]; done) | (simp only [obs, id_eq, Option.bind_assoc]; done) | (simp only [obs, id_eq]; rfl)⟩) hm hb
abbrev s_amount_in : Stmt := topS 21
abbrev N_amount_in : List Str := ["text", "number", "under", "top", "bar", "bottom"]
theorem sc_amount_in : FnScope N_amount_in ["text"] (defScope s_amount_in) := ⟨rfl, rfl, rfl, by decide +kernel, rfl, by decide +kernel, by decide +kernel⟩
theorem ok_amount_in {f : Addr} {fd : FuncData} (F : Fun K "amount_in" "amount_in" s_amount_in f fd) (X : Txt mg) (C_common_factor : CalB P w K mg base 1 "common_factor" (SpR (τ := Int × Int × Unit) (ρ := Int) fun z => M.common_factor z.1 z.2.1)) (C_number_in : CalB P w K mg base 1 "number_in" (SpR (τ := Str × Int × Int × Unit) (ρ := (Option Int)) fun z => M.number_in z.1 z.2.1 z.2.2.1)) (hm : mg "amount_in" = some (.ref f)) (hb : L2.Binds K fd ["text"] []) : CalB P w K mg base 2 "amount_in" (SpR (τ := Str × Unit) (ρ := (Option (Int × Int))) fun z => M.amount_in z.1) :=
  have sc := sc_amount_in
  fun_R F sc rfl (fun cdv A outer s H E hr z => let text := z.1; ⟨_, _, (bj_asgG (gj_trip rfl (gj_name sc.nd 3) (gj_name sc.nd 4) (gj_name sc.nd 5)) (ej_part (ej_n 0 rfl) ej_str) (fun z1 => (bj_asg sc.nd 1 (ej_call (C_number_in.at (hr.mono (by decide))) (aj_cons (ej_n 3 rfl) (aj_cons ej_int (aj_cons (ej_powKK (z := 1000000000000) ⟨by decide, by decide, by decide⟩ (by decide +kernel)) aj_nil)))) default (fun number => (bj_ifX (tj_cmp op_eq o2_eq (ej_n 4 rfl) ej_str) (bj_ifX (tj_isN (ej_n 1 rfl)) (bj_retI ej_none) (bj_retI (ej_some (ej_tup2 (aj_cons (ej_un_n (ej_n 1 rfl)) (aj_cons ej_int aj_nil)))))) (bj_asg sc.nd 2 (ej_call (C_number_in.at (hr.mono (by decide))) (aj_cons (ej_n 5 rfl) (aj_cons ej_int (aj_cons ej_int aj_nil)))) default (fun under => (bj_ifX (tj_w (tw_or (tj_isN (ej_n 1 rfl)) (tw_or (tj_isN (ej_n 2 rfl)) (tw_or1 (tj_cmp op_ne o2_ne (ej_call (C_common_factor.at (hr.mono (by decide))) (aj_cons (ej_un_n (ej_n 1 rfl)) (aj_cons (ej_un_n (ej_n 2 rfl)) aj_nil))) ej_int))))) (bj_retI ej_none) (bj_retI (ej_some (ej_tup2 (aj_cons (ej_un_n (ej_n 1 rfl)) (aj_cons (ej_un_n (ej_n 2 rfl)) aj_nil)))))))))))) (x0 := default)), by unfold M.amount_in; first | rfl | (simp only [obs, id_eq]; done) | (simp only [obs, id_eq, Option.bind_assoc]; done) | (simp only [obs, id_eq]; rfl)⟩) hm hb
abbrev s_amounts_in : Stmt := topS 22
abbrev N_amounts_in : List Str := ["words", "line", "least", "found", "word", "one"]
theorem sc_amounts_in : FnScope N_amounts_in ["words", "line", "least"] (defScope s_amounts_in) := ⟨rfl, rfl, rfl, by decide +kernel, rfl, by decide +kernel, by decide +kernel⟩
theorem ok_amounts_in {f : Addr} {fd : FuncData} (F : Fun K "amounts_in" "amounts_in" s_amounts_in f fd) (X : Txt mg) (C_amount_in : CalB P w K mg base 2 "amount_in" (SpR (τ := Str × Unit) (ρ := (Option (Int × Int))) fun z => M.amount_in z.1)) (hm : mg "amounts_in" = some (.ref f)) (hb : L2.Binds K fd ["words", "line", "least"] []) : CalB P w K mg base 3 "amounts_in" (SpO (τ := (List Str) × Int × Int × Unit) (ρ := (Int × Int)) fun z => M.amounts_in z.1 z.2.1 z.2.2.1) :=
  have sc := sc_amounts_in
  fun_O F sc rfl (fun cdv A outer s H E hr z => let words := z.1; let line := z.2.1; let least := z.2.2.1; ⟨_, _, (bj_asgO sc.nd 3 (oj_lst (il_nil (α := (Int × Int)))) (fun found => (bj_for (N := (fun s1 : (List (Int × Int)) => [fz words, fz line, fz least, ol s1, .un, .un])) rfl found default (ij_l (rj_e (ej_n 0 rfl))) (fun _ _ _ => trivial) (gj_name sc.nd 4) (by exact (.same (.same (.same (.same (.same (.same .nil))))))) (fun word s1 => (bj_asg sc.nd 5 (ej_call (C_amount_in.at (hr.mono (by decide))) (aj_cons (ej_n 4 rfl) aj_nil)) default (fun one => (bj_ifX (tj_w (tw_or (tj_isN (ej_n 5 rfl)) (tw_or1 (tj_cmp op_lt o2_lt (ej_ix0 (ej_un_n (ej_n 5 rfl))) (ej_n 2 rfl))))) bj_never (bj_append 3 (ej_un_n (ej_n 5 rfl)) (fun found => (bj_nilP found (by exact (.same (.same (.same (.same (.drop (.drop .nil)))))))))))))) (fun s1 => (bj_retV (inj := id) 3 rfl)) PassesOwn.never))), by unfold M.amounts_in; first | rfl | (simp only [obs, id_eq]; done) | (simp only [obs, id_eq, Option.bind_assoc]; done) | (simp only [obs, id_eq]; rfl)⟩) hm hb
abbrev s_unit_of : Stmt := topS 26
abbrev N_unit_of : List Str := ["amounts", "unit", "one"]
theorem sc_unit_of : FnScope N_unit_of ["amounts"] (defScope s_unit_of) := ⟨rfl, rfl, rfl, by decide +kernel, rfl, by decide +kernel, by decide +kernel⟩
theorem ok_unit_of {f : Addr} {fd : FuncData} (F : Fun K "unit_of" "unit_of" s_unit_of f fd) (X : Txt mg) (C_common_factor : CalB P w K mg base 1 "common_factor" (SpR (τ := Int × Int × Unit) (ρ := Int) fun z => M.common_factor z.1 z.2.1)) (hm : mg "unit_of" = some (.ref f)) (hb : L2.Binds K fd ["amounts"] []) : CalB P w K mg base 2 "unit_of" (SpR (τ := (List (Int × Int)) × Unit) (ρ := Int) fun z => M.unit_of z.1) :=
  have sc := sc_unit_of
  fun_R F sc rfl (fun cdv A outer s H E hr z => let amounts := z.1; ⟨_, _, (bj_asg sc.nd 1 ej_int default (fun unit => (bj_for (N := (fun s1 : Int => [fz amounts, fz s1, .un])) rfl unit default (ij_l (rj_e (ej_n 0 rfl))) (fun _ _ _ => trivial) (gj_name sc.nd 2) (by exact (.same (.same (.same .nil)))) (fun one s1 => (bj_asg sc.nd 1 (ej_op op_fdivW o2_div (ej_op op_mulW o2_mul (ej_n 1 rfl) (ej_ix1 (ej_n 2 rfl))) (ej_call (C_common_factor.at (hr.mono (by decide))) (aj_cons (ej_n 1 rfl) (aj_cons (ej_ix1 (ej_n 2 rfl)) aj_nil)))) default (fun unit => (bj_nilP unit (by exact (.same (.same (.drop .nil)))))))) (fun s1 => (bj_retI (ej_n 1 rfl))) PassesOwn.never))), by unfold M.unit_of; first | rfl | (simp only [obs, id_eq]; done) | (simp only [obs, id_eq, Option.bind_assoc]; done) | (simp only [obs, id_eq]; rfl)⟩) hm hb
abbrev s_numbers_in : Stmt := topS 23
abbrev N_numbers_in : List Str := ["words", "line", "most", "found", "word", "number"]
theorem sc_numbers_in : FnScope N_numbers_in ["words", "line", "most"] (defScope s_numbers_in) := ⟨rfl, rfl, rfl, by decide +kernel, rfl, by decide +kernel, by decide +kernel⟩
theorem ok_numbers_in {f : Addr} {fd : FuncData} (F : Fun K "numbers_in" "numbers_in" s_numbers_in f fd) (X : Txt mg) (C_number_in : CalB P w K mg base 1 "number_in" (SpR (τ := Str × Int × Int × Unit) (ρ := (Option Int)) fun z => M.number_in z.1 z.2.1 z.2.2.1)) (hm : mg "numbers_in" = some (.ref f)) (hb : L2.Binds K fd ["words", "line", "most"] []) : CalB P w K mg base 2 "numbers_in" (SpO (τ := (List Str) × Int × Int × Unit) (ρ := Int) fun z => M.numbers_in z.1 z.2.1 z.2.2.1) :=
  have sc := sc_numbers_in
  fun_O F sc rfl (fun cdv A outer s H E hr z => let words := z.1; let line := z.2.1; let most := z.2.2.1; ⟨_, _, (bj_asgO sc.nd 3 (oj_lst (il_nil (α := Int))) (fun found => (bj_for (N := (fun s1 : (List Int) => [fz words, fz line, fz most, ol s1, .un, .un])) rfl found default (ij_l (rj_e (ej_n 0 rfl))) (fun _ _ _ => trivial) (gj_name sc.nd 4) (by exact (.same (.same (.same (.same (.same (.same .nil))))))) (fun word s1 => (bj_asg sc.nd 5 (ej_call (C_number_in.at (hr.mono (by decide))) (aj_cons (ej_n 4 rfl) (aj_cons ej_int (aj_cons (ej_op op_sub o2_sub (ej_n 2 rfl) ej_int) aj_nil)))) default (fun number => (bj_ifX (tj_w (tw_or (tj_isN (ej_n 5 rfl)) (tw_or1 (tj_in (ej_un_n (ej_n 5 rfl)) (lk_l (lj_n 3 rfl)))))) bj_never (bj_append 3 (ej_un_n (ej_n 5 rfl)) (fun found => (bj_nilP found (by exact (.same (.same (.same (.same (.drop (.drop .nil)))))))))))))) (fun s1 => (bj_retV (inj := id) 3 rfl)) PassesOwn.never))), by unfold M.numbers_in; first | rfl | (simp only [obs, id_eq]; done) | (simp only [obs, id_eq, Option.bind_assoc]; done) | (simp only [obs, id_eq]; rfl)⟩) hm hb
abbrev s_whole_by : Stmt := topS 27
abbrev N_whole_by : List Str := ["one", "unit"]
theorem sc_whole_by : FnScope N_whole_by ["one", "unit"] (defScope s_whole_by) := ⟨rfl, rfl, rfl, by decide +kernel, rfl, by decide +kernel, by decide +kernel⟩
theorem ok_whole_by {f : Addr} {fd : FuncData} (F : Fun K "whole_by" "whole_by" s_whole_by f fd) (X : Txt mg)  (hm : mg "whole_by" = some (.ref f)) (hb : L2.Binds K fd ["one", "unit"] []) : CalB P w K mg base 1 "whole_by" (SpR (τ := (Int × Int) × Int × Unit) (ρ := Int) fun z => M.whole_by z.1 z.2.1) :=
  have sc := sc_whole_by
  fun_R F sc rfl (fun cdv A outer s H E hr z => let one := z.1; let unit := z.2.1; ⟨_, _, (bj_retI (ej_op op_fdivW o2_div (ej_op op_mulW o2_mul (ej_ix0 (ej_n 0 rfl)) (ej_n 1 rfl)) (ej_ix1 (ej_n 0 rfl)))), by unfold M.whole_by; first | rfl | (simp only [obs, id_eq]; done) | (simp only [obs, id_eq, Option.bind_assoc]; done) | (simp only [obs, id_eq]; rfl)⟩) hm hb
abbrev s_read_touch : Stmt := topS 29
abbrev N_read_touch : List Str := ["rows", "amounts", "lines", "line", "unit", "one"]
theorem sc_read_touch : FnScope N_read_touch ["rows"] (defScope s_read_touch) := ⟨rfl, rfl, rfl, by decide +kernel, rfl, by decide +kernel, by decide +kernel⟩
theorem ok_read_touch {f : Addr} {fd : FuncData} (F : Fun K "read_touch" "read_touch" s_read_touch f fd) (X : Txt mg) (C_amounts_in : CalB P w K mg base 3 "amounts_in" (SpO (τ := (List Str) × Int × Int × Unit) (ρ := (Int × Int)) fun z => M.amounts_in z.1 z.2.1 z.2.2.1)) (C_numbers_in : CalB P w K mg base 2 "numbers_in" (SpO (τ := (List Str) × Int × Int × Unit) (ρ := Int) fun z => M.numbers_in z.1 z.2.1 z.2.2.1)) (C_unit_of : CalB P w K mg base 2 "unit_of" (SpR (τ := (List (Int × Int)) × Unit) (ρ := Int) fun z => M.unit_of z.1)) (C_whole_by : CalB P w K mg base 1 "whole_by" (SpR (τ := (Int × Int) × Int × Unit) (ρ := Int) fun z => M.whole_by z.1 z.2.1)) (hm : mg "read_touch" = some (.ref f)) (hb : L2.Binds K fd ["rows"] []) : CalB P w K mg base 4 "read_touch" (SpR (τ := (List (List Str)) × Unit) (ρ := (Int × ((List Int) × (List (Tp Int))))) fun z => M.read_touch z.1) :=
  have sc := sc_read_touch
  fun_R F sc rfl (fun cdv A outer s H E hr z => let rows := z.1; ⟨_, _, (bj_ifX (tj_w (tw_or (tj_cmp op_lt o2_lt (ej_len (lk_l (lj_e (ej_ix (lk_l (lj_e (ej_n 0 rfl))) ej_int))) X.n_len) ej_int) (tw_or1 (tj_cmp op_gt o2_gt (ej_len (lk_l (lj_e (ej_ix (lk_l (lj_e (ej_n 0 rfl))) ej_int))) X.n_len) (ej_op op_add o2_add (ej_globI X.v_MOST_THINGS) ej_int))))) bj_never (bj_asg sc.nd 1 (ej_o (oj_call (C_amounts_in.at (hr.mono (by decide))) (aj_cons (ej_o (oj_slice (lk_l (lj_e (ej_ix (lk_l (lj_e (ej_n 0 rfl))) ej_int))) (px_some ej_int) px_none)) (aj_cons ej_int (aj_cons ej_int aj_nil))))) default (fun amounts => (bj_asgO sc.nd 2 (oj_lst (il_nil (α := (Tp Int)))) (fun lines => (bj_for (N := (fun s9 : (List (Tp Int)) => [fz rows, fz amounts, ol s9, .un, .un, .un])) rfl lines default (ij_rngL2 (by decide) (lk_l (lj_e (ej_n 0 rfl))) X.n_range X.n_len) (fun _ _ _ => trivial) (gj_name sc.nd 3) (by exact (.same (.same (.same (.same (.same (.same .nil))))))) (fun line s9 => (bj_ifX (tj_w (tw_or (tj_cmp op_gt o2_gt (ej_n 3 rfl) (ej_globI X.v_MOST_LINES)) (tw_or1 (tj_cmp op_ne o2_ne (ej_len (lk_l (lj_e (ej_ix (lk_l (lj_e (ej_n 0 rfl))) (ej_n 3 rfl)))) X.n_len) ej_int)))) bj_never (bj_append 2 (ej_tupOf (lj_e (ej_o (oj_call (C_numbers_in.at (hr.mono (by decide))) (aj_cons (ej_ix (lk_l (lj_e (ej_n 0 rfl))) (ej_n 3 rfl)) (aj_cons (ej_n 3 rfl) (aj_cons (ej_len (lk_l (lj_e (ej_n 1 rfl))) X.n_len) aj_nil)))))) X.n_tuple) (fun lines => (bj_nilP lines (by exact (.same (.same (.same (.drop (.same (.same .nil)))))))))))) (fun s9 => (bj_asg sc.nd 4 (ej_call (C_unit_of.at (hr.mono (by decide))) (aj_cons (ej_n 1 rfl) aj_nil)) default (fun unit => (bj_thaw (xs := s9) 2 (bj_retI (ej_tup2 (aj_cons (ej_n 4 rfl) (aj_cons (ej_tup2 (aj_cons (ej_o (oj_lq (x0 := default) rfl sc.nd (ij_l (rj_e (ej_n 1 rfl))) (blkOk_by (own := [("one", 5)]) (N := N_read_touch) (sc := defScope s_read_touch) (by decide +kernel)) (fun _ _ _ _ _ => (gj_name sc.nd 5)) (fun _ _ _ _ _ _ => (ej_call (C_whole_by.at (hr.mono (by decide))) (aj_cons (ej_n 5 rfl) (aj_cons (ej_n 4 rfl) aj_nil)))))) (aj_cons (ej_n 2 rfl) aj_nil))) aj_nil)))) rfl)))) PassesOwn.never)))))), by unfold M.read_touch; first | rfl | (simp only [obs, id_eq]; done) | (simp only [obs, id_eq, Option.bind_assoc]; done) | (simp only [obs, id_eq]; rfl)⟩) hm hb
abbrev s_read_kind : Stmt := topS 37
abbrev N_read_kind : List Str := ["kind", "rows"]
theorem sc_read_kind : FnScope N_read_kind ["kind", "rows"] (defScope s_read_kind) := ⟨rfl, rfl, rfl, by decide +kernel, rfl, by decide +kernel, by decide +kernel⟩
theorem ok_read_kind {f : Addr} {fd : FuncData} (F : Fun K "read_kind" "read_kind" s_read_kind f fd) (X : Txt mg) (C_read_touch : CalB P w K mg base 4 "read_touch" (SpR (τ := (List (List Str)) × Unit) (ρ := (Int × ((List Int) × (List (Tp Int))))) fun z => M.read_touch z.1)) (hm : mg "read_kind" = some (.ref f)) (hb : L2.Binds K fd ["kind", "rows"] []) : CalB P w K mg base 5 "read_kind" (SpR (τ := Str × (List (List Str)) × Unit) (ρ := (Int × ((List Int) × (List (Tp Int))))) fun z => M.read_kind z.1 z.2.1) :=
  have sc := sc_read_kind
  fun_R F sc rfl (fun cdv A outer s H E hr z => let kind := z.1; let rows := z.2.1; ⟨_, _, (bj_ifX (tj_cmp op_eq o2_eq (ej_n 0 rfl) ej_str) bj_never (bj_ifX (tj_cmp op_eq o2_eq (ej_n 0 rfl) ej_str) (bj_retI (ej_call (C_read_touch.at (hr.mono (by decide))) (aj_cons (ej_n 1 rfl) aj_nil))) (bj_ifX (tj_cmp op_eq o2_eq (ej_n 0 rfl) ej_str) bj_never (bj_ifX (tj_cmp op_eq o2_eq (ej_n 0 rfl) ej_str) bj_never (bj_ifX (tj_cmp op_eq o2_eq (ej_n 0 rfl) ej_str) bj_never (bj_ifX (tj_cmp op_eq o2_eq (ej_n 0 rfl) ej_str) bj_never (bj_ifX (tj_cmp op_eq o2_eq (ej_n 0 rfl) ej_str) bj_never bj_never))))))), by unfold M.read_kind; first | rfl | (simp only [obs, id_eq]; done) | (simp only [obs, id_eq, Option.bind_assoc]; done) | (simp only [obs, id_eq]; rfl)⟩) hm hb
abbrev s_read : Stmt := topS 38
abbrev N_read : List Str := ["text", "rows", "kind", "unit", "given_things", "line"]
theorem sc_read : FnScope N_read ["text"] (defScope s_read) := ⟨rfl, rfl, rfl, by decide +kernel, rfl, by decide +kernel, by decide +kernel⟩
theorem ok_read {f : Addr} {fd : FuncData} (F : Fun K "read" "read" s_read f fd) (X : Txt mg) (C_read_kind : CalB P w K mg base 5 "read_kind" (SpR (τ := Str × (List (List Str)) × Unit) (ρ := (Int × ((List Int) × (List (Tp Int))))) fun z => M.read_kind z.1 z.2.1)) (hm : mg "read" = some (.ref f)) (hb : L2.Binds K fd ["text"] []) : CalB P w K mg base 6 "read" (SpR (τ := Str × Unit) (ρ := (T3 Str Int ((List Int) × (List (Tp Int))))) fun z => M.read z.1) :=
  have sc := sc_read
  fun_R F sc rfl (fun cdv A outer s H E hr z => let text := z.1; ⟨_, _, (bj_asgLc (lqj (x0 := default) rfl sc.nd (i := 1) rfl rfl (sw_true rfl rfl rfl (by decide +kernel)) (ij_l (rj_e (ej_o (oj_split (ej_n 0 rfl) ej_str)))) (blkOk_by (own := [("line", 5)]) (N := N_read) (sc := defScope s_read) (by decide +kernel)) (fun _ _ _ _ _ => (gj_name sc.nd 5)) (fun _ _ _ _ _ _ => (ej_o (oj_split (ej_n 5 rfl) ej_str)))) (fun rows => (bj_thaw (xs := rows) 1 (bj_asg sc.nd 2 (ej_ix (lk_l (lj_e (ej_ix (lk_l (lj_e (ej_n 1 rfl))) ej_int))) ej_int) default (fun kind => (bj_asgG (gj_pair rfl (gj_name sc.nd 3) (gj_name sc.nd 4)) (ej_call (C_read_kind.at (hr.mono (by decide))) (aj_cons (ej_n 2 rfl) (aj_cons (ej_n 1 rfl) aj_nil))) (fun z3 => (bj_retI (ej_tup3 (aj_cons (ej_n 2 rfl) (aj_cons (ej_n 3 rfl) (aj_cons (ej_n 4 rfl) aj_nil)))))) (x0 := default)))) rfl))), by unfold M.read; first | rfl | (simp only [obs, id_eq]; done) | (simp only [obs, id_eq, Option.bind_assoc]; done) | (simp only [obs, id_eq]; rfl)⟩) hm hb
abbrev s__law_wholes : Stmt := topS 48
abbrev N__law_wholes : List Str := ["_law_amounts", "_law_unit_here", "_law_top", "_law_bottom"]
theorem sc__law_wholes : FnScope N__law_wholes ["_law_amounts", "_law_unit_here"] (defScope s__law_wholes) := ⟨rfl, rfl, rfl, by decide +kernel, rfl, by decide +kernel, by decide +kernel⟩
theorem ok__law_wholes {f : Addr} {fd : FuncData} (F : Fun K "_law_wholes" "_law_wholes" s__law_wholes f fd) (X : Txt mg)  (hm : mg "_law_wholes" = some (.ref f)) (hb : L2.Binds K fd ["_law_amounts", "_law_unit_here"] []) : CalB P w K mg base 1 "_law_wholes" (SpO (τ := (List (Int × Int)) × Int × Unit) (ρ := Int) fun z => M.law_wholes z.1 z.2.1) :=
  have sc := sc__law_wholes
  fun_O F sc rfl (fun cdv A outer s H E hr z => let amounts := z.1; let unit_here := z.2.1; ⟨_, _, (bj_retOI (oj_lq (x0 := default) rfl sc.nd (ij_l (rj_e (ej_n 0 rfl))) (blkOk_by (own := [("_law_top", 2), ("_law_bottom", 3)]) (N := N__law_wholes) (sc := defScope s__law_wholes) (by decide +kernel)) (fun _ _ _ _ _ => (gj_pair rfl (gj_name sc.nd 2) (gj_name sc.nd 3))) (fun _ _ _ _ _ _ => (ej_op op_fdivW o2_div (ej_op op_mulW o2_mul (ej_n 2 rfl) (ej_n 1 rfl)) (ej_n 3 rfl))))), by unfold M.law_wholes; first | rfl | (simp only [obs, id_eq]; done) | (simp only [obs, id_eq, Option.bind_assoc]; done) | (simp only [obs, id_eq]; rfl)⟩) hm hb
abbrev s_law : Stmt := topS 52
abbrev N_law : List Str := ["_law_script", "_law_cells", "_law_amounts", "_law_unit_here", "_law_text", "_law_one", "_law_top", "_law_bottom", "_law_by", "_law_k", "_law_cell"]
theorem sc_law : FnScope N_law ["_law_script"] (defScope s_law) := ⟨rfl, rfl, rfl, by decide +kernel, rfl, by decide +kernel, by decide +kernel⟩
theorem ok_law {f : Addr} {fd : FuncData} (F : Fun K "law" "law" s_law f fd) (X : Txt mg) (C__law_cell_at : CalB P w K mg base 1 "_law_cell_at" (SpR (τ := Scr K × Int × Unit) (ρ := Int) fun z => M.law_cell_at z.1.l z.2.1)) (C__law_divisor : CalB P w K mg base 1 "_law_divisor" (SpR (τ := Int × Int × Unit) (ρ := Int) fun z => M.law_divisor z.1 z.2.1)) (C__law_is_read : CalB P w K mg base 2 "_law_is_read" (SpR (τ := (T3 Str Int ((List Int) × (List (Tp Int)))) × Int × (List Int) × Unit) (ρ := Bool) fun z => M.law_is_read z.1 z.2.1 z.2.2.1)) (C__law_parts : CalB P w K mg base 2 "_law_parts" (SpR (τ := Int × Int × Unit) (ρ := (Int × Int)) fun z => M.law_parts z.1 z.2.1)) (C__law_shown : CalB P w K mg base 2 "_law_shown" (SpR (τ := (Int × Int) × Unit) (ρ := Bool) fun z => M.law_shown z.1)) (C__law_unit : CalB P w K mg base 2 "_law_unit" (SpR (τ := (List (Int × Int)) × Unit) (ρ := Int) fun z => M.law_unit z.1)) (C__law_wholes : CalB P w K mg base 1 "_law_wholes" (SpO (τ := (List (Int × Int)) × Int × Unit) (ρ := Int) fun z => M.law_wholes z.1 z.2.1)) (C__law_written : CalB P w K mg base 1 "_law_written" (SpR (τ := (Int × Int) × Unit) (ρ := Str) fun z => M.law_written z.1)) (C_read : CalB P w K mg base 6 "read" (SpR (τ := Str × Unit) (ρ := (T3 Str Int ((List Int) × (List (Tp Int))))) fun z => M.read z.1)) (holds : ∀ ns : List Int, ns.length ≤ 63 → M.law ns = some true) : FnOk P w K mg base CX0 7 f fd ["_law_script"] (spLaw K) :=
  have sc := sc_law
  fun_law (F := M.law) F sc rfl (fun cdv A outer s H E hr z => let script := z.1.l; ⟨_, _, (bj_asg sc.nd 1 (ej_o (oj_cat (lj_e (ej_o (oj_lst (il_cons (ej_call (C__law_cell_at.at (hr.mono (by decide))) (aj_cons (ej_n 0 rfl) (aj_cons ej_int aj_nil))) il_nil)))) (lj_e (ej_o (oj_slice (lk_s rfl 0 rfl) (px_some ej_int) (px_some ej_int)))))) default (fun cells => (bj_asgLc (lqj (x0 := default) rfl sc.nd (i := 2) rfl rfl (sw_true rfl rfl rfl (by decide +kernel)) (ij_enum (rj_e (ej_n 1 rfl)) X.n_enumerate) (blkOk_by (own := [("_law_k", 9), ("_law_cell", 10)]) (N := N_law) (sc := defScope s_law) (by decide +kernel)) (fun _ _ _ _ _ => (gj_pair rfl (gj_name sc.nd 9) (gj_name sc.nd 10))) (fun _ _ _ _ _ _ => (ej_call (C__law_parts.at (hr.mono (by decide))) (aj_cons (ej_n 10 rfl) (aj_cons (ej_n 9 rfl) aj_nil))))) (fun amounts => (bj_thaw (xs := amounts) 2 (bj_asg sc.nd 3 (ej_call (C__law_unit.at (hr.mono (by decide))) (aj_cons (ej_n 2 rfl) aj_nil)) default (fun unit_here => (bj_asg sc.nd 4 (ej_join ej_str (lk_l (lj_e (ej_o (oj_cat (lj_e (ej_o (oj_lst (il_cons ej_str il_nil)))) (lj_e (ej_o (oj_lq (x0 := default) rfl sc.nd (ij_l (rj_e (ej_n 2 rfl))) (blkOk_by (own := [("_law_one", 5)]) (N := N_law) (sc := defScope s_law) (by decide +kernel)) (fun _ _ _ _ _ => (gj_name sc.nd 5)) (fun _ _ _ _ _ _ => (ej_call (C__law_written.at (hr.mono (by decide))) (aj_cons (ej_n 5 rfl) aj_nil))))))))))) default (fun text => (bj_ifX (tj_not (tj_v (ej_call (C__law_is_read.at (hr.mono (by decide))) (aj_cons (ej_call (C_read.at (hr.mono (by decide))) (aj_cons (ej_n 4 rfl) aj_nil)) (aj_cons (ej_n 3 rfl) (aj_cons (ej_o (oj_call (C__law_wholes.at (hr.mono (by decide))) (aj_cons (ej_n 2 rfl) (aj_cons (ej_n 3 rfl) aj_nil)))) aj_nil)))))) (bj_retI ej_bl) (bj_forF (N := (fun s12 : Unit => [fz z.1, fz cells, fz amounts, fz unit_here, fz text, .un, .un, .un, .un, .un, .un])) (Pr := PR) (inj := id) rfl () default (ij_l (rj_e (ej_n 2 rfl))) (fun _ _ _ => trivial) (gj_name sc.nd 5) (by exact (.same (.same (.same (.same (.same (.same (.same (.same (.same (.same (.same .nil)))))))))))) (fun one s12 => (bj_if (tj_not (tj_v (ej_call (C__law_shown.at (hr.mono (by decide))) (aj_cons (ej_n 5 rfl) aj_nil)))) (bj_ret (inj := Fl.ret) ej_bl) (bj_nilL () (by exact (.same (.same (.same (.same (.same (.drop (.same (.same (.same (.same (.same .nil))))))))))))))) (fun s12 => (bj_asg sc.nd 6 (ej_modP (by decide) (ej_call (C__law_cell_at.at (hr.mono (by decide))) (aj_cons (ej_n 0 rfl) (aj_cons ej_int aj_nil))) (ej_powKK (z := 1000000000000000000000000000000000000000000000000000000000000) ⟨by decide, by decide, by decide⟩ (by decide +kernel))) default (fun top => (bj_asg sc.nd 7 (ej_op op_add o2_add ej_int (ej_op op_mod o2_mod (ej_call (C__law_cell_at.at (hr.mono (by decide))) (aj_cons (ej_n 0 rfl) (aj_cons ej_int aj_nil))) (ej_ix (lk_l (lj_e (ej_o (oj_lst (il_cons (ej_powKK (z := 1000000000000000000000000000000) ⟨by decide, by decide, by decide⟩ (by decide +kernel)) (il_cons ej_int il_nil)))))) (ej_modK (by decide) (ej_call (C__law_cell_at.at (hr.mono (by decide))) (aj_cons (ej_n 0 rfl) (aj_cons ej_int aj_nil))))))) default (fun bottom => (bj_asg sc.nd 8 (ej_call (C__law_divisor.at (hr.mono (by decide))) (aj_cons (ej_n 7 rfl) (aj_cons (ej_n 6 rfl) aj_nil))) default (fun by_ => (bj_retI (ej_and (ej_call (C__law_shown.at (hr.mono (by decide))) (aj_cons (ej_tup2 (aj_cons (ej_op op_fdivW o2_div (ej_n 6 rfl) (ej_n 8 rfl)) (aj_cons (ej_op op_fdivW o2_div (ej_n 7 rfl) (ej_n 8 rfl)) aj_nil))) aj_nil)) (ej_and (ej_call (C__law_shown.at (hr.mono (by decide))) (aj_cons (ej_tup2 (aj_cons (ej_n 6 rfl) (aj_cons ej_int aj_nil))) aj_nil)) (ej_one (ej_call (C__law_shown.at (hr.mono (by decide))) (aj_cons (ej_tup2 (aj_cons ej_int (aj_cons ej_int aj_nil))) aj_nil))))))))))))) PassesOwn.never)))))) rfl))))), by unfold M.law; first | rfl | (simp only [obs, id_eq]; done) | (simp only [obs, id_eq, Option.bind_assoc]; done) | (simp only [obs, id_eq]; rfl)⟩) holds
end
theorem all_mk {l : PySem.W.OpenLaw} {w : World} {K : PySem.W.Frag} {h : Heap} {mg : Str → Option Value} {fa : Addr} (X : K.In h) (G : h.Ns mainGlobals mg) (hfa : mg "law" = some (.ref fa)) (holds : ∀ ns : List Int, ns.length ≤ 63 → M.law ns = some true)
    {f0 : Addr} {od0 an0 : Option Addr} {sl0 : Array (Option Value)} {oc0 kV0 dc0 pm0 cd0 ct0 : Value} (a0 : PySem.W.nsIn K mainGlobals "_law_divisor" = some (some (.ref f0))) (l0 : K.lookup f0 = some ⟨oc0, od0, .func (PySem.W.fnOf "_law_divisor" "_law_divisor" (defArgs s__law_divisor) (defBody s__law_divisor) (defScope s__law_divisor) .none kV0 dc0 pm0 an0 cd0 ct0), sl0⟩) (c0 : PySem.W.codeIn K cd0 "_law_divisor" = true) (k0 : PySem.W.keepIn K (.ref f0) = true)
    {f1 : Addr} {od1 an1 : Option Addr} {sl1 : Array (Option Value)} {oc1 kV1 dc1 pm1 cd1 ct1 : Value} (a1 : PySem.W.nsIn K mainGlobals "_law_unit" = some (some (.ref f1))) (l1 : K.lookup f1 = some ⟨oc1, od1, .func (PySem.W.fnOf "_law_unit" "_law_unit" (defArgs s__law_unit) (defBody s__law_unit) (defScope s__law_unit) .none kV1 dc1 pm1 an1 cd1 ct1), sl1⟩) (c1 : PySem.W.codeIn K cd1 "_law_unit" = true) (k1 : PySem.W.keepIn K (.ref f1) = true)
    {f2 : Addr} {od2 an2 : Option Addr} {sl2 : Array (Option Value)} {oc2 kV2 dc2 pm2 cd2 ct2 : Value} (a2 : PySem.W.nsIn K mainGlobals "_law_number" = some (some (.ref f2))) (l2 : K.lookup f2 = some ⟨oc2, od2, .func (PySem.W.fnOf "_law_number" "_law_number" (defArgs s__law_number) (defBody s__law_number) (defScope s__law_number) .none kV2 dc2 pm2 an2 cd2 ct2), sl2⟩) (c2 : PySem.W.codeIn K cd2 "_law_number" = true) (k2 : PySem.W.keepIn K (.ref f2) = true)
    {f3 : Addr} {od3 an3 : Option Addr} {sl3 : Array (Option Value)} {oc3 kV3 dc3 pm3 cd3 ct3 : Value} (a3 : PySem.W.nsIn K mainGlobals "_law_parts" = some (some (.ref f3))) (l3 : K.lookup f3 = some ⟨oc3, od3, .func (PySem.W.fnOf "_law_parts" "_law_parts" (defArgs s__law_parts) (defBody s__law_parts) (defScope s__law_parts) .none kV3 dc3 pm3 an3 cd3 ct3), sl3⟩) (c3 : PySem.W.codeIn K cd3 "_law_parts" = true) (k3 : PySem.W.keepIn K (.ref f3) = true)
    {f4 : Addr} {od4 an4 : Option Addr} {sl4 : Array (Option Value)} {oc4 kV4 dc4 pm4 cd4 ct4 : Value} (a4 : PySem.W.nsIn K mainGlobals "_law_is_wholes" = some (some (.ref f4))) (l4 : K.lookup f4 = some ⟨oc4, od4, .func (PySem.W.fnOf "_law_is_wholes" "_law_is_wholes" (defArgs s__law_is_wholes) (defBody s__law_is_wholes) (defScope s__law_is_wholes) .none kV4 dc4 pm4 an4 cd4 ct4), sl4⟩) (c4 : PySem.W.codeIn K cd4 "_law_is_wholes" = true) (k4 : PySem.W.keepIn K (.ref f4) = true)
    {f5 : Addr} {od5 an5 : Option Addr} {sl5 : Array (Option Value)} {oc5 kV5 dc5 pm5 cd5 ct5 : Value} (a5 : PySem.W.nsIn K mainGlobals "_law_is_read" = some (some (.ref f5))) (l5 : K.lookup f5 = some ⟨oc5, od5, .func (PySem.W.fnOf "_law_is_read" "_law_is_read" (defArgs s__law_is_read) (defBody s__law_is_read) (defScope s__law_is_read) .none kV5 dc5 pm5 an5 cd5 ct5), sl5⟩) (c5 : PySem.W.codeIn K cd5 "_law_is_read" = true) (k5 : PySem.W.keepIn K (.ref f5) = true)
    {f6 : Addr} {od6 an6 : Option Addr} {sl6 : Array (Option Value)} {oc6 kV6 dc6 pm6 cd6 ct6 : Value} (a6 : PySem.W.nsIn K mainGlobals "_law_cell_at" = some (some (.ref f6))) (l6 : K.lookup f6 = some ⟨oc6, od6, .func (PySem.W.fnOf "_law_cell_at" "_law_cell_at" (defArgs s__law_cell_at) (defBody s__law_cell_at) (defScope s__law_cell_at) .none kV6 dc6 pm6 an6 cd6 ct6), sl6⟩) (c6 : PySem.W.codeIn K cd6 "_law_cell_at" = true) (k6 : PySem.W.keepIn K (.ref f6) = true)
    {f7 : Addr} {od7 an7 : Option Addr} {sl7 : Array (Option Value)} {oc7 kV7 dc7 pm7 cd7 ct7 : Value} (a7 : PySem.W.nsIn K mainGlobals "shown_amount" = some (some (.ref f7))) (l7 : K.lookup f7 = some ⟨oc7, od7, .func (PySem.W.fnOf "shown_amount" "shown_amount" (defArgs s_shown_amount) (defBody s_shown_amount) (defScope s_shown_amount) .none kV7 dc7 pm7 an7 cd7 ct7), sl7⟩) (c7 : PySem.W.codeIn K cd7 "shown_amount" = true) (k7 : PySem.W.keepIn K (.ref f7) = true)
    {f8 : Addr} {od8 an8 : Option Addr} {sl8 : Array (Option Value)} {oc8 kV8 dc8 pm8 cd8 ct8 : Value} (a8 : PySem.W.nsIn K mainGlobals "_law_written" = some (some (.ref f8))) (l8 : K.lookup f8 = some ⟨oc8, od8, .func (PySem.W.fnOf "_law_written" "_law_written" (defArgs s__law_written) (defBody s__law_written) (defScope s__law_written) .none kV8 dc8 pm8 an8 cd8 ct8), sl8⟩) (c8 : PySem.W.codeIn K cd8 "_law_written" = true) (k8 : PySem.W.keepIn K (.ref f8) = true)
    {f9 : Addr} {od9 an9 : Option Addr} {sl9 : Array (Option Value)} {oc9 kV9 dc9 pm9 cd9 ct9 : Value} (a9 : PySem.W.nsIn K mainGlobals "_law_shown" = some (some (.ref f9))) (l9 : K.lookup f9 = some ⟨oc9, od9, .func (PySem.W.fnOf "_law_shown" "_law_shown" (defArgs s__law_shown) (defBody s__law_shown) (defScope s__law_shown) .none kV9 dc9 pm9 an9 cd9 ct9), sl9⟩) (c9 : PySem.W.codeIn K cd9 "_law_shown" = true) (k9 : PySem.W.keepIn K (.ref f9) = true)
    {f10 : Addr} {od10 an10 : Option Addr} {sl10 : Array (Option Value)} {oc10 kV10 dc10 pm10 cd10 ct10 : Value} (a10 : PySem.W.nsIn K mainGlobals "number_in" = some (some (.ref f10))) (l10 : K.lookup f10 = some ⟨oc10, od10, .func (PySem.W.fnOf "number_in" "number_in" (defArgs s_number_in) (defBody s_number_in) (defScope s_number_in) .none kV10 dc10 pm10 an10 cd10 ct10), sl10⟩) (c10 : PySem.W.codeIn K cd10 "number_in" = true) (k10 : PySem.W.keepIn K (.ref f10) = true)
    {f11 : Addr} {od11 an11 : Option Addr} {sl11 : Array (Option Value)} {oc11 kV11 dc11 pm11 cd11 ct11 : Value} (a11 : PySem.W.nsIn K mainGlobals "common_factor" = some (some (.ref f11))) (l11 : K.lookup f11 = some ⟨oc11, od11, .func (PySem.W.fnOf "common_factor" "common_factor" (defArgs s_common_factor) (defBody s_common_factor) (defScope s_common_factor) .none kV11 dc11 pm11 an11 cd11 ct11), sl11⟩) (c11 : PySem.W.codeIn K cd11 "common_factor" = true) (k11 : PySem.W.keepIn K (.ref f11) = true)
    {f12 : Addr} {od12 an12 : Option Addr} {sl12 : Array (Option Value)} {oc12 kV12 dc12 pm12 cd12 ct12 : Value} (a12 : PySem.W.nsIn K mainGlobals "amount_in" = some (some (.ref f12))) (l12 : K.lookup f12 = some ⟨oc12, od12, .func (PySem.W.fnOf "amount_in" "amount_in" (defArgs s_amount_in) (defBody s_amount_in) (defScope s_amount_in) .none kV12 dc12 pm12 an12 cd12 ct12), sl12⟩) (c12 : PySem.W.codeIn K cd12 "amount_in" = true) (k12 : PySem.W.keepIn K (.ref f12) = true)
    {f13 : Addr} {od13 an13 : Option Addr} {sl13 : Array (Option Value)} {oc13 kV13 dc13 pm13 cd13 ct13 : Value} (a13 : PySem.W.nsIn K mainGlobals "amounts_in" = some (some (.ref f13))) (l13 : K.lookup f13 = some ⟨oc13, od13, .func (PySem.W.fnOf "amounts_in" "amounts_in" (defArgs s_amounts_in) (defBody s_amounts_in) (defScope s_amounts_in) .none kV13 dc13 pm13 an13 cd13 ct13), sl13⟩) (c13 : PySem.W.codeIn K cd13 "amounts_in" = true) (k13 : PySem.W.keepIn K (.ref f13) = true)
    {f14 : Addr} {od14 an14 : Option Addr} {sl14 : Array (Option Value)} {oc14 kV14 dc14 pm14 cd14 ct14 : Value} (a14 : PySem.W.nsIn K mainGlobals "unit_of" = some (some (.ref f14))) (l14 : K.lookup f14 = some ⟨oc14, od14, .func (PySem.W.fnOf "unit_of" "unit_of" (defArgs s_unit_of) (defBody s_unit_of) (defScope s_unit_of) .none kV14 dc14 pm14 an14 cd14 ct14), sl14⟩) (c14 : PySem.W.codeIn K cd14 "unit_of" = true) (k14 : PySem.W.keepIn K (.ref f14) = true)
    {f15 : Addr} {od15 an15 : Option Addr} {sl15 : Array (Option Value)} {oc15 kV15 dc15 pm15 cd15 ct15 : Value} (a15 : PySem.W.nsIn K mainGlobals "numbers_in" = some (some (.ref f15))) (l15 : K.lookup f15 = some ⟨oc15, od15, .func (PySem.W.fnOf "numbers_in" "numbers_in" (defArgs s_numbers_in) (defBody s_numbers_in) (defScope s_numbers_in) .none kV15 dc15 pm15 an15 cd15 ct15), sl15⟩) (c15 : PySem.W.codeIn K cd15 "numbers_in" = true) (k15 : PySem.W.keepIn K (.ref f15) = true)
    {f16 : Addr} {od16 an16 : Option Addr} {sl16 : Array (Option Value)} {oc16 kV16 dc16 pm16 cd16 ct16 : Value} (a16 : PySem.W.nsIn K mainGlobals "whole_by" = some (some (.ref f16))) (l16 : K.lookup f16 = some ⟨oc16, od16, .func (PySem.W.fnOf "whole_by" "whole_by" (defArgs s_whole_by) (defBody s_whole_by) (defScope s_whole_by) .none kV16 dc16 pm16 an16 cd16 ct16), sl16⟩) (c16 : PySem.W.codeIn K cd16 "whole_by" = true) (k16 : PySem.W.keepIn K (.ref f16) = true)
    {f17 : Addr} {od17 an17 : Option Addr} {sl17 : Array (Option Value)} {oc17 kV17 dc17 pm17 cd17 ct17 : Value} (a17 : PySem.W.nsIn K mainGlobals "read_touch" = some (some (.ref f17))) (l17 : K.lookup f17 = some ⟨oc17, od17, .func (PySem.W.fnOf "read_touch" "read_touch" (defArgs s_read_touch) (defBody s_read_touch) (defScope s_read_touch) .none kV17 dc17 pm17 an17 cd17 ct17), sl17⟩) (c17 : PySem.W.codeIn K cd17 "read_touch" = true) (k17 : PySem.W.keepIn K (.ref f17) = true)
    {f18 : Addr} {od18 an18 : Option Addr} {sl18 : Array (Option Value)} {oc18 kV18 dc18 pm18 cd18 ct18 : Value} (a18 : PySem.W.nsIn K mainGlobals "read_kind" = some (some (.ref f18))) (l18 : K.lookup f18 = some ⟨oc18, od18, .func (PySem.W.fnOf "read_kind" "read_kind" (defArgs s_read_kind) (defBody s_read_kind) (defScope s_read_kind) .none kV18 dc18 pm18 an18 cd18 ct18), sl18⟩) (c18 : PySem.W.codeIn K cd18 "read_kind" = true) (k18 : PySem.W.keepIn K (.ref f18) = true)
    {f19 : Addr} {od19 an19 : Option Addr} {sl19 : Array (Option Value)} {oc19 kV19 dc19 pm19 cd19 ct19 : Value} (a19 : PySem.W.nsIn K mainGlobals "read" = some (some (.ref f19))) (l19 : K.lookup f19 = some ⟨oc19, od19, .func (PySem.W.fnOf "read" "read" (defArgs s_read) (defBody s_read) (defScope s_read) .none kV19 dc19 pm19 an19 cd19 ct19), sl19⟩) (c19 : PySem.W.codeIn K cd19 "read" = true) (k19 : PySem.W.keepIn K (.ref f19) = true)
    {f20 : Addr} {od20 an20 : Option Addr} {sl20 : Array (Option Value)} {oc20 kV20 dc20 pm20 cd20 ct20 : Value} (a20 : PySem.W.nsIn K mainGlobals "_law_wholes" = some (some (.ref f20))) (l20 : K.lookup f20 = some ⟨oc20, od20, .func (PySem.W.fnOf "_law_wholes" "_law_wholes" (defArgs s__law_wholes) (defBody s__law_wholes) (defScope s__law_wholes) .none kV20 dc20 pm20 an20 cd20 ct20), sl20⟩) (c20 : PySem.W.codeIn K cd20 "_law_wholes" = true) (k20 : PySem.W.keepIn K (.ref f20) = true)
    {f21 : Addr} {od21 an21 : Option Addr} {sl21 : Array (Option Value)} {oc21 kV21 dc21 pm21 cd21 ct21 : Value} (a21 : PySem.W.nsIn K mainGlobals "law" = some (some (.ref f21))) (l21 : K.lookup f21 = some ⟨oc21, od21, .func (PySem.W.fnOf "law" "law" (defArgs s_law) (defBody s_law) (defScope s_law) .none kV21 dc21 pm21 an21 cd21 ct21), sl21⟩) (c21 : PySem.W.codeIn K cd21 "law" = true) (k21 : PySem.W.keepIn K (.ref f21) = true)
    (z_bool : PySem.W.nsIn K mainGlobals "bool" = some none)
    (z_divmod : PySem.W.nsIn K mainGlobals "divmod" = some none)
    (z_enumerate : PySem.W.nsIn K mainGlobals "enumerate" = some none)
    (z_int : PySem.W.nsIn K mainGlobals "int" = some none)
    (z_isinstance : PySem.W.nsIn K mainGlobals "isinstance" = some none)
    (z_len : PySem.W.nsIn K mainGlobals "len" = some none)
    (z_list : PySem.W.nsIn K mainGlobals "list" = some none)
    (z_range : PySem.W.nsIn K mainGlobals "range" = some none)
    (z_str : PySem.W.nsIn K mainGlobals "str" = some none)
    (z_tuple : PySem.W.nsIn K mainGlobals "tuple" = some none)
    (z_zip : PySem.W.nsIn K mainGlobals "zip" = some none)
    {tk_FIGURES : Tok} (zv_FIGURES : PySem.W.nsIn K mainGlobals "FIGURES" = some (some (.str (Str.ofString "0123456789") tk_FIGURES)))
    {tk_MOST_LINES : Tok} (zv_MOST_LINES : PySem.W.nsIn K mainGlobals "MOST_LINES" = some (some (.int 80 tk_MOST_LINES)))
    {tk_MOST_THINGS : Tok} (zv_MOST_THINGS : PySem.W.nsIn K mainGlobals "MOST_THINGS" = some (some (.int 40 tk_MOST_THINGS)))
    : ∃ fd : FuncData, (∀ (s : Shared) (v : Value), BindsTo s fd ⟨[v], []⟩ [("_law_script", v)]) ∧ ∀ base : Heap, K.In base → base.Ns mainGlobals mg → FnOk l.prog w K mg base CX0 7 fa fd ["_law_script"] (spLaw K) := by
  have e := hfa.symm.trans (PySem.W.mg_of X G a21)
  cases e
  have T : Txt mg := ⟨PySem.W.mg_none_of X G z_bool, PySem.W.mg_none_of X G z_divmod, PySem.W.mg_none_of X G z_enumerate, PySem.W.mg_none_of X G z_int, PySem.W.mg_none_of X G z_isinstance, PySem.W.mg_none_of X G z_len, PySem.W.mg_none_of X G z_list, PySem.W.mg_none_of X G z_range, PySem.W.mg_none_of X G z_str, PySem.W.mg_none_of X G z_tuple, PySem.W.mg_none_of X G z_zip, ⟨tk_FIGURES, PySem.W.mg_of X G zv_FIGURES⟩, ⟨tk_MOST_LINES, PySem.W.mg_of X G zv_MOST_LINES⟩, ⟨tk_MOST_THINGS, PySem.W.mg_of X G zv_MOST_THINGS⟩⟩
  refine ⟨PySem.W.fnOf "law" "law" (defArgs s_law) (defBody s_law) (defScope s_law) .none kV21 dc21 pm21 an21 cd21 ct21, fun s v => .of_eq rfl, fun base _ _ => ?_⟩
  have F0 := fun_mk (st := s__law_divisor) l0 c0 k0
  have C0 := ok__law_divisor (P := l.prog) (w := w) (base := base) F0 T  (PySem.W.mg_of X G a0) (F0.binds (ps := ["_law_one", "_law_other"]) fun _ _ _ _ _ _ us hl => match us, hl with | [_, _], _ => rfl)
  have F1 := fun_mk (st := s__law_unit) l1 c1 k1
  have C1 := ok__law_unit (P := l.prog) (w := w) (base := base) F1 T C0 (PySem.W.mg_of X G a1) (F1.binds (ps := ["_law_amounts"]) fun _ _ _ _ _ _ us hl => match us, hl with | [_], _ => rfl)
  have F2 := fun_mk (st := s__law_number) l2 c2 k2
  have C2 := ok__law_number (P := l.prog) (w := w) (base := base) F2 T  (PySem.W.mg_of X G a2) (F2.binds (ps := ["_law_cell", "_law_k"]) fun _ _ _ _ _ _ us hl => match us, hl with | [_, _], _ => rfl)
  have F3 := fun_mk (st := s__law_parts) l3 c3 k3
  have C3 := ok__law_parts (P := l.prog) (w := w) (base := base) F3 T C0 C2 (PySem.W.mg_of X G a3) (F3.binds (ps := ["_law_cell", "_law_k"]) fun _ _ _ _ _ _ us hl => match us, hl with | [_, _], _ => rfl)
  have F4 := fun_mk (st := s__law_is_wholes) l4 c4 k4
  have C4 := ok__law_is_wholes (P := l.prog) (w := w) (base := base) F4 T  (PySem.W.mg_of X G a4) (F4.binds (ps := ["_law_found", "_law_due"]) fun _ _ _ _ _ _ us hl => match us, hl with | [_, _], _ => rfl)
  have F5 := fun_mk (st := s__law_is_read) l5 c5 k5
  have C5 := ok__law_is_read (P := l.prog) (w := w) (base := base) F5 T C4 (PySem.W.mg_of X G a5) (F5.binds (ps := ["_law_found", "_law_unit_here", "_law_wholes_here"]) fun _ _ _ _ _ _ us hl => match us, hl with | [_, _, _], _ => rfl)
  have F6 := fun_mk (st := s__law_cell_at) l6 c6 k6
  have C6 := ok__law_cell_at (P := l.prog) (w := w) (base := base) F6 T  (PySem.W.mg_of X G a6) (F6.binds (ps := ["_law_script", "_law_k"]) fun _ _ _ _ _ _ us hl => match us, hl with | [_, _], _ => rfl)
  have F7 := fun_mk (st := s_shown_amount) l7 c7 k7
  have C7 := ok_shown_amount (P := l.prog) (w := w) (base := base) F7 T  (PySem.W.mg_of X G a7) (F7.binds (ps := ["one"]) fun _ _ _ _ _ _ us hl => match us, hl with | [_], _ => rfl)
  have F8 := fun_mk (st := s__law_written) l8 c8 k8
  have C8 := ok__law_written (P := l.prog) (w := w) (base := base) F8 T  (PySem.W.mg_of X G a8) (F8.binds (ps := ["_law_one"]) fun _ _ _ _ _ _ us hl => match us, hl with | [_], _ => rfl)
  have F9 := fun_mk (st := s__law_shown) l9 c9 k9
  have C9 := ok__law_shown (P := l.prog) (w := w) (base := base) F9 T C8 C7 (PySem.W.mg_of X G a9) (F9.binds (ps := ["_law_one"]) fun _ _ _ _ _ _ us hl => match us, hl with | [_], _ => rfl)
  have F10 := fun_mk (st := s_number_in) l10 c10 k10
  have C10 := ok_number_in (P := l.prog) (w := w) (base := base) F10 T  (PySem.W.mg_of X G a10) (F10.binds (ps := ["text", "least", "most"]) fun _ _ _ _ _ _ us hl => match us, hl with | [_, _, _], _ => rfl)
  have F11 := fun_mk (st := s_common_factor) l11 c11 k11
  have C11 := ok_common_factor (P := l.prog) (w := w) (base := base) F11 T  (PySem.W.mg_of X G a11) (F11.binds (ps := ["high", "low"]) fun _ _ _ _ _ _ us hl => match us, hl with | [_, _], _ => rfl)
  have F12 := fun_mk (st := s_amount_in) l12 c12 k12
  have C12 := ok_amount_in (P := l.prog) (w := w) (base := base) F12 T C11 C10 (PySem.W.mg_of X G a12) (F12.binds (ps := ["text"]) fun _ _ _ _ _ _ us hl => match us, hl with | [_], _ => rfl)
  have F13 := fun_mk (st := s_amounts_in) l13 c13 k13
  have C13 := ok_amounts_in (P := l.prog) (w := w) (base := base) F13 T C12 (PySem.W.mg_of X G a13) (F13.binds (ps := ["words", "line", "least"]) fun _ _ _ _ _ _ us hl => match us, hl with | [_, _, _], _ => rfl)
  have F14 := fun_mk (st := s_unit_of) l14 c14 k14
  have C14 := ok_unit_of (P := l.prog) (w := w) (base := base) F14 T C11 (PySem.W.mg_of X G a14) (F14.binds (ps := ["amounts"]) fun _ _ _ _ _ _ us hl => match us, hl with | [_], _ => rfl)
  have F15 := fun_mk (st := s_numbers_in) l15 c15 k15
  have C15 := ok_numbers_in (P := l.prog) (w := w) (base := base) F15 T C10 (PySem.W.mg_of X G a15) (F15.binds (ps := ["words", "line", "most"]) fun _ _ _ _ _ _ us hl => match us, hl with | [_, _, _], _ => rfl)
  have F16 := fun_mk (st := s_whole_by) l16 c16 k16
  have C16 := ok_whole_by (P := l.prog) (w := w) (base := base) F16 T  (PySem.W.mg_of X G a16) (F16.binds (ps := ["one", "unit"]) fun _ _ _ _ _ _ us hl => match us, hl with | [_, _], _ => rfl)
  have F17 := fun_mk (st := s_read_touch) l17 c17 k17
  have C17 := ok_read_touch (P := l.prog) (w := w) (base := base) F17 T C13 C15 C14 C16 (PySem.W.mg_of X G a17) (F17.binds (ps := ["rows"]) fun _ _ _ _ _ _ us hl => match us, hl with | [_], _ => rfl)
  have F18 := fun_mk (st := s_read_kind) l18 c18 k18
  have C18 := ok_read_kind (P := l.prog) (w := w) (base := base) F18 T C17 (PySem.W.mg_of X G a18) (F18.binds (ps := ["kind", "rows"]) fun _ _ _ _ _ _ us hl => match us, hl with | [_, _], _ => rfl)
  have F19 := fun_mk (st := s_read) l19 c19 k19
  have C19 := ok_read (P := l.prog) (w := w) (base := base) F19 T C18 (PySem.W.mg_of X G a19) (F19.binds (ps := ["text"]) fun _ _ _ _ _ _ us hl => match us, hl with | [_], _ => rfl)
  have F20 := fun_mk (st := s__law_wholes) l20 c20 k20
  have C20 := ok__law_wholes (P := l.prog) (w := w) (base := base) F20 T  (PySem.W.mg_of X G a20) (F20.binds (ps := ["_law_amounts", "_law_unit_here"]) fun _ _ _ _ _ _ us hl => match us, hl with | [_, _], _ => rfl)
  have F21 := fun_mk (st := s_law) l21 c21 k21
  exact ok_law F21 T C6 C0 C5 C3 C9 C1 C20 C8 C19 holds
end Wk
open PySem PySem.W PyProof.Rows
set_option maxRecDepth 100000 in
set_option maxHeartbeats 0 in
theorem PySem.Challenge.cw_goodenough_k51_amounts_and_units_holds : PySem.Challenge.rw_goodenough_k51_amounts_and_units.Holds := by
  w_on; o_law; k_head; (case hw => w_witness2)
  k_fill
  refine L2.walk_of (l := PySem.Challenge.rw_goodenough_k51_amounts_and_units) (n := 63) (k := 7) (x := "_law_script") (CX := fun _ => L2.CX0) (sp := fun w => GM.spLaw _) rfl (by decide) rfl ⟨rfl, by decide, by decide⟩ (fun w h Y => PySem.W.kIn_of Y) ?F (fun _ _ a ns hl _ hS => ⟨a, ns, rfl, hS, hl, fun _ => rfl⟩) (fun _ _ _ _ _ h => h)
  case F =>
    intro w mg fa h KX G hmg
    refine' Wk.all_mk KX G hmg M.law_holds ?a0 ?l0 ?c0 ?k0 ?a1 ?l1 ?c1 ?k1 ?a2 ?l2 ?c2 ?k2 ?a3 ?l3 ?c3 ?k3 ?a4 ?l4 ?c4 ?k4 ?a5 ?l5 ?c5 ?k5 ?a6 ?l6 ?c6 ?k6 ?a7 ?l7 ?c7 ?k7 ?a8 ?l8 ?c8 ?k8 ?a9 ?l9 ?c9 ?k9 ?a10 ?l10 ?c10 ?k10 ?a11 ?l11 ?c11 ?k11 ?a12 ?l12 ?c12 ?k12 ?a13 ?l13 ?c13 ?k13 ?a14 ?l14 ?c14 ?k14 ?a15 ?l15 ?c15 ?k15 ?a16 ?l16 ?c16 ?k16 ?a17 ?l17 ?c17 ?k17 ?a18 ?l18 ?c18 ?k18 ?a19 ?l19 ?c19 ?k19 ?a20 ?l20 ?c20 ?k20 ?a21 ?l21 ?c21 ?k21 ?z_bool ?z_divmod ?z_enumerate ?z_int ?z_isinstance ?z_len ?z_list ?z_range ?z_str ?z_tuple ?z_zip ?zv_FIGURES ?zv_MOST_LINES ?zv_MOST_THINGS
    (case a0 => k_is)
    (case l0 => k_is)
    (case c0 => k_is)
    (case k0 => k_is)
    (case a1 => k_is)
    (case l1 => k_is)
    (case c1 => k_is)
    (case k1 => k_is)
    (case a2 => k_is)
    (case l2 => k_is)
    (case c2 => k_is)
    (case k2 => k_is)
    (case a3 => k_is)
    (case l3 => k_is)
    (case c3 => k_is)
    (case k3 => k_is)
    (case a4 => k_is)
    (case l4 => k_is)
    (case c4 => k_is)
    (case k4 => k_is)
    (case a5 => k_is)
    (case l5 => k_is)
    (case c5 => k_is)
    (case k5 => k_is)
    (case a6 => k_is)
    (case l6 => k_is)
    (case c6 => k_is)
    (case k6 => k_is)
    (case a7 => k_is)
    (case l7 => k_is)
    (case c7 => k_is)
    (case k7 => k_is)
    (case a8 => k_is)
    (case l8 => k_is)
    (case c8 => k_is)
    (case k8 => k_is)
    (case a9 => k_is)
    (case l9 => k_is)
    (case c9 => k_is)
    (case k9 => k_is)
    (case a10 => k_is)
    (case l10 => k_is)
    (case c10 => k_is)
    (case k10 => k_is)
    (case a11 => k_is)
    (case l11 => k_is)
    (case c11 => k_is)
    (case k11 => k_is)
    (case a12 => k_is)
    (case l12 => k_is)
    (case c12 => k_is)
    (case k12 => k_is)
    (case a13 => k_is)
    (case l13 => k_is)
    (case c13 => k_is)
    (case k13 => k_is)
    (case a14 => k_is)
    (case l14 => k_is)
    (case c14 => k_is)
    (case k14 => k_is)
    (case a15 => k_is)
    (case l15 => k_is)
    (case c15 => k_is)
    (case k15 => k_is)
    (case a16 => k_is)
    (case l16 => k_is)
    (case c16 => k_is)
    (case k16 => k_is)
    (case a17 => k_is)
    (case l17 => k_is)
    (case c17 => k_is)
    (case k17 => k_is)
    (case a18 => k_is)
    (case l18 => k_is)
    (case c18 => k_is)
    (case k18 => k_is)
    (case a19 => k_is)
    (case l19 => k_is)
    (case c19 => k_is)
    (case k19 => k_is)
    (case a20 => k_is)
    (case l20 => k_is)
    (case c20 => k_is)
    (case k20 => k_is)
    (case a21 => k_is)
    (case l21 => k_is)
    (case c21 => k_is)
    (case k21 => k_is)
    (case z_bool => k_is)
    (case z_divmod => k_is)
    (case z_enumerate => k_is)
    (case z_int => k_is)
    (case z_isinstance => k_is)
    (case z_len => k_is)
    (case z_list => k_is)
    (case z_range => k_is)
    (case z_str => k_is)
    (case z_tuple => k_is)
    (case z_zip => k_is)
    (case zv_FIGURES => k_is)
    (case zv_MOST_LINES => k_is)
    (case zv_MOST_THINGS => k_is)
