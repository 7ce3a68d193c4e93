import PyProof.Rows.All
import Wide.All
import OpenK.AllK
import Wide.FinOn
import HandS.ForMost
import HandS.Star
import HandS.Wide
import HandS.Style
import HandS.Walk
import HandS.Dict
import PyProof.SliceStr2
import KE.KRevSl
import HandS.NoneIn
import HandS.Ends
import HandS.IsInst
import KE.DataAny
import HandS.SlotsOwn
import HandS.Zip
import PySem.Challenge.RW_threeshown_k17_factors
set_option Elab.async false
set_option linter.all false
set_option maxRecDepth 100000
set_option maxHeartbeats 4000000
/-! Typed readings over the hand layer: representations of Lean data by values, environments of slots, judgements that say which Lean value an expression or a block computes. -/
namespace Ty
open PySem L2

/-! ### representations -/
structure Rp (α : Type) where
  r : Hp → V → α → Prop
  st : ∀ {H H' : Hp} {v : V} {a : α}, Same H H' → r H v a → r H' v a
structure Rps (α : Type) where
  r : Hp → List V → α → Prop
  st : ∀ {H H' : Hp} {vs : List V} {a : α}, Same H H' → r H vs a → r H' vs a

/-- the largest size that we carry -/
def cap : Nat := 1000000
theorem cap_line {n : Nat} (h : n ≤ cap) : n ≤ sizeLine := Nat.le_trans h (by unfold cap; decide)
theorem cap_lt {n : Nat} (h : n < cap) : n < sizeLine := Nat.lt_of_lt_of_le h (by unfold cap; decide)

def ofL (l : List Nat) : Str := ⟨l.toArray⟩
theorem ofL_inj {a b : List Nat} (h : ofL a = ofL b) : a = b := by
  have := congrArg (fun s : Str => s.cps.toList) h
  simpa [ofL] using this
theorem ofL_len (l : List Nat) : (ofL l).length = l.length := by simp [ofL, Str.length]
theorem ofL_cps (l : List Nat) : (ofL l).cps.toList = l := by simp [ofL]
theorem ofL_toList (s : Str) : ofL s.cps.toList = s := by cases s; simp [ofL]

def rI : Rp Int := ⟨fun _ v i => v = .int i, fun _ h => h⟩
def rB : Rp Bool := ⟨fun _ v i => v = .bl i, fun _ h => h⟩
def rN : Rp Unit := ⟨fun _ v _ => v = .non, fun _ h => h⟩
/-- a text by its signs -/
def rS : Rp (List Nat) := ⟨fun _ v l => v = .str (ofL l) ∧ l.length ≤ cap, fun _ h => h⟩
theorem paired_st {α : Type} {R : Rp α} {H H' : Hp} (s : Same H H') {vs : List V} {xs : List α} (h : Paired (R.r H) vs xs) : Paired (R.r H') vs xs := Paired.mapP h fun _ _ z => R.st s z
/-- a list, an object of this run -/
def rL {α : Type} (R : Rp α) : Rp (List α) := ⟨fun H v xs => ∃ a vs, v = .ref a ∧ H a = some (.lst vs) ∧ vs.length ≤ cap ∧ Paired (R.r H) vs xs,
  fun s ⟨a, vs, e, h, z, p⟩ => ⟨a, vs, e, s _ _ h, z, paired_st s p⟩⟩
theorem same_t {K : PySem.W.Frag} {H H' : Hp} {a : Addr} {xs : List V} (e : Same H H') (h : SqT K H a xs) : SqT K H' a xs := by
  rcases h with (h | ⟨o, h⟩) | h
  · exact .inl (.inl (e _ _ h))
  · exact .inl (.inr ⟨o, e _ _ h⟩)
  · exact .inr h
/-- the script, or another list that is read -/
def rLK {α : Type} (K : PySem.W.Frag) (R : Rp α) : Rp (List α) := ⟨fun H v xs => ∃ a vs, v = .ref a ∧ SqL K H a vs ∧ vs.length ≤ cap ∧ Paired (R.r H) vs xs,
  fun s ⟨a, vs, e, h, z, p⟩ => ⟨a, vs, e, s.seq h, z, paired_st s p⟩⟩
/-- a tuple -/
def rT {α : Type} (K : PySem.W.Frag) (S : Rps α) : Rp α := ⟨fun H v x => ∃ a vs, v = .ref a ∧ SqT K H a vs ∧ vs.length ≤ cap ∧ S.r H vs x,
  fun s ⟨a, vs, e, h, z, p⟩ => ⟨a, vs, e, same_t s h, z, S.st s p⟩⟩
def sNil : Rps Unit := ⟨fun _ vs _ => vs = [], fun _ h => h⟩
def sOne {α : Type} (R : Rp α) : Rps α := ⟨fun H vs x => ∃ v, vs = [v] ∧ R.r H v x, fun s ⟨v, e, h⟩ => ⟨v, e, R.st s h⟩⟩
def sCons {α β : Type} (R : Rp α) (S : Rps β) : Rps (α × β) := ⟨fun H vs x => ∃ v ws, vs = v :: ws ∧ R.r H v x.1 ∧ S.r H ws x.2,
  fun s ⟨v, ws, e, h, g⟩ => ⟨v, ws, e, R.st s h, S.st s g⟩⟩
def sAll {α : Type} (R : Rp α) : Rps (List α) := ⟨fun H vs xs => Paired (R.r H) vs xs, fun s h => paired_st s h⟩
/-- None, or .. -/
def rO {α : Type} (R : Rp α) : Rp (Option α) := ⟨fun H v o => match o with | none => v = .non | some x => R.r H v x, fun {H H' v o} s h => by cases o with | none => exact h | some x => exact R.st s h⟩
/-- it does not lean on the heap -/
def Flat {α : Type} (R : Rp α) : Prop := ∀ (H H' : Hp) v x, R.r H v x → R.r H' v x
theorem flat_I : Flat rI := fun _ _ _ _ h => h
theorem flat_B : Flat rB := fun _ _ _ _ h => h
theorem flat_S : Flat rS := fun _ _ _ _ h => h
theorem flat_N : Flat rN := fun _ _ _ _ h => h

/-! ### extensions: G, what is fixed for ever; H, the heap; C, cells that may change -/
structure Ext (C : List Addr) (G H G' H' : Hp) : Prop where
  g : Same G G'
  h : ∀ b o, b ∉ C → H b = some o → H' b = some o
  th : ∀ b, H b ≠ none → H' b ≠ none
  sub : Same G' H'
  fr : ∀ b, H b ≠ none → G b = none → G' b = none
section
variable {C : List Addr} {G H G' H' G'' H'' : Hp}
theorem Ext.refl (s : Same G H) : Ext C G H G H := ⟨Same.refl _, fun _ _ _ h => h, fun _ h => h, s, fun _ _ h => h⟩
theorem Ext.trans (a : Ext C G H G' H') (b : Ext C G' H' G'' H'') : Ext C G H G'' H'' :=
  ⟨a.g.trans b.g, fun x o n h => b.h x o n (a.h x o n h), fun x h => b.th x (a.th x h), b.sub, fun x h n => b.fr x (a.th x h) (a.fr x h n)⟩
theorem Ext.mono (a : Ext [] G H G' H') : Ext C G H G' H' := ⟨a.g, fun b o _ h => a.h b o (by simp) h, a.th, a.sub, a.fr⟩
theorem Ext.hs (a : Ext [] G H G' H') : Same H H' := fun b o h => a.h b o (by simp) h
theorem free_of {A B : Hp} (s : Same A B) {p : Addr} (h : B p = none) : A p = none := s.free h
/-- a new object, fixed -/
theorem Ext.new (s : Same G H) {p : Addr} {o : HO} (n : H p = none) : Ext C G H (upd G p o) (upd H p o) where
  g := fun b u e => by rw [upd_ne (ne_of_none e (free_of s n))]; exact e
  h := fun b u _ e => by rw [upd_ne (ne_of_none e n)]; exact e
  th := fun b h => by
    by_cases q : b = p
    · subst q; rw [upd_same]; exact fun z => by cases z
    · rw [upd_ne q]; exact h
  sub := fun b u e => by
    by_cases q : b = p
    · subst q; rw [upd_same] at e ⊢; exact e
    · rw [upd_ne q] at e ⊢; exact s b u e
  fr := fun b h g => by
    have q : b ≠ p := fun z => by subst z; exact h n
    rw [upd_ne q]; exact g
/-- a new object that may change yet -/
theorem Ext.newM (s : Same G H) {p : Addr} {o : HO} (n : H p = none) : Ext C G H G (upd H p o) where
  g := Same.refl _
  h := fun b u _ e => by rw [upd_ne (ne_of_none e n)]; exact e
  th := fun b h => by
    by_cases q : b = p
    · subst q; rw [upd_same]; exact fun z => by cases z
    · rw [upd_ne q]; exact h
  sub := fun b u e => by
    have q : b ≠ p := ne_of_none (s b u e) n
    rw [upd_ne q]; exact s b u e
  fr := fun b _ g => g
/-- an object that was new at (G, H) is fixed at last -/
theorem Ext.fix (a : Ext C G H G' H') {p : Addr} {o : HO} (n : H p = none) (e : H' p = some o) (g : G' p = none) : Ext C G H (upd G' p o) H' where
  g := fun b u q => by rw [upd_ne (ne_of_none (a.g b u q) g)]; exact a.g b u q
  h := a.h
  th := a.th
  sub := fun b u q => by
    by_cases z : b = p
    · subst z; rw [upd_same] at q; rw [e]; exact q
    · rw [upd_ne z] at q; exact a.sub b u q
  fr := fun b h q => by
    have z : b ≠ p := fun z => by subst z; exact h n
    rw [upd_ne z]; exact a.fr b h q
/-- an object that was new at (G, H), not fixed, is changed -/
theorem Ext.put (a : Ext C G H G' H') {p : Addr} {o : HO} (n : H p = none) (g : G' p = none) : Ext C G H G' (upd H' p o) where
  g := a.g
  h := fun b u z q => by rw [upd_ne (ne_of_none q n)]; exact a.h b u z q
  th := fun b q => by
    by_cases z : b = p
    · subst z; exact absurd n q
    · rw [upd_ne z]; exact a.th b q
  sub := fun b u q => by rw [upd_ne (ne_of_none q g)]; exact a.sub b u q
  fr := a.fr
end

/-! ### slots -/
inductive Slot where
  | un
  | val {α : Type} (R : Rp α) (x : α)
  /-- a list of our own that may still grow -/
  | own {α : Type} (R : Rp α) (xs : List α)
  /-- the same, where it is known which object it is and what it holds -/
  | ownP {α : Type} (p : Addr) (vs : List V) (R : Rp α) (xs : List α)
  /-- the first of the cells C -/
  | dk
  /-- the heap at the def's entry -/
  | base (B : Hp)
/-- B: the heap at the def's entry -/
def SlotOk (C : List Addr) (B G H : Hp) : Slot → Option V → Prop
  | .un, _ => True
  | .val R x, o => ∃ v, o = some v ∧ R.r G v x
  | .own R xs, o => ∃ p vs, o = some (.ref p) ∧ H p = some (.lst vs) ∧ G p = none ∧ p ∉ C ∧ B p = none ∧ vs.length ≤ cap ∧ Paired (R.r G) vs xs
  | .ownP p vs R xs, o => o = some (.ref p) ∧ H p = some (.lst vs) ∧ G p = none ∧ p ∉ C ∧ B p = none ∧ vs.length ≤ cap ∧ Paired (R.r G) vs xs
  | .dk, o => ∃ a r, C = a :: r ∧ o = some (.ref a)
  | .base B', _ => B' = B
def Slots (C : List Addr) (B G H : Hp) : List Slot → St → Prop
  | [], [] => True
  | s :: Γ, o :: σ => SlotOk C B G H s o ∧ Slots C B G H Γ σ
  | _, _ => False
def Slot.isOwn : Slot → Bool
  | .own _ _ => true
  | .ownP _ _ _ _ => true
  | _ => false
/-- slot i is our own list at p -/
def OwnAt (Γ : List Slot) (σ : St) (i : Nat) (p : Addr) : Prop := (∃ s, Γ[i]? = some s ∧ s.isOwn = true) ∧ σ[i]? = some (some (.ref p))
structure EnvOk (C : List Addr) (B : Hp) (Γ : List Slot) (σ : St) (G H : Hp) : Prop where
  sub : Same G H
  len : Γ.length = σ.length
  sl : ∀ (i : Nat) (s : Slot), Γ[i]? = some s → ∃ o, σ[i]? = some o ∧ SlotOk C B G H s o
  dst : ∀ i j p, OwnAt Γ σ i p → OwnAt Γ σ j p → i = j
  dkg : ∀ c ∈ C, G c = none
  dkh : ∀ c ∈ C, H c ≠ none
section
variable {C : List Addr} {B G H G' H' : Hp} {Γ Γ' : List Slot} {σ σ' : St}
theorem SlotOk.ext {s : Slot} {o : Option V} (h : SlotOk C B G H s o) (e : Ext C G H G' H') : SlotOk C B G' H' s o := by
  cases s with
  | un => trivial
  | val R x => obtain ⟨v, h1, h2⟩ := h; exact ⟨v, h1, R.st e.g h2⟩
  | own R xs =>
    obtain ⟨p, vs, h1, h2, h3, h4, h5, h6, h7⟩ := h
    exact ⟨p, vs, h1, e.h _ _ h4 h2, e.fr p (by rw [h2]; exact fun z => by cases z) h3, h4, h5, h6, paired_st e.g h7⟩
  | ownP p vs R xs =>
    obtain ⟨h1, h2, h3, h4, h5, h6, h7⟩ := h
    exact ⟨h1, e.h _ _ h4 h2, e.fr p (by rw [h2]; exact fun z => by cases z) h3, h4, h5, h6, paired_st e.g h7⟩
  | dk => exact h
  | base _ => exact h
theorem EnvOk.ext (h : EnvOk C B Γ σ G H) (e : Ext C G H G' H') : EnvOk C B Γ σ G' H' :=
  ⟨e.sub, h.len, fun i s q => let ⟨o, h1, h2⟩ := h.sl i s q; ⟨o, h1, h2.ext e⟩, h.dst, fun c hc => e.fr c (h.dkh c hc) (h.dkg c hc), fun c hc => e.th c (h.dkh c hc)⟩
/-- from slots one by one -/
theorem Slots.ix : ∀ {Γ : List Slot} {σ : St}, Slots C B G H Γ σ → Γ.length = σ.length ∧ ∀ (i : Nat) (s : Slot), Γ[i]? = some s → ∃ o, σ[i]? = some o ∧ SlotOk C B G H s o
  | [], [], _ => ⟨rfl, fun i s q => by simp at q⟩
  | t :: Γ, o :: σ, h => by
    obtain ⟨l, r⟩ := Slots.ix h.2
    refine ⟨by simp [l], fun i s q => ?_⟩
    cases i with
    | zero =>
      simp at q
      subst q
      exact ⟨o, rfl, h.1⟩
    | succ i =>
      obtain ⟨o', h1, h2⟩ := r i s (by simpa using q)
      exact ⟨o', by simpa using h1, h2⟩
  | [], _ :: _, h => h.elim
  | _ :: _, [], h => h.elim
end

/-- Γ has s at i -/
inductive Has : List Slot → Nat → Slot → Prop where
  | z {s : Slot} {Γ : List Slot} : Has (s :: Γ) 0 s
  | s {t s : Slot} {Γ : List Slot} {i : Nat} : Has Γ i s → Has (t :: Γ) (i + 1) s
/-- Γ' is Γ with s at i -/
inductive Put : List Slot → Nat → Slot → List Slot → Prop where
  | z {t s : Slot} {Γ : List Slot} : Put (t :: Γ) 0 s (s :: Γ)
  | s {t s : Slot} {Γ Γ' : List Slot} {i : Nat} : Put Γ i s Γ' → Put (t :: Γ) (i + 1) s (t :: Γ')
/-- Γ' forgets some of Γ -/
inductive Le : List Slot → List Slot → Prop where
  | nil : Le [] []
  | eq {s : Slot} {Γ Γ' : List Slot} : Le Γ' Γ → Le (s :: Γ') (s :: Γ)
  | un {s : Slot} {Γ Γ' : List Slot} : Le Γ' Γ → Le (.un :: Γ') (s :: Γ)
theorem Le.refl : ∀ Γ : List Slot, Le Γ Γ
  | [] => .nil
  | _ :: Γ => .eq (Le.refl Γ)
section
variable {C : List Addr} {B G H G' H' : Hp} {Γ Γ' : List Slot} {σ σ' : St} {i : Nat} {s : Slot}
theorem Has.get : ∀ {Γ : List Slot} {i : Nat} {s : Slot}, Has Γ i s → Γ[i]? = some s
  | _, _, _, .z => rfl
  | _, _, _, .s h => by simpa using Has.get h
theorem EnvOk.has (h : EnvOk C B Γ σ G H) (q : Has Γ i s) : ∃ o, σ[i]? = some o ∧ SlotOk C B G H s o := h.sl i s q.get
theorem Le.length : ∀ {Γ' Γ : List Slot}, Le Γ' Γ → Γ'.length = Γ.length
  | _, _, .nil => rfl
  | _, _, .eq l => by simp [Le.length l]
  | _, _, .un l => by simp [Le.length l]
theorem Le.get : ∀ {Γ' Γ : List Slot} {i : Nat} {s : Slot}, Le Γ' Γ → Γ'[i]? = some s → Γ[i]? = some s ∨ (s = .un ∧ i < Γ.length)
  | _, _, _, _, .nil, h => by simp at h
  | _, _, 0, _, .eq _, h => .inl (by simpa using h)
  | _, _, 0, _, .un _, h => .inr ⟨by simpa using h.symm, by simp⟩
  | _, _, i + 1, _, .eq l, h => by
    rcases Le.get (i := i) l (by simpa using h) with h | ⟨h1, h2⟩
    · exact .inl (by simpa using h)
    · exact .inr ⟨h1, by simp; omega⟩
  | _, _, i + 1, _, .un l, h => by
    rcases Le.get (i := i) l (by simpa using h) with h | ⟨h1, h2⟩
    · exact .inl (by simpa using h)
    · exact .inr ⟨h1, by simp; omega⟩
theorem OwnAt.le {p : Addr} (l : Le Γ' Γ) (h : OwnAt Γ' σ i p) : OwnAt Γ σ i p := by
  obtain ⟨⟨s, h1, h2⟩, h3⟩ := h
  rcases l.get h1 with h | ⟨h, _⟩
  · exact ⟨⟨s, h, h2⟩, h3⟩
  · subst h; cases h2
theorem Put.get : ∀ {Γ Γ' : List Slot} {i j : Nat} {s : Slot}, Put Γ i s Γ' → Γ'[j]? = if j = i then some s else Γ[j]?
  | _, _, _, 0, _, .z => by simp
  | _, _, _, j + 1, _, .z => by simp
  | _, _, _, 0, _, .s _ => by simp
  | _, _, _, j + 1, _, .s q => by
    have := Put.get (j := j) q
    simp only [List.getElem?_cons_succ, this, Nat.add_right_cancel_iff]
theorem Put.lt : ∀ {Γ Γ' : List Slot} {i : Nat} {s : Slot}, Put Γ i s Γ' → i < Γ.length
  | _, _, _, _, .z => by simp
  | _, _, _, _, .s q => by have := Put.lt q; simp; omega
theorem Put.length : ∀ {Γ Γ' : List Slot} {i : Nat} {s : Slot}, Put Γ i s Γ' → Γ'.length = Γ.length
  | _, _, _, _, .z => by simp
  | _, _, _, _, .s q => by simp [Put.length q]
/-- a slot that is not our own is set -/
theorem OwnAt.put {v : V} {j : Nat} {p : Addr} (q : Put Γ i s Γ') (hs : s.isOwn = false) (h : OwnAt Γ' (σ.set i (some v)) j p) : j ≠ i ∧ OwnAt Γ σ j p := by
  obtain ⟨⟨t, h1, h2⟩, h3⟩ := h
  rw [q.get] at h1
  by_cases e : j = i
  · rw [if_pos e] at h1
    cases h1
    rw [hs] at h2; cases h2
  · rw [if_neg e] at h1
    rw [List.getElem?_set_ne (Ne.symm e)] at h3
    exact ⟨e, ⟨t, h1, h2⟩, h3⟩
theorem EnvOk.put {v : V} (h : EnvOk C B Γ σ G H) (q : Put Γ i s Γ') (hs : s.isOwn = false) (ok : SlotOk C B G H s (some v)) : EnvOk C B Γ' (σ.set i (some v)) G H := by
  refine ⟨h.sub, by rw [q.length, List.length_set, h.len], fun j t e => ?_, fun i j p a b => h.dst i j p (a.put q hs).2 (b.put q hs).2, h.dkg, h.dkh⟩
  rw [q.get] at e
  by_cases z : j = i
  · rw [if_pos z] at e
    cases e
    subst z
    exact ⟨some v, List.getElem?_set_self (by rw [← h.len]; exact q.lt), ok⟩
  · rw [if_neg z] at e
    rw [List.getElem?_set_ne (Ne.symm z)]
    exact h.sl j t e
/-- our own new list at p is put at i -/
theorem EnvOk.putOwn {α : Type} {R : Rp α} {xs : List α} {p : Addr} {vs : List V} (h : EnvOk C B Γ σ G H) (q : Put Γ i (.own R xs) Γ') (hp : H p = some (.lst vs)) (gp : G p = none) (pc : p ∉ C) (bp : B p = none) (z : vs.length ≤ cap) (pr : Paired (R.r G) vs xs)
    (other : ∀ j, OwnAt Γ σ j p → j = i) : EnvOk C B Γ' (σ.set i (some (.ref p))) G H := by
  have key : ∀ j p', OwnAt Γ' (σ.set i (some (.ref p))) j p' → (j = i ∧ p' = p) ∨ (j ≠ i ∧ OwnAt Γ σ j p') := fun j p' hj => by
    obtain ⟨⟨t, h1, h2⟩, h3⟩ := hj
    by_cases e : j = i
    · subst e
      rw [List.getElem?_set_self (by rw [← h.len]; exact q.lt)] at h3
      cases h3
      exact .inl ⟨rfl, rfl⟩
    · rw [q.get, if_neg e] at h1
      rw [List.getElem?_set_ne (Ne.symm e)] at h3
      exact .inr ⟨e, ⟨t, h1, h2⟩, h3⟩
  refine ⟨h.sub, by rw [q.length, List.length_set, h.len], fun j t e => ?_, fun a b p' x y => ?_, h.dkg, h.dkh⟩
  · rw [q.get] at e
    by_cases z' : j = i
    · rw [if_pos z'] at e
      cases e
      subst z'
      exact ⟨some (.ref p), List.getElem?_set_self (by rw [← h.len]; exact q.lt), p, vs, rfl, hp, gp, pc, bp, z, pr⟩
    · rw [if_neg z'] at e
      rw [List.getElem?_set_ne (Ne.symm z')]
      exact h.sl j t e
  · rcases key a p' x with ⟨a1, a2⟩ | ⟨a1, a2⟩
    · rcases key b p' y with ⟨b1, b2⟩ | ⟨b1, b2⟩
      · rw [a1, b1]
      · rw [a2] at b2
        exact absurd (other b b2) b1
    · rcases key b p' y with ⟨b1, b2⟩ | ⟨b1, b2⟩
      · rw [b2] at a2
        exact absurd (other a a2) a1
      · exact h.dst a b p' a2 b2
theorem EnvOk.le (h : EnvOk C B Γ σ G H) (l : Le Γ' Γ) : EnvOk C B Γ' σ G H :=
  ⟨h.sub, l.length.trans h.len, fun i s q => by
    rcases l.get q with q | ⟨q, z⟩
    · exact h.sl i s q
    · subst q
      rw [h.len] at z
      exact ⟨_, List.getElem?_eq_getElem z, trivial⟩, fun i j p a b => h.dst i j p (a.le l) (b.le l), h.dkg, h.dkh⟩
/-- our own list is fixed for good, or for a while -/
theorem own_fix {α : Type} {R : Rp α} {xs : List α} (ok : EnvOk C B Γ σ G H) (h : Has Γ i (.own R xs)) (q : Put Γ i (.val (rL R) xs) Γ') :
    ∃ p vs, H p = some (.lst vs) ∧ G p = none ∧ B p = none ∧ p ∉ C ∧ EnvOk C B Γ' σ (upd G p (.lst vs)) H ∧ Same G (upd G p (.lst vs)) := by
  obtain ⟨o, ho, p, vs, e, hp, gp, nc, bp, z, pr⟩ := ok.has h
  have sG : Same G (upd G p (.lst vs)) := fun b u w => by rw [upd_ne (ne_of_none w gp)]; exact w
  have hi : OwnAt Γ σ i p := ⟨⟨_, h.get, rfl⟩, by rw [ho, e]⟩
  refine ⟨p, vs, hp, gp, bp, nc, ⟨fun b u w => ?_, q.length.trans ok.len, fun j t w => ?_, fun a b r x1 x2 => ?_, fun cc hc => ?_, ok.dkh⟩, sG⟩
  · by_cases hb : b = p
    · subst hb; rw [upd_same] at w; rw [hp]; exact w
    · rw [upd_ne hb] at w; exact ok.sub b u w
  · rw [q.get] at w
    by_cases zj : j = i
    · rw [if_pos zj] at w
      cases w
      subst zj
      exact ⟨o, ho, .ref p, e, p, vs, rfl, upd_same, z, paired_st sG pr⟩
    · rw [if_neg zj] at w
      obtain ⟨o', h1, h2⟩ := ok.sl j t w
      refine ⟨o', h1, ?_⟩
      cases t with
      | un => trivial
      | val R' x' => obtain ⟨v, a1, a2⟩ := h2; exact ⟨v, a1, R'.st sG a2⟩
      | own R' xs' =>
        obtain ⟨p', vs', a1, a2, a3, a4, a5, a6, a7⟩ := h2
        refine ⟨p', vs', a1, a2, ?_, a4, a5, a6, paired_st sG a7⟩
        have : p' ≠ p := fun z => by
          subst z
          exact zj (ok.dst j i p' ⟨⟨_, w, rfl⟩, by rw [h1, a1]⟩ hi)
        rw [upd_ne this]; exact a3
      | ownP p' vs' R' xs' =>
        obtain ⟨a1, a2, a3, a4, a5, a6, a7⟩ := h2
        refine ⟨a1, a2, ?_, a4, a5, a6, paired_st sG a7⟩
        have : p' ≠ p := fun z => by
          subst z
          exact zj (ok.dst j i p' ⟨⟨_, w, rfl⟩, by rw [h1, a1]⟩ hi)
        rw [upd_ne this]; exact a3
      | dk => exact h2
      | base _ => exact h2
  · have back : ∀ k, OwnAt Γ' σ k r → OwnAt Γ σ k r := fun k hk => by
      obtain ⟨⟨t, h1, h2⟩, h3⟩ := hk
      rw [q.get] at h1
      by_cases zk : k = i
      · rw [if_pos zk] at h1; cases h1; cases h2
      · rw [if_neg zk] at h1; exact ⟨⟨t, h1, h2⟩, h3⟩
    exact ok.dst a b r (back a x1) (back b x2)
  · have : cc ≠ p := fun z => by subst z; exact nc hc
    rw [upd_ne this]; exact ok.dkg cc hc
/-- our own list changes -/
theorem EnvOk.mutate {α β : Type} {R : Rp α} {S : Rp β} {xs : List α} {ys : List β} {p : Addr} {vs' : List V} (ok : EnvOk C B Γ σ G H) (h : Has Γ i (.own R xs)) (hσ : σ[i]? = some (some (.ref p))) (q : Put Γ i (.own S ys) Γ') (z : vs'.length ≤ cap) (pr : Paired (S.r G) vs' ys) :
    EnvOk C B Γ' σ G (upd H p (.lst vs')) := by
  obtain ⟨o, ho, p', vs, e, hp, gp, nc, bp, _, _⟩ := ok.has h
  rw [hσ] at ho
  cases ho
  cases e
  have hi : OwnAt Γ σ i p := ⟨⟨_, h.get, rfl⟩, hσ⟩
  have back : ∀ j p', OwnAt Γ' σ j p' → OwnAt Γ σ j p' := fun j p' hj => by
    obtain ⟨⟨t, h1, h2⟩, h3⟩ := hj
    rw [q.get] at h1
    by_cases zj : j = i
    · subst zj
      exact ⟨⟨_, h.get, rfl⟩, h3⟩
    · rw [if_neg zj] at h1
      exact ⟨⟨t, h1, h2⟩, h3⟩
  refine ⟨fun b u w => ?_, q.length.trans ok.len, fun j t w => ?_, fun a b r x1 x2 => ok.dst a b r (back a r x1) (back b r x2), ok.dkg, fun cc hc => ?_⟩
  · rw [upd_ne (ne_of_none w gp)]; exact ok.sub b u w
  · rw [q.get] at w
    by_cases zj : j = i
    · rw [if_pos zj] at w
      cases w
      subst zj
      exact ⟨_, hσ, p, vs', rfl, upd_same, gp, nc, bp, z, pr⟩
    · rw [if_neg zj] at w
      obtain ⟨o', h1, h2⟩ := ok.sl j t w
      refine ⟨o', h1, ?_⟩
      cases t with
      | un => trivial
      | val R' x' => exact h2
      | own R' xs' =>
        obtain ⟨p'', vs'', a1, a2, a3, a4, a5, a6, a7⟩ := h2
        refine ⟨p'', vs'', a1, ?_, a3, a4, a5, a6, a7⟩
        have : p'' ≠ p := fun z => by
          subst z
          exact zj (ok.dst j i p'' ⟨⟨_, w, rfl⟩, by rw [h1, a1]⟩ hi)
        rw [upd_ne this]; exact a2
      | ownP p'' vs'' R' xs' =>
        obtain ⟨a1, a2, a3, a4, a5, a6, a7⟩ := h2
        refine ⟨a1, ?_, a3, a4, a5, a6, a7⟩
        have : p'' ≠ p := fun z => by
          subst z
          exact zj (ok.dst j i p'' ⟨⟨_, w, rfl⟩, by rw [h1, a1]⟩ hi)
        rw [upd_ne this]; exact a2
      | dk => exact h2
      | base _ => exact h2
  · have : cc ≠ p := fun z => by subst z; exact nc hc
    rw [upd_ne this]; exact ok.dkh cc hc
end
end Ty
set_option Elab.async false
set_option linter.all false
set_option maxRecDepth 100000
set_option maxHeartbeats 4000000
/-! Judgements: what an expression, a test, a list of arguments, a block computes. -/
namespace Ty
open PySem L2

/-! ### the monad of a mirror, with what may change on the way -/
structure Md where
  M : Type → Type
  D : Type
  ret : {α : Type} → α → M α
  bnd : {α β : Type} → M α → (α → M β) → M β
  lft : {α : Type} → Option α → M α
  run : {α : Type} → M α → D → α → D → Prop
  at_ : Hp → List Addr → D → Prop
  cells : List Addr → List Addr
  run_ret : ∀ {α : Type} {x y : α} {d d' : D}, run (ret x) d y d' → y = x ∧ d' = d
  run_bnd : ∀ {α β : Type} {m : M α} {k : α → M β} {d d' : D} {y : β}, run (bnd m k) d y d' → ∃ x d1, run m d x d1 ∧ run (k x) d1 y d'
  run_lft : ∀ {α : Type} {o : Option α} {y : α} {d d' : D}, run (lft o) d y d' → o = some y ∧ d' = d
  at_in : ∀ {H H' : Hp} {C : List Addr} {d : D}, (∀ b o, b ∈ C → H b = some o → H' b = some o) → at_ H C d → at_ H' C d
  cells_sub : ∀ {C : List Addr} {b : Addr}, b ∈ cells C → b ∈ C
theorem Md.at_st (𝓜 : Md) {H H' : Hp} {C : List Addr} {d : 𝓜.D} (s : Same H H') (h : 𝓜.at_ H C d) : 𝓜.at_ H' C d := 𝓜.at_in (fun b o _ q => s b o q) h
/-- pure, perhaps undefined -/
@[reducible] def pureMd : Md where
  M := Option
  D := Unit
  ret := some
  bnd := Option.bind
  lft := id
  run := fun m _ x _ => m = some x
  at_ := fun _ _ _ => True
  cells := fun _ => []
  run_ret := fun h => ⟨(Option.some.inj h).symm, rfl⟩
  run_bnd := fun {α β m k d d' y} h => by
    obtain ⟨x, h1, h2⟩ := Option.bind_eq_some_iff.mp h
    exact ⟨x, (), h1, h2⟩
  run_lft := fun h => ⟨h, rfl⟩
  at_in := fun _ h => h
  cells_sub := fun h => by simp at h

section
variable {𝓜 : Md} {C : List Addr} {G H G' H' : Hp}
theorem Ext.up (e : Ext (𝓜.cells C) G H G' H') : Ext C G H G' H' := ⟨e.g, fun b o n h => e.h b o (fun z => n (𝓜.cells_sub z)) h, e.th, e.sub, e.fr⟩
end

/-! ### readings of expressions -/
def EvV {α : Type} (t : TE) (Γ : List Slot) (R : Rp α) (x : α) : Prop :=
  ∀ C B σ G H (Q : VK), EnvOk C B Γ σ G H → (∀ v G' H', Ext [] G H G' H' → R.r G' v x → Q v H') → t σ H Q
def Ev {α : Type} (𝓜 : Md) (t : TE) (Γ : List Slot) (R : Rp α) (m : 𝓜.M α) : Prop :=
  ∀ C B d x d' σ G H (Q : VK), 𝓜.run m d x d' → EnvOk C B Γ σ G H → 𝓜.at_ H C d → (∀ v G' H', Ext (𝓜.cells C) G H G' H' → 𝓜.at_ H' C d' → R.r G' v x → Q v H') → t σ H Q
def EvTV (t : TT) (Γ : List Slot) (b : Bool) : Prop :=
  ∀ C B σ G H (Q : Bool → Hp → Prop), EnvOk C B Γ σ G H → (∀ G' H', Ext [] G H G' H' → Q b H') → t σ H Q
def EvT (𝓜 : Md) (t : TT) (Γ : List Slot) (m : 𝓜.M Bool) : Prop :=
  ∀ C B d b d' σ G H (Q : Bool → Hp → Prop), 𝓜.run m d b d' → EnvOk C B Γ σ G H → 𝓜.at_ H C d → (∀ G' H', Ext (𝓜.cells C) G H G' H' → 𝓜.at_ H' C d' → Q b H') → t σ H Q
def EvAV {α : Type} (t : TA) (Γ : List Slot) (S : Rps α) (x : α) : Prop :=
  ∀ C B σ G H (Q : List V → Hp → Prop), EnvOk C B Γ σ G H → (∀ vs G' H', Ext [] G H G' H' → S.r G' vs x → Q vs H') → t σ H Q
def EvA {α : Type} (𝓜 : Md) (t : TA) (Γ : List Slot) (S : Rps α) (m : 𝓜.M α) : Prop :=
  ∀ C B d x d' σ G H (Q : List V → Hp → Prop), 𝓜.run m d x d' → EnvOk C B Γ σ G H → 𝓜.at_ H C d → (∀ vs G' H', Ext (𝓜.cells C) G H G' H' → 𝓜.at_ H' C d' → S.r G' vs x → Q vs H') → t σ H Q
/-- a new list, not fixed yet -/
def EvFV {α : Type} (t : TE) (Γ : List Slot) (R : Rp α) (xs : List α) : Prop :=
  ∀ C B σ G H (Q : VK), EnvOk C B Γ σ G H → (∀ p vs G' H', H p = none → Ext [] G H G' H' → H' p = some (.lst vs) → G' p = none → vs.length ≤ cap → Paired (R.r G') vs xs → Q (.ref p) H') → t σ H Q
def EvF {α : Type} (𝓜 : Md) (t : TE) (Γ : List Slot) (R : Rp α) (m : 𝓜.M (List α)) : Prop :=
  ∀ C B d xs d' σ G H (Q : VK), 𝓜.run m d xs d' → EnvOk C B Γ σ G H → 𝓜.at_ H C d →
    (∀ p vs G' H', H p = none → Ext (𝓜.cells C) G H G' H' → 𝓜.at_ H' C d' → H' p = some (.lst vs) → G' p = none → vs.length ≤ cap → Paired (R.r G') vs xs → Q (.ref p) H') → t σ H Q

/-! ### the code's place -/
structure Glb where
  prog : Program
  w : World
  K : PySem.W.Frag
  mg : Str → Option Value
  base : Heap
  /-- no container is being shown (repr may be used) -/
  gd : Bool
structure Ctx where
  g : Glb
  N : List Str
  sc : Scope
  fn : Str → Bool
  k : Nat
  nd : N.Nodup
structure InC (c : Ctx) (X : Cx) : Prop where
  prog : X.prog = c.g.prog
  w : X.w = c.g.w
  K : X.K = c.g.K
  mg : X.mg = c.g.mg
  base : X.base = c.g.base
  N : X.N = c.N
  sc : X.env.scope = c.sc
  fn : ∀ x, c.fn x = true → X.fn x = true
  calm : X.calm = true
  xe : X.xe = fun _ _ => False
  room : Room c.k X.A
  gd : c.g.gd = true → X.A.guards = some []

def XV {α : Type} (c : Ctx) (e : Expr) (Γ : List Slot) (R : Rp α) (x : α) : Prop := ∃ t, (∀ X, InC c X → PE X e t) ∧ EvV t Γ R x
def XM {α : Type} (𝓜 : Md) (c : Ctx) (e : Expr) (Γ : List Slot) (R : Rp α) (m : 𝓜.M α) : Prop := ∃ t, (∀ X, InC c X → PE X e t) ∧ Ev 𝓜 t Γ R m
def XTV (c : Ctx) (e : Expr) (Γ : List Slot) (b : Bool) : Prop := ∃ t, (∀ X, InC c X → PT X e t) ∧ EvTV t Γ b
def XT (𝓜 : Md) (c : Ctx) (e : Expr) (Γ : List Slot) (m : 𝓜.M Bool) : Prop := ∃ t, (∀ X, InC c X → PT X e t) ∧ EvT 𝓜 t Γ m
def XWV (c : Ctx) (e : Expr) (Γ : List Slot) (b : Bool) : Prop := ∃ t, (∀ X, InC c X → PW X e t) ∧ EvTV t Γ b
def XW (𝓜 : Md) (c : Ctx) (e : Expr) (Γ : List Slot) (m : 𝓜.M Bool) : Prop := ∃ t, (∀ X, InC c X → PW X e t) ∧ EvT 𝓜 t Γ m
def XAV {α : Type} (c : Ctx) (es : List Expr) (Γ : List Slot) (S : Rps α) (x : α) : Prop := ∃ t, (∀ X, InC c X → PA X es t) ∧ EvAV t Γ S x
def XA {α : Type} (𝓜 : Md) (c : Ctx) (es : List Expr) (Γ : List Slot) (S : Rps α) (m : 𝓜.M α) : Prop := ∃ t, (∀ X, InC c X → PA X es t) ∧ EvA 𝓜 t Γ S m
def XFV {α : Type} (c : Ctx) (e : Expr) (Γ : List Slot) (R : Rp α) (xs : List α) : Prop := ∃ t, (∀ X, InC c X → PE X e t) ∧ EvFV t Γ R xs
def XF {α : Type} (𝓜 : Md) (c : Ctx) (e : Expr) (Γ : List Slot) (R : Rp α) (m : 𝓜.M (List α)) : Prop := ∃ t, (∀ X, InC c X → PE X e t) ∧ EvF 𝓜 t Γ R m

section
variable {𝓜 : Md} {α β γ : Type} {c : Ctx} {e e1 e2 e3 : Expr} {es : List Expr} {Γ Γ' : List Slot} {R : Rp α} {S : Rp β} {T : Rp γ} {x : α} {y : β} {m : 𝓜.M α} {n : 𝓜.M β} {pos p : Pos} {i : Nat}
/-! ### from one to another -/
theorem EvV.toM {t : TE} (h : EvV t Γ R x) : Ev 𝓜 t Γ R (𝓜.ret x) := fun C B d y d' σ G H Q r ok ha k => by
  obtain ⟨e1, e2⟩ := 𝓜.run_ret r
  subst e1; subst e2
  exact h C B σ G H Q ok fun v G' H' e rr => k v G' H' e.mono (𝓜.at_st e.hs ha) rr
theorem XV.toM (h : XV c e Γ R x) : XM 𝓜 c e Γ R (𝓜.ret x) := let ⟨t, h1, h2⟩ := h; ⟨t, h1, h2.toM⟩
theorem XTV.toM {b : Bool} (h : XTV c e Γ b) : XT 𝓜 c e Γ (𝓜.ret b) := let ⟨t, h1, h2⟩ := h; ⟨t, h1, fun C B d y d' σ G H Q r ok ha k => by
  obtain ⟨e1, e2⟩ := 𝓜.run_ret r
  subst e1; subst e2
  exact h2 C B σ G H Q ok fun G' H' e => k G' H' e.mono (𝓜.at_st e.hs ha)⟩
theorem XAV.toM {A : Rps α} (h : XAV c es Γ A x) : XA 𝓜 c es Γ A (𝓜.ret x) := let ⟨t, h1, h2⟩ := h; ⟨t, h1, fun C B d y d' σ G H Q r ok ha k => by
  obtain ⟨e1, e2⟩ := 𝓜.run_ret r
  subst e1; subst e2
  exact h2 C B σ G H Q ok fun v G' H' e rr => k v G' H' e.mono (𝓜.at_st e.hs ha) rr⟩
theorem XFV.toM {xs : List α} (h : XFV c e Γ R xs) : XF 𝓜 c e Γ R (𝓜.ret xs) := let ⟨t, h1, h2⟩ := h; ⟨t, h1, fun C B d y d' σ G H Q r ok ha k => by
  obtain ⟨e1, e2⟩ := 𝓜.run_ret r
  subst e1; subst e2
  exact h2 C B σ G H Q ok fun p vs G' H' n e a b z rr => k p vs G' H' n e.mono (𝓜.at_st e.hs ha) a b z rr⟩
/-- a pure partial reading within another monad -/
theorem XM.up {o : Option α} (h : XM pureMd c e Γ R o) : XM 𝓜 c e Γ R (𝓜.lft o) := let ⟨t, h1, h2⟩ := h; ⟨t, h1, fun C B d y d' σ G H Q r ok ha k => by
  obtain ⟨e1, e2⟩ := 𝓜.run_lft r
  subst e2
  exact h2 C B () y () σ G H Q e1 ok trivial fun v G' H' e _ rr => k v G' H' (Ext.mono e) (𝓜.at_st (Ext.hs e) ha) rr⟩
theorem XT.up {o : Option Bool} (h : XT pureMd c e Γ o) : XT 𝓜 c e Γ (𝓜.lft o) := let ⟨t, h1, h2⟩ := h; ⟨t, h1, fun C B d y d' σ G H Q r ok ha k => by
  obtain ⟨e1, e2⟩ := 𝓜.run_lft r
  subst e2
  exact h2 C B () y () σ G H Q e1 ok trivial fun G' H' e _ => k G' H' (Ext.mono e) (𝓜.at_st (Ext.hs e) ha)⟩
theorem XA.up {A : Rps α} {o : Option α} (h : XA pureMd c es Γ A o) : XA 𝓜 c es Γ A (𝓜.lft o) := let ⟨t, h1, h2⟩ := h; ⟨t, h1, fun C B d y d' σ G H Q r ok ha k => by
  obtain ⟨e1, e2⟩ := 𝓜.run_lft r
  subst e2
  exact h2 C B () y () σ G H Q e1 ok trivial fun v G' H' e _ rr => k v G' H' (Ext.mono e) (𝓜.at_st (Ext.hs e) ha) rr⟩
theorem XF.up {o : Option (List α)} (h : XF pureMd c e Γ R o) : XF 𝓜 c e Γ R (𝓜.lft o) := let ⟨t, h1, h2⟩ := h; ⟨t, h1, fun C B d y d' σ G H Q r ok ha k => by
  obtain ⟨e1, e2⟩ := 𝓜.run_lft r
  subst e2
  exact h2 C B () y () σ G H Q e1 ok trivial fun p vs G' H' n e _ a b z rr => k p vs G' H' n (Ext.mono e) (𝓜.at_st (Ext.hs e) ha) a b z rr⟩
/-- a new list is fixed -/
theorem XFV.v {xs : List α} (h : XFV c e Γ R xs) : XV c e Γ (rL R) xs := let ⟨t, h1, h2⟩ := h; ⟨t, h1, fun C B σ G H Q ok k =>
  h2 C B σ G H Q ok fun p vs G' H' n e a b z rr => k _ _ _ (e.fix n a b) ⟨p, vs, rfl, upd_same, z, paired_st (fun b' o q => by rw [upd_ne (ne_of_none q b)]; exact q) rr⟩⟩
theorem XF.v {mm : 𝓜.M (List α)} (h : XF 𝓜 c e Γ R mm) : XM 𝓜 c e Γ (rL R) mm := let ⟨t, h1, h2⟩ := h; ⟨t, h1, fun C B d y d' σ G H Q r ok ha k =>
  h2 C B d y d' σ G H Q r ok ha fun p vs G' H' n e at' a b z rr => k _ _ _ (e.fix n a b) at' ⟨p, vs, rfl, upd_same, z, paired_st (fun b' o q => by rw [upd_ne (ne_of_none q b)]; exact q) rr⟩⟩
end
end Ty
set_option Elab.async false
set_option linter.all false
set_option maxRecDepth 100000
set_option maxHeartbeats 4000000
/-! Rules for expressions. -/
namespace Ty
open PySem L2

/-! ### operations on values -/
def RV {α β γ : Type} (r : R2) (R : Rp α) (S : Rp β) (T : Rp γ) (f : α → β → γ) : Prop :=
  ∀ G H v w x y (Q : VK), Same G H → R.r G v x → S.r G w y → (∀ z G' H', Ext [] G H G' H' → T.r G' z (f x y) → Q z H') → r v w H Q
def RP {α β γ : Type} (r : R2) (R : Rp α) (S : Rp β) (T : Rp γ) (f : α → β → Option γ) : Prop :=
  ∀ G H v w x y u (Q : VK), f x y = some u → Same G H → R.r G v x → S.r G w y → (∀ z G' H', Ext [] G H G' H' → T.r G' z u → Q z H') → r v w H Q
/-- the answer a new list -/
def RFP {α β γ : Type} (r : R2) (R : Rp α) (S : Rp β) (T : Rp γ) (f : α → β → Option (List γ)) : Prop :=
  ∀ G H v w x y u (Q : VK), f x y = some u → Same G H → R.r G v x → S.r G w y → (∀ p vs, H p = none → vs.length ≤ cap → Paired (T.r G) vs u → Q (.ref p) (upd H p (.lst vs))) → r v w H Q
def RU {α γ : Type} (r : V → Hp → VK → Prop) (R : Rp α) (T : Rp γ) (f : α → γ) : Prop :=
  ∀ G H v x (Q : VK), Same G H → R.r G v x → (∀ z G' H', Ext [] G H G' H' → T.r G' z (f x) → Q z H') → r v H Q
def RC {α γ : Type} (r : List V → Hp → VK → Prop) (S : Rps α) (T : Rp γ) (f : α → γ) : Prop :=
  ∀ G H vs x (Q : VK), Same G H → S.r G vs x → (∀ z G' H', Ext [] G H G' H' → T.r G' z (f x) → Q z H') → r vs H Q
def RCP {α γ : Type} (r : List V → Hp → VK → Prop) (S : Rps α) (T : Rp γ) (f : α → Option γ) : Prop :=
  ∀ G H vs x u (Q : VK), f x = some u → Same G H → S.r G vs x → (∀ z G' H', Ext [] G H G' H' → T.r G' z u → Q z H') → r vs H Q
def RCF {α γ : Type} (r : List V → Hp → VK → Prop) (S : Rps α) (T : Rp γ) (f : α → List γ) : Prop :=
  ∀ G H vs x (Q : VK), Same G H → S.r G vs x → (∀ p ws, H p = none → ws.length ≤ cap → Paired (T.r G) ws (f x) → Q (.ref p) (upd H p (.lst ws))) → r vs H Q

section
variable {𝓜 : Md} {α β γ : Type} {c : Ctx} {e e1 e2 e3 : Expr} {es : List Expr} {Γ Γ' : List Slot} {R : Rp α} {S : Rp β} {T : Rp γ} {x : α} {y : β} {m : 𝓜.M α} {n : 𝓜.M β} {pos p : Pos} {i : Nat} {r : R2}

/-! ### names, constants -/
theorem InC.vis {X : Cx} (h : InC c X) {s : Str} (v : Vis c.sc s) : Vis X.env.scope s := by rw [h.sc]; exact v
theorem InC.gl {X : Cx} (h : InC c X) {s : Str} (v : c.sc.names.lookup s = some .globalImplicit) : Gl X s := by
  show X.env.kindOf s = _
  unfold Env.kindOf
  rw [h.sc]
  exact v
theorem x_var {s : Str} (hN : c.N[i]? = some s) (hv : Vis c.sc s) (h : Has Γ i (.val R x)) (hd : (s == ("__debug__" : Str)) = false := by decide) (hcd : (s == ("__classdict__" : Str)) = false := by decide) : XV c (.Name s p) Γ R x :=
  ⟨tVar i, fun X hX => pe_var (by rw [hX.N]; exact hN) (hX.vis hv) hd hcd, fun C B σ G H Q ok k => by
    obtain ⟨o, h1, v, h2, h3⟩ := ok.has h
    exact ⟨v, by rw [h1, h2], k v G H (Ext.refl ok.sub) h3⟩⟩
theorem x_int {j : Int} {kk : Nat} : XV c (.Constant (.int j) kk p) Γ rI j := ⟨_, fun _ _ => pe_int, fun C B σ G H Q ok k => k _ G H (Ext.refl ok.sub) rfl⟩
theorem x_bl {j : Bool} {kk : Nat} : XV c (.Constant (.bool j) kk p) Γ rB j := ⟨_, fun _ _ => pe_bl, fun C B σ G H Q ok k => k _ G H (Ext.refl ok.sub) rfl⟩
theorem x_non {kk : Nat} : XV c (.Constant .none kk p) Γ rN () := ⟨_, fun _ _ => pe_non, fun C B σ G H Q ok k => k _ G H (Ext.refl ok.sub) rfl⟩
theorem x_noneO {kk : Nat} : XV c (.Constant .none kk p) Γ (rO R) none := ⟨_, fun _ _ => pe_non, fun C B σ G H Q ok k => k _ G H (Ext.refl ok.sub) rfl⟩
theorem x_str {s : Str} {l : List Nat} {kk : Nat} (h : s = ofL l) (hl : l.length ≤ cap) : XV c (.Constant (.str s) kk p) Γ rS l := ⟨_, fun _ _ => pe_str, fun C B σ G H Q ok k => k _ G H (Ext.refl ok.sub) ⟨by rw [h], hl⟩⟩
/-- a module's constant -/
theorem x_glob {s : Str} {v : V} {u : Value} (hg : c.sc.names.lookup s = some .globalImplicit) (hm : c.g.mg s = some u) (rv : RelV v u) (hr : ∀ G, R.r G v x) (hd : (s == ("__debug__" : Str)) = false := by decide) : XV c (.Name s p) Γ R x :=
  ⟨tC v, fun X hX => pe_glob (hX.gl hg) (by rw [hX.mg]; exact hm) rv hd, fun C B σ G H Q ok k => k v G H (Ext.refl ok.sub) (hr G)⟩
theorem x_globI {s : Str} {j : Int} {t : Tok} (hg : c.sc.names.lookup s = some .globalImplicit) (hm : c.g.mg s = some (.int j t)) (hd : (s == ("__debug__" : Str)) = false := by decide) : XV c (.Name s p) Γ rI j :=
  x_glob (v := .int j) hg hm ⟨t, rfl⟩ (fun _ => rfl) hd

theorem XV.some (h : XV c e Γ R x) : XV c e Γ (rO R) (some x) := h
theorem XM.mapM {m : 𝓜.M α} (h : XM 𝓜 c e Γ R m) : XM 𝓜 c e Γ (rO R) (𝓜.bnd m fun x => 𝓜.ret (some x)) := let ⟨t, h1, h2⟩ := h; ⟨t, h1, fun C B d y d' σ G H Q rr ok ha k => by
  obtain ⟨x, d1, r1, r2⟩ := 𝓜.run_bnd rr
  obtain ⟨e1, e2⟩ := 𝓜.run_ret r2
  subst e1; subst e2
  exact h2 C B d x d' σ G H Q r1 ok ha k⟩

/-! ### two-place operators -/
theorem evV_op {ta tb : TE} {f : α → β → γ} (ha : EvV ta Γ R x) (hb : EvV tb Γ S y) (hr : RV r R S T f) : EvV (tOp r ta tb) Γ T (f x y) := fun C B σ G H Q ok k =>
  ha C B σ G H _ ok fun v G1 H1 e1 r1 => hb C B σ G1 H1 _ (ok.ext (Ext.mono e1)) fun w G2 H2 e2 r2 =>
    hr G2 H2 v w x y Q e2.sub (R.st e2.g r1) r2 fun z G3 H3 e3 r3 => k z G3 H3 (e1.trans (e2.trans e3)) r3
theorem ev_op {ta tb : TE} {f : α → β → Option γ} (ha : Ev 𝓜 ta Γ R m) (hb : Ev 𝓜 tb Γ S n) (hr : RP r R S T f) : Ev 𝓜 (tOp r ta tb) Γ T (𝓜.bnd m fun x => 𝓜.bnd n fun y => 𝓜.lft (f x y)) := fun C B d u d' σ G H Q rr ok hd k => by
  obtain ⟨x, d1, r1, rr⟩ := 𝓜.run_bnd rr
  obtain ⟨y, d2, r2, rr⟩ := 𝓜.run_bnd rr
  obtain ⟨q1, q2⟩ := 𝓜.run_lft rr
  subst q2
  exact ha C B d x d1 σ G H _ r1 ok hd fun v G1 H1 e1 a1 p1 => hb C B d1 y d' σ G1 H1 _ r2 (ok.ext (Ext.up e1)) a1 fun w G2 H2 e2 a2 p2 =>
    hr G2 H2 v w x y u Q q1 e2.sub (R.st e2.g p1) p2 fun z G3 H3 e3 p3 => k z G3 H3 (e1.trans (e2.trans (Ext.mono e3))) (𝓜.at_st e3.hs a2) p3
theorem ev_opF {ta tb : TE} {f : α → β → Option (List γ)} (ha : Ev 𝓜 ta Γ R m) (hb : Ev 𝓜 tb Γ S n) (hr : RFP r R S T f) : EvF 𝓜 (tOp r ta tb) Γ T (𝓜.bnd m fun x => 𝓜.bnd n fun y => 𝓜.lft (f x y)) := fun C B d u d' σ G H Q rr ok hd k => by
  obtain ⟨x, d1, r1, rr⟩ := 𝓜.run_bnd rr
  obtain ⟨y, d2, r2, rr⟩ := 𝓜.run_bnd rr
  obtain ⟨q1, q2⟩ := 𝓜.run_lft rr
  subst q2
  exact ha C B d x d1 σ G H _ r1 ok hd fun v G1 H1 e1 a1 p1 => hb C B d1 y d' σ G1 H1 _ r2 (ok.ext (Ext.up e1)) a1 fun w G2 H2 e2 a2 p2 =>
    hr G2 H2 v w x y u Q q1 e2.sub (R.st e2.g p1) p2 fun p vs np hz pr => k p vs G2 (upd H2 p (.lst vs)) (by
      cases h : H p with
      | none => rfl
      | some o => exact absurd np ((e1.trans e2).th p (by rw [h]; exact fun z => by cases z))) ((e1.trans e2).trans (Ext.newM e2.sub np)) (𝓜.at_st (fun b o q => by rw [upd_ne (ne_of_none q np)]; exact q) a2) upd_same (free_of e2.sub np) hz pr
theorem x_bin {op : Operator} {f : α → β → γ} (ho : ∀ X, InC c X → OpR X (binaryOp op) r) (hr : RV r R S T f) (ha : XV c e1 Γ R x) (hb : XV c e2 Γ S y) : XV c (.BinOp e1 op e2 pos) Γ T (f x y) :=
  let ⟨ta, pa, ea⟩ := ha; let ⟨tb, pb, eb⟩ := hb; ⟨_, fun X hX => pe_op (ho X hX) (pa X hX) (pb X hX), evV_op ea eb hr⟩
theorem xm_bin {op : Operator} {f : α → β → Option γ} (ho : ∀ X, InC c X → OpR X (binaryOp op) r) (hr : RP r R S T f) (ha : XM 𝓜 c e1 Γ R m) (hb : XM 𝓜 c e2 Γ S n) : XM 𝓜 c (.BinOp e1 op e2 pos) Γ T (𝓜.bnd m fun x => 𝓜.bnd n fun y => 𝓜.lft (f x y)) :=
  let ⟨ta, pa, ea⟩ := ha; let ⟨tb, pb, eb⟩ := hb; ⟨_, fun X hX => pe_op (ho X hX) (pa X hX) (pb X hX), ev_op ea eb hr⟩
theorem xf_bin {op : Operator} {f : α → β → Option (List γ)} (ho : ∀ X, InC c X → OpR X (binaryOp op) r) (hr : RFP r R S T f) (ha : XM 𝓜 c e1 Γ R m) (hb : XM 𝓜 c e2 Γ S n) : XF 𝓜 c (.BinOp e1 op e2 pos) Γ T (𝓜.bnd m fun x => 𝓜.bnd n fun y => 𝓜.lft (f x y)) :=
  let ⟨ta, pa, ea⟩ := ha; let ⟨tb, pb, eb⟩ := hb; ⟨_, fun X hX => pe_op (ho X hX) (pa X hX) (pb X hX), ev_opF ea eb hr⟩
theorem x_cmp {op : CmpOp} {f : α → β → Bool} (ho : ∀ X, InC c X → OpR X (compareOp op) r) (hr : RV r R S rB f) (ha : XV c e1 Γ R x) (hb : XV c e2 Γ S y) (hm : behindInMarks op e2 = false) : XV c (.Compare e1 [op] [e2] pos) Γ rB (f x y) :=
  let ⟨ta, pa, ea⟩ := ha; let ⟨tb, pb, eb⟩ := hb; ⟨_, fun X hX => pe_cmpR (ho X hX) (pa X hX) (pb X hX) hm, evV_op ea eb hr⟩
theorem xm_cmp {op : CmpOp} {f : α → β → Option Bool} (ho : ∀ X, InC c X → OpR X (compareOp op) r) (hr : RP r R S rB f) (ha : XM 𝓜 c e1 Γ R m) (hb : XM 𝓜 c e2 Γ S n) (hm : behindInMarks op e2 = false) :
    XM 𝓜 c (.Compare e1 [op] [e2] pos) Γ rB (𝓜.bnd m fun x => 𝓜.bnd n fun y => 𝓜.lft (f x y)) :=
  let ⟨ta, pa, ea⟩ := ha; let ⟨tb, pb, eb⟩ := hb; ⟨_, fun X hX => pe_cmpR (ho X hX) (pa X hX) (pb X hX) hm, ev_op ea eb hr⟩
theorem evTV_of {t : TE} {b : Bool} (h : EvV t Γ rB b) : EvTV (tTest t) Γ b := fun C B σ G H Q ok k => h C B σ G H _ ok fun v G' H' e rr => ⟨b, rr, k G' H' e⟩
theorem evT_of {t : TE} {mb : 𝓜.M Bool} (h : Ev 𝓜 t Γ rB mb) : EvT 𝓜 (tTest t) Γ mb := fun C B d b d' σ G H Q rr ok ha k => h C B d b d' σ G H _ rr ok ha fun v G' H' e a q => ⟨b, q, k G' H' e a⟩
theorem t_cmp {op : CmpOp} {f : α → β → Bool} (ho : ∀ X, InC c X → OpR X (compareOp op) r) (hr : RV r R S rB f) (ha : XV c e1 Γ R x) (hb : XV c e2 Γ S y) (hm : behindInMarks op e2 = false) : XTV c (.Compare e1 [op] [e2] pos) Γ (f x y) :=
  let ⟨ta, pa, ea⟩ := ha; let ⟨tb, pb, eb⟩ := hb; ⟨_, fun X hX => pt_cmpR (ho X hX) (pa X hX) (pb X hX) hm, evTV_of (evV_op ea eb hr)⟩
theorem tm_cmp {op : CmpOp} {f : α → β → Option Bool} (ho : ∀ X, InC c X → OpR X (compareOp op) r) (hr : RP r R S rB f) (ha : XM 𝓜 c e1 Γ R m) (hb : XM 𝓜 c e2 Γ S n) (hm : behindInMarks op e2 = false) :
    XT 𝓜 c (.Compare e1 [op] [e2] pos) Γ (𝓜.bnd m fun x => 𝓜.bnd n fun y => 𝓜.lft (f x y)) :=
  let ⟨ta, pa, ea⟩ := ha; let ⟨tb, pb, eb⟩ := hb; ⟨_, fun X hX => pt_cmpR (ho X hX) (pa X hX) (pb X hX) hm, evT_of (ev_op ea eb hr)⟩
/-- a value that is a bool, as a test (a name, a call, a subscript) -/
theorem t_val {b : Bool} (h : XV c e Γ rB b) (he : ∀ env whole, isTrue e env whole = (do let v ← whole; standAt e.pos; holding [v] (truthy v)) := by intro _ _; rfl) : XTV c e Γ b :=
  let ⟨t, p, q⟩ := h; ⟨_, fun X hX => pt_val (p X hX) (he _), fun C B σ G H Q ok k => q C B σ G H _ ok fun v G' H' e rr => ⟨b, rr, k G' H' e⟩⟩
theorem tm_val {b : 𝓜.M Bool} (h : XM 𝓜 c e Γ rB b) (he : ∀ env whole, isTrue e env whole = (do let v ← whole; standAt e.pos; holding [v] (truthy v)) := by intro _ _; rfl) : XT 𝓜 c e Γ b :=
  let ⟨t, p, q⟩ := h; ⟨_, fun X hX => pt_val (p X hX) (he _), fun C B d bb d' σ G H Q rr ok ha k => q C B d bb d' σ G H _ rr ok ha fun v G' H' e a q2 => ⟨bb, q2, k G' H' e a⟩⟩
/-! and, or, not as tests -/
theorem w_and1 {b : Bool} (h : XTV c e Γ b) : XWV c (.BoolOp .And [e] pos) Γ b := let ⟨t, p, q⟩ := h; ⟨t, fun X hX => pw_and1 (p X hX), q⟩
theorem w_or1 {b : Bool} (h : XTV c e Γ b) : XWV c (.BoolOp .Or [e] pos) Γ b := let ⟨t, p, q⟩ := h; ⟨t, fun X hX => pw_or1 (p X hX), q⟩
theorem w_and {a b : Bool} (h : XTV c e Γ a) (g : XWV c (.BoolOp .And (e1 :: es) pos) Γ b) : XWV c (.BoolOp .And (e :: e1 :: es) pos) Γ (a && b) :=
  let ⟨t, p, q⟩ := h; let ⟨t2, p2, q2⟩ := g; ⟨tAnd t t2, fun X hX => pw_and (p X hX) (p2 X hX), fun C B σ G H Q ok k => q C B σ G H _ ok fun G' H' e => by
    cases a with
    | true => rw [if_pos rfl]; exact q2 C B σ G' H' Q (ok.ext (Ext.mono e)) fun G2 H2 e2 => k G2 H2 (e.trans e2)
    | false => rw [if_neg Bool.false_ne_true]; exact k G' H' e⟩
theorem w_or {a b : Bool} (h : XTV c e Γ a) (g : XWV c (.BoolOp .Or (e1 :: es) pos) Γ b) : XWV c (.BoolOp .Or (e :: e1 :: es) pos) Γ (a || b) :=
  let ⟨t, p, q⟩ := h; let ⟨t2, p2, q2⟩ := g; ⟨tOr t t2, fun X hX => pw_or (p X hX) (p2 X hX), fun C B σ G H Q ok k => q C B σ G H _ ok fun G' H' e => by
    cases a with
    | true => rw [if_pos rfl]; exact k G' H' e
    | false => rw [if_neg Bool.false_ne_true]; exact q2 C B σ G' H' Q (ok.ext (Ext.mono e)) fun G2 H2 e2 => k G2 H2 (e.trans e2)⟩
theorem t_w {b : Bool} (h : XWV c e Γ b) : XTV c e Γ b := let ⟨t, p, q⟩ := h; ⟨t, fun X hX => (p X hX).pt, q⟩
theorem t_not {b : Bool} (h : XTV c e Γ b) : XTV c (.UnaryOp .Not e pos) Γ (!b) := let ⟨t, p, q⟩ := h; ⟨tNot t, fun X hX => pt_not (p X hX), fun C B σ G H Q ok k => q C B σ G H _ ok k⟩
/-! the same, perhaps undefined -/
def andM (𝓜 : Md) (a b : 𝓜.M Bool) : 𝓜.M Bool := 𝓜.bnd a fun x => if x = true then b else 𝓜.ret false
def orM (𝓜 : Md) (a b : 𝓜.M Bool) : 𝓜.M Bool := 𝓜.bnd a fun x => if x = true then 𝓜.ret true else b
def notM (𝓜 : Md) (a : 𝓜.M Bool) : 𝓜.M Bool := 𝓜.bnd a fun x => 𝓜.ret (!x)
def iteM (𝓜 : Md) {α : Type} (a : 𝓜.M Bool) (x y : 𝓜.M α) : 𝓜.M α := 𝓜.bnd a fun b => if b = true then x else y
theorem wm_and1 {b : 𝓜.M Bool} (h : XT 𝓜 c e Γ b) : XW 𝓜 c (.BoolOp .And [e] pos) Γ b := let ⟨t, p, q⟩ := h; ⟨t, fun X hX => pw_and1 (p X hX), q⟩
theorem wm_or1 {b : 𝓜.M Bool} (h : XT 𝓜 c e Γ b) : XW 𝓜 c (.BoolOp .Or [e] pos) Γ b := let ⟨t, p, q⟩ := h; ⟨t, fun X hX => pw_or1 (p X hX), q⟩
theorem wm_and {a b : 𝓜.M Bool} (h : XT 𝓜 c e Γ a) (g : XW 𝓜 c (.BoolOp .And (e1 :: es) pos) Γ b) : XW 𝓜 c (.BoolOp .And (e :: e1 :: es) pos) Γ (andM 𝓜 a b) :=
  let ⟨t, p, q⟩ := h; let ⟨t2, p2, q2⟩ := g; ⟨tAnd t t2, fun X hX => pw_and (p X hX) (p2 X hX), fun C B d bb d' σ G H Q rr ok ha k => by
    obtain ⟨x, d1, r1, rr⟩ := 𝓜.run_bnd rr
    refine q C B d x d1 σ G H _ r1 ok ha fun G' H' e a => ?_
    cases x with
    | true =>
      rw [if_pos rfl] at rr ⊢
      exact q2 C B d1 bb d' σ G' H' Q rr (ok.ext (Ext.up e)) a fun G2 H2 e2 => k G2 H2 (e.trans e2)
    | false =>
      rw [if_neg Bool.false_ne_true] at rr ⊢
      obtain ⟨z1, z2⟩ := 𝓜.run_ret rr
      subst z1; subst z2
      exact k G' H' e a⟩
theorem wm_or {a b : 𝓜.M Bool} (h : XT 𝓜 c e Γ a) (g : XW 𝓜 c (.BoolOp .Or (e1 :: es) pos) Γ b) : XW 𝓜 c (.BoolOp .Or (e :: e1 :: es) pos) Γ (orM 𝓜 a b) :=
  let ⟨t, p, q⟩ := h; let ⟨t2, p2, q2⟩ := g; ⟨tOr t t2, fun X hX => pw_or (p X hX) (p2 X hX), fun C B d bb d' σ G H Q rr ok ha k => by
    obtain ⟨x, d1, r1, rr⟩ := 𝓜.run_bnd rr
    refine q C B d x d1 σ G H _ r1 ok ha fun G' H' e a => ?_
    cases x with
    | false =>
      rw [if_neg Bool.false_ne_true] at rr ⊢
      exact q2 C B d1 bb d' σ G' H' Q rr (ok.ext (Ext.up e)) a fun G2 H2 e2 => k G2 H2 (e.trans e2)
    | true =>
      rw [if_pos rfl] at rr ⊢
      obtain ⟨z1, z2⟩ := 𝓜.run_ret rr
      subst z1; subst z2
      exact k G' H' e a⟩
theorem tm_w {b : 𝓜.M Bool} (h : XW 𝓜 c e Γ b) : XT 𝓜 c e Γ b := let ⟨t, p, q⟩ := h; ⟨t, fun X hX => (p X hX).pt, q⟩
theorem tm_not {b : 𝓜.M Bool} (h : XT 𝓜 c e Γ b) : XT 𝓜 c (.UnaryOp .Not e pos) Γ (notM 𝓜 b) := let ⟨t, p, q⟩ := h; ⟨tNot t, fun X hX => pt_not (p X hX), fun C B d bb d' σ G H Q rr ok ha k => by
  obtain ⟨x, d1, r1, rr⟩ := 𝓜.run_bnd rr
  obtain ⟨z1, z2⟩ := 𝓜.run_ret rr
  subst z1; subst z2
  exact q C B d x d' σ G H _ r1 ok ha k⟩
/-! and, or, not as values -/
theorem x_one {op : BoolOp} (h : XV c e Γ R x) : XV c (.BoolOp op [e] pos) Γ R x := let ⟨t, p, q⟩ := h; ⟨t, fun X hX => pe_one (p X hX), q⟩
theorem x_and {a b : Bool} (h : XV c e Γ rB a) (g : XV c (.BoolOp .And (e1 :: es) pos) Γ rB b) : XV c (.BoolOp .And (e :: e1 :: es) pos) Γ rB (a && b) :=
  let ⟨t, p, q⟩ := h; let ⟨t2, p2, q2⟩ := g; ⟨tAndV t t2, fun X hX => pe_and (p X hX) (p2 X hX), fun C B σ G H Q ok k => q C B σ G H _ ok fun v G' H' e rr => ⟨a, rr, by
    cases a with
    | true => rw [if_pos rfl]; exact q2 C B σ G' H' Q (ok.ext (Ext.mono e)) fun v G2 H2 e2 r2 => k v G2 H2 (e.trans e2) r2
    | false => rw [if_neg Bool.false_ne_true]; exact k _ G' H' e rfl⟩⟩
theorem x_or {a b : Bool} (h : XV c e Γ rB a) (g : XV c (.BoolOp .Or (e1 :: es) pos) Γ rB b) : XV c (.BoolOp .Or (e :: e1 :: es) pos) Γ rB (a || b) :=
  let ⟨t, p, q⟩ := h; let ⟨t2, p2, q2⟩ := g; ⟨tOrV t t2, fun X hX => pe_or (p X hX) (p2 X hX), fun C B σ G H Q ok k => q C B σ G H _ ok fun v G' H' e rr => ⟨a, rr, by
    cases a with
    | true => rw [if_pos rfl]; exact k _ G' H' e rfl
    | false => rw [if_neg Bool.false_ne_true]; exact q2 C B σ G' H' Q (ok.ext (Ext.mono e)) fun v G2 H2 e2 r2 => k v G2 H2 (e.trans e2) r2⟩⟩
theorem xm_one {op : BoolOp} (h : XM 𝓜 c e Γ R m) : XM 𝓜 c (.BoolOp op [e] pos) Γ R m := let ⟨t, p, q⟩ := h; ⟨t, fun X hX => pe_one (p X hX), q⟩
theorem xm_and {a b : 𝓜.M Bool} (h : XM 𝓜 c e Γ rB a) (g : XM 𝓜 c (.BoolOp .And (e1 :: es) pos) Γ rB b) : XM 𝓜 c (.BoolOp .And (e :: e1 :: es) pos) Γ rB (andM 𝓜 a b) :=
  let ⟨t, p, q⟩ := h; let ⟨t2, p2, q2⟩ := g; ⟨tAndV t t2, fun X hX => pe_and (p X hX) (p2 X hX), fun C B d bb d' σ G H Q rr ok ha k => by
    obtain ⟨x, d1, r1, rr⟩ := 𝓜.run_bnd rr
    refine q C B d x d1 σ G H _ r1 ok ha fun v G' H' e a r0 => ⟨x, r0, ?_⟩
    cases x with
    | true =>
      rw [if_pos rfl] at rr ⊢
      exact q2 C B d1 bb d' σ G' H' Q rr (ok.ext (Ext.up e)) a fun v G2 H2 e2 => k v G2 H2 (e.trans e2)
    | false =>
      rw [if_neg Bool.false_ne_true] at rr ⊢
      obtain ⟨z1, z2⟩ := 𝓜.run_ret rr
      subst z1; subst z2
      exact k _ G' H' e a rfl⟩
theorem xm_or {a b : 𝓜.M Bool} (h : XM 𝓜 c e Γ rB a) (g : XM 𝓜 c (.BoolOp .Or (e1 :: es) pos) Γ rB b) : XM 𝓜 c (.BoolOp .Or (e :: e1 :: es) pos) Γ rB (orM 𝓜 a b) :=
  let ⟨t, p, q⟩ := h; let ⟨t2, p2, q2⟩ := g; ⟨tOrV t t2, fun X hX => pe_or (p X hX) (p2 X hX), fun C B d bb d' σ G H Q rr ok ha k => by
    obtain ⟨x, d1, r1, rr⟩ := 𝓜.run_bnd rr
    refine q C B d x d1 σ G H _ r1 ok ha fun v G' H' e a r0 => ⟨x, r0, ?_⟩
    cases x with
    | false =>
      rw [if_neg Bool.false_ne_true] at rr ⊢
      exact q2 C B d1 bb d' σ G' H' Q rr (ok.ext (Ext.up e)) a fun v G2 H2 e2 => k v G2 H2 (e.trans e2)
    | true =>
      rw [if_pos rfl] at rr ⊢
      obtain ⟨z1, z2⟩ := 𝓜.run_ret rr
      subst z1; subst z2
      exact k _ G' H' e a rfl⟩
theorem x_not {b : Bool} (h : XV c e Γ rB b) : XV c (.UnaryOp .Not e pos) Γ rB (!b) := let ⟨t, p, q⟩ := h; ⟨tNotV t, fun X hX => pe_not (p X hX), fun C B σ G H Q ok k => q C B σ G H _ ok fun v G' H' e rr => ⟨b, rr, k _ G' H' e rfl⟩⟩
theorem xm_not {b : 𝓜.M Bool} (h : XM 𝓜 c e Γ rB b) : XM 𝓜 c (.UnaryOp .Not e pos) Γ rB (notM 𝓜 b) := let ⟨t, p, q⟩ := h; ⟨tNotV t, fun X hX => pe_not (p X hX), fun C B d bb d' σ G H Q rr ok ha k => by
  obtain ⟨x, d1, r1, rr⟩ := 𝓜.run_bnd rr
  obtain ⟨z1, z2⟩ := 𝓜.run_ret rr
  subst z1; subst z2
  exact q C B d x d' σ G H _ r1 ok ha fun v G' H' e a rr => ⟨x, rr, k _ G' H' e a rfl⟩⟩
/-- a value named, an if by a bool -/
def lt {α β : Type} (x : α) (k : α → β) : β := k x
def ifB {α : Type} (b : Bool) (x y : α) : α := if b = true then x else y
/-! a if t else b -/
theorem x_if {b : Bool} {y : α} (h : XTV c e Γ b) (h1 : XV c e1 Γ R x) (h2 : XV c e2 Γ R y) : XV c (.IfExp e e1 e2 pos) Γ R (ifB b x y) :=
  let ⟨t, p, q⟩ := h; let ⟨t1, p1, q1⟩ := h1; let ⟨t2, p2, q2⟩ := h2; ⟨tIf t t1 t2, fun X hX => pe_ifExp (p X hX) (p1 X hX) (p2 X hX), fun C B σ G H Q ok k => q C B σ G H _ ok fun G' H' e => by
    unfold ifB at k
    cases b with
    | true => rw [if_pos rfl]; exact q1 C B σ G' H' Q (ok.ext (Ext.mono e)) fun v G2 H2 e2 => k v G2 H2 (e.trans e2)
    | false => rw [if_neg Bool.false_ne_true]; exact q2 C B σ G' H' Q (ok.ext (Ext.mono e)) fun v G2 H2 e2 => k v G2 H2 (e.trans e2)⟩
theorem xm_if {b : 𝓜.M Bool} {m1 m2 : 𝓜.M α} (h : XT 𝓜 c e Γ b) (h1 : XM 𝓜 c e1 Γ R m1) (h2 : XM 𝓜 c e2 Γ R m2) : XM 𝓜 c (.IfExp e e1 e2 pos) Γ R (iteM 𝓜 b m1 m2) :=
  let ⟨t, p, q⟩ := h; let ⟨t1, p1, q1⟩ := h1; let ⟨t2, p2, q2⟩ := h2; ⟨tIf t t1 t2, fun X hX => pe_ifExp (p X hX) (p1 X hX) (p2 X hX), fun C B d bb d' σ G H Q rr ok ha k => by
    obtain ⟨x, d1, r1, rr⟩ := 𝓜.run_bnd rr
    refine q C B d x d1 σ G H _ r1 ok ha fun G' H' e a => ?_
    cases x with
    | true =>
      rw [if_pos rfl] at rr ⊢
      exact q1 C B d1 bb d' σ G' H' Q rr (ok.ext (Ext.up e)) a fun v G2 H2 e2 => k v G2 H2 (e.trans e2)
    | false =>
      rw [if_neg Bool.false_ne_true] at rr ⊢
      exact q2 C B d1 bb d' σ G' H' Q rr (ok.ext (Ext.up e)) a fun v G2 H2 e2 => k v G2 H2 (e.trans e2)⟩
/-! one-place -/
theorem x_un {op : UnaryOp} {ru : V → Hp → VK → Prop} {f : α → γ} (ho : ∀ X, InC c X → UnR X (unaryOp op) ru) (hr : RU ru R T f) (ha : XV c e Γ R x) : XV c (.UnaryOp op e pos) Γ T (f x) :=
  let ⟨t, p, q⟩ := ha; ⟨tUn ru t, fun X hX => pe_un (ho X hX) (p X hX), fun C B σ G H Q ok k => q C B σ G H _ ok fun v G1 H1 e1 r1 => hr G1 H1 v x Q e1.sub r1 fun z G2 H2 e2 r2 => k z G2 H2 (e1.trans e2) r2⟩
theorem xm_un {op : UnaryOp} {ru : V → Hp → VK → Prop} {f : α → γ} (ho : ∀ X, InC c X → UnR X (unaryOp op) ru) (hr : RU ru R T f) (ha : XM 𝓜 c e Γ R m) : XM 𝓜 c (.UnaryOp op e pos) Γ T (𝓜.bnd m fun x => 𝓜.ret (f x)) :=
  let ⟨t, p, q⟩ := ha; ⟨tUn ru t, fun X hX => pe_un (ho X hX) (p X hX), fun C B d u d' σ G H Q rr ok ha k => by
    obtain ⟨x, d1, r1, rr⟩ := 𝓜.run_bnd rr
    obtain ⟨z1, z2⟩ := 𝓜.run_ret rr
    subst z1; subst z2
    exact q C B d x d' σ G H _ r1 ok ha fun v G1 H1 e1 a1 r1 => hr G1 H1 v x Q e1.sub r1 fun z G2 H2 e2 r2 => k z G2 H2 (e1.trans (Ext.mono e2)) (𝓜.at_st e2.hs a1) r2⟩
end
end Ty
set_option Elab.async false
set_option linter.all false
set_option maxRecDepth 100000
set_option maxHeartbeats 4000000
/-! Rules: arithmetic, texts, lists, tuples, subscripts, built-in calls, calls of defs. -/
namespace Ty
open PySem L2

section
variable {K : PySem.W.Frag}
/-! ### ints -/
theorem rv_I0 {g : Int → Int → Int} : RV (rI0 fun i j => .int (g i j)) rI rI rI g := fun G H v w x y Q s h1 h2 k => ⟨x, y, h1, h2, k _ G H (Ext.refl s) rfl⟩
theorem rv_B0 {g : Int → Int → Bool} : RV (rI0 fun i j => .bl (g i j)) rI rI rB g := fun G H v w x y Q s h1 h2 k => ⟨x, y, h1, h2, k _ G H (Ext.refl s) rfl⟩
def mulM (i j : Int) : Option Int := if i.natAbs.log2 + j.natAbs.log2 < 1000000 then some (i * j) else none
theorem rp_mul : RP (L2.rI CMulW fun i j => .int (i * j)) rI rI rI mulM := fun G H v w x y u Q e s h1 h2 k => by
  unfold mulM at e
  split at e
  · rename_i q
    cases e
    exact ⟨x, y, h1, h2, q, k _ G H (Ext.refl s) rfl⟩
  · cases e
theorem rv_mulL {a : Int} (h : -(2 ^ 64) < a ∧ a < 2 ^ 64) : RV (L2.rI CMul fun i j => .int (i * j)) (⟨fun _ v i => v = .int i ∧ i = a, fun _ h => h⟩ : Rp Int) rI rI (fun i j => i * j) := fun G H v w x y Q s h1 h2 k =>
  ⟨x, y, h1.1, h2, .inl (by rw [h1.2]; exact h), k _ G H (Ext.refl s) rfl⟩
/-- an int that is known -/
def rIk (a : Int) : Rp Int := ⟨fun _ v i => v = .int i ∧ i = a, fun _ h => h⟩
theorem rv_mulA {a : Int} (h : -(2 ^ 64) < a ∧ a < 2 ^ 64) : RV (L2.rI CMul fun i j => .int (i * j)) (rIk a) rI rI (fun i j => i * j) := fun G H v w x y Q s h1 h2 k =>
  ⟨x, y, h1.1, h2, .inl (by rw [h1.2]; exact h), k _ G H (Ext.refl s) rfl⟩
theorem rv_mulB {a : Int} (h : -(2 ^ 64) < a ∧ a < 2 ^ 64) : RV (L2.rI CMul fun i j => .int (i * j)) rI (rIk a) rI (fun i j => i * j) := fun G H v w x y Q s h1 h2 k =>
  ⟨x, y, h1, h2.1, .inr (by rw [h2.2]; exact h), k _ G H (Ext.refl s) rfl⟩
theorem rp_mulA {a : Int} (h : -(2 ^ 64) < a ∧ a < 2 ^ 64) : RP (L2.rI CMul fun i j => .int (i * j)) (rIk a) rI rI (fun i j => some (i * j)) := fun G H v w x y u Q e s h1 h2 k =>
  ⟨x, y, h1.1, h2, .inl (by rw [h1.2]; exact h), by cases e; exact k _ G H (Ext.refl s) rfl⟩
theorem rp_mulB {a : Int} (h : -(2 ^ 64) < a ∧ a < 2 ^ 64) : RP (L2.rI CMul fun i j => .int (i * j)) rI (rIk a) rI (fun i j => some (i * j)) := fun G H v w x y u Q e s h1 h2 k =>
  ⟨x, y, h1, h2.1, .inr (by rw [h2.2]; exact h), by cases e; exact k _ G H (Ext.refl s) rfl⟩
/-- a total operation where the operands are perhaps undefined -/
theorem RV.p {α β γ : Type} {r : R2} {R : Rp α} {S : Rp β} {T : Rp γ} {f : α → β → γ} (h : RV r R S T f) : RP r R S T (fun x y => some (f x y)) := fun G H v w x y u Q e s h1 h2 k => by
  cases e
  exact h G H v w x y Q s h1 h2 k
/-- % and // by a known positive number -/
theorem rv_modB {a : Int} (h : 0 < a) : RV (L2.rI (fun _ j => 0 < j) fun i j => .int (i % j)) rI (rIk a) rI (fun i j => i % j) := fun G H v w x y Q s h1 h2 k =>
  ⟨x, y, h1, h2.1, by rw [h2.2]; exact h, k _ G H (Ext.refl s) rfl⟩
theorem rv_divB {a : Int} (h : 0 < a ∧ a < 1073741824) : RV (L2.rI CDiv fun i j => .int (i / j)) rI (rIk a) rI (fun i j => i / j) := fun G H v w x y Q s h1 h2 k =>
  ⟨x, y, h1, h2.1, by rw [h2.2]; exact h, k _ G H (Ext.refl s) rfl⟩
def modM (i j : Int) : Option Int := if 0 < j then some (i % j) else none
theorem rp_mod : RP (L2.rI (fun _ j => 0 < j) fun i j => .int (i % j)) rI rI rI modM := fun G H v w x y u Q e s h1 h2 k => by
  unfold modM at e
  split at e
  · rename_i q
    cases e
    exact ⟨x, y, h1, h2, q, k _ G H (Ext.refl s) rfl⟩
  · cases e
def divM (i j : Int) : Option Int := if 0 < j ∧ j < 1073741824 then some (i / j) else none
theorem rp_div : RP (L2.rI CDiv fun i j => .int (i / j)) rI rI rI divM := fun G H v w x y u Q e s h1 h2 k => by
  unfold divM at e
  split at e
  · rename_i q
    cases e
    exact ⟨x, y, h1, h2, q, k _ G H (Ext.refl s) rfl⟩
  · cases e
/-- // by any positive number below 2 ^ 9000 -/
def divW (i j : Int) : Option Int := if 0 < j ∧ j.natAbs.log2 < 9000 then some (i / j) else none
theorem rp_divW : RP (L2.rI CDivW fun i j => .int (i / j)) rI rI rI divW := fun G H v w x y u Q e s h1 h2 k => by
  unfold divW at e
  split at e
  · rename_i q
    cases e
    exact ⟨x, y, h1, h2, q, k _ G H (Ext.refl s) rfl⟩
  · cases e
theorem ru_neg : RU (rU fun i => .int (-i)) rI rI (fun i => -i) := fun G H v x Q s h k => ⟨x, h, k _ G H (Ext.refl s) rfl⟩
/-! ### == -/
theorem rv_eqI : RV rEq rI rI rB (fun i j => decide (i = j)) := fun G H v w x y Q s h1 h2 k => by
  cases h1; cases h2
  refine ⟨rfl, ?_⟩
  rw [show decide (V.int x = V.int y) = decide (x = y) from by simp]
  exact k _ G H (Ext.refl s) rfl
theorem rv_neI : RV rNe rI rI rB (fun i j => !decide (i = j)) := fun G H v w x y Q s h1 h2 k => by
  cases h1; cases h2
  refine ⟨rfl, ?_⟩
  rw [show decide (V.int x = V.int y) = decide (x = y) from by simp]
  exact k _ G H (Ext.refl s) rfl
theorem dec_ofL (a b : List Nat) : decide (V.str (ofL a) = V.str (ofL b)) = decide (a = b) := by
  by_cases h : a = b
  · subst h; simp
  · rw [decide_eq_false h, decide_eq_false fun z => h (ofL_inj (V.str.inj z))]
theorem rv_eqS : RV rEq rS rS rB (fun i j => decide (i = j)) := fun G H v w x y Q s h1 h2 k => by
  rw [h1.1, h2.1]
  refine ⟨rfl, ?_⟩
  rw [dec_ofL]
  exact k _ G H (Ext.refl s) rfl
theorem rv_neS : RV rNe rS rS rB (fun i j => !decide (i = j)) := fun G H v w x y Q s h1 h2 k => by
  rw [h1.1, h2.1]
  refine ⟨rfl, ?_⟩
  rw [dec_ofL]
  exact k _ G H (Ext.refl s) rfl
theorem rv_eqB : RV rEq rB rB rB (fun i j => decide (i = j)) := fun G H v w x y Q s h1 h2 k => by
  cases h1; cases h2
  refine ⟨rfl, ?_⟩
  rw [show decide (V.bl x = V.bl y) = decide (x = y) from by simp]
  exact k _ G H (Ext.refl s) rfl
theorem rv_neB : RV rNe rB rB rB (fun i j => !decide (i = j)) := fun G H v w x y Q s h1 h2 k => by
  cases h1; cases h2
  refine ⟨rfl, ?_⟩
  rw [show decide (V.bl x = V.bl y) = decide (x = y) from by simp]
  exact k _ G H (Ext.refl s) rfl
theorem rv_isB : RV rIsB rB rB rB (fun i j => decide (i = j)) := fun G H v w x y Q s h1 h2 k => ⟨x, y, h1, h2, k _ G H (Ext.refl s) rfl⟩
theorem rv_notB : RV rNotB rB rB rB (fun i j => !decide (i = j)) := fun G H v w x y Q s h1 h2 k => ⟨x, y, h1, h2, k _ G H (Ext.refl s) rfl⟩
theorem x_intk {c : Ctx} {Γ : List Slot} {p : Pos} {j : Int} {kk : Nat} : XV c (.Constant (.int j) kk p) Γ (rIk j) j := ⟨_, fun _ _ => pe_int, fun C B σ G H Q ok k => k _ G H (Ext.refl ok.sub) ⟨rfl, rfl⟩⟩
theorem x_globk {c : Ctx} {Γ : List Slot} {p : Pos} {s : Str} {j : Int} {t : Tok} (hg : c.sc.names.lookup s = some .globalImplicit) (hm : c.g.mg s = some (.int j t)) (hd : (s == ("__debug__" : Str)) = false := by decide) : XV c (.Name s p) Γ (rIk j) j :=
  x_glob (v := .int j) hg hm ⟨t, rfl⟩ (fun _ => ⟨rfl, rfl⟩) hd
/-! ### texts -/
theorem ofL_app (a b : List Nat) : ofL a ++ ofL b = ofL (a ++ b) := by
  show (⟨a.toArray ++ b.toArray⟩ : Str) = ⟨(a ++ b).toArray⟩
  simp
abbrev rAddS : R2 := fun x y H Q => ∃ i j, x = .str i ∧ y = .str j ∧ i.length + j.length ≤ sizeLine ∧ Q (.str (i ++ j)) H
def catS (a b : List Nat) : Option (List Nat) := if a.length + b.length ≤ cap then some (a ++ b) else none
theorem rp_addS : RP rAddS rS rS rS catS := fun G H v w x y u Q e s h1 h2 k => by
  unfold catS at e
  split at e
  · rename_i q
    cases e
    refine ⟨ofL x, ofL y, h1.1, h2.1, by rw [ofL_len, ofL_len]; exact cap_line q, ?_⟩
    rw [ofL_app]
    exact k _ G H (Ext.refl s) ⟨rfl, by rw [List.length_append]; exact q⟩
  · cases e
/-- text * int -/
def repS (a : List Nat) (n : Int) : Option (List Nat) := if -1000000 ≤ n ∧ n ≤ 1000000 ∧ a.length * n.toNat ≤ cap then some (List.replicate n.toNat a).flatten else none
def rMulS : R2 := fun x y H Q => ∃ a n, x = .str (ofL a) ∧ y = .int n ∧ (-1000000 ≤ n ∧ n ≤ 1000000 ∧ a.length * n.toNat ≤ cap) ∧ Q (.str (ofL (List.replicate n.toNat a).flatten)) H
theorem foldl_app (a : List Nat) : ∀ (k : Nat) (acc : List Nat), (List.replicate k a.toArray).foldl (· ++ ·) acc.toArray = (acc ++ (List.replicate k a).flatten).toArray
  | 0, acc => by simp
  | k + 1, acc => by
    rw [List.replicate_succ, List.foldl_cons]
    have : acc.toArray ++ a.toArray = (acc ++ a).toArray := by simp
    rw [this, foldl_app a k, List.replicate_succ, List.flatten_cons, List.append_assoc]
theorem mul_ofL (a : List Nat) (n : Int) (h : -1000000 ≤ n) : Txt.mul (ofL a) n = ofL (List.replicate n.toNat a).flatten := by
  unfold Txt.mul
  by_cases h1 : n < 1
  · rw [if_pos h1, show n.toNat = 0 by omega]; rfl
  · rw [if_neg h1]
    by_cases h2 : (n == 1 || (ofL a).length == 0) = true
    · rw [if_pos h2]
      rw [Bool.or_eq_true] at h2
      rcases h2 with h2 | h2
      · have e : n = 1 := by simpa using h2
        subst e
        simp
      · rw [ofL_len] at h2
        have e : a = [] := by simpa using h2
        subst e
        have : ∀ k : Nat, (List.replicate k ([] : List Nat)).flatten = [] := by
          intro k; induction k with
          | zero => rfl
          | succ k ih => rw [List.replicate_succ, List.flatten_cons, ih]; rfl
        rw [this]
    · rw [if_neg h2]
      have := foldl_app a n.toNat []
      show (⟨_⟩ : Str) = ⟨_⟩
      congr 1
theorem op_mulS {X : Cx} : OpR X (binaryOp .Mult) rMulS := by
  intro pins s σ H x y v u Q I rx ry h
  obtain ⟨a, n, rfl, rfl, ⟨hlo, hn, hz⟩, q⟩ := h
  obtain ⟨t, rfl⟩ := rx
  obtain ⟨t', rfl⟩ := ry
  have cN : cap = 1000000 := rfl
  rw [← mul_ofL a n hlo] at q
  have hl : a.length ≤ 1000000 ∨ n < 1 := by
    by_cases h1 : n < 1
    · exact .inr h1
    · have : a.length * 1 ≤ a.length * n.toNat := Nat.mul_le_mul_left _ (by omega)
      exact .inl (by omega)
  refine SB.mul ⟨?_, fun h1 h2 => ?_, fun h1 h2 => ?_⟩ fun t' k => ⟨.str (Txt.mul (ofL a) n), H, I.tok _, ⟨_, rfl⟩, q⟩
  · rw [decide_eq_false (by omega), decide_eq_false (by omega)]; rfl
  · rw [ofL_len]
    have h3 : (2 ^ 63 - 1 : Int) / 1000000 ≤ (2 ^ 63 - 1) / n := by
      apply Int.le_ediv_of_mul_le (by omega)
      have : (2 ^ 63 - 1 : Int) / 1000000 * n ≤ (2 ^ 63 - 1 : Int) / 1000000 * 1000000 := Int.mul_le_mul_of_nonneg_left hn (by decide)
      omega
    have h4 : (1000000 : Int) ≤ (2 ^ 63 - 1 : Int) / 1000000 := by decide
    omega
  · unfold Builtin.Str.tooLong
    rw [ofL_len]
    exact decide_eq_false (by have := cap_line hz; omega)
theorem rp_mulS : RP rMulS rS rI rS repS := fun G H v w x y u Q e s h1 h2 k => by
  unfold repS at e
  split at e
  · rename_i q
    cases e
    refine ⟨x, y, h1.1, h2, q, k _ G H (Ext.refl s) ⟨rfl, ?_⟩⟩
    have : ((List.replicate y.toNat x).flatten).length = x.length * y.toNat := by simp [Nat.mul_comm]
    rw [this]; exact q.2.2
  · cases e
end
end Ty
set_option Elab.async false
set_option linter.all false
set_option maxRecDepth 100000
set_option maxHeartbeats 4000000
/-! Rules: arguments, displays, subscripts, slices, calls. -/
namespace Ty
open PySem L2 StX

section
variable {𝓜 : Md} {α β γ : Type} {c : Ctx} {e e1 e2 e3 : Expr} {es : List Expr} {Γ Γ' : List Slot} {R : Rp α} {S : Rp β} {T : Rp γ} {x : α} {y : β} {m : 𝓜.M α} {n : 𝓜.M β} {pos p p2 : Pos} {i : Nat} {K : PySem.W.Frag}
theorem paired_append {F : V → α → Prop} : ∀ {vs ws : List V} {xs ys : List α}, Paired F vs xs → Paired F ws ys → Paired F (vs ++ ws) (xs ++ ys)
  | _, _, _, _, .nil, h => h
  | _, _, _, _, .cons f t, h => .cons f (paired_append t h)
/-! ### arguments -/
theorem a_nil : XAV c [] Γ sNil () := ⟨_, fun _ _ => pa_nil, fun C B σ G H Q ok k => k [] G H (Ext.refl ok.sub) rfl⟩
theorem a_nilL : XAV c [] Γ (sAll R) [] := ⟨_, fun _ _ => pa_nil, fun C B σ G H Q ok k => k [] G H (Ext.refl ok.sub) .nil⟩
/-- the last one -/
theorem a_one (h : XV c e Γ R x) (hs : ∀ env, starEach (e :: []) env = (false, eval e env) :: starEach [] env := by intro _; rfl) : XAV c [e] Γ (sOne R) x :=
  let ⟨t, p, q⟩ := h; ⟨_, fun X hX => pa_cons (p X hX) pa_nil (hs _), fun C B σ G H Q ok k => q C B σ G H _ ok fun v G1 H1 e1 r1 => k [v] G1 H1 e1 ⟨v, rfl, r1⟩⟩
theorem a_cons {A : Rps β} (h : XV c e Γ R x) (g : XAV c es Γ A y) (hs : ∀ env, starEach (e :: es) env = (false, eval e env) :: starEach es env := by intro _; rfl) : XAV c (e :: es) Γ (sCons R A) (x, y) :=
  let ⟨t, p, q⟩ := h; let ⟨t2, p2, q2⟩ := g; ⟨_, fun X hX => pa_cons (p X hX) (p2 X hX) (hs _), fun C B σ G H Q ok k => q C B σ G H _ ok fun v G1 H1 e1 r1 =>
    q2 C B σ G1 H1 _ (ok.ext (Ext.mono e1)) fun vs G2 H2 e2 r2 => k (v :: vs) G2 H2 (e1.trans e2) ⟨v, vs, rfl, R.st e2.g r1, r2⟩⟩
theorem a_consL {xs : List α} (h : XV c e Γ R x) (g : XAV c es Γ (sAll R) xs) (hs : ∀ env, starEach (e :: es) env = (false, eval e env) :: starEach es env := by intro _; rfl) : XAV c (e :: es) Γ (sAll R) (x :: xs) :=
  let ⟨t, p, q⟩ := h; let ⟨t2, p2, q2⟩ := g; ⟨_, fun X hX => pa_cons (p X hX) (p2 X hX) (hs _), fun C B σ G H Q ok k => q C B σ G H _ ok fun v G1 H1 e1 r1 =>
    q2 C B σ G1 H1 _ (ok.ext (Ext.mono e1)) fun vs G2 H2 e2 r2 => k (v :: vs) G2 H2 (e1.trans e2) (.cons (R.st e2.g r1) r2)⟩
theorem am_one (h : XM 𝓜 c e Γ R m) (hs : ∀ env, starEach (e :: []) env = (false, eval e env) :: starEach [] env := by intro _; rfl) : XA 𝓜 c [e] Γ (sOne R) m :=
  let ⟨t, p, q⟩ := h; ⟨_, fun X hX => pa_cons (p X hX) pa_nil (hs _), fun C B d u d' σ G H Q rr ok ha k => q C B d u d' σ G H _ rr ok ha fun v G1 H1 e1 a1 r1 => k [v] G1 H1 e1 a1 ⟨v, rfl, r1⟩⟩
theorem am_cons {A : Rps β} (h : XM 𝓜 c e Γ R m) (g : XA 𝓜 c es Γ A n) (hs : ∀ env, starEach (e :: es) env = (false, eval e env) :: starEach es env := by intro _; rfl) : XA 𝓜 c (e :: es) Γ (sCons R A) (𝓜.bnd m fun x => 𝓜.bnd n fun y => 𝓜.ret (x, y)) :=
  let ⟨t, p, q⟩ := h; let ⟨t2, p2, q2⟩ := g; ⟨_, fun X hX => pa_cons (p X hX) (p2 X hX) (hs _), fun C B d u d' σ G H Q rr ok ha k => by
    obtain ⟨x, d1, r1, rr⟩ := 𝓜.run_bnd rr
    obtain ⟨y, d2, r2, rr⟩ := 𝓜.run_bnd rr
    obtain ⟨z1, z2⟩ := 𝓜.run_ret rr
    subst z1; subst z2
    exact q C B d x d1 σ G H _ r1 ok ha fun v G1 H1 e1 a1 p1 => q2 C B d1 y d' σ G1 H1 _ r2 (ok.ext (Ext.up e1)) a1 fun vs G2 H2 e2 a2 p2 => k (v :: vs) G2 H2 (e1.trans e2) a2 ⟨v, vs, rfl, R.st e2.g p1, p2⟩⟩
theorem am_consL {ms : 𝓜.M (List α)} (h : XM 𝓜 c e Γ R m) (g : XA 𝓜 c es Γ (sAll R) ms) (hs : ∀ env, starEach (e :: es) env = (false, eval e env) :: starEach es env := by intro _; rfl) : XA 𝓜 c (e :: es) Γ (sAll R) (𝓜.bnd m fun x => 𝓜.bnd ms fun xs => 𝓜.ret (x :: xs)) :=
  let ⟨t, p, q⟩ := h; let ⟨t2, p2, q2⟩ := g; ⟨_, fun X hX => pa_cons (p X hX) (p2 X hX) (hs _), fun C B d u d' σ G H Q rr ok ha k => by
    obtain ⟨x, d1, r1, rr⟩ := 𝓜.run_bnd rr
    obtain ⟨y, d2, r2, rr⟩ := 𝓜.run_bnd rr
    obtain ⟨z1, z2⟩ := 𝓜.run_ret rr
    subst z1; subst z2
    exact q C B d x d1 σ G H _ r1 ok ha fun v G1 H1 e1 a1 p1 => q2 C B d1 y d' σ G1 H1 _ r2 (ok.ext (Ext.up e1)) a1 fun vs G2 H2 e2 a2 p2 => k (v :: vs) G2 H2 (e1.trans e2) a2 (.cons (R.st e2.g p1) p2)⟩
/-- *e at the end, e a tuple -/
theorem am_star {A : Rps α} (h : XM 𝓜 c e Γ (rT c.g.K A) m) (hs : ∀ env, starEach (.Starred e p :: []) env = (true, eval e env) :: starEach [] env := by intro _; rfl) : XA 𝓜 c [.Starred e p] Γ A m :=
  let ⟨t, p1, q⟩ := h; ⟨tStar c.g.K t tNil, fun X hX => by rw [← hX.K]; exact pa_star (p1 X hX) (pa_nil (X := X)) (hs X.env), fun C B d u d' σ G H Q rr ok ha k =>
    q C B d u d' σ G H _ rr ok ha fun v G1 H1 e1 a1 ⟨a, vs, ev, hv, hz, r1⟩ => ⟨a, vs, ev, .inl (same_t e1.sub hv), k _ G1 H1 e1 a1 (by rw [List.append_nil]; exact r1)⟩⟩
/-- *e ahead of more, all alike -/
theorem am_starL {ms ns : 𝓜.M (List α)} (h : XM 𝓜 c e Γ (rT c.g.K (sAll R)) ms) (g : XA 𝓜 c es Γ (sAll R) ns) (hs : ∀ env, starEach (.Starred e p :: es) env = (true, eval e env) :: starEach es env := by intro _; rfl) :
    XA 𝓜 c (.Starred e p :: es) Γ (sAll R) (𝓜.bnd ms fun xs => 𝓜.bnd ns fun ys => 𝓜.ret (xs ++ ys)) :=
  let ⟨t, p1, q⟩ := h; let ⟨t2, p2, q2⟩ := g; ⟨tStar c.g.K t t2, fun X hX => by rw [← hX.K]; exact pa_star (p1 X hX) (p2 X hX) (hs X.env), fun C B d u d' σ G H Q rr ok ha k => by
    obtain ⟨x, d1, r1, rr⟩ := 𝓜.run_bnd rr
    obtain ⟨y, d2, r2, rr⟩ := 𝓜.run_bnd rr
    obtain ⟨z1, z2⟩ := 𝓜.run_ret rr
    subst z1; subst z2
    exact q C B d x d1 σ G H _ r1 ok ha fun v G1 H1 e1 a1 ⟨a, vs, ev, hv, hz, r1⟩ => ⟨a, vs, ev, .inl (same_t e1.sub hv), q2 C B d1 y d' σ G1 H1 _ r2 (ok.ext (Ext.up e1)) a1 fun ws G2 H2 e2 a2 p2 =>
      k (vs ++ ws) G2 H2 (e1.trans e2) a2 (paired_append (paired_st e2.g r1) p2)⟩⟩
theorem am_starLL {ms ns : 𝓜.M (List α)} (h : XM 𝓜 c e Γ (rL R) ms) (g : XA 𝓜 c es Γ (sAll R) ns) (hs : ∀ env, starEach (.Starred e p :: es) env = (true, eval e env) :: starEach es env := by intro _; rfl) :
    XA 𝓜 c (.Starred e p :: es) Γ (sAll R) (𝓜.bnd ms fun xs => 𝓜.bnd ns fun ys => 𝓜.ret (xs ++ ys)) :=
  let ⟨t, p1, q⟩ := h; let ⟨t2, p2, q2⟩ := g; ⟨tStar c.g.K t t2, fun X hX => by rw [← hX.K]; exact pa_star (p1 X hX) (p2 X hX) (hs X.env), fun C B d u d' σ G H Q rr ok ha k => by
    obtain ⟨x, d1, r1, rr⟩ := 𝓜.run_bnd rr
    obtain ⟨y, d2, r2, rr⟩ := 𝓜.run_bnd rr
    obtain ⟨z1, z2⟩ := 𝓜.run_ret rr
    subst z1; subst z2
    exact q C B d x d1 σ G H _ r1 ok ha fun v G1 H1 e1 a1 ⟨a, vs, ev, hv, hz, r1⟩ => ⟨a, vs, ev, .inr (SqL.of (e1.sub _ _ hv)), q2 C B d1 y d' σ G1 H1 _ r2 (ok.ext (Ext.up e1)) a1 fun ws G2 H2 e2 a2 p2 =>
      k (vs ++ ws) G2 H2 (e1.trans e2) a2 (paired_append (paired_st e2.g r1) p2)⟩⟩
/-! ### displays -/
theorem x_tup {A : Rps α} {kk : Nat} (h : XAV c es Γ A x) (hz : ∀ H vs y, A.r H vs y → vs.length ≤ cap) : XV c (.Tuple es kk pos) Γ (rT c.g.K A) x :=
  let ⟨t, p, q⟩ := h; ⟨tTup t, fun X hX => pe_tup (p X hX), fun C B σ G H Q ok k => q C B σ G H _ ok fun vs G1 H1 e1 r1 => ⟨cap_line (hz _ _ _ r1), fun a na =>
    k _ _ _ (e1.trans (Ext.new e1.sub na)) ⟨a, vs, rfl, SqT.of upd_same, hz _ _ _ r1, A.st (Ext.new (C := []) e1.sub na).g r1⟩⟩⟩
theorem xm_tup {A : Rps α} {kk : Nat} (h : XA 𝓜 c es Γ A m) (hz : ∀ H vs y, A.r H vs y → vs.length ≤ cap) : XM 𝓜 c (.Tuple es kk pos) Γ (rT c.g.K A) m :=
  let ⟨t, p, q⟩ := h; ⟨tTup t, fun X hX => pe_tup (p X hX), fun C B d u d' σ G H Q rr ok ha k => q C B d u d' σ G H _ rr ok ha fun vs G1 H1 e1 a1 r1 => ⟨cap_line (hz _ _ _ r1), fun a na =>
    k _ _ _ (e1.trans (Ext.new e1.sub na)) (𝓜.at_st (fun b o q => by rw [upd_ne (ne_of_none q na)]; exact q) a1) ⟨a, vs, rfl, SqT.of upd_same, hz _ _ _ r1, A.st (Ext.new (C := []) e1.sub na).g r1⟩⟩⟩
theorem z_nil : ∀ H vs y, sNil.r H vs y → vs.length ≤ cap := fun H vs y h => by cases h; exact Nat.zero_le _
theorem zk_one {k : Nat} (hk : 1 ≤ k) : ∀ H vs y, (sOne R).r H vs y → vs.length ≤ k := fun H vs y ⟨v, h, _⟩ => by rw [h]; exact hk
theorem zk_cons {A : Rps β} {k : Nat} (h : ∀ H vs y, A.r H vs y → vs.length ≤ k) : ∀ H vs y, (sCons R A).r H vs y → vs.length ≤ k + 1 := fun H vs y ⟨v, ws, e, _, g⟩ => by rw [e, List.length_cons]; have := h _ _ _ g; omega
theorem z_of {A : Rps α} {k : Nat} (h : ∀ H vs y, A.r H vs y → vs.length ≤ k) (hk : k ≤ cap := by decide) : ∀ H vs y, A.r H vs y → vs.length ≤ cap := fun H vs y g => Nat.le_trans (h H vs y g) hk
/-- a tuple whose items are all alike, of any number -/
def lenM (𝓜 : Md) {α : Type} (m : 𝓜.M (List α)) : 𝓜.M (List α) := 𝓜.bnd m fun xs => 𝓜.lft (if xs.length ≤ cap then some xs else none)
theorem xm_tupL {ms : 𝓜.M (List α)} {kk : Nat} (h : XA 𝓜 c es Γ (sAll R) ms) : XM 𝓜 c (.Tuple es kk pos) Γ (rT c.g.K (sAll R)) (lenM 𝓜 ms) :=
  let ⟨t, p, q⟩ := h; ⟨tTup t, fun X hX => pe_tup (p X hX), fun C B d u d' σ G H Q rr ok ha k => by
    obtain ⟨x, d1, r1, rr⟩ := 𝓜.run_bnd rr
    obtain ⟨q1, q2⟩ := 𝓜.run_lft rr
    subst q2
    split at q1
    · rename_i hz
      have q1 := Option.some.inj q1
      subst q1
      refine q C B d x d' σ G H _ r1 ok ha fun vs G1 H1 e1 a1 r1 => ?_
      have hl : vs.length ≤ cap := by rw [Paired.length r1]; exact hz
      exact ⟨cap_line hl, fun a na => k _ _ _ (e1.trans (Ext.new e1.sub na)) (𝓜.at_st (fun b o q => by rw [upd_ne (ne_of_none q na)]; exact q) a1) ⟨a, vs, rfl, SqT.of upd_same, hl, paired_st (Ext.new (C := []) e1.sub na).g r1⟩⟩
    · cases q1⟩
theorem x_tupL {xs : List α} {kk : Nat} (h : XAV c es Γ (sAll R) xs) (hz : xs.length ≤ cap) : XV c (.Tuple es kk pos) Γ (rT c.g.K (sAll R)) xs :=
  let ⟨t, p, q⟩ := h; ⟨tTup t, fun X hX => pe_tup (p X hX), fun C B σ G H Q ok k => q C B σ G H _ ok fun vs G1 H1 e1 r1 => by
    have hl : vs.length ≤ cap := by rw [Paired.length r1]; exact hz
    exact ⟨cap_line hl, fun a na => k _ _ _ (e1.trans (Ext.new e1.sub na)) ⟨a, vs, rfl, SqT.of upd_same, hl, paired_st (Ext.new (C := []) e1.sub na).g r1⟩⟩⟩
theorem back_none {C : List Addr} {G H G' H' : Hp} (e : Ext C G H G' H') {p : Addr} (n : H' p = none) : H p = none := by
  cases h : H p with
  | none => rfl
  | some o => exact absurd n (e.th p (by rw [h]; exact fun z => by cases z))
theorem xf_lst {xs : List α} (h : XAV c es Γ (sAll R) xs) (hz : xs.length ≤ cap) : XFV c (.List es pos) Γ R xs :=
  let ⟨t, p, q⟩ := h; ⟨tLst t, fun X hX => pe_lst (p X hX), fun C B σ G H Q ok k => q C B σ G H _ ok fun vs G1 H1 e1 r1 => by
    have hl : vs.length ≤ cap := by rw [Paired.length r1]; exact hz
    exact ⟨cap_line hl, fun a na => k a vs G1 _ (back_none e1 na) (e1.trans (Ext.newM e1.sub na)) upd_same (free_of e1.sub na) hl r1⟩⟩
theorem xfm_lst {ms : 𝓜.M (List α)} (h : XA 𝓜 c es Γ (sAll R) ms) : XF 𝓜 c (.List es pos) Γ R (lenM 𝓜 ms) :=
  let ⟨t, p, q⟩ := h; ⟨tLst t, fun X hX => pe_lst (p X hX), fun C B d u d' σ G H Q rr ok ha k => by
    obtain ⟨x, d1, r1, rr⟩ := 𝓜.run_bnd rr
    obtain ⟨q1, q2⟩ := 𝓜.run_lft rr
    subst q2
    split at q1
    · rename_i hz
      have q1 := Option.some.inj q1
      subst q1
      refine q C B d x d' σ G H _ r1 ok ha fun vs G1 H1 e1 a1 r1 => ?_
      have hl : vs.length ≤ cap := by rw [Paired.length r1]; exact hz
      exact ⟨cap_line hl, fun a na => k a vs G1 _ (back_none e1 na) (e1.trans (Ext.newM e1.sub na)) (𝓜.at_st (fun b o q => by rw [upd_ne (ne_of_none q na)]; exact q) a1) upd_same (free_of e1.sub na) hl r1⟩
    · cases q1⟩

/-! ### subscripts -/
theorem paired_get {F : V → α → Prop} : ∀ {vs : List V} {xs : List α} {i : Nat} {x : α}, Paired F vs xs → xs[i]? = some x → ∃ v, vs[i]? = some v ∧ F v x
  | _, _, _, _, .nil, h => by simp at h
  | _, _, 0, _, .cons f _, h => by simp at h; subst h; exact ⟨_, rfl, f⟩
  | _, _, i + 1, _, .cons _ t, h => by
    obtain ⟨v, h1, h2⟩ := paired_get (i := i) t (by simpa using h)
    exact ⟨v, by simpa using h1, h2⟩
theorem paired_at {F : V → α → Prop} {vs : List V} {xs : List α} {i : Int} {x : α} (p : Paired F vs xs) (h : atI xs i = some x) : ∃ v, atI vs i = some v ∧ F v x := by
  unfold atI at h ⊢
  rw [Paired.length p]
  cases e : ixN xs.length i with
  | none => rw [e] at h; cases h
  | some j =>
    rw [e] at h
    exact paired_get p h
theorem rp_ixL {K : PySem.W.Frag} : RP (rIxL K) (rL R) rI R (fun xs i => atI xs i) := fun G H v w xs i u Q e s ⟨a, vs, ev, hv, hz, pr⟩ h2 k => by
  obtain ⟨z, h3, h4⟩ := paired_at pr e
  exact ⟨a, vs, i, z, ev, h2, SqL.of (s _ _ hv), h3, k z G H (Ext.refl s) h4⟩
theorem rp_ixLK {K : PySem.W.Frag} : RP (rIxL K) (rLK K R) rI R (fun xs i => atI xs i) := fun G H v w xs i u Q e s ⟨a, vs, ev, hv, hz, pr⟩ h2 k => by
  obtain ⟨z, h3, h4⟩ := paired_at pr e
  exact ⟨a, vs, i, z, ev, h2, s.seq hv, h3, k z G H (Ext.refl s) h4⟩
theorem rp_ixT {K : PySem.W.Frag} : RP (rIxT K) (rT K (sAll R)) rI R (fun xs i => atI xs i) := fun G H v w xs i u Q e s ⟨a, vs, ev, hv, hz, pr⟩ h2 k => by
  obtain ⟨z, h3, h4⟩ := paired_at pr e
  exact ⟨a, vs, i, z, ev, h2, same_t s hv, h3, k z G H (Ext.refl s) h4⟩
def ixS (l : List Nat) (i : Int) : Option (List Nat) := (atI l i).map fun c => [c]
theorem rp_ixS : RP rIxS rS rI rS ixS := fun G H v w xs i u Q e s h1 h2 k => by
  unfold ixS at e
  obtain ⟨cc, h3, h4⟩ := Option.map_eq_some_iff.mp e
  refine ⟨ofL xs, i, cc, h1.1, h2, by rw [ofL_len]; exact cap_line h1.2, by rw [ofL_cps]; exact h3, k _ G H (Ext.refl s) ⟨by rw [← h4]; rfl, by rw [← h4]; show 1 ≤ cap; decide⟩⟩
/-- an item of a tuple at a written place -/
inductive Item : {α β : Type} → Rps α → Nat → Rp β → (α → β) → Prop where
  | one {α : Type} {R : Rp α} : Item (sOne R) 0 R (fun x => x)
  | z {α β : Type} {R : Rp α} {A : Rps β} : Item (sCons R A) 0 R (fun x => x.1)
  | s {α β γ : Type} {R : Rp α} {A : Rps β} {T : Rp γ} {f : β → γ} {i : Nat} : Item A i T f → Item (sCons R A) (i + 1) T (fun x => f x.2)
theorem item_at : ∀ {α β : Type} {A : Rps α} {i : Nat} {T : Rp β} {f : α → β} {H : Hp} {vs : List V} {x : α}, Item A i T f → A.r H vs x → ∃ v, vs[i]? = some v ∧ T.r H v (f x)
  | _, _, _, _, _, _, _, _, _, .one, ⟨v, e, h⟩ => ⟨v, by rw [e]; rfl, h⟩
  | _, _, _, _, _, _, _, _, _, .z, ⟨v, ws, e, h, _⟩ => ⟨v, by rw [e]; rfl, h⟩
  | _, _, _, _, _, _, _, _, _, .s q, ⟨v, ws, e, _, g⟩ => by
    obtain ⟨z, h1, h2⟩ := item_at q g
    exact ⟨z, by rw [e]; simpa using h1, h2⟩
theorem rv_item {K : PySem.W.Frag} {A : Rps α} {j : Nat} {f : α → β} (h : Item A j S f) : RV (rIxT K) (rT K A) (rIk (j : Int)) S (fun x _ => f x) := fun G H v w x i Q s ⟨a, vs, ev, hv, hz, pr⟩ h2 k => by
  obtain ⟨z, h3, h4⟩ := item_at h pr
  refine ⟨a, vs, i, z, ev, h2.1, same_t s hv, ?_, k z G H (Ext.refl s) h4⟩
  rw [h2.2]
  exact atI_nat h3
theorem x_ix {r : R2} {f : α → β → γ} (ho : ∀ X, InC c X → IxR X r) (hr : RV r R S T f) (ha : XV c e1 Γ R x) (hb : XV c e2 Γ S y) (hs : PlainIx e2 := by intro _ _; rfl) : XV c (.Subscript e1 e2 pos) Γ T (f x y) :=
  let ⟨ta, pa, ea⟩ := ha; let ⟨tb, pb, eb⟩ := hb; ⟨_, fun X hX => pe_ix (ho X hX) (pa X hX) (pb X hX) hs, evV_op ea eb hr⟩
theorem xm_ix {r : R2} {f : α → β → Option γ} (ho : ∀ X, InC c X → IxR X r) (hr : RP r R S T f) (ha : XM 𝓜 c e1 Γ R m) (hb : XM 𝓜 c e2 Γ S n) (hs : PlainIx e2 := by intro _ _; rfl) : XM 𝓜 c (.Subscript e1 e2 pos) Γ T (𝓜.bnd m fun x => 𝓜.bnd n fun y => 𝓜.lft (f x y)) :=
  let ⟨ta, pa, ea⟩ := ha; let ⟨tb, pb, eb⟩ := hb; ⟨_, fun X hX => pe_ix (ho X hX) (pa X hX) (pb X hX) hs, ev_op ea eb hr⟩
theorem ixL (X : Cx) (h : InC c X) : IxR X (rIxL c.g.K) := h.K ▸ ix_list
theorem ixT (X : Cx) (h : InC c X) : IxR X (rIxT c.g.K) := h.K ▸ ix_tup
theorem ixSt (X : Cx) (h : InC c X) : IxR X rIxS := ix_str

/-! ### slices -/
/-- what a part of a slice says -/
def XO (c : Ctx) (o : Option Expr) (Γ : List Slot) (r : Option Int) : Prop := ∃ t : TO, (∀ X, InC c X → PO X o t) ∧ ∀ C B σ G H (Q : Option Int → Hp → Prop), EnvOk C B Γ σ G H → (∀ G' H', Ext [] G H G' H' → Q r H') → t σ H Q
theorem o_none : XO c none Γ none := ⟨tNoPart, fun _ _ => po_none, fun C B σ G H Q ok k => k G H (Ext.refl ok.sub)⟩
theorem o_some {j : Int} (h : XV c e Γ rI j) : XO c (some e) Γ (some j) := let ⟨t, p, q⟩ := h; ⟨tPart t, fun X hX => po_some (p X hX), fun C B σ G H Q ok k => q C B σ G H _ ok fun v G' H' e r => ⟨j, r, k G' H' e⟩⟩
def cut {α : Type} (xs : List α) (lo hi : Option Int) : List α := (xs.drop (HT.sIx xs.length 0 lo)).take (HT.sIx xs.length xs.length hi - HT.sIx xs.length 0 lo)
theorem cut_len {α : Type} (xs : List α) (lo hi : Option Int) : (cut xs lo hi).length ≤ xs.length := by
  unfold cut
  rw [List.length_take, List.length_drop]
  omega
theorem paired_take {F : V → α → Prop} : ∀ {vs : List V} {xs : List α} (k : Nat), Paired F vs xs → Paired F (vs.take k) (xs.take k)
  | _, _, 0, _ => .nil
  | _, _, _ + 1, .nil => .nil
  | _, _, k + 1, .cons f t => .cons f (paired_take k t)
theorem paired_drop {F : V → α → Prop} : ∀ {vs : List V} {xs : List α} (k : Nat), Paired F vs xs → Paired F (vs.drop k) (xs.drop k)
  | _, _, 0, h => h
  | _, _, _ + 1, .nil => .nil
  | _, _, k + 1, .cons _ t => paired_drop k t
theorem paired_cut {F : V → α → Prop} {vs : List V} {xs : List α} (lo hi : Option Int) (h : Paired F vs xs) : Paired F (cutV vs lo hi) (cut xs lo hi) := by
  unfold cutV cut
  rw [Paired.length h]
  exact paired_take _ (paired_drop _ h)
theorem paired_rev {F : V → α → Prop} : ∀ {vs : List V} {xs : List α}, Paired F vs xs → Paired F vs.reverse xs.reverse
  | _, _, .nil => .nil
  | _, _, .cons f t => by
    rw [List.reverse_cons, List.reverse_cons]
    exact paired_append (paired_rev t) (.cons f .nil)
/-- a slice of a list: a new list -/
theorem xf_slL {xs : List α} {lo hi : Option Int} {ol oh : Option Expr} (h : XV c e Γ (rL R) xs) (hl : XO c ol Γ lo) (hh : XO c oh Γ hi) : XFV c (.Subscript e (.Slice ol oh none p2) pos) Γ R (cut xs lo hi) :=
  let ⟨t, p1, q1⟩ := h; let ⟨t2, p2, q2⟩ := hl; let ⟨t3, p3, q3⟩ := hh; ⟨tSl (rSlL c.g.K) t t2 t3, fun X hX => by rw [← hX.K]; exact pe_slice (sl_list (X := X)) (p1 X hX) (p2 X hX) (p3 X hX), fun C B σ G H Q ok k =>
    q1 C B σ G H _ ok fun v G1 H1 e1 ⟨a, vs, ev, hv, hz, pr⟩ => q2 C B σ G1 H1 _ (ok.ext (Ext.mono e1)) fun G2 H2 e2 => q3 C B σ G2 H2 _ ((ok.ext (Ext.mono e1)).ext (Ext.mono e2)) fun G3 H3 e3 =>
      ⟨a, vs, ev, SqL.of (e3.sub _ _ (e3.g _ _ (e2.g _ _ hv))), fun b nb => k b _ G3 _ (back_none (e1.trans (e2.trans e3)) nb) ((e1.trans (e2.trans e3)).trans (Ext.newM e3.sub nb)) upd_same (free_of e3.sub nb) (Nat.le_trans (cutV_length _ _ _) hz) (paired_cut lo hi (paired_st (e2.g.trans e3.g) pr))⟩⟩
theorem xf_slLK {xs : List α} {lo hi : Option Int} {ol oh : Option Expr} (h : XV c e Γ (rLK c.g.K R) xs) (hl : XO c ol Γ lo) (hh : XO c oh Γ hi) : XFV c (.Subscript e (.Slice ol oh none p2) pos) Γ R (cut xs lo hi) :=
  let ⟨t, p1, q1⟩ := h; let ⟨t2, p2, q2⟩ := hl; let ⟨t3, p3, q3⟩ := hh; ⟨tSl (rSlL c.g.K) t t2 t3, fun X hX => by rw [← hX.K]; exact pe_slice (sl_list (X := X)) (p1 X hX) (p2 X hX) (p3 X hX), fun C B σ G H Q ok k =>
    q1 C B σ G H _ ok fun v G1 H1 e1 ⟨a, vs, ev, hv, hz, pr⟩ => q2 C B σ G1 H1 _ (ok.ext (Ext.mono e1)) fun G2 H2 e2 => q3 C B σ G2 H2 _ ((ok.ext (Ext.mono e1)).ext (Ext.mono e2)) fun G3 H3 e3 =>
      ⟨a, vs, ev, (e2.g.trans (e3.g.trans e3.sub)).seq hv, fun b nb => k b _ G3 _ (back_none (e1.trans (e2.trans e3)) nb) ((e1.trans (e2.trans e3)).trans (Ext.newM e3.sub nb)) upd_same (free_of e3.sub nb) (Nat.le_trans (cutV_length _ _ _) hz) (paired_cut lo hi (paired_st (e2.g.trans e3.g) pr))⟩⟩
/-- a slice of a text -/
theorem x_slS {l : List Nat} {lo hi : Option Int} {ol oh : Option Expr} (h : XV c e Γ rS l) (hl : XO c ol Γ lo) (hh : XO c oh Γ hi) : XV c (.Subscript e (.Slice ol oh none p2) pos) Γ rS (cut l lo hi) := by
  obtain ⟨t, p1, q1⟩ := h
  obtain ⟨t2, p2, q2⟩ := hl
  obtain ⟨t3, p3, q3⟩ := hh
  refine ⟨_, fun X hX => pe_slice sl_str (p1 X hX) (p2 X hX) (p3 X hX), fun C B σ G H Q ok k => ?_⟩
  refine q1 C B σ G H _ ok fun v G1 H1 e1 hv => q2 C B σ G1 H1 _ (ok.ext (Ext.mono e1)) fun G2 H2 e2 => q3 C B σ G2 H2 _ ((ok.ext (Ext.mono e1)).ext (Ext.mono e2)) fun G3 H3 e3 => ?_
  refine ⟨ofL l, hv.1, by rw [ofL_len]; exact cap_line hv.2, k _ G3 H3 (e1.trans (e2.trans e3)) ⟨?_, Nat.le_trans (cut_len _ _ _) hv.2⟩⟩
  unfold cutS cut
  rw [ofL_len, ofL_cps]
  rfl
/-- xs[::-1] -/
theorem xf_rev {xs : List α} {kk : Nat} {p4 p5 p6 : Pos} (h : XV c e Γ (rL R) xs) : XFV c (.Subscript e (.Slice none none (some (.UnaryOp .USub (.Constant (.int 1) kk p4) p5)) p6) pos) Γ R xs.reverse :=
  let ⟨t, p1, q1⟩ := h; ⟨tRevL c.g.K t, fun X hX => by rw [← hX.K]; exact pe_revL (p1 X hX), fun C B σ G H Q ok k =>
    q1 C B σ G H _ ok fun v G1 H1 e1 ⟨a, vs, ev, hv, hz, pr⟩ => ⟨a, vs, ev, SqL.of (e1.sub _ _ hv), fun b nb => k b _ G1 _ (back_none e1 nb) (e1.trans (Ext.newM e1.sub nb)) upd_same (free_of e1.sub nb) (by rw [List.length_reverse]; exact hz) (paired_rev pr)⟩⟩
end
end Ty
set_option Elab.async false
set_option linter.all false
set_option maxRecDepth 100000
set_option maxHeartbeats 4000000
/-! Rules: built-in calls, calls of defs, what a def promises. -/
namespace Ty
open PySem L2 StX

section
variable {𝓜 : Md} {α β γ : Type} {c : Ctx} {e e1 e2 e3 : Expr} {es : List Expr} {Γ Γ' : List Slot} {R : Rp α} {S : Rp β} {T : Rp γ} {x : α} {y : β} {m : 𝓜.M α} {n : 𝓜.M β} {pos p p2 : Pos} {i : Nat} {K : PySem.W.Frag} {s : Str}
/-! ### built-in functions -/
theorem x_callB {id : String} {r : List V → Hp → VK → Prop} {A : Rps α} {f : α → γ} (hc : ∀ X, InC c X → CallR X (.builtin id) r) (hr : RC r A T f) (hg : c.sc.names.lookup s = some .globalImplicit) (hm : c.g.mg s = none) (hv : bootBuiltins s = some (.builtin id))
    (ha : XAV c (e :: es) Γ A x) (hn : s ≠ "__name__" := by decide) (hdb : (s == ("__debug__" : Str)) = false := by decide)
    (he : ∀ env, starEach (e :: es) env = (false, eval e env) :: starEach es env := by intro _; rfl) (hpl : ∀ env, (backTo pos (starEach es env)).any (·.1) = false := by intro _; rfl) : XV c (.Call (.Name s p) (e :: es) [] pos) Γ T (f x) :=
  let ⟨t, pa, ea⟩ := ha; ⟨_, fun X hX => pe_callB (hc X hX) (hX.gl hg) (by rw [hX.mg]; exact hm) hv (pa X hX) hn hdb (he _) (hpl _), fun C B σ G H Q ok k => ea C B σ G H _ ok fun vs G1 H1 e1 r1 => hr G1 H1 vs x Q e1.sub r1 fun z G2 H2 e2 r2 => k z G2 H2 (e1.trans e2) r2⟩
theorem x_callTy {id : String} {r : List V → Hp → VK → Prop} {A : Rps α} {f : α → γ} (hc : ∀ X, InC c X → CallR X (.type id) r) (hr : RC r A T f) (hg : c.sc.names.lookup s = some .globalImplicit) (hm : c.g.mg s = none) (hv : bootBuiltins s = some (.type id))
    (ha : XAV c (e :: es) Γ A x) (hn : s ≠ "__name__" := by decide) (hdb : (s == ("__debug__" : Str)) = false := by decide)
    (he : ∀ env, starEach (e :: es) env = (false, eval e env) :: starEach es env := by intro _; rfl) (hpl : ∀ env, (backTo pos (starEach es env)).any (·.1) = false := by intro _; rfl) : XV c (.Call (.Name s p) (e :: es) [] pos) Γ T (f x) :=
  let ⟨t, pa, ea⟩ := ha; ⟨_, fun X hX => pe_callTy (hc X hX) (hX.gl hg) (by rw [hX.mg]; exact hm) hv (pa X hX) hn hdb (he _) (hpl _), fun C B σ G H Q ok k => ea C B σ G H _ ok fun vs G1 H1 e1 r1 => hr G1 H1 vs x Q e1.sub r1 fun z G2 H2 e2 r2 => k z G2 H2 (e1.trans e2) r2⟩
theorem xm_callB {id : String} {r : List V → Hp → VK → Prop} {A : Rps α} {f : α → Option γ} (hc : ∀ X, InC c X → CallR X (.builtin id) r) (hr : RCP r A T f) (hg : c.sc.names.lookup s = some .globalImplicit) (hm : c.g.mg s = none) (hv : bootBuiltins s = some (.builtin id))
    (ha : XA 𝓜 c (e :: es) Γ A m) (hn : s ≠ "__name__" := by decide) (hdb : (s == ("__debug__" : Str)) = false := by decide)
    (he : ∀ env, starEach (e :: es) env = (false, eval e env) :: starEach es env := by intro _; rfl) (hpl : ∀ env, (backTo pos (starEach es env)).any (·.1) = false := by intro _; rfl) : XM 𝓜 c (.Call (.Name s p) (e :: es) [] pos) Γ T (𝓜.bnd m fun x => 𝓜.lft (f x)) :=
  let ⟨t, pa, ea⟩ := ha; ⟨_, fun X hX => pe_callB (hc X hX) (hX.gl hg) (by rw [hX.mg]; exact hm) hv (pa X hX) hn hdb (he _) (hpl _), fun C B d u d' σ G H Q rr ok ha k => by
    obtain ⟨x, d1, r1, rr⟩ := 𝓜.run_bnd rr
    obtain ⟨q1, q2⟩ := 𝓜.run_lft rr
    subst q2
    exact ea C B d x d' σ G H _ r1 ok ha fun vs G1 H1 e1 a1 p1 => hr G1 H1 vs x u Q q1 e1.sub p1 fun z G2 H2 e2 r2 => k z G2 H2 (e1.trans (Ext.mono e2)) (𝓜.at_st e2.hs a1) r2⟩
theorem xm_callTy {id : String} {r : List V → Hp → VK → Prop} {A : Rps α} {f : α → Option γ} (hc : ∀ X, InC c X → CallR X (.type id) r) (hr : RCP r A T f) (hg : c.sc.names.lookup s = some .globalImplicit) (hm : c.g.mg s = none) (hv : bootBuiltins s = some (.type id))
    (ha : XA 𝓜 c (e :: es) Γ A m) (hn : s ≠ "__name__" := by decide) (hdb : (s == ("__debug__" : Str)) = false := by decide)
    (he : ∀ env, starEach (e :: es) env = (false, eval e env) :: starEach es env := by intro _; rfl) (hpl : ∀ env, (backTo pos (starEach es env)).any (·.1) = false := by intro _; rfl) : XM 𝓜 c (.Call (.Name s p) (e :: es) [] pos) Γ T (𝓜.bnd m fun x => 𝓜.lft (f x)) :=
  let ⟨t, pa, ea⟩ := ha; ⟨_, fun X hX => pe_callTy (hc X hX) (hX.gl hg) (by rw [hX.mg]; exact hm) hv (pa X hX) hn hdb (he _) (hpl _), fun C B d u d' σ G H Q rr ok ha k => by
    obtain ⟨x, d1, r1, rr⟩ := 𝓜.run_bnd rr
    obtain ⟨q1, q2⟩ := 𝓜.run_lft rr
    subst q2
    exact ea C B d x d' σ G H _ r1 ok ha fun vs G1 H1 e1 a1 p1 => hr G1 H1 vs x u Q q1 e1.sub p1 fun z G2 H2 e2 r2 => k z G2 H2 (e1.trans (Ext.mono e2)) (𝓜.at_st e2.hs a1) r2⟩
/-- the answer a new list -/
theorem xf_callTy {id : String} {r : List V → Hp → VK → Prop} {A : Rps α} {f : α → List γ} (hc : ∀ X, InC c X → CallR X (.type id) r) (hr : RCF r A T f) (hg : c.sc.names.lookup s = some .globalImplicit) (hm : c.g.mg s = none) (hv : bootBuiltins s = some (.type id))
    (ha : XAV c (e :: es) Γ A x) (hn : s ≠ "__name__" := by decide) (hdb : (s == ("__debug__" : Str)) = false := by decide)
    (he : ∀ env, starEach (e :: es) env = (false, eval e env) :: starEach es env := by intro _; rfl) (hpl : ∀ env, (backTo pos (starEach es env)).any (·.1) = false := by intro _; rfl) : XFV c (.Call (.Name s p) (e :: es) [] pos) Γ T (f x) :=
  let ⟨t, pa, ea⟩ := ha; ⟨_, fun X hX => pe_callTy (hc X hX) (hX.gl hg) (by rw [hX.mg]; exact hm) hv (pa X hX) hn hdb (he _) (hpl _), fun C B σ G H Q ok k => ea C B σ G H _ ok fun vs G1 H1 e1 r1 => hr G1 H1 vs x Q e1.sub r1 fun b ws nb hz pr =>
    k b ws G1 _ (back_none e1 nb) (e1.trans (Ext.newM e1.sub nb)) upd_same (free_of e1.sub nb) hz pr⟩
abbrev rLenSq (K : PySem.W.Frag) : List V → Hp → VK → Prop := fun xs H Q => ∃ p ys, xs = [.ref p] ∧ (SqL K H p ys ∨ SqT K H p ys) ∧ Q (.int ys.length) H
theorem lenB (X : Cx) (h : InC c X) : CallR X (.builtin "len") (rLenSq c.g.K) := h.K ▸ call_len_seq
theorem rc_lenL : RC (rLenSq K) (sOne (rL R)) rI (fun xs => (xs.length : Int)) := fun G H vs xs Q s ⟨v, ev, a, ws, e, h, z, pr⟩ k => ⟨a, ws, by rw [ev, e], .inl (SqL.of (s _ _ h)), by rw [Paired.length pr]; exact k _ G H (Ext.refl s) rfl⟩
theorem rc_lenLK : RC (rLenSq K) (sOne (rLK K R)) rI (fun xs => (xs.length : Int)) := fun G H vs xs Q s ⟨v, ev, a, ws, e, h, z, pr⟩ k => ⟨a, ws, by rw [ev, e], .inl (s.seq h), by rw [Paired.length pr]; exact k _ G H (Ext.refl s) rfl⟩
theorem rc_lenT : RC (rLenSq K) (sOne (rT K (sAll R))) rI (fun xs => (xs.length : Int)) := fun G H vs xs Q s ⟨v, ev, a, ws, e, h, z, pr⟩ k => ⟨a, ws, by rw [ev, e], .inr (same_t s h), by rw [Paired.length pr]; exact k _ G H (Ext.refl s) rfl⟩
theorem lenBS (X : Cx) (h : InC c X) : CallR X (.builtin "len") (fun xs H Q => ∃ z, xs = [.str z] ∧ z.length ≤ sizeLine ∧ Q (.int z.length) H) := call_len_str
theorem rc_lenS : RC (fun xs H Q => ∃ z : Str, xs = [.str z] ∧ z.length ≤ sizeLine ∧ Q (.int z.length) H) (sOne rS) rI (fun l => (l.length : Int)) := fun G H vs l Q s ⟨v, ev, e, hz⟩ k =>
  ⟨ofL l, by rw [ev, e], by rw [ofL_len]; exact cap_line hz, by rw [ofL_len]; exact k _ G H (Ext.refl s) rfl⟩
def ordM (l : List Nat) : Option Int := match l with | [ch] => some (ch : Int) | _ => none
theorem ordB (X : Cx) (h : InC c X) : CallR X (.builtin "ord") (fun xs H Q => ∃ x : Str, xs = [.str x] ∧ x.length = 1 ∧ Q (.int (x.cps.getD 0 0 : Nat)) H) := call_ord
theorem rp_ord : RCP (fun xs H Q => ∃ x : Str, xs = [.str x] ∧ x.length = 1 ∧ Q (.int (x.cps.getD 0 0 : Nat)) H) (sOne rS) rI ordM := fun G H vs l u Q q s ⟨v, ev, e, hz⟩ k => by
  match l, q with
  | [ch], q =>
    cases q
    exact ⟨ofL [ch], by rw [ev, e], rfl, k _ G H (Ext.refl s) rfl⟩
theorem absB (X : Cx) (h : InC c X) : CallR X (.builtin "abs") (fun xs H Q => ∃ i, xs = [.int i] ∧ Q (.int (if i < 0 then -i else i)) H) := call_abs
theorem rc_abs : RC (fun xs H Q => ∃ i : Int, xs = [.int i] ∧ Q (.int (if i < 0 then -i else i)) H) (sOne rI) rI (fun i => if i < 0 then -i else i) := fun G H vs l Q s ⟨v, ev, e⟩ k => ⟨l, by rw [ev, e], k _ G H (Ext.refl s) rfl⟩
theorem intTy (X : Cx) (h : InC c X) : CallR X (.type "int") (fun xs H Q => (∃ i, xs = [.int i] ∧ Q (.int i) H) ∨ ∃ k, xs = [.bl k] ∧ Q (.int (if k then 1 else 0)) H) := call_int1
theorem rc_int : RC (fun xs H Q => (∃ i : Int, xs = [.int i] ∧ Q (.int i) H) ∨ ∃ k, xs = [.bl k] ∧ Q (.int (if k then 1 else 0)) H) (sOne rI) rI (fun i => i) := fun G H vs l Q s ⟨v, ev, e⟩ k => .inl ⟨l, by rw [ev, e], k _ G H (Ext.refl s) rfl⟩
theorem rc_intB : RC (fun xs H Q => (∃ i : Int, xs = [.int i] ∧ Q (.int i) H) ∨ ∃ k, xs = [.bl k] ∧ Q (.int (if k then 1 else 0)) H) (sOne rB) rI (fun b => if b = true then 1 else 0) := fun G H vs l Q s ⟨v, ev, e⟩ k => .inr ⟨l, by rw [ev, e], k _ G H (Ext.refl s) rfl⟩
abbrev rTupOf (K : PySem.W.Frag) : List V → Hp → VK → Prop := fun xs H Q => ∃ p ys, xs = [.ref p] ∧ ((SqL K H p ys ∧ ∀ l, H l = none → Q (.ref l) (upd H l (.tup ys))) ∨ (SqT K H p ys ∧ Q (.ref p) H))
theorem tupTy (X : Cx) (h : InC c X) : CallR X (.type "tuple") (rTupOf c.g.K) := h.K ▸ call_tuple_of
theorem rc_tupL : RC (rTupOf K) (sOne (rL R)) (rT K (sAll R)) (fun xs => xs) := fun G H vs xs Q s ⟨v, ev, a, ws, e, h, z, pr⟩ k => ⟨a, ws, by rw [ev, e], .inl ⟨SqL.of (s _ _ h), fun l nl =>
  k _ _ _ (Ext.new s nl) ⟨l, ws, rfl, SqT.of upd_same, z, paired_st (Ext.new (C := []) s nl).g pr⟩⟩⟩
abbrev rLstOf (K : PySem.W.Frag) : List V → Hp → VK → Prop := fun xs H Q => ∃ p ys, xs = [.ref p] ∧ (SqL K H p ys ∨ SqT K H p ys) ∧ ∀ l, H l = none → Q (.ref l) (upd H l (.lst ys))
theorem lstTy (X : Cx) (h : InC c X) : CallR X (.type "list") (rLstOf c.g.K) := h.K ▸ call_list_of
theorem rc_lstL : RCF (rLstOf K) (sOne (rL R)) R (fun xs => xs) := fun G H vs xs Q s ⟨v, ev, a, ws, e, h, z, pr⟩ k => ⟨a, ws, by rw [ev, e], .inl (SqL.of (s _ _ h)), fun l nl => k l ws nl z pr⟩
theorem rc_lstLK : RCF (rLstOf K) (sOne (rLK K R)) R (fun xs => xs) := fun G H vs xs Q s ⟨v, ev, a, ws, e, h, z, pr⟩ k => ⟨a, ws, by rw [ev, e], .inl (s.seq h), fun l nl => k l ws nl z pr⟩
theorem rc_lstT : RCF (rLstOf K) (sOne (rT K (sAll R))) R (fun xs => xs) := fun G H vs xs Q s ⟨v, ev, a, ws, e, h, z, pr⟩ k => ⟨a, ws, by rw [ev, e], .inr (same_t s h), fun l nl => k l ws nl z pr⟩
/-- list + list -/
def catL {α : Type} (a b : List α) : Option (List α) := if a.length + b.length ≤ cap then some (a ++ b) else none
theorem rf_cat : RFP rCat (rL R) (rL R) R catL := fun G H v w xs ys u Q q s ⟨a, vs, e1, h1, z1, p1⟩ ⟨b, ws, e2, h2, z2, p2⟩ k => by
  unfold catL at q
  split at q
  · rename_i hz
    cases q
    have hl : (vs ++ ws).length ≤ cap := by rw [List.length_append, Paired.length p1, Paired.length p2]; exact hz
    exact ⟨a, b, vs, ws, e1, e2, s _ _ h1, s _ _ h2, by rw [List.length_append] at hl; exact cap_line hl, fun p np => k p _ np hl (paired_append p1 p2)⟩
  · cases q
/-- [x] * n -/
def repL {α : Type} (a : List α) (n : Int) : Option (List α) := if -1000000 ≤ n ∧ n ≤ 1000000 ∧ a.length * n.toNat ≤ cap then some (List.replicate n.toNat a).flatten else none
theorem paired_rep {F : V → α → Prop} {vs : List V} {xs : List α} (h : Paired F vs xs) : ∀ k : Nat, Paired F (List.replicate k vs).flatten (List.replicate k xs).flatten
  | 0 => .nil
  | k + 1 => by
    rw [List.replicate_succ, List.replicate_succ, List.flatten_cons, List.flatten_cons]
    exact paired_append h (paired_rep h k)
theorem rf_rep : RFP rRep (rL R) rI R repL := fun G H v w xs n u Q q s ⟨a, vs, e1, h1, z1, p1⟩ h2 k => by
  unfold repL at q
  split at q
  · rename_i hz
    cases q
    have hl : (List.replicate n.toNat vs).flatten.length ≤ cap := by
      have : (List.replicate n.toNat vs).flatten.length = vs.length * n.toNat := by simp [Nat.mul_comm]
      rw [this, Paired.length p1]; exact hz.2.2
    exact ⟨a, n, vs, e1, h2, s _ _ h1, by omega, by omega, by rw [Paired.length p1]; exact cap_line hz.2.2, fun p np => k p _ np hl (paired_rep p1 _)⟩
  · cases q
end
end Ty
set_option Elab.async false
set_option linter.all false
set_option maxRecDepth 100000
set_option maxHeartbeats 4000000
/-! What a def promises; its call; its body. -/
namespace Ty
open PySem PySem.Spec PyProof.Rows L2 StX

/-- a def keeps its promise where no container is being shown -/
structure FnG (g : Glb) (k : Nat) (f : Addr) (fd : FuncData) (ps : List Str) (sp : Sp) : Prop where
  len : ∀ vs H Q E, sp vs H Q E → vs.length = ps.length
  run : ∀ (A : Around) (outer : List Env) (s : Shared) (H : Hp) (args : Args) (us : List Value) (vs : List V) (Q : VK) (E : XK), Room k A → (g.gd = true → A.guards = some []) → Env0 g.prog g.w g.K g.mg g.base A outer s H → BindsTo s fd args (ps.zip us) → Vals vs us → sp vs H Q E →
    codeAny (model g.prog g.w) A (.call (.ref f) args) (CR CX0 outer g.prog g.w H s Q E) s
theorem InC.glb {c : Ctx} {X : Cx} (h : InC c X) : c.g = ⟨X.prog, X.w, X.K, X.mg, X.base, c.g.gd⟩ := by rw [h.prog, h.w, h.K, h.mg, h.base]
section
variable {g : Glb} {k : Nat} {f : Addr} {fd : FuncData} {ps : List Str} {sp : Sp}
theorem runG {X : Cx} {pins : List (Addr × Obj)} {σ : L2.St} {H : Hp} {s : Shared} {Q : VK} {us : List Value} {vs : List V} {gb : Bool} (F : FnG ⟨X.prog, X.w, X.K, X.mg, X.base, gb⟩ k f fd ps sp) (hr : Room k X.A) (hg : gb = true → X.A.guards = some []) (hb : Binds X.K fd ps [])
    (I : Inv X pins σ H s) (r : Vals vs us) (h : sp vs H Q E0) : wpAny (model X.prog X.w) X.A (call (.ref f) us) (EP X pins σ Q) X.xe s := by
  have hl : us.length = ps.length := by rw [← r.length]; exact F.len _ _ _ _ h
  have bb := hb s us I.kIn (by rw [List.append_nil]; exact hl)
  rw [List.append_nil] at bb
  refine wpAny_call (codeAny_mono (F.run X.A X.stack s H ⟨us, []⟩ us vs Q E0 hr hg I.env0 bb r h) fun r s' hq => ?_)
  cases r with
  | error e => exact False.elim hq
  | ok fl =>
    cases fl with
    | ret u => exact I.after hq
    | next => exact False.elim hq
    | brk => exact False.elim hq
    | cont => exact False.elim hq
theorem runGk {X : Cx} {pins : List (Addr × Obj)} {σ : L2.St} {H : Hp} {s : Shared} {Q : VK} {us ws : List Value} {vs zs : List V} {ks : List Str} {gg : List Value → List Value → List Value} {gV : List V → List V → List V} {gb : Bool} (F : FnG ⟨X.prog, X.w, X.K, X.mg, X.base, gb⟩ k f fd ps sp) (hr : Room k X.A) (hg : gb = true → X.A.guards = some []) (hb : KBinds X.K fd ps ks gg gV)
    (I : Inv X pins σ H s) (r : Vals vs us) (rz : Vals zs ws) (h : sp (gV vs zs) H Q E0) : wpAny (model X.prog X.w) X.A (call (.ref f) us (ks.zip ws)) (EP X pins σ Q) X.xe s := by
  have r2 := hb.rel r rz
  have hl : (gg us ws).length = ps.length := by rw [← r2.length]; exact F.len _ _ _ _ h
  refine wpAny_call (codeAny_mono (F.run X.A X.stack s H ⟨us, ks.zip ws⟩ (gg us ws) (gV vs zs) Q E0 hr hg I.env0 (hb.to s us ws I.kIn hl) r2 h) fun r s' hq => ?_)
  cases r with
  | error e => exact False.elim hq
  | ok fl =>
    cases fl with
    | ret u => exact I.after hq
    | next => exact False.elim hq
    | brk => exact False.elim hq
    | cont => exact False.elim hq
end

/-- a def of the module by its name, with its promise -/
structure Fn (g : Glb) (name : Str) (ps : List Str) (k : Nat) (sp : Sp) : Prop where
  ex : ∃ f fd, g.mg name = some (.ref f) ∧ PySem.W.keepIn g.K (.ref f) = true ∧ (Binds g.K fd ps [] ∧ ∃ oc od osl, g.K.lookup f = some ⟨oc, od, .func fd, osl⟩) ∧ FnG g k f fd ps sp

def tCallG (sp : Sp) (t : TA) : TE := fun σ H Q => t σ H fun vs H1 => sp vs H1 Q E0
section
variable {c : Ctx} {s : Str} {ps : List Str} {k : Nat} {sp : Sp} {e : Expr} {es : List Expr} {p pos : Pos} {t : TA}
theorem pe_callG {X : Cx} (F : Fn c.g s ps k sp) (hX : InC c X) (hk : k ≤ c.k) (hg : c.sc.names.lookup s = some .globalImplicit) (ha : PA X (e :: es) t)
    (hdb : (s == ("__debug__" : Str)) = false := by decide) (he : starEach (e :: es) X.env = (false, eval e X.env) :: starEach es X.env := by rfl) (hpl : (backTo pos (starEach es X.env)).any (·.1) = false := by rfl) :
    PE X (.Call (.Name s p) (e :: es) [] pos) (tCallG sp t) := by
  obtain ⟨f, fd, hm, kp, ⟨hb, _⟩, G⟩ := F.ex
  rw [hX.glb] at hm kp hb G
  refine ⟨fun pins s σ H Q I h => ?_⟩
  refine wpAny_Call_Name_kw (ld_glob I (hX.gl hg) hm ?_ hdb)
  refine PySem.W.callWith_K (h₀ := X.base) I.ok.mod.kin kp (thn (ha.run pos pins s σ H _ I h) fun us s1 ⟨vs, H1, I1, r, q⟩ => ⟨I1.kIn, ?_⟩) he hpl
  exact runG G (hX.room.mono hk) hX.gd hb I1 r q
theorem pe_callG0 {X : Cx} (F : Fn c.g s ps k sp) (hX : InC c X) (hk : k ≤ c.k) (hg : c.sc.names.lookup s = some .globalImplicit)
    (hdb : (s == ("__debug__" : Str)) = false := by decide) : PE X (.Call (.Name s p) [] [] pos) (tCallG sp tNil) := by
  obtain ⟨f, fd, hm, kp, ⟨hb, _⟩, G⟩ := F.ex
  rw [hX.glb] at hm kp hb G
  refine ⟨fun pins s σ H Q I h => ?_⟩
  refine wpAny_Call_Name_kw (ld_glob I (hX.gl hg) hm ?_ hdb)
  exact PySem.W.callWith_K0 I.kIn kp (runG (us := []) G (hX.room.mono hk) hX.gd hb I .nil h)
end

/-! ### promises of data -/
def spP {α γ : Type} (A : Rps α) (T : Rp γ) (fm : α → Option γ) : Sp := fun vs H Q _ => ∃ G x z, fm x = some z ∧ Same G H ∧ A.r G vs x ∧ ∀ v G' H', Ext [] G H G' H' → T.r G' v z → Q v H'
/-- the cells C ahead of the other arguments -/
def spD {α γ : Type} (𝓜 : Md) (A : Rps α) (T : Rp γ) (fm : α → 𝓜.M γ) : Sp := fun vs H Q _ => ∃ C G x z d d' a r ws, 𝓜.run (fm x) d z d' ∧ 𝓜.at_ H C d ∧ Same G H ∧ (∀ c ∈ C, G c = none) ∧ (∀ c ∈ C, H c ≠ none) ∧
  C = a :: r ∧ vs = .ref a :: ws ∧ A.r G ws x ∧ ∀ v G' H', Ext (𝓜.cells C) G H G' H' → 𝓜.at_ H' C d' → T.r G' v z → Q v H'
section
variable {𝓜 : Md} {α β γ : Type} {c : Ctx} {e e1 : Expr} {es : List Expr} {Γ : List Slot} {R : Rp α} {T : Rp γ} {A : Rps α} {x : α} {m : 𝓜.M α} {pos p p1 : Pos} {i k : Nat} {s : Str} {ps : List Str}
theorem xm_call {fm : α → Option γ} (F : Fn c.g s ps k (spP A T fm)) (hk : k ≤ c.k) (hg : c.sc.names.lookup s = some .globalImplicit) (ha : XA 𝓜 c (e :: es) Γ A m) (hdb : (s == ("__debug__" : Str)) = false := by decide)
    (he : ∀ env, starEach (e :: es) env = (false, eval e env) :: starEach es env := by intro _; rfl) (hpl : ∀ env, (backTo pos (starEach es env)).any (·.1) = false := by intro _; rfl) : XM 𝓜 c (.Call (.Name s p) (e :: es) [] pos) Γ T (𝓜.bnd m fun x => 𝓜.lft (fm x)) :=
  let ⟨t, pa, ea⟩ := ha; ⟨_, fun X hX => pe_callG F hX hk hg (pa X hX) hdb (he _) (hpl _), fun C B d u d' σ G H Q rr ok at0 kq => by
    obtain ⟨x, d1, r1, rr⟩ := 𝓜.run_bnd rr
    obtain ⟨q1, q2⟩ := 𝓜.run_lft rr
    subst q2
    exact ea C B d x d' σ G H _ r1 ok at0 fun vs G1 H1 e1 a1 p1 => ⟨G1, x, u, q1, e1.sub, p1, fun v G2 H2 e2 r2 => kq v G2 H2 (e1.trans (Ext.mono e2)) (𝓜.at_st e2.hs a1) r2⟩⟩
theorem xm_call0 {T : Rp γ} {fm : Unit → Option γ} (F : Fn c.g s ps k (spP sNil T fm)) (hk : k ≤ c.k) (hg : c.sc.names.lookup s = some .globalImplicit) (hdb : (s == ("__debug__" : Str)) = false := by decide) : XM 𝓜 c (.Call (.Name s p) [] [] pos) Γ T (𝓜.lft (fm ())) :=
  ⟨_, fun X hX => pe_callG0 F hX hk hg hdb, fun C B d u d' σ G H Q rr ok at0 kq => by
    obtain ⟨q1, q2⟩ := 𝓜.run_lft rr
    subst q2
    exact ⟨G, (), u, q1, ok.sub, rfl, fun v G2 H2 e2 r2 => kq v G2 H2 (Ext.mono e2) (𝓜.at_st e2.hs at0) r2⟩⟩
/-- f(deck, ..) -/
theorem xm_callD {fm : α → 𝓜.M γ} {sd : Str} (F : Fn c.g s ps k (spD 𝓜 A T fm)) (hk : k ≤ c.k) (hg : c.sc.names.lookup s = some .globalImplicit) (hN : c.N[i]? = some sd) (hv : Vis c.sc sd) (hd : Has Γ i .dk) (ha : XA 𝓜 c es Γ A m) (hdb : (s == ("__debug__" : Str)) = false := by decide)
    (hdd : (sd == ("__debug__" : Str)) = false := by decide) (hcd : (sd == ("__classdict__" : Str)) = false := by decide)
    (he : ∀ env, starEach (.Name sd p1 :: es) env = (false, eval (.Name sd p1) env) :: starEach es env := by intro _; rfl) (hpl : ∀ env, (backTo pos (starEach es env)).any (·.1) = false := by intro _; rfl) : XM 𝓜 c (.Call (.Name s p) (.Name sd p1 :: es) [] pos) Γ T (𝓜.bnd m fm) :=
  let ⟨t, pa, ea⟩ := ha; ⟨_, fun X hX => pe_callG F hX hk hg (pa_cons (pe_var (i := i) (by rw [hX.N]; exact hN) (hX.vis hv) hdd hcd) (pa X hX) (he _)) hdb (he _) (hpl _), fun C B d u d' σ G H Q rr ok at0 kq => by
    obtain ⟨x, d1, r1, r2⟩ := 𝓜.run_bnd rr
    obtain ⟨o, h1, a, r, eC, h2⟩ := ok.has hd
    refine ⟨.ref a, by rw [h1, h2], ea C B d x d1 σ G H _ r1 ok at0 fun vs G1 H1 e1 a1 p1 => ?_⟩
    have ok1 := ok.ext (Ext.up e1)
    exact ⟨C, G1, x, u, d1, d', a, r, vs, r2, a1, e1.sub, ok1.dkg, ok1.dkh, eC, rfl, p1, fun v G2 H2 e2 a2 r2 => kq v G2 H2 (e1.trans e2) a2 r2⟩⟩
end
end Ty
set_option Elab.async false
set_option linter.all false
set_option maxRecDepth 100000
set_option maxHeartbeats 4000000
/-! Statements, blocks, loops; from a body to a promise. -/
namespace Ty
open PySem PySem.Spec PyProof.Rows L2 StX

/-- how a block ends: behind it, with continue, with break, with return -/
inductive Fl (S L ρ : Type) where
  | nx (s : S) | ct (l : L) | bk (l : L) | rt (r : ρ)

def bndF {S S' L ρ : Type} (𝓜 : Md) (m : 𝓜.M (Fl S L ρ)) (k : S → 𝓜.M (Fl S' L ρ)) : 𝓜.M (Fl S' L ρ) :=
  𝓜.bnd m fun f => match f with
    | .nx s => k s
    | .ct l => 𝓜.ret (.ct l)
    | .bk l => 𝓜.ret (.bk l)
    | .rt r => 𝓜.ret (.rt r)

/-- B0, G0: the heap and what was fixed at the def's entry -/
structure EnvB (C : List Addr) (G0 H0 : Hp) (Γ : List Slot) (σ : L2.St) (G H : Hp) : Prop where
  ok : EnvOk C H0 Γ σ G H
  ex : Ext C G0 H0 G H

def Post {S L ρ : Type} (𝓜 : Md) (C : List Addr) (G0 H0 Gs : Hp) (Γn : S → List Slot) (Γl : L → List Slot) (R : Rp ρ) (D : Ends) (d : 𝓜.D) : Fl S L ρ → Prop
  | .nx s => ∀ σ G H, Same Gs G → EnvB C G0 H0 (Γn s) σ G H → 𝓜.at_ H C d → D.nx σ H
  | .ct l => ∀ σ G H, Same Gs G → EnvB C G0 H0 (Γl l) σ G H → 𝓜.at_ H C d → D.ct σ H
  | .bk l => ∀ σ G H, Same Gs G → EnvB C G0 H0 (Γl l) σ G H → 𝓜.at_ H C d → D.bk σ H
  | .rt r => ∀ v G H, Ext C G0 H0 G H → 𝓜.at_ H C d → R.r G v r → D.rt v H
theorem Post.mono {S L ρ : Type} {𝓜 : Md} {C : List Addr} {G0 H0 Gs Gs' : Hp} {Γn : S → List Slot} {Γl : L → List Slot} {R : Rp ρ} {D : Ends} {d : 𝓜.D} {f : Fl S L ρ} (h : Post 𝓜 C G0 H0 Gs Γn Γl R D d f) (s : Same Gs Gs') : Post 𝓜 C G0 H0 Gs' Γn Γl R D d f := by
  cases f with
  | nx x => exact fun σ G H z => h σ G H (s.trans z)
  | ct x => exact fun σ G H z => h σ G H (s.trans z)
  | bk x => exact fun σ G H z => h σ G H (s.trans z)
  | rt x => exact h
def Bl {S L ρ : Type} (𝓜 : Md) (t : TS) (Γ : List Slot) (Γn : S → List Slot) (Γl : L → List Slot) (R : Rp ρ) (m : 𝓜.M (Fl S L ρ)) : Prop :=
  ∀ C d f d' G0 H0 σ G H (D : Ends), 𝓜.run m d f d' → EnvB C G0 H0 Γ σ G H → 𝓜.at_ H C d → Post 𝓜 C G0 H0 G Γn Γl R D d' f → t D σ H
def XS {S L ρ : Type} (𝓜 : Md) (c : Ctx) (sts : List Stmt) (Γ : List Slot) (Γn : S → List Slot) (Γl : L → List Slot) (R : Rp ρ) (m : 𝓜.M (Fl S L ρ)) : Prop := ∃ t, (∀ X, InC c X → PSs X sts t) ∧ Bl 𝓜 t Γ Γn Γl R m

/-! ### the readings that say no more than what runs (one for all environments) -/
def WE (c : Ctx) (e : Expr) : TE := fun σ H Q => ∀ X, InC c X → ∀ pins s, Inv X pins σ H s → wpAny (model X.prog X.w) X.A (eval e X.env) (EP X pins σ Q) X.xe s
def WT (c : Ctx) (e : Expr) : TT := fun σ H Q => ∀ X, InC c X → ∀ pins s, Inv X pins σ H s → wpAny (model X.prog X.w) X.A (isTrue e X.env (eval e X.env)) (TP X pins σ Q) X.xe s
def WS (c : Ctx) (sts : List Stmt) : TS := fun D σ H => ∀ X, InC c X → ∀ pins s, Inv X pins σ H s → wpAny (model X.prog X.w) X.A (execs sts X.env) (SP X pins D) X.xe s
theorem pe_can {c : Ctx} {e : Expr} (X : Cx) (h : InC c X) : PE X e (WE c e) := ⟨fun pins s σ H Q I k => k X h pins s I⟩
theorem pt_can {c : Ctx} {e : Expr} (X : Cx) (h : InC c X) : PT X e (WT c e) := ⟨fun pins s σ H Q I k => k X h pins s I⟩
theorem pss_can {c : Ctx} {sts : List Stmt} (X : Cx) (h : InC c X) : PSs X sts (WS c sts) := ⟨fun pins s σ H D I k => k X h pins s I⟩
section
variable {𝓜 : Md} {S L ρ α : Type} {c : Ctx} {e : Expr} {sts : List Stmt} {Γ : List Slot} {Γn : S → List Slot} {Γl : L → List Slot} {R : Rp ρ} {T : Rp α} {x : α} {m : 𝓜.M α}
theorem XV.can (h : XV c e Γ T x) : EvV (WE c e) Γ T x := let ⟨t, p, q⟩ := h; fun C B σ G H Q ok k X hX pins s I => (p X hX).run pins s σ H Q I (q C B σ G H Q ok k)
theorem XM.can (h : XM 𝓜 c e Γ T m) : Ev 𝓜 (WE c e) Γ T m := let ⟨t, p, q⟩ := h; fun C B d x d' σ G H Q rr ok at0 k X hX pins s I => (p X hX).run pins s σ H Q I (q C B d x d' σ G H Q rr ok at0 k)
theorem XTV.can {b : Bool} (h : XTV c e Γ b) : EvTV (WT c e) Γ b := let ⟨t, p, q⟩ := h; fun C B σ G H Q ok k X hX pins s I => (p X hX).run pins s σ H Q I (q C B σ G H Q ok k)
theorem XT.can {b : 𝓜.M Bool} (h : XT 𝓜 c e Γ b) : EvT 𝓜 (WT c e) Γ b := let ⟨t, p, q⟩ := h; fun C B d x d' σ G H Q rr ok at0 k X hX pins s I => (p X hX).run pins s σ H Q I (q C B d x d' σ G H Q rr ok at0 k)
theorem XS.can {f : 𝓜.M (Fl S L ρ)} (h : XS 𝓜 c sts Γ Γn Γl R f) : Bl 𝓜 (WS c sts) Γ Γn Γl R f := let ⟨t, p, q⟩ := h; fun C d f d' G0 H0 σ G H D rr ok at0 k X hX pins s I => (p X hX).run pins s σ H D I (q C d f d' G0 H0 σ G H D rr ok at0 k)
end
section
variable {𝓜 : Md} {C : List Addr} {G0 H0 G H G' H' : Hp} {Γ Γ' : List Slot} {σ : L2.St} {i : Nat} {s : Slot} {v : V}
theorem EnvB.ext (h : EnvB C G0 H0 Γ σ G H) (e : Ext (𝓜.cells C) G H G' H') : EnvB C G0 H0 Γ σ G' H' := ⟨h.ok.ext e.up, h.ex.trans e.up⟩
theorem EnvB.put (h : EnvB C G0 H0 Γ σ G H) (q : Put Γ i s Γ') (hs : s.isOwn = false) (ok : SlotOk C H0 G H s (some v)) : EnvB C G0 H0 Γ' (σ.set i (some v)) G H := ⟨h.ok.put q hs ok, h.ex⟩
theorem EnvB.le (h : EnvB C G0 H0 Γ σ G H) (l : Le Γ' Γ) : EnvB C G0 H0 Γ' σ G H := ⟨h.ok.le l, h.ex⟩
end

section
variable {𝓜 : Md} {S S' L ρ α β γ : Type} {c : Ctx} {e e1 : Expr} {st : Stmt} {sts A B body : List Stmt} {Γ Γ' Γ'' : List Slot} {Γn : S → List Slot} {Γm : S' → List Slot} {Γl : L → List Slot} {R : Rp ρ} {T : Rp α} {x : α} {m : 𝓜.M α} {pos p : Pos} {i : Nat} {y : Str} {o : α}

theorem own_new {C : List Addr} {B G H : Hp} {σ : L2.St} {a : Addr} {j : Nat} (ok : EnvOk C B Γ σ G H) (na : H a = none) (hj : OwnAt Γ σ j a) : False := by
  obtain ⟨⟨s, q1, q2⟩, q3⟩ := hj
  obtain ⟨o, q4, q5⟩ := ok.sl j s q1
  cases s with
  | own R' xs' =>
    obtain ⟨p', vs', a1, a2, _⟩ := q5
    rw [q3] at q4
    cases q4
    cases a1
    rw [na] at a2
    cases a2
  | ownP p' vs' R' xs' =>
    obtain ⟨a1, a2, _⟩ := q5
    rw [q3] at q4
    cases q4
    cases a1
    rw [na] at a2
    cases a2
  | un => cases q2
  | val _ _ => cases q2
  | dk => cases q2
  | base _ => cases q2
theorem xs_nil {s : S} (l : Le (Γn s) Γ) : XS 𝓜 c [] Γ Γn Γl R (𝓜.ret (.nx s)) :=
  ⟨tNext, fun _ _ => pss_nil, fun C d f d' G0 H0 σ G H D rr ok at0 k => by
    obtain ⟨z1, z2⟩ := 𝓜.run_ret rr
    subst z1; subst z2
    exact k σ G H (Same.refl _) (ok.le l) at0⟩
theorem InC.loc {X : Cx} (h : InC c X) (hl : Loc c.sc y) : Loc X.env.scope y := by rw [h.sc]; exact hl
theorem InC.fnl {X : Cx} (h : InC c X) (hf : c.fn y = true ∨ c.sc.names.lookup y = some .local) : X.fn y = true ∨ X.env.scope.names.lookup y = some .local := by
  rcases hf with z | z
  · exact .inl (h.fn y z)
  · exact .inr (by rw [h.sc]; exact z)
theorem InC.nodup {X : Cx} (h : InC c X) : X.N.Nodup := by rw [h.N]; exact c.nd
/-- a comprehension given to a name that is captured -/
theorem sw_cell (h : c.sc.names.lookup y ≠ some .local) {elt : Expr} {gs : List Comprehension} {scope : Scope} {l : Nat} {p2 : Pos} (X : Cx) (hX : InC c X) : swapsWith (.ListComp elt gs scope p2) (some (.Name y p)) l X.env = pure false := by
  have hk : (X.env.kindOf y == some .local) = false := by
    unfold Env.kindOf
    rw [hX.sc]
    simpa using h
  unfold swapsWith
  simp only [hk, Bool.and_false, Bool.false_and]
/-- x = e -/
theorem xs_set {k : α → 𝓜.M (Fl S L ρ)} {Γ' : α → List Slot} (hi : c.N[i]? = some y) (hl : Loc c.sc y) (hf : c.fn y = true ∨ c.sc.names.lookup y = some .local) (he : XV c e Γ T x) (q : ∀ a, Put Γ i (.val T a) (Γ' a)) (hr : ∀ a, XS 𝓜 c sts (Γ' a) Γn Γl R (k a))
    (hs : ∀ X, InC c X → swapsWith e (some (.Name y p)) pos.line X.env = pure false := by intro _ _; rfl) : XS 𝓜 c (.Assign [.Name y p] e pos :: sts) Γ Γn Γl R (lt x k) :=
  let ⟨t, pe, ee⟩ := he; let ⟨t2, pr, er⟩ := hr x; ⟨_, fun X hX => pss_cons (ps_set hX.nodup (by rw [hX.N]; exact hi) (hX.loc hl) (pe X hX) (hs X hX) (hX.fnl hf)) (pr X hX), fun C d f d' G0 H0 σ G H D rr ok at0 kk =>
    ee C H0 σ G H _ ok.ok fun v G1 H1 e1 r1 => er C d f d' G0 H0 _ G1 H1 D rr ((ok.ext (𝓜 := 𝓜) e1.mono).put (q x) rfl ⟨v, rfl, r1⟩) (𝓜.at_st e1.hs at0) (kk.mono e1.g)⟩
theorem xs_setM {k : α → 𝓜.M (Fl S L ρ)} {Γ' : α → List Slot} (hi : c.N[i]? = some y) (hl : Loc c.sc y) (hf : c.fn y = true ∨ c.sc.names.lookup y = some .local) (he : XM 𝓜 c e Γ T m) (q : ∀ a, Put Γ i (.val T a) (Γ' a)) (hr : ∀ a, XS 𝓜 c sts (Γ' a) Γn Γl R (k a))
    (hs : ∀ X, InC c X → swapsWith e (some (.Name y p)) pos.line X.env = pure false := by intro _ _; rfl) : XS 𝓜 c (.Assign [.Name y p] e pos :: sts) Γ Γn Γl R (𝓜.bnd m k) :=
  let ⟨t, pe, ee⟩ := he; ⟨_, fun X hX => pss_cons (ps_set hX.nodup (by rw [hX.N]; exact hi) (hX.loc hl) (pe X hX) (hs X hX) (hX.fnl hf)) (pss_can X hX), fun C d f d' G0 H0 σ G H D rr ok at0 kk => by
    obtain ⟨x, d1, r1, rr⟩ := 𝓜.run_bnd rr
    exact ee C H0 d x d1 σ G H _ r1 ok.ok at0 fun v G1 H1 e1 a1 p1 => (hr x).can C d1 f d' G0 H0 _ G1 H1 D rr ((ok.ext e1).put (q x) rfl ⟨v, rfl, p1⟩) a1 (kk.mono e1.g)⟩
/-- a new list of our own -/
theorem xs_own {xs : List α} {k : List α → 𝓜.M (Fl S L ρ)} {Γ' : List α → List Slot} (hi : c.N[i]? = some y) (hl : Loc c.sc y) (hf : c.fn y = true ∨ c.sc.names.lookup y = some .local) (he : XFV c e Γ T xs) (q : ∀ a, Put Γ i (.own T a) (Γ' a)) (hr : ∀ a, XS 𝓜 c sts (Γ' a) Γn Γl R (k a))
    (hs : ∀ X, InC c X → swapsWith e (some (.Name y p)) pos.line X.env = pure false := by intro _ _; rfl) : XS 𝓜 c (.Assign [.Name y p] e pos :: sts) Γ Γn Γl R (lt xs k) :=
  let ⟨t, pe, ee⟩ := he; ⟨_, fun X hX => pss_cons (ps_set hX.nodup (by rw [hX.N]; exact hi) (hX.loc hl) (pe X hX) (hs X hX) (hX.fnl hf)) (pss_can X hX), fun C d f d' G0 H0 σ G H D rr ok at0 kk =>
    ee C H0 σ G H _ ok.ok fun a vs G1 H1 na e1 ha ga hz pr => (hr xs).can C d f d' G0 H0 _ G1 H1 D rr
      ⟨EnvOk.putOwn (ok.ok.ext e1.mono) (q xs) ha ga (fun hc => ok.ok.dkh a hc na) (back_none ok.ex na) hz pr fun j hj => (own_new ok.ok na hj).elim, (ok.ext (𝓜 := 𝓜) e1.mono).ex⟩ (𝓜.at_st e1.hs at0) (kk.mono e1.g)⟩
theorem xs_ownM {ms : 𝓜.M (List α)} {k : List α → 𝓜.M (Fl S L ρ)} {Γ' : List α → List Slot} (hi : c.N[i]? = some y) (hl : Loc c.sc y) (hf : c.fn y = true ∨ c.sc.names.lookup y = some .local) (he : XF 𝓜 c e Γ T ms) (q : ∀ a, Put Γ i (.own T a) (Γ' a)) (hr : ∀ a, XS 𝓜 c sts (Γ' a) Γn Γl R (k a))
    (hs : ∀ X, InC c X → swapsWith e (some (.Name y p)) pos.line X.env = pure false := by intro _ _; rfl) : XS 𝓜 c (.Assign [.Name y p] e pos :: sts) Γ Γn Γl R (𝓜.bnd ms k) :=
  let ⟨t, pe, ee⟩ := he; ⟨_, fun X hX => pss_cons (ps_set hX.nodup (by rw [hX.N]; exact hi) (hX.loc hl) (pe X hX) (hs X hX) (hX.fnl hf)) (pss_can X hX), fun C d f d' G0 H0 σ G H D rr ok at0 kk => by
    obtain ⟨xs, d1, r1, rr⟩ := 𝓜.run_bnd rr
    exact ee C H0 d xs d1 σ G H _ r1 ok.ok at0 fun a vs G1 H1 na e1 a1 ha ga hz pr => (hr xs).can C d1 f d' G0 H0 _ G1 H1 D rr
      ⟨EnvOk.putOwn (ok.ok.ext e1.up) (q xs) ha ga (fun hc => ok.ok.dkh a hc na) (back_none ok.ex na) hz pr fun j hj => (own_new ok.ok na hj).elim, (ok.ext e1).ex⟩ a1 (kk.mono e1.g)⟩
/-- our own list is fixed from here on -/
theorem xs_fix {xs : List α} {f : 𝓜.M (Fl S L ρ)} (h : Has Γ i (.own T xs)) (q : Put Γ i (.val (rL T) xs) Γ') (hr : XS 𝓜 c sts Γ' Γn Γl R f) : XS 𝓜 c sts Γ Γn Γl R f :=
  let ⟨t, pr, er⟩ := hr; ⟨t, pr, fun C d f d' G0 H0 σ G H D rr ok at0 kk => by
    obtain ⟨a, vs, ha, ga, ba, nc, ok', sG⟩ := own_fix ok.ok h q
    exact er C d f d' G0 H0 σ _ H D rr ⟨ok', ok.ex.fix ba ha ga⟩ at0 (kk.mono sG)⟩
/-- what does not lean on the heap is read with our own list as if it were fixed -/
theorem XV.borrow {β : Type} {U : Rp β} {u : β} {xs : List α} (h : Has Γ i (.own T xs)) (q : Put Γ i (.val (rL T) xs) Γ') (fl : Flat U) (he : XV c e Γ' U u) : XV c e Γ U u :=
  let ⟨t, p, ee⟩ := he; ⟨t, p, fun C B σ G H Q ok k => by
    obtain ⟨a, vs, ha, ga, ba, nc, ok', sG⟩ := own_fix ok h q
    refine ee C B σ _ H Q ok' fun v G' H' e r => k v G H' ⟨Same.refl _, e.h, e.th, fun b o z => e.hs _ _ (ok.sub b o z), fun _ _ z => z⟩ (fl _ _ _ _ r)⟩
theorem XTV.borrow {b : Bool} {xs : List α} (h : Has Γ i (.own T xs)) (q : Put Γ i (.val (rL T) xs) Γ') (he : XTV c e Γ' b) : XTV c e Γ b :=
  let ⟨t, p, ee⟩ := he; ⟨t, p, fun C B σ G H Q ok k => by
    obtain ⟨a, vs, ha, ga, ba, nc, ok', sG⟩ := own_fix ok h q
    refine ee C B σ _ H Q ok' fun G' H' e => k G H' ⟨Same.refl _, e.h, e.th, fun b o z => e.hs _ _ (ok.sub b o z), fun _ _ z => z⟩⟩
theorem XM.borrow {β : Type} {U : Rp β} {u : 𝓜.M β} {xs : List α} (h : Has Γ i (.own T xs)) (q : Put Γ i (.val (rL T) xs) Γ') (fl : Flat U) (he : XM 𝓜 c e Γ' U u) : XM 𝓜 c e Γ U u :=
  let ⟨t, p, ee⟩ := he; ⟨t, p, fun C B d y d' σ G H Q rr ok at0 k => by
    obtain ⟨a, vs, ha, ga, ba, nc, ok', sG⟩ := own_fix ok h q
    refine ee C B d y d' σ _ H Q rr ok' at0 fun v G' H' e a1 r => k v G H' ⟨Same.refl _, e.h, e.th, sG.trans (e.g.trans e.sub), fun _ _ z => z⟩ a1 (fl _ _ _ _ r)⟩
theorem XT.borrow {b : 𝓜.M Bool} {xs : List α} (h : Has Γ i (.own T xs)) (q : Put Γ i (.val (rL T) xs) Γ') (he : XT 𝓜 c e Γ' b) : XT 𝓜 c e Γ b :=
  let ⟨t, p, ee⟩ := he; ⟨t, p, fun C B d y d' σ G H Q rr ok at0 k => by
    obtain ⟨a, vs, ha, ga, ba, nc, ok', sG⟩ := own_fix ok h q
    refine ee C B d y d' σ _ H Q rr ok' at0 fun G' H' e a1 => k G H' ⟨Same.refl _, e.h, e.th, sG.trans (e.g.trans e.sub), fun _ _ z => z⟩ a1⟩
/-- return e -/
theorem xs_ret {r : ρ} (he : XV c e Γ R r) : XS 𝓜 c [.Return (some e) pos] Γ Γn Γl R (𝓜.ret (.rt r)) :=
  let ⟨t, p, ee⟩ := he; ⟨_, fun X hX => pss_one (ps_ret (p X hX)), fun C d f d' G0 H0 σ G H D rr ok at0 k => by
    obtain ⟨z1, z2⟩ := 𝓜.run_ret rr
    subst z1; subst z2
    exact ee C H0 σ G H _ ok.ok fun v G1 H1 e1 r1 => k v G1 H1 (ok.ext (𝓜 := 𝓜) e1.mono).ex (𝓜.at_st e1.hs at0) r1⟩
theorem xs_retM {mr : 𝓜.M ρ} (he : XM 𝓜 c e Γ R mr) : XS 𝓜 c [.Return (some e) pos] Γ Γn Γl R (𝓜.bnd mr fun r => 𝓜.ret (.rt r)) :=
  let ⟨t, p, ee⟩ := he; ⟨_, fun X hX => pss_one (ps_ret (p X hX)), fun C d f d' G0 H0 σ G H D rr ok at0 k => by
    obtain ⟨x, d1, r1, rr⟩ := 𝓜.run_bnd rr
    obtain ⟨z1, z2⟩ := 𝓜.run_ret rr
    subst z1; subst z2
    exact ee C H0 d x d' σ G H _ r1 ok.ok at0 fun v G1 H1 e1 a1 r1 => k v G1 H1 (ok.ext e1).ex a1 r1⟩
/-- continue, break -/
theorem xs_cont {l : L} (h : Le (Γl l) Γ) : XS 𝓜 c [.Continue pos] Γ Γn Γl R (𝓜.ret (.ct l)) :=
  ⟨_, fun X hX => pss_one ps_continue, fun C d f d' G0 H0 σ G H D rr ok at0 k => by
    obtain ⟨z1, z2⟩ := 𝓜.run_ret rr
    subst z1; subst z2
    exact k σ G H (Same.refl _) (ok.le h) at0⟩
theorem xs_break {l : L} (h : Le (Γl l) Γ) : XS 𝓜 c [.Break pos] Γ Γn Γl R (𝓜.ret (.bk l)) :=
  ⟨_, fun X hX => pss_one ps_break, fun C d f d' G0 H0 σ G H D rr ok at0 k => by
    obtain ⟨z1, z2⟩ := 𝓜.run_ret rr
    subst z1; subst z2
    exact k σ G H (Same.refl _) (ok.le h) at0⟩
/-- pass -/
theorem xs_pass {f : 𝓜.M (Fl S L ρ)} (hr : XS 𝓜 c sts Γ Γn Γl R f) : XS 𝓜 c (.Pass pos :: sts) Γ Γn Γl R f :=
  let ⟨t, p, ee⟩ := hr; ⟨_, fun X hX => pss_cons ps_pass (p X hX), fun C d f d' G0 H0 σ G H D rr ok at0 k => ee C d f d' G0 H0 σ G H D rr ok at0 k⟩
/-- Post of what follows, once the statement went on -/
theorem post_seq {fS : Fl S' L ρ} {k : S' → 𝓜.M (Fl S L ρ)} {sts : List Stmt} {C : List Addr} {d d' : 𝓜.D} {f : Fl S L ρ} {G0 H0 Gs : Hp} {D : Ends} (hr : ∀ s, XS 𝓜 c sts (Γm s) Γn Γl R (k s))
    (rr : 𝓜.run (match fS with | .nx s => k s | .ct l => 𝓜.ret (.ct l) | .bk l => 𝓜.ret (.bk l) | .rt r => 𝓜.ret (.rt r)) d f d') (kk : Post 𝓜 C G0 H0 Gs Γn Γl R D d' f) :
    Post 𝓜 C G0 H0 Gs Γm Γl R { D with nx := WS c sts D } d fS := by
  cases fS with
  | nx s => exact fun σ G H sg ok at0 => (hr s).can C d f d' G0 H0 σ G H D rr ok at0 (kk.mono sg)
  | ct l =>
    obtain ⟨z1, z2⟩ := 𝓜.run_ret rr
    subst z1; subst z2
    exact kk
  | bk l =>
    obtain ⟨z1, z2⟩ := 𝓜.run_ret rr
    subst z1; subst z2
    exact kk
  | rt r =>
    obtain ⟨z1, z2⟩ := 𝓜.run_ret rr
    subst z1; subst z2
    exact kk
/-- if -/
theorem xs_if {b : Bool} {mA mB : 𝓜.M (Fl S' L ρ)} {k : S' → 𝓜.M (Fl S L ρ)} (hc : XTV c e Γ b) (hA : XS 𝓜 c A Γ Γm Γl R mA) (hB : XS 𝓜 c B Γ Γm Γl R mB) (hr : ∀ s, XS 𝓜 c sts (Γm s) Γn Γl R (k s)) :
    XS 𝓜 c (.If e A B pos :: sts) Γ Γn Γl R (bndF 𝓜 (ifB b mA mB) k) :=
  let ⟨t, p, ee⟩ := hc; let ⟨tA, pA, eA⟩ := hA; let ⟨tB, pB, eB⟩ := hB; ⟨_, fun X hX => pss_cons (ps_if (p X hX) (pA X hX) (pB X hX)) (pss_can X hX), fun C d f d' G0 H0 σ G H D rr ok at0 kk => by
    obtain ⟨fS, d1, r1, rr⟩ := 𝓜.run_bnd rr
    have kS := post_seq (C := C) (D := D) hr rr kk
    unfold ifB at r1
    refine ee C H0 σ G H _ ok.ok fun G1 H1 e1 => ?_
    cases b with
    | true =>
      rw [if_pos rfl] at r1 ⊢
      exact eA C d fS d1 G0 H0 σ G1 H1 _ r1 (ok.ext (𝓜 := 𝓜) e1.mono) (𝓜.at_st e1.hs at0) (kS.mono e1.g)
    | false =>
      rw [if_neg Bool.false_ne_true] at r1 ⊢
      exact eB C d fS d1 G0 H0 σ G1 H1 _ r1 (ok.ext (𝓜 := 𝓜) e1.mono) (𝓜.at_st e1.hs at0) (kS.mono e1.g)⟩
theorem xs_ifM {b : 𝓜.M Bool} {mA mB : 𝓜.M (Fl S' L ρ)} {k : S' → 𝓜.M (Fl S L ρ)} (hc : XT 𝓜 c e Γ b) (hA : XS 𝓜 c A Γ Γm Γl R mA) (hB : XS 𝓜 c B Γ Γm Γl R mB) (hr : ∀ s, XS 𝓜 c sts (Γm s) Γn Γl R (k s)) :
    XS 𝓜 c (.If e A B pos :: sts) Γ Γn Γl R (bndF 𝓜 (iteM 𝓜 b mA mB) k) :=
  let ⟨t, p, ee⟩ := hc; let ⟨tA, pA, eA⟩ := hA; let ⟨tB, pB, eB⟩ := hB; ⟨_, fun X hX => pss_cons (ps_if (p X hX) (pA X hX) (pB X hX)) (pss_can X hX), fun C d f d' G0 H0 σ G H D rr ok at0 kk => by
    obtain ⟨fS, d1, r1, rr⟩ := 𝓜.run_bnd rr
    have kS := post_seq (C := C) (D := D) hr rr kk
    obtain ⟨b, d2, r2, r1⟩ := 𝓜.run_bnd r1
    refine ee C H0 d b d2 σ G H _ r2 ok.ok at0 fun G1 H1 e1 a1 => ?_
    cases b with
    | true =>
      rw [if_pos rfl] at r1 ⊢
      exact eA C d2 fS d1 G0 H0 σ G1 H1 _ r1 (ok.ext e1) a1 (kS.mono e1.g)
    | false =>
      rw [if_neg Bool.false_ne_true] at r1 ⊢
      exact eB C d2 fS d1 G0 H0 σ G1 H1 _ r1 (ok.ext e1) a1 (kS.mono e1.g)⟩
/-- an expression alone -/
theorem xs_expr {f : 𝓜.M (Fl S L ρ)} (he : XM 𝓜 c e Γ T m) (hr : XS 𝓜 c sts Γ Γn Γl R f) (hs : ∀ env, swapsWith e none pos.line env = pure false := by intro _; rfl) : XS 𝓜 c (.Expr e pos :: sts) Γ Γn Γl R (𝓜.bnd m fun _ => f) :=
  let ⟨t, p, ee⟩ := he; let ⟨t2, pr, er⟩ := hr; ⟨_, fun X hX => pss_cons (ps_expr (p X hX) (hs _)) (pr X hX), fun C d f d' G0 H0 σ G H D rr ok at0 kk => by
    obtain ⟨x, d1, r1, rr⟩ := 𝓜.run_bnd rr
    exact ee C H0 d x d1 σ G H _ r1 ok.ok at0 fun v G1 H1 e1 a1 _ => er C d1 f d' G0 H0 σ G1 H1 D rr (ok.ext e1) a1 (kk.mono e1.g)⟩
end
end Ty
set_option Elab.async false
set_option linter.all false
set_option maxRecDepth 100000
set_option maxHeartbeats 4000000
/-! Targets, what is walked, for, while, comprehensions. -/
namespace Ty
open PySem PySem.Spec PyProof.Rows L2 StX

/-! ### targets -/
/-- σ' is σ but for the slots ws -/
def But (ws : List Nat) (σ σ' : L2.St) : Prop := σ'.length = σ.length ∧ ∀ j, j ∉ ws → σ'[j]? = σ[j]?
theorem But.set {i : Nat} {σ : L2.St} {o : Option V} : But [i] σ (σ.set i o) := ⟨by simp, fun j h => by rw [List.getElem?_set_ne (fun z => h (by simp [z]))]⟩
theorem But.trans {ws us : List Nat} {σ σ' σ'' : L2.St} (a : But ws σ σ') (b : But us σ' σ'') : But (ws ++ us) σ σ'' :=
  ⟨b.1.trans a.1, fun j h => (b.2 j fun z => h (List.mem_append_right _ z)).trans (a.2 j fun z => h (List.mem_append_left _ z))⟩
def Gt {α : Type} (g : TG) (Γ : List Slot) (R : Rp α) (x : α) (Γ' : List Slot) (ws : List Nat) : Prop :=
  ∀ C B σ G H v (Q : L2.St → Hp → Prop), EnvOk C B Γ σ G H → R.r G v x → (∀ σ', EnvOk C B Γ' σ' G H → But ws σ σ' → Q σ' H) → g v σ H Q
def Gts {α : Type} (g : TGs) (Γ : List Slot) (A : Rps α) (x : α) (Γ' : List Slot) (ws : List Nat) : Prop :=
  ∀ C B σ G H vs (Q : L2.St → Hp → Prop), EnvOk C B Γ σ G H → A.r G vs x → (∀ σ', EnvOk C B Γ' σ' G H → But ws σ σ' → Q σ' H) → g vs σ H Q
def XG {α : Type} (c : Ctx) (tg : Expr) (Γ : List Slot) (R : Rp α) (x : α) (Γ' : List Slot) (ws : List Nat) : Prop := ∃ g, (∀ X, InC c X → PG X tg g) ∧ Gt g Γ R x Γ' ws
def XGs {α : Type} (c : Ctx) (tgs : List Expr) (Γ : List Slot) (A : Rps α) (x : α) (Γ' : List Slot) (ws : List Nat) : Prop := ∃ g, (∀ X, InC c X → PGs X tgs g) ∧ Gts g Γ A x Γ' ws
def WG (c : Ctx) (tg : Expr) : TG := fun v σ H Q => ∀ X, InC c X → ∀ pins s u, Inv X pins σ H s → RelV v u → wpAny (model X.prog X.w) X.A (assign tg X.env u) (fun _ s' => ∃ σ' H', Inv X pins σ' H' s' ∧ Q σ' H') X.xe s
theorem pg_can {c : Ctx} {tg : Expr} (X : Cx) (h : InC c X) : PG X tg (WG c tg) := ⟨fun pins s σ H v u Q I r k => k X h pins s u I r⟩
section
variable {𝓜 : Md} {S S' L ρ α β γ : Type} {c : Ctx} {e e1 tg : Expr} {st : Stmt} {sts A B body tgs : List Stmt} {es : List Expr} {Γ Γ' Γ'' : List Slot} {Γn : S → List Slot} {Γs : S' → List Slot} {Γl : L → List Slot} {R : Rp ρ} {T : Rp α} {U : Rp β} {x : α} {m : 𝓜.M α} {pos p : Pos} {i : Nat} {y : Str} {Ar : Rps β} {kk : Nat}
theorem XG.can {ws : List Nat} (h : XG c tg Γ T x Γ' ws) : Gt (WG c tg) Γ T x Γ' ws := let ⟨t, p, q⟩ := h; fun C B σ G H v Q ok r k X hX pins s u I rv => (p X hX).run pins s σ H v u Q I rv (q C B σ G H v Q ok r k)
theorem g_name (hi : c.N[i]? = some y) (hl : Loc c.sc y) (hf : c.fn y = true ∨ c.sc.names.lookup y = some .local) (q : Put Γ i (.val T x) Γ') : XG c (.Name y p) Γ T x Γ' [i] :=
  ⟨gName i, fun X hX => pg_name hX.nodup (by rw [hX.N]; exact hi) (hX.loc hl) (hX.fnl hf), fun C B σ G H v Q ok r k => k _ (ok.put q rfl ⟨v, rfl, r⟩) But.set⟩
theorem g_one {ws : List Nat} (h : XG c e Γ T x Γ' ws) (hs : ∀ env, (assignEach (e :: []) env).map (·.2) = assign e env :: (assignEach [] env).map (·.2) := by intro _; rfl) : XGs c [e] Γ (sOne T) x Γ' ws :=
  let ⟨g, p, q⟩ := h; ⟨gCons g gNil, fun X hX => pgs_cons (p X hX) pgs_nil (hs _), fun C B σ G H vs Q ok ⟨v, ev, r⟩ k => ⟨v, [], ev, q C B σ G H v _ ok r fun σ' ok' b => ⟨rfl, k σ' ok' b⟩⟩⟩
theorem g_cons {z : β} {ws us : List Nat} (h : XG c e Γ T x Γ' ws) (h2 : XGs c es Γ' Ar z Γ'' us) (hs : ∀ env, (assignEach (e :: es) env).map (·.2) = assign e env :: (assignEach es env).map (·.2) := by intro _; rfl) : XGs c (e :: es) Γ (sCons T Ar) (x, z) Γ'' (ws ++ us) :=
  let ⟨g, p, q⟩ := h; let ⟨g2, p2, q2⟩ := h2; ⟨gCons g g2, fun X hX => pgs_cons (p X hX) (p2 X hX) (hs _), fun C B σ G H vs Q ok ⟨v, ws, ev, r, r2⟩ k => ⟨v, ws, ev, q C B σ G H v _ ok r fun σ' ok' b => q2 C B σ' G H ws _ ok' r2 fun σ'' ok'' b2 => k σ'' ok'' (b.trans b2)⟩⟩
theorem g_tup {z : β} {n : Nat} {ws : List Nat} (h : XGs c es Γ Ar z Γ' ws) (hlen : ∀ H vs y, Ar.r H vs y → vs.length = n) (hn : ∀ env, (assignEach es env).length = n := by intro _; rfl) (hst : ∀ env, (assignEach es env).findIdx? (·.1) = none := by intro _; rfl) : XG c (.Tuple es kk pos) Γ (rT c.g.K Ar) z Γ' ws :=
  let ⟨g, p, q⟩ := h; ⟨gTup c.g.K n g, fun X hX => by rw [← hX.K]; exact pg_tup hX.calm (p X hX) (hn _) (hst _), fun C B σ G H v Q ok ⟨a, vs, ev, hv, hz, r⟩ k => ⟨a, vs, ev, same_t ok.sub hv, hlen _ _ _ r, q C B σ G H vs Q ok r k⟩⟩
theorem n_one : ∀ H vs y, (sOne T).r H vs y → vs.length = 1 := fun H vs y ⟨v, h, _⟩ => by rw [h]; rfl
theorem n_cons {k : Nat} (h : ∀ H vs y, Ar.r H vs y → vs.length = k) : ∀ H vs y, (sCons T Ar).r H vs y → vs.length = k + 1 := fun H vs y ⟨v, ws, e, _, g⟩ => by rw [e, List.length_cons, h _ _ _ g]
/-- target = e -/
theorem xs_asg {k : α → 𝓜.M (Fl S L ρ)} {Γ' : α → List Slot} (he : XV c e Γ T x) {ws : List Nat} (hg : ∀ a, XG c tg Γ T a (Γ' a) ws) (hr : ∀ a, XS 𝓜 c sts (Γ' a) Γn Γl R (k a)) (hs : ∀ env, swapsWithSole [tg] e pos.line env = pure false := by intro _; rfl) (hw : ∀ X, InC c X → swappedStores [tg] e X.env = pure none := by intro _ _; rfl)
    (h1 : ∀ env, (assignEach [tg] env).map (·.2) = [assign tg env] := by intro _; rfl) : XS 𝓜 c (.Assign [tg] e pos :: sts) Γ Γn Γl R (lt x k) :=
  let ⟨t, p, ee⟩ := he; ⟨_, fun X hX => pss_cons (ps_asg (p X hX) (pg_can X hX) (hs _) (hw X hX) (h1 _)) (pss_can X hX), fun C d f d' G0 H0 σ G H D rr ok at0 kk =>
    ee C H0 σ G H _ ok.ok fun v G1 H1 e1 r1 => (hg x).can C H0 σ G1 H1 v _ (ok.ext (𝓜 := 𝓜) e1.mono).ok r1 fun σ' ok' _ => (hr x).can C d f d' G0 H0 σ' G1 H1 D rr ⟨ok', (ok.ext (𝓜 := 𝓜) e1.mono).ex⟩ (𝓜.at_st e1.hs at0) (kk.mono e1.g)⟩
theorem xs_asgM {k : α → 𝓜.M (Fl S L ρ)} {Γ' : α → List Slot} (he : XM 𝓜 c e Γ T m) {ws : List Nat} (hg : ∀ a, XG c tg Γ T a (Γ' a) ws) (hr : ∀ a, XS 𝓜 c sts (Γ' a) Γn Γl R (k a)) (hs : ∀ env, swapsWithSole [tg] e pos.line env = pure false := by intro _; rfl) (hw : ∀ X, InC c X → swappedStores [tg] e X.env = pure none := by intro _ _; rfl)
    (h1 : ∀ env, (assignEach [tg] env).map (·.2) = [assign tg env] := by intro _; rfl) : XS 𝓜 c (.Assign [tg] e pos :: sts) Γ Γn Γl R (𝓜.bnd m k) :=
  let ⟨t, p, ee⟩ := he; ⟨_, fun X hX => pss_cons (ps_asg (p X hX) (pg_can X hX) (hs _) (hw X hX) (h1 _)) (pss_can X hX), fun C d f d' G0 H0 σ G H D rr ok at0 kk => by
    obtain ⟨x, d1, r1, rr⟩ := 𝓜.run_bnd rr
    exact ee C H0 d x d1 σ G H _ r1 ok.ok at0 fun v G1 H1 e1 a1 p1 => (hg x).can C H0 σ G1 H1 v _ (ok.ext e1).ok p1 fun σ' ok' _ => (hr x).can C d1 f d' G0 H0 σ' G1 H1 D rr ⟨ok', (ok.ext e1).ex⟩ a1 (kk.mono e1.g)⟩

/-! ### what is walked -/
/-- an iterator that gives the items of l, one after another -/
structure Wk {α : Type} (J : It) (T : Rp α) (l : List α) (G : Hp) : Prop where
  ex : ∃ (n : Nat) (P : Hp → Prop) (Y : Nat → Hp → V → Hp → Prop), Walk J n P Y ∧ n = l.length ∧ l.length ≤ cap ∧ (∀ G2 H2, Same G G2 → Same G2 H2 → P H2) ∧
    ∀ (i : Nat) a x G2 H2 H3, l[i]? = some a → Same G G2 → Same G2 H2 → Y i H2 x H3 → ∃ G3, Ext [] G2 H2 G3 H3 ∧ T.r G3 x a
def EvI {α : Type} (𝓜 : Md) (wi : TI) (Γ : List Slot) (T : Rp α) (m : 𝓜.M (List α)) : Prop :=
  ∀ C B d l d' σ G H (Q : It → Hp → Prop), 𝓜.run m d l d' → EnvOk C B Γ σ G H → 𝓜.at_ H C d → (∀ J G' H', Ext (𝓜.cells C) G H G' H' → 𝓜.at_ H' C d' → Wk J T l G' → Q J H') → wi σ H Q
def XI {α : Type} (𝓜 : Md) (c : Ctx) (tg iter : Expr) (Γ : List Slot) (T : Rp α) (m : 𝓜.M (List α)) : Prop := ∃ wi, (∀ X, InC c X → PI X tg iter wi) ∧ EvI 𝓜 wi Γ T m
theorem i_list {ms : 𝓜.M (List α)} (h : XM 𝓜 c e Γ (rL T) ms) : XI 𝓜 c tg e Γ T ms :=
  let ⟨t, p, ee⟩ := h; ⟨iList c.g.K t, fun X hX => by rw [← hX.K]; exact pi_list (p X hX), fun C B d l d' σ G H Q rr ok at0 k => ee C B d l d' σ G H _ rr ok at0 fun v G1 H1 e1 a1 ⟨a, vs, ev, hv, hz, pr⟩ =>
    ⟨a, ev, ⟨vs, SqL.of (e1.sub _ _ hv)⟩, k _ G1 H1 e1 a1 ⟨vs.length, _, _, walk_list, Paired.length pr, (by rw [← Paired.length pr]; exact hz), fun G2 H2 s1 s2 => SqL.of (s2 _ _ (s1 _ _ hv)), fun i a' x G2 H2 H3 hl s1 s2 yy => by
      obtain ⟨e3, hx⟩ := yy
      obtain ⟨v', h3, h4⟩ := paired_get pr hl
      rw [h3] at hx
      cases hx
      subst e3
      exact ⟨G2, Ext.refl s2, T.st s1 h4⟩⟩⟩⟩
theorem i_listK {ms : 𝓜.M (List α)} (h : XM 𝓜 c e Γ (rLK c.g.K T) ms) : XI 𝓜 c tg e Γ T ms :=
  let ⟨t, p, ee⟩ := h; ⟨iList c.g.K t, fun X hX => by rw [← hX.K]; exact pi_list (p X hX), fun C B d l d' σ G H Q rr ok at0 k => ee C B d l d' σ G H _ rr ok at0 fun v G1 H1 e1 a1 ⟨a, vs, ev, hv, hz, pr⟩ =>
    ⟨a, ev, ⟨vs, e1.sub.seq hv⟩, k _ G1 H1 e1 a1 ⟨vs.length, _, _, walk_list, Paired.length pr, (by rw [← Paired.length pr]; exact hz), fun G2 H2 s1 s2 => (s1.trans s2).seq hv, fun i a' x G2 H2 H3 hl s1 s2 yy => by
      obtain ⟨e3, hx⟩ := yy
      obtain ⟨v', h3, h4⟩ := paired_get pr hl
      rw [h3] at hx
      cases hx
      subst e3
      exact ⟨G2, Ext.refl s2, T.st s1 h4⟩⟩⟩⟩
theorem i_tup {ms : 𝓜.M (List α)} (h : XM 𝓜 c e Γ (rT c.g.K (sAll T)) ms) : XI 𝓜 c tg e Γ T ms :=
  let ⟨t, p, ee⟩ := h; ⟨iTup c.g.K t, fun X hX => by rw [← hX.K]; exact pi_tup (p X hX), fun C B d l d' σ G H Q rr ok at0 k => ee C B d l d' σ G H _ rr ok at0 fun v G1 H1 e1 a1 ⟨a, vs, ev, hv, hz, pr⟩ =>
    ⟨a, ev, ⟨vs, same_t e1.sub hv⟩, k _ G1 H1 e1 a1 ⟨vs.length, _, _, walk_tup, Paired.length pr, (by rw [← Paired.length pr]; exact hz), fun G2 H2 s1 s2 => same_t (s1.trans s2) hv, fun i a' x G2 H2 H3 hl s1 s2 yy => by
      obtain ⟨e3, hx⟩ := yy
      obtain ⟨v', h3, h4⟩ := paired_get pr hl
      rw [h3] at hx
      cases hx
      subst e3
      exact ⟨G2, Ext.refl s2, T.st s1 h4⟩⟩⟩⟩
/-- a text, sign by sign -/
def signs (l : List Nat) : List (List Nat) := l.map fun ch => [ch]
theorem i_str {ms : 𝓜.M (List Nat)} (h : XM 𝓜 c e Γ rS ms) : XI 𝓜 c tg e Γ rS (𝓜.bnd ms fun l => 𝓜.ret (signs l)) :=
  let ⟨t, p, ee⟩ := h; ⟨iStr t, fun X hX => pi_str (p X hX), fun C B d l d' σ G H Q rr ok at0 k => by
    obtain ⟨x, d1, r1, rr⟩ := 𝓜.run_bnd rr
    obtain ⟨z1, z2⟩ := 𝓜.run_ret rr
    subst z1; subst z2
    exact ee C B d x d' σ G H _ r1 ok at0 fun v G1 H1 e1 a1 ⟨ev, hz⟩ =>
      ⟨ofL x, ev, k _ G1 H1 e1 a1 ⟨_, _, _, walk_str, by simp [ofL, signs], by simpa [signs] using hz, fun _ _ _ _ => trivial, fun i a' x' G2 H2 H3 hl s1 s2 yy => by
        obtain ⟨e3, ch, hx, ex⟩ := yy
        subst e3
        have hx' : x[i]? = some ch := by
          rw [← ofL_cps x, Array.getElem?_toList]; exact hx
        unfold signs at hl
        rw [List.getElem?_map, hx'] at hl
        cases hl
        exact ⟨G2, Ext.refl s2, by rw [ex]; rfl, by show 1 ≤ cap; decide⟩⟩⟩⟩
/-- range(n) -/
def upto (n : Int) : List Int := (List.range n.toNat).map fun (i : Nat) => (i : Int)
def rangeM (n : Int) : Option (List Int) := if -1000000 ≤ n ∧ n ≤ 1000000 then some (upto n) else none
theorem i_range1 {mi : 𝓜.M Int} (hg : c.sc.names.lookup ("range" : Str) = some .globalImplicit) (hm : c.g.mg "range" = none) (h : XM 𝓜 c e Γ rI mi) (hs : ∀ env, starEach [e] env = [(false, eval e env)] := by intro _; rfl) : XI 𝓜 c tg (.Call (.Name "range" p) [e] [] pos) Γ rI (𝓜.bnd mi fun n => 𝓜.lft (rangeM n)) :=
  let ⟨t, pa, ea⟩ := am_one h hs; ⟨iRng1 t, fun X hX => pi_range1 (hX.gl hg) (by rw [hX.mg]; exact hm) (pa X hX) (hs _), fun C B d l d' σ G H Q rr ok at0 k => by
    obtain ⟨n, d1, r1, rr⟩ := 𝓜.run_bnd rr
    obtain ⟨q1, q2⟩ := 𝓜.run_lft rr
    subst q2
    unfold rangeM at q1
    split at q1
    · rename_i hz
      have q1 := Option.some.inj q1
      subst q1
      refine ea C B d n d' σ G H _ r1 ok at0 fun vs G1 H1 e1 a1 ⟨v, ev, rv⟩ => ?_
      refine ⟨n, by rw [ev, rv], by omega, by omega, k _ G1 H1 e1 a1 ⟨_, _, _, walk_range, by simp [upto], by simp [upto]; unfold cap; omega, fun _ _ _ _ => trivial, fun i a' x' G2 H2 H3 hl s1 s2 yy => ?_⟩⟩
      obtain ⟨e3, hx⟩ := yy
      subst e3
      refine ⟨G2, Ext.refl s2, ?_⟩
      unfold upto at hl
      rw [List.getElem?_map] at hl
      obtain ⟨j, h1, h2⟩ := Option.map_eq_some_iff.mp hl
      have : j = i := by
        have := List.getElem?_eq_some_iff.mp h1
        obtain ⟨hlt, e⟩ := this
        rw [List.getElem_range] at e
        exact e.symm
      show x' = _
      rw [hx, ← h2, this]
      show V.int (0 + (i : Int)) = _
      rw [Int.zero_add]
    · cases q1⟩
/-- range(a, b) -/
def upto2 (a b : Int) : List Int := (List.range (b - a).toNat).map fun (i : Nat) => a + (i : Int)
def rangeM2 (a b : Int) : Option (List Int) := if -1000000 ≤ a ∧ a ≤ 1000000 ∧ -1000000 ≤ b ∧ b ≤ 1000000 ∧ b - a ≤ 1000000 then some (upto2 a b) else none
theorem i_range2 {mi mj : 𝓜.M Int} (hg : c.sc.names.lookup ("range" : Str) = some .globalImplicit) (hm : c.g.mg "range" = none) (h : XM 𝓜 c e Γ rI mi) (h2 : XM 𝓜 c e1 Γ rI mj) (hs : ∀ env, starEach [e, e1] env = [(false, eval e env), (false, eval e1 env)] := by intro _; rfl)
    (hs2 : ∀ env, starEach [e1] env = [(false, eval e1 env)] := by intro _; rfl) : XI 𝓜 c tg (.Call (.Name "range" p) [e, e1] [] pos) Γ rI (𝓜.bnd mi fun a => 𝓜.bnd mj fun b => 𝓜.lft (rangeM2 a b)) :=
  let ⟨t, pa, ea⟩ := h; let ⟨t2, pb, eb⟩ := h2; ⟨iRng2 (tCons t (tCons t2 tNil)), fun X hX => pi_range2 (hX.gl hg) (by rw [hX.mg]; exact hm) (pa_cons (pa X hX) (pa_cons (pb X hX) pa_nil (hs2 _)) (by rw [hs, hs2])) (hs _) (hs2 _), fun C B d l d' σ G H Q rr ok at0 k => by
    obtain ⟨n, d1, r1, rr⟩ := 𝓜.run_bnd rr
    obtain ⟨j, d2, r2, rr⟩ := 𝓜.run_bnd rr
    obtain ⟨q1, q2⟩ := 𝓜.run_lft rr
    subst q2
    unfold rangeM2 at q1
    split at q1
    · rename_i hz
      have q1 := Option.some.inj q1
      subst q1
      refine ea C B d n d1 σ G H _ r1 ok at0 fun v G1 H1 e1 a1 rv => eb C B d1 j d' σ G1 H1 _ r2 (ok.ext e1.up) a1 fun w G2 H2 e2 a2 rw' => ?_
      refine ⟨n, j, by rw [rv, rw'], ⟨by omega, by omega, by omega, by omega⟩, k _ G2 H2 (e1.trans e2) a2 ⟨_, _, _, walk_range, by simp [upto2], by simp [upto2]; unfold cap; omega, fun _ _ _ _ => trivial, fun i a' x' G2 H2 H3 hl s1 s2 yy => ?_⟩⟩
      obtain ⟨e3, hx⟩ := yy
      subst e3
      refine ⟨G2, Ext.refl s2, ?_⟩
      unfold upto2 at hl
      rw [List.getElem?_map] at hl
      obtain ⟨jj, h1, h2⟩ := Option.map_eq_some_iff.mp hl
      have : jj = i := by
        obtain ⟨hlt, e⟩ := List.getElem?_eq_some_iff.mp h1
        rw [List.getElem_range] at e
        exact e.symm
      show x' = _
      rw [hx, ← h2, this]
    · cases q1⟩
theorem zipIdx_get (l : List α) (i : Nat) : (l.zipIdx.map fun q => ((q.2 : Int), q.1))[i]? = (l[i]?).map fun a => ((i : Int), a) := by
  rw [List.getElem?_map, List.getElem?_zipIdx]
  cases l[i]? <;> simp
/-- enumerate(list) -/
def enumL {α : Type} (l : List α) : List (Int × α) := l.zipIdx.map fun q => ((q.2 : Int), q.1)
theorem i_enum {ms : 𝓜.M (List α)} {elts : List Expr} {tpos : Pos} (hg : c.sc.names.lookup ("enumerate" : Str) = some .globalImplicit) (hm : c.g.mg "enumerate" = none) (h : XM 𝓜 c e Γ (rL T) ms) (hs : ∀ env, starEach [e] env = [(false, eval e env)] := by intro _; rfl) :
    XI 𝓜 c (.Tuple elts kk tpos) (.Call (.Name "enumerate" p) [e] [] pos) Γ (rT c.g.K (sCons rI (sOne T))) (𝓜.bnd ms fun l => 𝓜.ret (enumL l)) :=
  let ⟨t, pa, ea⟩ := am_one h hs; ⟨iEnum c.g.K t, fun X hX => by rw [← hX.K]; exact pi_enum (hX.gl hg) (by rw [hX.mg]; exact hm) (pa X hX) (hs _), fun C B d l d' σ G H Q rr ok at0 k => by
    obtain ⟨x, d1, r1, rr⟩ := 𝓜.run_bnd rr
    obtain ⟨z1, z2⟩ := 𝓜.run_ret rr
    subst z1; subst z2
    refine ea C B d x d' σ G H _ r1 ok at0 fun vs G1 H1 e1 a1 ⟨v, ev, a, ws, ew, hv, hz, pr⟩ => ?_
    refine ⟨a, ws, by rw [ev, ew], SqL.of (e1.sub _ _ hv), k _ G1 H1 e1 a1 ⟨_, _, _, walk_enum, by simp [enumL, Paired.length pr], by simp [enumL, ← Paired.length pr, hz], fun G2 H2 s1 s2 => SqL.of (s2 _ _ (s1 _ _ hv)), fun i a' x' G2 H2 H3 hl s1 s2 yy => ?_⟩⟩
    obtain ⟨b, v1, v2, eb, nb, e3, g1, g2⟩ := yy
    unfold enumL at hl
    rw [zipIdx_get] at hl
    obtain ⟨a2, h1, h2⟩ := Option.map_eq_some_iff.mp hl
    obtain ⟨v', h3, h4⟩ := paired_get pr h1
    have g2 : ws[i]? = some v2 := g2
    rw [h3] at g2
    cases g2
    cases g1
    subst e3
    refine ⟨upd G2 b (.tup [.int (i : Int), v2]), Ext.new s2 nb, b, _, eb, SqT.of upd_same, by show 2 ≤ cap; decide, ?_⟩
    rw [← h2]
    exact ⟨_, _, rfl, rfl, v2, rfl, T.st (s1.trans (Ext.new (C := []) s2 nb).g) h4⟩⟩
theorem zip_get (l : List α) (r : List β) (i : Nat) (q : α × β) (h : (l.zip r)[i]? = some q) : l[i]? = some q.1 ∧ r[i]? = some q.2 := by
  rw [List.getElem?_zip_eq_some] at h
  exact h
/-- zip(list, list) -/
theorem i_zip {ms : 𝓜.M (List α)} {ns : 𝓜.M (List β)} {elts : List Expr} {tpos : Pos} (hg : c.sc.names.lookup ("zip" : Str) = some .globalImplicit) (hm : c.g.mg "zip" = none) (h : XM 𝓜 c e Γ (rL T) ms) (h2 : XM 𝓜 c e1 Γ (rL U) ns)
    (hs : ∀ env, starEach [e, e1] env = (false, eval e env) :: starEach [e1] env := by intro _; rfl) (hs1 : ∀ env, starEach [e1] env = (false, eval e1 env) :: starEach [] env := by intro _; rfl) (hpl : ∀ env, (backTo pos (starEach [e1] env)).any (·.1) = false := by intro _; rfl) :
    XI 𝓜 c (.Tuple elts kk tpos) (.Call (.Name "zip" p) [e, e1] [] pos) Γ (rT c.g.K (sCons T (sOne U))) (𝓜.bnd ms fun l => 𝓜.bnd ns fun r => 𝓜.ret (l.zip r)) :=
  let ⟨t, pa, ea⟩ := h; let ⟨t2, pb, eb⟩ := h2; ⟨iZip c.g.K (tCons t (tCons t2 tNil)), fun X hX => by rw [← hX.K]; exact pi_zip (hX.gl hg) (by rw [hX.mg]; exact hm) (pa_cons (pa X hX) (pa_cons (pb X hX) pa_nil (hs1 _)) (hs _)) (hs _) (hpl _), fun C B d l d' σ G H Q rr ok at0 k => by
    obtain ⟨x, d1, r1, rr⟩ := 𝓜.run_bnd rr
    obtain ⟨z, d2, r2, rr⟩ := 𝓜.run_bnd rr
    obtain ⟨z1, z2⟩ := 𝓜.run_ret rr
    subst z1; subst z2
    refine ea C B d x d1 σ G H _ r1 ok at0 fun v G1 H1 e1 a1 ⟨a, vs, ev, hv, hz, pr⟩ => eb C B d1 z d' σ G1 H1 _ r2 (ok.ext e1.up) a1 fun w G2 H2 e2 a2 ⟨b, ws, ew, hw, hzw, prw⟩ => ?_
    refine ⟨a, b, vs, ws, by rw [ev, ew], SqL.of (e2.sub _ _ (e2.g _ _ hv)), SqL.of (e2.sub _ _ hw), k _ G2 H2 (e1.trans e2) a2 ⟨_, _, _, walk_zip rfl, by rw [List.length_zip, Paired.length pr, Paired.length prw], by rw [List.length_zip, ← Paired.length pr]; exact Nat.le_trans (Nat.min_le_left _ _) hz, fun G3 H3 s1 s2 => ⟨SqL.of (s2 _ _ (s1 _ _ (e2.g _ _ hv))), SqL.of (s2 _ _ (s1 _ _ hw))⟩, fun i a' x' G3 H3 H4 hl s1 s2 yy => ?_⟩⟩
    obtain ⟨bb, v1, v2, ebb, nb, e3, g1, g2⟩ := yy
    obtain ⟨q1, q2⟩ := zip_get _ _ _ _ hl
    obtain ⟨v', h3, h4⟩ := paired_get pr q1
    obtain ⟨w', h5, h6⟩ := paired_get prw q2
    have g1 : vs[i]? = some v1 := g1
    have g2 : ws[i]? = some v2 := g2
    rw [h3] at g1
    cases g1
    rw [h5] at g2
    cases g2
    subst e3
    have sE := (Ext.new (C := []) (o := .tup [v1, v2]) s2 nb).g
    exact ⟨upd G3 bb (.tup [v1, v2]), Ext.new s2 nb, bb, _, ebb, SqT.of upd_same, by show 2 ≤ cap; decide, _, _, rfl, T.st (e2.g.trans (s1.trans sE)) h4, v2, rfl, U.st (s1.trans sE) h6⟩⟩

/-! ### for -/
def forL {S L ρ α : Type} (𝓜 : Md) (f : α → S → 𝓜.M (Fl S S ρ)) : List α → S → 𝓜.M (Fl S L ρ)
  | [], s => 𝓜.ret (.nx s)
  | a :: l, s => 𝓜.bnd (f a s) fun r => match r with
    | .nx s' => forL 𝓜 f l s'
    | .ct s' => forL 𝓜 f l s'
    | .bk s' => 𝓜.ret (.nx s')
    | .rt r => 𝓜.ret (.rt r)
theorem xs_for {ms : 𝓜.M (List α)} {f : α → S' → 𝓜.M (Fl S' S' ρ)} {Γb : α → S' → List Slot} {s0 : S'} {k : S' → 𝓜.M (Fl S L ρ)} (hi : XI 𝓜 c tg e Γ T ms) {ws : List Nat} (hg : ∀ a s, XG c tg (Γs s) T a (Γb a s) ws) (hb : ∀ a s, XS 𝓜 c body (Γb a s) Γs Γs R (f a s)) (h0 : Le (Γs s0) Γ)
    (hr : ∀ s, XS 𝓜 c sts (Γs s) Γn Γl R (k s)) (hs : ∀ env x, foldedSetIterable e env x = pure x := by intro _ _; rfl) : XS 𝓜 c (.For tg e body [] pos :: sts) Γ Γn Γl R (bndF 𝓜 (𝓜.bnd ms fun l => forL 𝓜 f l s0) k) :=
  let ⟨wi, pi, ei⟩ := hi; ⟨_, fun X hX => pss_cons (ps_for (by rw [hX.xe]; exact PassesOwn.never) hX.calm (pi X hX) (pg_can X hX) (pss_can X hX) (hs _)) (pss_can X hX), fun C d ff d' G0 H0 σ G H D rr ok at0 kk => by
    obtain ⟨fS, d1, r1, rr⟩ := 𝓜.run_bnd rr
    have kS := post_seq (C := C) (D := D) hr rr kk
    obtain ⟨l, d2, r2, r1⟩ := 𝓜.run_bnd r1
    refine ei C H0 d l d2 σ G H _ r2 ok.ok at0 fun J G1 H1 e1 a1 ⟨n, P, Y, w, hn, hz, hP, hY⟩ => ?_
    have ok1 := ok.ext e1
    -- the invariant: what is left gives fS
    let Pv : Nat → L2.St → Hp → Prop := fun i σ H => (∃ s d G, EnvB C G0 H0 (Γs s) σ G H ∧ 𝓜.at_ H C d ∧ Same G1 G ∧ 𝓜.run (forL (L := L) 𝓜 f (l.drop i) s) d fS d1)
    -- a turn that leaves the loop meets what is wanted at once: so the invariant holds only where the loop goes on
    refine for_it w (D := { D with nx := WS c sts D }) Pv ⟨s0, d2, G1, ok1.le h0, a1, Same.refl _, r1⟩ (fun i σ H _ ⟨s, d, G, o, _, sg, _⟩ => hP G H sg o.ok.sub) (fun i x σ' H' H'' hlt ⟨s, d, G, o, at1, sg, run⟩ yy => ?_) (fun σ' H' ⟨s, d, G, o, at1, sg, run⟩ => ?_)
    · have hl : i < l.length := by rw [← hn]; exact hlt
      rw [List.drop_eq_getElem_cons hl] at run
      obtain ⟨fb, d3, r3, r4⟩ := 𝓜.run_bnd run
      obtain ⟨G3, e3, r5⟩ := hY i l[i] x G H' H'' (List.getElem?_eq_getElem hl) sg o.ok.sub yy
      have o3 : EnvB C G0 H0 (Γs s) σ' G3 H'' := ⟨o.ok.ext e3.mono, o.ex.trans e3.mono⟩
      refine (hg l[i] s).can C H0 σ' G3 H'' x _ o3.ok r5 fun σ2 ok2 _ => ?_
      refine (hb l[i] s).can C d fb d3 G0 H0 σ2 G3 H'' _ r3 ⟨ok2, o3.ex⟩ (𝓜.at_st e3.hs at1) ?_
      have sg3 : Same G1 G3 := sg.trans e3.g
      cases fb with
      | nx s' => exact fun σ4 G4 H4 s4 o4 a4 => ⟨s', d3, G4, o4, a4, sg3.trans s4, r4⟩
      | ct s' => exact fun σ4 G4 H4 s4 o4 a4 => ⟨s', d3, G4, o4, a4, sg3.trans s4, r4⟩
      | bk s' =>
        obtain ⟨z1, z2⟩ := 𝓜.run_ret r4
        subst z1; subst z2
        exact fun σ4 G4 H4 s4 o4 a4 => kS σ4 G4 H4 (e1.g.trans (sg3.trans s4)) o4 a4
      | rt r =>
        obtain ⟨z1, z2⟩ := 𝓜.run_ret r4
        subst z1; subst z2
        exact kS
    · have hdr : l.drop n = [] := List.drop_eq_nil_of_le (by omega)
      rw [hdr] at run
      obtain ⟨z1, z2⟩ := 𝓜.run_ret run
      subst z1; subst z2
      exact kS σ' G H' (e1.g.trans sg) o at1⟩
end
end Ty
set_option Elab.async false
set_option linter.all false
set_option maxRecDepth 100000
set_option maxHeartbeats 4000000
/-! Comprehensions, while, append, pop, parallel assignments. -/
namespace Ty
open PySem PySem.Spec PyProof.Rows L2 StX

section
variable {𝓜 : Md} {S S' L ρ α β γ : Type} {c : Ctx} {e e1 e2 tg : Expr} {st : Stmt} {sts A B body tgs : List Stmt} {es : List Expr} {Γ Γ' Γ'' : List Slot} {Γn : S → List Slot} {Γs : S' → List Slot} {Γl : L → List Slot} {R : Rp ρ} {T : Rp α} {U : Rp β} {x : α} {m : 𝓜.M α} {pos p apos cpos : Pos} {i : Nat} {y : Str} {kk : Nat}
/-! ### our own list grows -/
def okLen (n : Nat) : Option Unit := if n < cap then some () else none
theorem okLen_some {n : Nat} {u : Unit} (h : okLen n = some u) : n < cap := by
  unfold okLen at h
  split at h
  · assumption
  · cases h
theorem xs_app {xs : List α} {k : α → 𝓜.M (Fl S L ρ)} {Γ' : α → List Slot} (hN : c.N[i]? = some y) (hv : Vis c.sc y) (h : Has Γ i (.own T xs)) (he : XM 𝓜 c e Γ T m) (q : ∀ a, Put Γ i (.own T (xs ++ [a])) (Γ' a)) (hr : ∀ a, XS 𝓜 c sts (Γ' a) Γn Γl R (k a))
    (hdd : (y == ("__debug__" : Str)) = false := by decide) (hcd : (y == ("__classdict__" : Str)) = false := by decide)
    (hs : ∀ env, starEach (e :: []) env = (false, eval e env) :: starEach [] env := by intro _; rfl) (hb : ∀ env, attributeBase (.Name y p) "append" env (eval (.Name y p) env) = eval (.Name y p) env := by intro _; rfl)
    (hfew : ∀ env, ((backTo cpos (starEach (e :: []) env)).all (fun x => !x.1) && (backToKw cpos (keywordEach [] env)).all (fun x => x.1.isSome)
      && decide ((e :: ([] : List Expr)).length + ([] : List Keyword).length + (if ([] : List Keyword).isEmpty then 0 else 1) < 30)) = true := by intro _; rfl)
    (hline : (apos.endLine == cpos.line) = true := by rfl) (hpl : ∀ env, (backTo cpos (starEach [] env)).any (·.1) = false := by intro _; rfl) (hsw : ∀ env, swapsWith (.Call (.Attribute (.Name y p) "append" apos) [e] [] cpos) none pos.line env = pure false := by intro _; rfl) :
    XS 𝓜 c (.Expr (.Call (.Attribute (.Name y p) "append" apos) [e] [] cpos) pos :: sts) Γ Γn Γl R (𝓜.bnd m fun a => 𝓜.bnd (𝓜.lft (okLen xs.length)) fun _ => k a) :=
  let ⟨t, pe, ee⟩ := he; ⟨tSeq (tDrop (tBM c.g.K "list" rAppend (tVar i) (tCons t tNil))) (WS c sts), fun X hX => pss_cons (ps_expr (by rw [← hX.K]; exact pe_bm PySem.F.plainAttrs_list PySem.F.slot_list_append PySem.F.type_list_append mt_append (pe_var (by rw [hX.N]; exact hN) (hX.vis hv) hdd hcd) (pa_cons (pe X hX) pa_nil (hs _)) (hb _) (hfew _) hline (hs _) (hpl _)) (hsw _)) (pss_can X hX),
    fun C d f d' G0 H0 σ G H D rr ok at0 kk => by
    obtain ⟨a, d1, r1, rr⟩ := 𝓜.run_bnd rr
    obtain ⟨u, d2, r2, r3⟩ := 𝓜.run_bnd rr
    obtain ⟨q1, q2⟩ := 𝓜.run_lft r2
    subst q2
    have hlen := okLen_some q1
    obtain ⟨o, ho, p', vs, eo, hp, gp, nc, bp, hz, pr⟩ := ok.ok.has h
    refine ⟨.ref p', by rw [ho, eo], .inl ⟨rfl, _, SqL.of hp⟩, ee C H0 d a d2 σ G H _ r1 ok.ok at0 fun v G1 H1 e1 a1 p1 => ?_⟩
    have ok1 := ok.ext e1
    obtain ⟨o2, ho2, p2, vs2, eo2, hp2, gp2, nc2, bp2, hz2, pr2⟩ := ok1.ok.has h
    rw [ho] at ho2
    cases ho2
    rw [eo] at eo2
    cases eo2
    refine ⟨p', vs2, v, rfl, rfl, hp2, cap_lt (by rw [Paired.length pr2]; exact hlen), ?_⟩
    have at2 : 𝓜.at_ (upd H1 p' (.lst (vs2 ++ [v]))) C d2 := 𝓜.at_in (fun b o hb q => by rw [upd_ne (fun z => by subst z; exact nc2 hb)]; exact q) a1
    exact (hr a).can C d2 f d' G0 H0 σ G1 _ D r3 ⟨ok1.ok.mutate h (by rw [ho, eo]) (q a) (by rw [List.length_append, Paired.length pr2]; exact hlen) (paired_append pr2 (.cons p1 .nil)), ok1.ex.put bp gp2⟩ at2 (kk.mono e1.g)⟩
/-! ### while -/
def whileN {S L ρ : Type} (𝓜 : Md) (b : S → 𝓜.M Bool) (f : S → 𝓜.M (Fl S S ρ)) : Nat → S → 𝓜.M (Fl S L ρ)
  | 0, _ => 𝓜.lft none
  | n + 1, s => 𝓜.bnd (b s) fun x => if x = true then 𝓜.bnd (f s) fun r => (match r with
      | .nx s' => whileN 𝓜 b f n s'
      | .ct s' => whileN 𝓜 b f n s'
      | .bk s' => 𝓜.ret (.nx s')
      | .rt r => 𝓜.ret (.rt r)) else 𝓜.ret (.nx s)
theorem xs_while {b : S' → 𝓜.M Bool} {f : S' → 𝓜.M (Fl S' S' ρ)} {s0 : S'} {k : S' → 𝓜.M (Fl S L ρ)} (n : Nat) (hc : ∀ s, XT 𝓜 c e (Γs s) (b s)) (hb : ∀ s, XS 𝓜 c body (Γs s) Γs Γs R (f s)) (h0 : Le (Γs s0) Γ) (hr : ∀ s, XS 𝓜 c sts (Γs s) Γn Γl R (k s)) :
    XS 𝓜 c (.While e body [] pos :: sts) Γ Γn Γl R (bndF 𝓜 (whileN 𝓜 b f n s0) k) :=
  ⟨tSeq (tWhile (WT c e) (WS c body)) (WS c sts), fun X hX => pss_cons (ps_while (by rw [hX.xe]; exact PassesOwn.never) (pt_can X hX) (pss_can X hX)) (pss_can X hX), fun C d ff d' G0 H0 σ G H D rr ok at0 kk => by
    obtain ⟨fS, d1, r1, rr⟩ := 𝓜.run_bnd rr
    have kS := post_seq (C := C) (D := D) hr rr kk
    refine ⟨fun n σ' H' => ∃ s d G', EnvB C G0 H0 (Γs s) σ' G' H' ∧ 𝓜.at_ H' C d ∧ Same G G' ∧ 𝓜.run (whileN (L := L) 𝓜 b f n s) d fS d1, ⟨n, s0, d, G, ok.le h0, at0, Same.refl _, r1⟩, ?_⟩
    rintro n σ' H' ⟨s, d, G', o, at1, sg, run⟩
    cases n with
    | zero =>
      obtain ⟨q1, _⟩ := 𝓜.run_lft run
      cases q1
    | succ n =>
      obtain ⟨x, d2, r2, r3⟩ := 𝓜.run_bnd run
      refine (hc s).can C H0 d x d2 σ' G' H' _ r2 o.ok at1 fun G2 H2 e2 a2 => ?_
      have o2 := o.ext e2
      cases x with
      | true =>
        rw [if_pos rfl] at r3 ⊢
        obtain ⟨fb, d3, r4, r5⟩ := 𝓜.run_bnd r3
        refine ⟨fun σ4 H4 => ∃ s d G', EnvB C G0 H0 (Γs s) σ4 G' H4 ∧ 𝓜.at_ H4 C d ∧ Same G G' ∧ 𝓜.run (whileN (L := L) 𝓜 b f n s) d fS d1, fun σ4 H4 h => ⟨n, Nat.lt_succ_self n, h⟩, ?_⟩
        refine (hb s).can C d2 fb d3 G0 H0 σ' G2 H2 _ r4 o2 a2 ?_
        have sg2 := sg.trans e2.g
        cases fb with
        | nx s' => exact fun σ4 G4 H4 s4 o4 a4 => ⟨s', d3, G4, o4, a4, sg2.trans s4, r5⟩
        | ct s' => exact fun σ4 G4 H4 s4 o4 a4 => ⟨s', d3, G4, o4, a4, sg2.trans s4, r5⟩
        | bk s' =>
          obtain ⟨z1, z2⟩ := 𝓜.run_ret r5
          subst z1; subst z2
          exact fun σ4 G4 H4 s4 o4 a4 => kS σ4 G4 H4 (sg2.trans s4) o4 a4
        | rt r =>
          obtain ⟨z1, z2⟩ := 𝓜.run_ret r5
          subst z1; subst z2
          exact kS
      | false =>
        rw [if_neg Bool.false_ne_true] at r3 ⊢
        obtain ⟨z1, z2⟩ := 𝓜.run_ret r3
        subst z1; subst z2
        exact kS σ' G2 H2 (sg.trans e2.g) o2 a2⟩
/-! ### comprehensions -/
def lcM {α β : Type} (𝓜 : Md) (p : α → 𝓜.M Bool) (f : α → 𝓜.M β) : List α → 𝓜.M (List β)
  | [] => 𝓜.ret []
  | a :: l => 𝓜.bnd (p a) fun b => if b = true then 𝓜.bnd (f a) fun y => 𝓜.bnd (lcM 𝓜 p f l) fun ys => 𝓜.ret (y :: ys) else lcM 𝓜 p f l
@[reducible] def Ctx.blk (c : Ctx) (scope : Scope) : Ctx := { c with sc := relS scope c.sc, fn := fun x => scope.names.lookup x == some .cell }
theorem InC.blk {X : Cx} (h : InC c X) (scope : Scope) (s : Shared) (H : Hp) (C : Addr) (cl : List (Str × Addr)) (fp : List Addr) : InC (c.blk scope) (X.blk s H scope (compEnvC scope cl C X.env) fp) :=
  ⟨h.prog, h.w, h.K, h.mg, h.base, h.N, by
    show relabel scope X.env = relS scope c.sc
    unfold relabel relS Env.kindOf
    rw [h.sc], fun x hx => hx, h.calm, rfl, h.room, h.gd⟩
/-- the tests of a comprehension -/
def XTs (𝓜 : Md) (c : Ctx) (ifs : List Expr) (Γ : List Slot) (m : 𝓜.M Bool) : Prop := ∃ t, (∀ X, InC c X → PTs X ifs t) ∧ EvT 𝓜 t Γ m
theorem ts_nil : XTs 𝓜 c [] Γ (𝓜.ret true) := ⟨tYes, fun _ _ => pts_nil, fun C B d b d' σ G H Q rr ok at0 k => by
  obtain ⟨z1, z2⟩ := 𝓜.run_ret rr
  subst z1; subst z2
  exact k G H (Ext.refl ok.sub) at0⟩
theorem ts_one {b : 𝓜.M Bool} (h : XT 𝓜 c e Γ b) : XTs 𝓜 c [e] Γ b := let ⟨t, p, q⟩ := h; ⟨t, fun X hX => pts_one (p X hX), q⟩
theorem wipe_get {σ : L2.St} {j : Nat} : ∀ {vs : List Nat}, j ∉ vs → (wipe σ vs)[j]? = σ[j]? := wipe_out
theorem wipe_in {σ : L2.St} {j : Nat} : ∀ {vs : List Nat}, j ∈ vs → j < σ.length → (wipe σ vs)[j]? = some none
  | [], h, _ => by simp at h
  | v :: vs, h, hl => by
    unfold wipe
    by_cases e : v = j
    · subst e
      rw [List.getElem?_set_self (by rw [wipe_length]; exact hl)]
    · rw [List.getElem?_set_ne e]
      exact wipe_in (by simpa [Ne.symm e] using h) hl
theorem wipe_but {σ σ' : L2.St} {vs : List Nat} (h : But vs (wipe σ vs) σ') : wipe σ' vs = wipe σ vs := by
  have hl : σ'.length = σ.length := by rw [h.1, wipe_length]
  apply List.ext_getElem?
  intro j
  by_cases hj : j ∈ vs
  · by_cases hlt : j < σ.length
    · rw [wipe_in hj hlt, wipe_in hj (by rw [hl]; exact hlt)]
    · rw [List.getElem?_eq_none (by rw [wipe_length, hl]; omega), List.getElem?_eq_none (by rw [wipe_length]; omega)]
  · rw [wipe_get hj, h.2 j hj]
/-- the slots vs are unknown -/
def Uns (Γ : List Slot) (vs : List Nat) : Prop := ∀ v ∈ vs, Has Γ v .un
theorem uns_nil : Uns Γ [] := fun v h => by simp at h
theorem uns_cons {v : Nat} {vs : List Nat} (h : Has Γ v .un) (t : Uns Γ vs) : Uns Γ (v :: vs) := fun w hw => by
  rcases List.mem_cons.mp hw with e | e
  · rw [e]; exact h
  · exact t w e
theorem env_wipe {C : List Addr} {B G H : Hp} {σ : L2.St} {vs : List Nat} (ok : EnvOk C B Γ σ G H) (u : Uns Γ vs) : EnvOk C B Γ (wipe σ vs) G H := by
  have key : ∀ j t, Γ[j]? = some t → t.isOwn = true → j ∉ vs := fun j t h1 h2 hj => by
    have := (u j hj).get
    rw [h1] at this
    cases this
    cases h2
  refine ⟨ok.sub, by rw [wipe_length]; exact ok.len, fun j t h => ?_, fun a b r x1 x2 => ?_, ok.dkg, ok.dkh⟩
  · by_cases hj : j ∈ vs
    · have := (u j hj).get
      rw [h] at this
      cases this
      have hl : j < σ.length := by
        rw [← ok.len]
        exact (List.getElem?_eq_some_iff.mp h).1
      exact ⟨none, wipe_in hj hl, trivial⟩
    · rw [wipe_get hj]; exact ok.sl j t h
  · have back : ∀ k, OwnAt Γ (wipe σ vs) k r → OwnAt Γ σ k r := fun k hk => by
      obtain ⟨⟨t, h1, h2⟩, h3⟩ := hk
      rw [wipe_get (key k t h1 h2)] at h3
      exact ⟨⟨t, h1, h2⟩, h3⟩
    exact ok.dst a b r (back a x1) (back b x2)
theorem But.sub {ws vs : List Nat} {σ σ' : L2.St} (h : But ws σ σ') (s : ∀ j ∈ ws, j ∈ vs) : But vs σ σ' := ⟨h.1, fun j z => h.2 j fun q => z (s j q)⟩
theorem ev_lc {wi : TI} {g : TG} {tt : TT} {te : TE} {vs ws : List Nat} {Γ0 : List Slot} {ms : 𝓜.M (List α)} {pr : α → 𝓜.M Bool} {f : α → 𝓜.M β} {Γb : α → List Slot} (hi : EvI 𝓜 wi Γ T ms) (hl : Le Γ0 Γ) (hu : Uns Γ0 vs) (hg : ∀ a, Gt g Γ0 T a (Γb a) ws) (hw : ∀ j ∈ ws, j ∈ vs)
    (ht : ∀ a, EvT 𝓜 tt (Γb a) (pr a)) (he : ∀ a, Ev 𝓜 te (Γb a) U (f a)) : EvF 𝓜 (tLc wi g tt te vs) Γ U (𝓜.bnd ms fun l => lcM 𝓜 pr f l) := fun C B d ys d' σ G H Q rr ok at0 k => by
  obtain ⟨l, d1, r1, r2⟩ := 𝓜.run_bnd rr
  refine hi C B d l d1 σ G H _ r1 ok at0 fun J G1 H1 e1 a1 ⟨n, P, Y, w, hn, hz, hP, hY⟩ D hD => ?_
  have ok1 := ((ok.ext e1.up).le hl)
  have okw := env_wipe ok1 hu
  have gD : G1 D = none := free_of e1.sub hD
  have nD : H D = none := back_none e1 hD
  have nC : D ∉ C := fun hc => ok.dkh D hc nD
  refine lc_it w (fun i H2 => ∃ d2 G2 us xs rest, Ext (𝓜.cells C) G H G2 H2 ∧ 𝓜.at_ H2 C d2 ∧ Same G1 G2 ∧ EnvOk C B Γ0 (wipe σ vs) G2 H2 ∧ H2 D = some (.lst us) ∧ G2 D = none ∧ us.length ≤ i ∧ Paired (U.r G2) us xs ∧ 𝓜.run (lcM 𝓜 pr f (l.drop i)) d2 rest d' ∧ xs ++ rest = ys)
    ⟨d1, G1, [], [], ys, e1.trans (Ext.newM e1.sub hD), 𝓜.at_in (fun b o hb q => by rw [upd_ne (fun z => by subst z; exact nC hb)]; exact q) a1, Same.refl _, okw.ext (Ext.newM e1.sub hD), upd_same, gD, Nat.le_refl _, .nil, r2, rfl⟩
    (fun i H2 _ ⟨d2, G2, us, xs, rest, x1, x2, x3, x4, _⟩ => hP G2 H2 x3 x4.sub) (fun i x H2 H3 hlt ⟨d2, G2, us, xs, rest, x1, x2, x3, x4, x5, x6, x7, x8, x9, x10⟩ yy => ?_) (fun H2 ⟨d2, G2, us, xs, rest, x1, x2, x3, x4, x5, x6, x7, x8, x9, x10⟩ => ?_)
  · have hlen : i < l.length := by rw [← hn]; exact hlt
    rw [List.drop_eq_getElem_cons hlen] at x9
    obtain ⟨b, d3, r3, r4⟩ := 𝓜.run_bnd x9
    obtain ⟨G3, e3, r5⟩ := hY i l[i] x G2 H2 H3 (List.getElem?_eq_getElem hlen) x3 x4.sub yy
    have x4' := x4.ext (Ext.mono e3)
    have D3 : H3 D = some (.lst us) := e3.hs _ _ x5
    have D3g : G3 D = none := e3.fr D (by rw [x5]; exact fun z => by cases z) x6
    refine hg l[i] C B _ G3 H3 x _ x4' r5 fun σ2 ok2 but => ⟨wipe_but (but.sub hw), ?_⟩
    refine ht l[i] C B d2 b d3 σ2 G3 H3 _ r3 ok2 (𝓜.at_st e3.hs x2) fun G4 H4 e4 a4 => ?_
    have e34 := (Ext.mono (C := 𝓜.cells C) e3).trans e4
    have D4 : H4 D = some (.lst us) := e4.h _ _ (fun z => nC (𝓜.cells_sub z)) D3
    have D4g : G4 D = none := e4.fr D (by rw [D3]; exact fun z => by cases z) D3g
    have x44 := x4'.ext e4.up
    cases b with
    | false =>
      rw [if_neg Bool.false_ne_true] at r4 ⊢
      exact ⟨d3, G4, us, xs, rest, x1.trans e34, a4, x3.trans e34.g, x44, D4, D4g, Nat.le_succ_of_le x7, paired_st e34.g x8, r4, x10⟩
    | true =>
      rw [if_pos rfl] at r4 ⊢
      obtain ⟨y, d5, r6, r7⟩ := 𝓜.run_bnd r4
      obtain ⟨zs, d6, r8, r9⟩ := 𝓜.run_bnd r7
      obtain ⟨z1, z2⟩ := 𝓜.run_ret r9
      subst z1; subst z2
      refine he l[i] C B d3 y d5 σ2 G4 H4 _ r6 (ok2.ext e4.up) a4 fun v G5 H5 e5 a5 p5 => ?_
      have e35 := e34.trans e5
      have D5 : H5 D = some (.lst us) := e5.h _ _ (fun z => nC (𝓜.cells_sub z)) D4
      have D5g : G5 D = none := e5.fr D (by rw [D4]; exact fun z => by cases z) D4g
      have x45 := x44.ext e5.up
      refine ⟨us, D5, cap_lt (by omega), d5, G5, us ++ [v], xs ++ [y], zs, (x1.trans e35).put nD D5g, 𝓜.at_in (fun b o hb q => by rw [upd_ne (fun z => by subst z; exact nC hb)]; exact q) a5, x3.trans e35.g, ?_, upd_same, D5g, by rw [List.length_append]; exact Nat.succ_le_succ x7, paired_append (paired_st e35.g x8) (.cons p5 .nil), r8, by rw [List.append_assoc]; exact x10⟩
      -- the environment does not know D
      refine ⟨fun b u q => by rw [upd_ne (ne_of_none q D5g)]; exact x45.sub b u q, x45.len, fun j t q => ?_, x45.dst, x45.dkg, fun cc hc => by rw [upd_ne (fun z => by subst z; exact nC hc)]; exact x45.dkh cc hc⟩
      obtain ⟨o, h1, h2⟩ := x45.sl j t q
      refine ⟨o, h1, ?_⟩
      cases t with
      | un => trivial
      | val R' x' => exact h2
      | own R' xs' =>
        obtain ⟨p', vs', b1, b2, b3, b4, b5, b6, b7⟩ := h2
        refine ⟨p', vs', b1, ?_, b3, b4, b5, b6, b7⟩
        have : p' ≠ D := fun z => by
          subst z
          obtain ⟨o', q1, q2⟩ := ok1.sl j _ q
          obtain ⟨p'', vs'', c1, c2, _⟩ := q2
          have hjv : j ∉ vs := fun hj => by
            have := (hu j hj).get
            rw [q] at this
            cases this
          rw [wipe_get hjv, q1] at h1
          cases h1
          rw [c1] at b1
          cases b1
          rw [hD] at c2
          cases c2
        rw [upd_ne this]; exact b2
      | ownP p' vs' R' xs' =>
        obtain ⟨b1, b2, b3, b4, b5, b6, b7⟩ := h2
        refine ⟨b1, ?_, b3, b4, b5, b6, b7⟩
        have : p' ≠ D := fun z => by
          subst z
          obtain ⟨o', q1, q2⟩ := ok1.sl j _ q
          obtain ⟨c1, c2, _⟩ := q2
          rw [hD] at c2
          cases c2
        rw [upd_ne this]; exact b2
      | dk => exact h2
      | base _ => exact h2
  · have hdr : l.drop n = [] := List.drop_eq_nil_of_le (by omega)
    rw [hdr] at x9
    obtain ⟨z1, z2⟩ := 𝓜.run_ret x9
    subst z1; subst z2
    rw [List.append_nil] at x10
    subst x10
    exact k D us G2 H2 nD x1 x2 x5 x6 (by omega) x8
theorem xf_lc {scope : Scope} {own : List (Str × Nat)} {ws : List Nat} {Γ0 : List Slot} {ms : 𝓜.M (List α)} {f : α → 𝓜.M β} {Γb : α → List Slot} (hi : XI 𝓜 c tg e Γ T ms) (bk : BlkOk c.N c.sc scope own) (hl : Le Γ0 Γ) (hu : Uns Γ0 (own.map (·.2))) (hg : ∀ a, XG (c.blk scope) tg Γ0 T a (Γb a) ws) (hw : ∀ j ∈ ws, j ∈ own.map (·.2))
    (he : ∀ a, XM 𝓜 (c.blk scope) e1 (Γb a) U (f a)) (hs : ∀ env x, foldedSetIterable e env x = pure x := by intro _ _; rfl) : XF 𝓜 c (.ListComp e1 [⟨tg, e, [], 0⟩] scope pos) Γ U (𝓜.bnd ms fun l => lcM 𝓜 (fun _ => 𝓜.ret true) f l) :=
  let ⟨wi, pi, ei⟩ := hi; ⟨tLc wi (WG (c.blk scope) tg) tYes (WE (c.blk scope) e1) (own.map (·.2)), fun X hX => pe_lc hX.calm hX.nodup (pi X hX) (by rw [hX.N, hX.sc]; exact bk) (fun s H C cl fp => pg_can _ (hX.blk scope s H C cl fp)) (fun _ _ _ _ _ => pts_nil) (fun s H C cl fp => pe_can _ (hX.blk scope s H C cl fp)) (hs _),
    ev_lc ei hl hu (fun a => (hg a).can) hw (fun a => fun C B d b d' σ G H Q rr ok at0 k => by
      obtain ⟨z1, z2⟩ := 𝓜.run_ret rr
      subst z1; subst z2
      exact k G H (Ext.refl ok.sub) at0) (fun a => (he a).can)⟩
theorem xf_lcIf {scope : Scope} {own : List (Str × Nat)} {ws : List Nat} {Γ0 : List Slot} {ms : 𝓜.M (List α)} {pr : α → 𝓜.M Bool} {f : α → 𝓜.M β} {Γb : α → List Slot} (hi : XI 𝓜 c tg e Γ T ms) (bk : BlkOk c.N c.sc scope own) (hl : Le Γ0 Γ) (hu : Uns Γ0 (own.map (·.2))) (hg : ∀ a, XG (c.blk scope) tg Γ0 T a (Γb a) ws) (hw : ∀ j ∈ ws, j ∈ own.map (·.2))
    (ht : ∀ a, XT 𝓜 (c.blk scope) e2 (Γb a) (pr a)) (he : ∀ a, XM 𝓜 (c.blk scope) e1 (Γb a) U (f a)) (hs : ∀ env x, foldedSetIterable e env x = pure x := by intro _ _; rfl) : XF 𝓜 c (.ListComp e1 [⟨tg, e, [e2], 0⟩] scope pos) Γ U (𝓜.bnd ms fun l => lcM 𝓜 pr f l) :=
  let ⟨wi, pi, ei⟩ := hi; ⟨tLc wi (WG (c.blk scope) tg) (WT (c.blk scope) e2) (WE (c.blk scope) e1) (own.map (·.2)), fun X hX => pe_lc hX.calm hX.nodup (pi X hX) (by rw [hX.N, hX.sc]; exact bk) (fun s H C cl fp => pg_can _ (hX.blk scope s H C cl fp)) (fun s H C cl fp => pts_one (pt_can _ (hX.blk scope s H C cl fp))) (fun s H C cl fp => pe_can _ (hX.blk scope s H C cl fp)) (hs _),
    ev_lc ei hl hu (fun a => (hg a).can) hw (fun a => (ht a).can) (fun a => (he a).can)⟩
end
end Ty
set_option Elab.async false
set_option linter.all false
set_option maxRecDepth 100000
set_option maxHeartbeats 4000000
/-! Comprehensions given to a name, parallel assignments, pop; a def's body. -/
namespace Ty
open PySem PySem.Spec PyProof.Rows L2 StX

section
variable {𝓜 : Md} {S S' L ρ α β γ : Type} {c : Ctx} {e e1 e2 tg : Expr} {st : Stmt} {sts A B body tgs : List Stmt} {es : List Expr} {Γ Γ' Γ'' : List Slot} {Γn : S → List Slot} {Γs : S' → List Slot} {Γl : L → List Slot} {R : Rp ρ} {T : Rp α} {U : Rp β} {x : α} {m : 𝓜.M α} {pos p apos cpos spos : Pos} {i : Nat} {y : Str} {kk : Nat}
/-- y = [.. for ..] on one line, y a plain local -/
theorem xs_ownLc {scope : Scope} {own : List (Str × Nat)} {ws : List Nat} {Γ0 : List Slot} {ms : 𝓜.M (List α)} {f : α → 𝓜.M β} {Γb : α → List Slot} {k : List β → 𝓜.M (Fl S L ρ)} {Γ' : List β → List Slot} (hin : c.N[i]? = some y) (hlo : c.sc.names.lookup y = some .local) (hk : c.sc.kind = .function) (hline : (p.line == pos.line) = true)
    (ha : (scope.names.any fun (n, k) => n == y && (k == .local || k == .cell)) = false)
    (hi : XI 𝓜 c tg e Γ T ms) (bk : BlkOk c.N c.sc scope own) (hl : Le Γ0 Γ) (hu : Uns Γ0 (own.map (·.2))) (hg : ∀ a, XG (c.blk scope) tg Γ0 T a (Γb a) ws) (hw : ∀ j ∈ ws, j ∈ own.map (·.2))
    (he : ∀ a, XM 𝓜 (c.blk scope) e1 (Γb a) U (f a)) (q : ∀ a, Put Γ i (.own U a) (Γ' a)) (hr : ∀ a, XS 𝓜 c sts (Γ' a) Γn Γl R (k a)) (hs : ∀ env x, foldedSetIterable e env x = pure x := by intro _ _; rfl) :
    XS 𝓜 c (.Assign [.Name y p] (.ListComp e1 [⟨tg, e, [], 0⟩] scope pos) spos :: sts) Γ Γn Γl R (𝓜.bnd (𝓜.bnd ms fun l => lcM 𝓜 (fun _ => 𝓜.ret true) f l) k) :=
  let ⟨wi, pi, ei⟩ := hi; ⟨_, fun X hX => pss_cons (ps_setLc (i := i) hX.calm hX.nodup (by rw [hX.N]; exact hin) (by rw [hX.sc]; exact hlo) (sw_true (by rw [hX.sc]; exact hk) (by rw [hX.sc]; exact hlo) hline ha) (pi X hX) (by rw [hX.N, hX.sc]; exact bk) (fun s H C cl fp => pg_can _ (hX.blk scope s H C cl fp)) (fun _ _ _ _ _ => pts_nil) (fun s H C cl fp => pe_can _ (hX.blk scope s H C cl fp)) (hs _)) (pss_can X hX),
    fun C d ff d' G0 H0 σ G H D rr ok at0 kk => by
    obtain ⟨xs, d1, r1, rr⟩ := 𝓜.run_bnd rr
    show tLc wi _ _ _ _ σ H (fun x H1 => gName i x σ H1 fun σ' H' => WS c sts D σ' H')
    refine ev_lc (U := U) ei hl hu (fun a => (hg a).can) hw (tt := tYes) (te := WE (c.blk scope) e1) (pr := fun _ => 𝓜.ret true) (f := f) (fun a => fun C B d b d' σ G H Q rr ok at0 k => by
      obtain ⟨z1, z2⟩ := 𝓜.run_ret rr
      subst z1; subst z2
      exact k G H (Ext.refl ok.sub) at0) (fun a => (he a).can) C H0 d xs d1 σ G H _ r1 ok.ok at0 fun a vs G1 H1 na e1 a1 hp gp hz pr => ?_
    exact (hr xs).can C d1 ff d' G0 H0 _ G1 H1 D rr ⟨EnvOk.putOwn (ok.ok.ext e1.up) (q xs) hp gp (fun hc => ok.ok.dkh a hc na) (back_none ok.ex na) hz pr fun j hj => (own_new ok.ok na hj).elim, (ok.ext e1).ex⟩ a1 (kk.mono e1.g)⟩
theorem xs_ownLcIf {scope : Scope} {own : List (Str × Nat)} {ws : List Nat} {Γ0 : List Slot} {ms : 𝓜.M (List α)} {prd : α → 𝓜.M Bool} {f : α → 𝓜.M β} {Γb : α → List Slot} {k : List β → 𝓜.M (Fl S L ρ)} {Γ' : List β → List Slot} (hin : c.N[i]? = some y) (hlo : c.sc.names.lookup y = some .local) (hk : c.sc.kind = .function) (hline : (p.line == pos.line) = true)
    (ha : (scope.names.any fun (n, k) => n == y && (k == .local || k == .cell)) = false)
    (hi : XI 𝓜 c tg e Γ T ms) (bk : BlkOk c.N c.sc scope own) (hl : Le Γ0 Γ) (hu : Uns Γ0 (own.map (·.2))) (hg : ∀ a, XG (c.blk scope) tg Γ0 T a (Γb a) ws) (hw : ∀ j ∈ ws, j ∈ own.map (·.2))
    (ht : ∀ a, XT 𝓜 (c.blk scope) e2 (Γb a) (prd a)) (he : ∀ a, XM 𝓜 (c.blk scope) e1 (Γb a) U (f a)) (q : ∀ a, Put Γ i (.own U a) (Γ' a)) (hr : ∀ a, XS 𝓜 c sts (Γ' a) Γn Γl R (k a)) (hs : ∀ env x, foldedSetIterable e env x = pure x := by intro _ _; rfl) :
    XS 𝓜 c (.Assign [.Name y p] (.ListComp e1 [⟨tg, e, [e2], 0⟩] scope pos) spos :: sts) Γ Γn Γl R (𝓜.bnd (𝓜.bnd ms fun l => lcM 𝓜 prd f l) k) :=
  let ⟨wi, pi, ei⟩ := hi; ⟨_, fun X hX => pss_cons (ps_setLc (i := i) hX.calm hX.nodup (by rw [hX.N]; exact hin) (by rw [hX.sc]; exact hlo) (sw_true (by rw [hX.sc]; exact hk) (by rw [hX.sc]; exact hlo) hline ha) (pi X hX) (by rw [hX.N, hX.sc]; exact bk) (fun s H C cl fp => pg_can _ (hX.blk scope s H C cl fp)) (fun s H C cl fp => pts_one (pt_can _ (hX.blk scope s H C cl fp))) (fun s H C cl fp => pe_can _ (hX.blk scope s H C cl fp)) (hs _)) (pss_can X hX),
    fun C d ff d' G0 H0 σ G H D rr ok at0 kk => by
    obtain ⟨xs, d1, r1, rr⟩ := 𝓜.run_bnd rr
    show tLc wi _ _ _ _ σ H (fun x H1 => gName i x σ H1 fun σ' H' => WS c sts D σ' H')
    refine ev_lc (U := U) ei hl hu (fun a => (hg a).can) hw (tt := WT (c.blk scope) e2) (te := WE (c.blk scope) e1) (pr := prd) (f := f) (fun a => (ht a).can) (fun a => (he a).can) C H0 d xs d1 σ G H _ r1 ok.ok at0 fun a vs G1 H1 na e1 a1 hp gp hz pr => ?_
    exact (hr xs).can C d1 ff d' G0 H0 _ G1 H1 D rr ⟨EnvOk.putOwn (ok.ok.ext e1.up) (q xs) hp gp (fun hc => ok.ok.dkh a hc na) (back_none ok.ex na) hz pr fun j hj => (own_new ok.ok na hj).elim, (ok.ext e1).ex⟩ a1 (kk.mono e1.g)⟩
/-- a, b = e1, e2 with plain local names -/
theorem swap_of {env env' : Env} (h : env.scope = env'.scope) (tgs : List Expr) (v : Expr) : swappedStores tgs v env = swappedStores tgs v env' := by
  have hb : env.blockKind = env'.blockKind := by
    unfold Env.blockKind
    rw [h]
  have hk : env.kindOf = env'.kindOf := by
    funext n
    unfold Env.kindOf
    rw [h]
  unfold swappedStores
  rw [hb, hk]
def envS (sc : Scope) : Env := { scope := sc, locals := 0, globals := 0, cells := [], qual := "", func := none, code := .none, frame := none, builtins := 0 }
def unc {α β γ : Type} (k : α → β → γ) (p : α × β) : γ := k p.1 p.2
def unc3 {α β δ γ : Type} (k : α → β → δ → γ) (p : α × β × δ) : γ := k p.1 p.2.1 p.2.2
theorem xs_par {y2 : Str} {j : Nat} {px py pt : Pos} {kt k2 : Nat} {pt2 : Pos} {ms : 𝓜.M (α × β)} {k : α → β → 𝓜.M (Fl S L ρ)} {Γ1 : α → List Slot} {Γ' : α → β → List Slot} (hi : c.N[i]? = some y) (hj : c.N[j]? = some y2) (hij : i ≠ j) (hx : c.sc.names.lookup y = some .local) (hy : c.sc.names.lookup y2 = some .local)
    (hw : swappedStores [.Tuple [.Name y px, .Name y2 py] kt pt] (.Tuple [e1, e2] k2 pt2) (envS c.sc) = pure (some [y, y2])) (he : XA 𝓜 c [e1, e2] Γ (sCons T (sOne U)) ms) (q1 : ∀ a, Put Γ i (.val T a) (Γ1 a)) (q2 : ∀ a b, Put (Γ1 a) j (.val U b) (Γ' a b)) (hr : ∀ a b, XS 𝓜 c sts (Γ' a b) Γn Γl R (k a b))
    (hs : ∀ env, swapsWithSole [.Tuple [.Name y px, .Name y2 py] kt pt] (.Tuple [e1, e2] k2 pt2) pos.line env = pure false := by intro _; rfl) : XS 𝓜 c (.Assign [.Tuple [.Name y px, .Name y2 py] kt pt] (.Tuple [e1, e2] k2 pt2) pos :: sts) Γ Γn Γl R (𝓜.bnd ms (unc k)) :=
  let ⟨t, p, ee⟩ := he; ⟨_, fun X hX => pss_cons (ps_par hX.calm hX.nodup (by rw [hX.N]; exact hi) (by rw [hX.N]; exact hj) hij (by rw [hX.sc]; exact hx) (by rw [hX.sc]; exact hy) (p X hX) (by rw [swap_of (env' := envS c.sc) hX.sc]; exact hw) (hs _)) (pss_can X hX), fun C d f d' G0 H0 σ G H D rr ok at0 kk => by
    obtain ⟨ab, d1, r1, rr⟩ := 𝓜.run_bnd rr
    refine ee C H0 d ab d1 σ G H _ r1 ok.ok at0 fun vs G1 H1 e1 a1 ⟨v, ws, ev, rv, w, ew, rw'⟩ => ⟨v, w, by rw [ev, ew], ?_⟩
    exact (hr ab.1 ab.2).can C d1 f d' G0 H0 _ G1 H1 D rr (((ok.ext e1).put (q1 ab.1) rfl ⟨v, rfl, rv⟩).put (q2 ab.1 ab.2) rfl ⟨w, rfl, rw'⟩) a1 (kk.mono e1.g)⟩
theorem xs_par3 {y2 y3 : Str} {e3 : Expr} {j l : Nat} {px py pz pt : Pos} {kt k2 : Nat} {pt2 : Pos} {δ : Type} {W : Rp δ} {ms : 𝓜.M (α × β × δ)} {k : α → β → δ → 𝓜.M (Fl S L ρ)} {Γ1 : α → List Slot} {Γ2 : α → β → List Slot} {Γ' : α → β → δ → List Slot} (hi : c.N[i]? = some y) (hj : c.N[j]? = some y2) (hl : c.N[l]? = some y3) (hij : i ≠ j) (hil : i ≠ l) (hjl : j ≠ l)
    (hx : c.sc.names.lookup y = some .local) (hy : c.sc.names.lookup y2 = some .local) (hz : c.sc.names.lookup y3 = some .local)
    (hw : swappedStores [.Tuple [.Name y px, .Name y2 py, .Name y3 pz] kt pt] (.Tuple [e1, e2, e3] k2 pt2) (envS c.sc) = pure (some [y, y2, y3])) (he : XA 𝓜 c [e1, e2, e3] Γ (sCons T (sCons U (sOne W))) ms) (q1 : ∀ a, Put Γ i (.val T a) (Γ1 a)) (q2 : ∀ a b, Put (Γ1 a) j (.val U b) (Γ2 a b)) (q3 : ∀ a b z, Put (Γ2 a b) l (.val W z) (Γ' a b z)) (hr : ∀ a b z, XS 𝓜 c sts (Γ' a b z) Γn Γl R (k a b z))
    (hs : ∀ env, swapsWithSole [.Tuple [.Name y px, .Name y2 py, .Name y3 pz] kt pt] (.Tuple [e1, e2, e3] k2 pt2) pos.line env = pure false := by intro _; rfl) : XS 𝓜 c (.Assign [.Tuple [.Name y px, .Name y2 py, .Name y3 pz] kt pt] (.Tuple [e1, e2, e3] k2 pt2) pos :: sts) Γ Γn Γl R (𝓜.bnd ms (unc3 k)) :=
  let ⟨t, p, ee⟩ := he; ⟨_, fun X hX => pss_cons (ps_par3 hX.calm hX.nodup (by rw [hX.N]; exact hi) (by rw [hX.N]; exact hj) (by rw [hX.N]; exact hl) hij hil hjl (by rw [hX.sc]; exact hx) (by rw [hX.sc]; exact hy) (by rw [hX.sc]; exact hz) (p X hX) (by rw [swap_of (env' := envS c.sc) hX.sc]; exact hw) (hs _)) (pss_can X hX), fun C d f d' G0 H0 σ G H D rr ok at0 kk => by
    obtain ⟨ab, d1, r1, rr⟩ := 𝓜.run_bnd rr
    refine ee C H0 d ab d1 σ G H _ r1 ok.ok at0 fun vs G1 H1 e1 a1 ⟨v, ws, ev, rv, w, ws2, ew, rw', u, eu, ru⟩ => ⟨v, w, u, by rw [ev, ew, eu], ?_⟩
    exact (hr ab.1 ab.2.1 ab.2.2).can C d1 f d' G0 H0 _ G1 H1 D rr ((((ok.ext e1).put (q1 _) rfl ⟨v, rfl, rv⟩).put (q2 _ _) rfl ⟨w, rfl, rw'⟩).put (q3 _ _ _) rfl ⟨u, rfl, ru⟩) a1 (kk.mono e1.g)⟩
end

/-! ### a def's body -/
/-- a def of the text by its name -/
structure Def (g : Glb) (name : Str) (st : Stmt) (ps : List Str) : Prop where
  ex : ∃ f fd, g.mg name = some (.ref f) ∧ L2.Fun g.K name name st f fd ∧ Binds g.K fd ps []
@[reducible] def cx (g : Glb) (N : List Str) (sc : Scope) (k : Nat) (nd : N.Nodup) : Ctx := ⟨g, N, sc, fun _ => true, k, nd⟩
theorem inC_body {g : Glb} {N : List Str} {qual : Str} {sc : Scope} {k : Nat} {nd : N.Nodup} {f : Addr} {cdv : Value} {A : Around} {outer : List Env} {s : Shared} {H : Hp} {E : XK} (hr : Room k (A.deeper (envOfC qual sc s.heap.objs.size f cdv))) (hg : g.gd = true → A.guards = some []) :
    InC (cx g N sc k nd) (cxOf CX0 g.prog g.w g.K g.mg g.base N qual sc f cdv A outer s H E).nox :=
  ⟨rfl, rfl, rfl, rfl, rfl, rfl, rfl, fun _ _ => rfl, rfl, rfl, hr, fun z => by
    have hg := hg z
    show (A.deeper _).guards = some []
    first
      | exact hg
      | (simp [Around.deeper, Around.over, guardsOf, pushGuards, Code.guards, Code.isGuard, hg])⟩
theorem fnG_fun {g : Glb} {name qual : Str} {st : Stmt} {f : Addr} {fd : FuncData} {N ps : List Str} {k : Nat} {sp : Sp} (Fu : L2.Fun g.K name qual st f fd) (Sc : FnScope N ps (defScope st)) (len : ∀ vs H Q E, sp vs H Q E → vs.length = ps.length)
    (hbody : ∃ t, (∀ X, InC (cx g N (defScope st) k Sc.nd) X → PSs X (defBody st) t) ∧ ∀ vs H Q E, sp vs H Q E → t { nx := fun _ H' => Q .non H', rt := Q } (start N vs) H) : FnG g (k + 1) f fd ps sp := by
  refine ⟨len, fun A outer s H args us vs Q E hr hg e0 bd r hsp => ?_⟩
  obtain ⟨t, ht, hq⟩ := hbody
  obtain ⟨oc, od, kV, doc, pm, an, cdv, ct, osl, rfl, lk, hcd⟩ := Fu.ex
  have lenU : us.length = ps.length := by rw [← r.length]; exact len _ _ _ _ hsp
  have inK : g.K.In s.heap := e0.mod.kin.keeps fun b o z => (e0.bs b o z).1
  have noLim : s.heap.NoLimit := e0.mod.nolimit.keeps fun b o z => (e0.bs b o z).1
  have kinds : ∀ z ∈ ps.zip us, (defScope st).names.lookup z.1 = some .local ∨ ((defScope st).names.lookup z.1 = some .cell ∧ ((cellsFrom (s.heap.objs.size + 1) (defScope st).names []).lookup z.1).isSome = true) := by
    rintro ⟨z, v⟩ hz
    rcases Sc.par z (List.of_mem_zip hz).1 with q | q
    · exact Or.inl q
    · exact Or.inr ⟨q, PySem.W.cellsFrom_some _ _ _ (.inl q)⟩
  refine codeAny_call_function hr.depth (inK _ _ lk) rfl Sc.co Sc.gen rfl (PySem.W.codeRec_of inK hcd) (bd _ _ _ _ ?_)
  refine wpAny_newFunctionEnv_cells Sc.kind kinds fun env he s1 cl => ?_
  subst he
  refine ⟨noLim.keeps cl.toInCall.keep, codeAny_func ?_⟩
  have room := hr.deeper (envOfC qual (defScope st) s.heap.objs.size f cdv)
  have I := inv_start (CX := CX0) (E := E) Sc hr.hd e0 (len _ _ _ _ hsp) r cl
  have P := (ht _ (inC_body (E := E) (nd := Sc.nd) (H := H) (outer := outer) (s := s) room hg)).nox
  refine wpAny_mono (P.run [] s1 (start N vs) H _ I (hq vs H Q E hsp)) (fun fl s' done => ?_) fun _ _ z => z
  match fl, done with
  | .ret u, ⟨v, _, H', J, rv, q⟩ => exact ⟨v, H', J.os, J.bare, J.base, J.hok, rv, q⟩
  | .next, ⟨_, H', J, q⟩ => exact ⟨V.non, H', J.os, J.bare, J.base, J.hok, rfl, q⟩
  | .brk, ⟨_, _, _, q⟩ => exact q.elim
  | .cont, ⟨_, _, _, q⟩ => exact q.elim
theorem fnG_of {g : Glb} {name : Str} {st : Stmt} {N ps : List Str} {k : Nat} {sp : Sp} (F : Def g name st ps) (Sc : FnScope N ps (defScope st)) (len : ∀ vs H Q E, sp vs H Q E → vs.length = ps.length)
    (hbody : ∃ t, (∀ X, InC (cx g N (defScope st) k Sc.nd) X → PSs X (defBody st) t) ∧ ∀ vs H Q E, sp vs H Q E → t { nx := fun _ H' => Q .non H', rt := Q } (start N vs) H) : Fn g name ps (k + 1) sp := by
  obtain ⟨f, fd, hm, Fu, hb⟩ := F.ex
  exact ⟨f, fd, hm, Fu.kp, ⟨hb, let ⟨oc, od, kV, doc, pm, an, cdv, ct, osl, _, lk, _⟩ := Fu.ex; ⟨oc, od, osl, lk⟩⟩, fnG_fun Fu Sc len hbody⟩
end Ty
namespace Ty
open PySem PySem.Spec PyProof.Rows L2 StX
/-! ### from a block to a promise -/
def retO {S L ρ : Type} : Fl S L ρ → Option ρ
  | .rt r => some r
  | _ => none
/-- what a block returns -/
def retM {S L ρ : Type} (𝓜 : Md) (m : 𝓜.M (Fl S L ρ)) : 𝓜.M ρ := 𝓜.bnd m fun f => 𝓜.lft (retO f)
section
variable {α ρ : Type} {g : Glb} {name : Str} {st : Stmt} {N ps : List Str} {k : Nat} {A : Rps α} {R : Rp ρ}
/-- a def without cells -/
theorem fn_pure {S L : Type} {Γ : α → List Slot} {Γn : S → List Slot} {Γl : L → List Slot} {f : α → Option (Fl S L ρ)} (F : Def g name st ps) (Sc : FnScope N ps (defScope st)) (len : ∀ H vs x, A.r H vs x → vs.length = ps.length) (h0 : ∀ B G H vs x, A.r G vs x → Slots [] B G H (Γ x) (start N vs))
    (hno : ∀ (x : α) (i : Nat) (s : Slot), (Γ x)[i]? = some s → s.isOwn = false) (body : ∀ x, XS pureMd (cx g N (defScope st) k Sc.nd) (defBody st) (Γ x) Γn Γl R (f x)) : Fn g name ps (k + 1) (spP A R fun x => retM pureMd (f x)) := by
  refine fnG_of F Sc (fun vs H Q E ⟨G, x, z, _, _, ha, _⟩ => len _ _ _ ha) ⟨WS _ _, pss_can, fun vs H Q E ⟨G, x, z, e, sub, ha, kk⟩ => ?_⟩
  obtain ⟨fl, e1, e2⟩ := Option.bind_eq_some_iff.mp e
  obtain ⟨l1, l2⟩ := (h0 H G H vs x ha).ix
  refine (body x).can [] () fl () G H _ G H _ e1 ⟨⟨sub, l1, l2, fun i j p ⟨⟨s, q1, q2⟩, _⟩ _ => ?_, fun _ z => by simp at z, fun _ z => by simp at z⟩, Ext.refl sub⟩ trivial ?_
  · rw [hno x i s q1] at q2; cases q2
  · cases fl with
    | rt r =>
      cases e2
      exact fun v G' H' ex _ rr => kk v G' H' ex rr
    | nx s => cases e2
    | ct s => cases e2
    | bk s => cases e2
/-- a def whose first parameter is the first of the cells -/
theorem fn_cells {S L : Type} {𝓜 : Md} {Γ : α → List Slot} {Γn : S → List Slot} {Γl : L → List Slot} {f : α → 𝓜.M (Fl S L ρ)} (F : Def g name st ps) (Sc : FnScope N ps (defScope st)) (len : ∀ H vs x, A.r H vs x → vs.length + 1 = ps.length) (h0 : ∀ C a r B G H vs x, C = a :: r → A.r G vs x → Slots C B G H (Γ x) (start N (.ref a :: vs)))
    (hcells : ∀ C, 𝓜.cells C = C) (hno : ∀ (x : α) (i : Nat) (s : Slot), (Γ x)[i]? = some s → s.isOwn = false) (body : ∀ x, XS 𝓜 (cx g N (defScope st) k Sc.nd) (defBody st) (Γ x) Γn Γl R (f x)) : Fn g name ps (k + 1) (spD 𝓜 A R fun x => retM 𝓜 (f x)) := by
  refine fnG_of F Sc (fun vs H Q E ⟨C, G, x, z, d, d', a, r, ws, _, _, _, _, _, _, ev, ha, _⟩ => by rw [ev, List.length_cons]; exact len _ _ _ ha) ⟨WS _ _, pss_can, fun vs H Q E ⟨C, G, x, z, d, d', a, r, ws, e, at0, sub, dg, dh, eC, ev, ha, kk⟩ => ?_⟩
  obtain ⟨fl, d1, e1, e2⟩ := 𝓜.run_bnd e
  obtain ⟨q1, q2⟩ := 𝓜.run_lft e2
  subst q2
  subst ev
  obtain ⟨l1, l2⟩ := (h0 C a r H G H ws x eC ha).ix
  refine (body x).can C d fl d' G H _ G H _ e1 ⟨⟨sub, l1, l2, fun i j p ⟨⟨s, q1, q2⟩, _⟩ _ => ?_, dg, dh⟩, Ext.refl sub⟩ at0 ?_
  · rw [hno x i s q1] at q2; cases q2
  · cases fl with
    | rt r =>
      cases q1
      exact fun v G' H' ex a1 rr => kk v G' H' (by rw [hcells]; exact ex) a1 rr
    | nx s => cases q1
    | ct s => cases q1
    | bk s => cases q1
/-- the same promise, its function said otherwise -/
theorem Fn.eqP {fm fm' : α → Option ρ} (F : Fn g name ps k (spP A R fm)) (h : ∀ x z, fm' x = some z → fm x = some z) : Fn g name ps k (spP A R fm') := by
  obtain ⟨f, fd, hm, kp, hb, len, run⟩ := F.ex
  have imp : ∀ vs H Q E, spP A R fm' vs H Q E → spP A R fm vs H Q E := fun vs H Q E ⟨G, x, z, e, q⟩ => ⟨G, x, z, h x z e, q⟩
  exact ⟨f, fd, hm, kp, hb, fun vs H Q E q => len vs H Q E (imp _ _ _ _ q), fun A outer s H args us vs Q E hr hg e0 bd r q => run A outer s H args us vs Q E hr hg e0 bd r (imp _ _ _ _ q)⟩
theorem Fn.eqD {𝓜 : Md} {fm fm' : α → 𝓜.M ρ} (F : Fn g name ps k (spD 𝓜 A R fm)) (h : ∀ x d z d', 𝓜.run (fm' x) d z d' → 𝓜.run (fm x) d z d') : Fn g name ps k (spD 𝓜 A R fm') := by
  obtain ⟨f, fd, hm, kp, hb, len, run⟩ := F.ex
  have imp : ∀ vs H Q E, spD 𝓜 A R fm' vs H Q E → spD 𝓜 A R fm vs H Q E := fun vs H Q E ⟨C, G, x, z, d, d', a, r, ws, e, q⟩ => ⟨C, G, x, z, d, d', a, r, ws, h x d z d' e, q⟩
  exact ⟨f, fd, hm, kp, hb, fun vs H Q E q => len vs H Q E (imp _ _ _ _ q), fun A outer s H args us vs Q E hr hg e0 bd r q => run A outer s H args us vs Q E hr hg e0 bd r (imp _ _ _ _ q)⟩
theorem Fn.mono {sp : Sp} {k' : Nat} (F : Fn g name ps k sp) (h : k ≤ k') : Fn g name ps k' sp := by
  obtain ⟨f, fd, hm, kp, hb, len, run⟩ := F.ex
  exact ⟨f, fd, hm, kp, hb, len, fun A outer s H args us vs Q E hr hg e0 bd r q => run A outer s H args us vs Q E (hr.mono h) hg e0 bd r q⟩
end
end Ty
set_option Elab.async false
set_option linter.all false
set_option maxRecDepth 100000
set_option maxHeartbeats 4000000
/-! Plain data: == and repr; pop; calls with keywords. -/
namespace Ty
open PySem PySem.Spec PyProof.Rows L2 StX

/-- what is represented is plain data -/
structure Da (K : PySem.W.Frag) {α : Type} (R : Rp α) (d : α → PyData) : Prop where
  dp : ∀ H v x, R.r H v x → Dp K H v (d x)
structure Das (K : PySem.W.Frag) {α : Type} (A : Rps α) (d : α → List PyData) : Prop where
  dp : ∀ H vs x, A.r H vs x → DpAll K H vs (d x)
section
variable {K : PySem.W.Frag} {α β : Type} {R : Rp α} {A : Rps β} {d : α → PyData} {f : β → List PyData}
theorem da_I : Da K rI PyData.int := ⟨fun H v x h => by cases h; exact .int x⟩
theorem da_B : Da K rB PyData.bool := ⟨fun H v x h => by cases h; exact .bl x⟩
theorem da_N : Da K rN (fun _ => PyData.none) := ⟨fun H v x h => by cases h; exact .non⟩
theorem da_S : Da K rS (fun l => PyData.str (ofL l)) := ⟨fun H v x h => by rw [h.1]; exact .str _⟩
theorem dpAll_of (h : Da K R d) {H : Hp} : ∀ {vs : List V} {xs : List α}, Paired (R.r H) vs xs → DpAll K H vs (xs.map d)
  | _, _, .nil => .nil
  | _, _, .cons r t => .cons (h.dp _ _ _ r) (dpAll_of h t)
theorem da_L (h : Da K R d) : Da K (rL R) (fun xs => PyData.list (xs.map d)) := ⟨fun H v x ⟨a, vs, ev, hv, hz, pr⟩ => by rw [ev]; exact .lst (SqL.of hv) (dpAll_of h pr)⟩
theorem da_T (h : Das K A f) : Da K (rT K A) (fun x => PyData.tuple (f x)) := ⟨fun H v x ⟨a, vs, ev, hv, hz, pr⟩ => by rw [ev]; exact .tup hv (h.dp _ _ _ pr)⟩
theorem das_nil : Das K sNil (fun _ => []) := ⟨fun H vs x h => by cases h; exact .nil⟩
theorem das_one (h : Da K R d) : Das K (sOne R) (fun x => [d x]) := ⟨fun H vs x ⟨v, e, r⟩ => by rw [e]; exact .cons (h.dp _ _ _ r) .nil⟩
theorem das_cons (h : Da K R d) (g : Das K A f) : Das K (sCons R A) (fun x => d x.1 :: f x.2) := ⟨fun H vs x ⟨v, ws, e, r, q⟩ => by rw [e]; exact .cons (h.dp _ _ _ r) (g.dp _ _ _ q)⟩
theorem das_all (h : Da K R d) : Das K (sAll R) (fun xs => xs.map d) := ⟨fun H vs x r => dpAll_of h r⟩
def optD {α : Type} (dd : α → PyData) (o : Option α) : PyData := match o with | none => PyData.none | some x => dd x
theorem da_O {dd : α → PyData} (h : Da K R dd) : Da K (rO R) (optD dd) := ⟨fun H v o r => by
  cases o with
  | none => cases r; exact .non
  | some x => exact h.dp _ _ _ r⟩
mutual
theorem dp_same {H H' : Hp} (s : Same H H') : ∀ {v : V} {d : PyData}, Dp K H v d → Dp K H' v d
  | _, _, .non => .non
  | _, _, .bl b => .bl b
  | _, _, .int i => .int i
  | _, _, .str x => .str x
  | _, _, .lst h q => .lst (s.seq h) (dpAll_same s q)
  | _, _, .tup h q => .tup (same_t s h) (dpAll_same s q)
theorem dpAll_same {H H' : Hp} (s : Same H H') : ∀ {vs : List V} {ds : List PyData}, DpAll K H vs ds → DpAll K H' vs ds
  | _, _, .nil => .nil
  | _, _, .cons h q => .cons (dp_same s h) (dpAll_same s q)
end
/-- == of data, where it is shaped -/
def eqD (a b : PyData) : Option Bool := if SeqAt.shaped a = true ∧ SeqAt.shaped b = true then some (PyData.eqv a b) else none
theorem rp_eqD {S : Rp β} {e : β → PyData} (h1 : Da K R d) (h2 : Da K S e) : RP (rEqD K) R S rB (fun x y => eqD (d x) (e y)) := fun G H v w x y u Q q s r1 r2 k => by
  dsimp only [eqD] at q
  by_cases hz : SeqAt.shaped (d x) = true ∧ SeqAt.shaped (e y) = true
  · rw [if_pos hz] at q
    cases q
    exact ⟨d x, e y, dp_same s (h1.dp _ _ _ r1), dp_same s (h2.dp _ _ _ r2), hz.1, hz.2, k _ G H (Ext.refl s) rfl⟩
  · rw [if_neg hz] at q
    cases q
theorem rp_neD {S : Rp β} {e : β → PyData} (h1 : Da K R d) (h2 : Da K S e) : RP (rNeD K) R S rB (fun x y => (eqD (d x) (e y)).map (!·)) := fun G H v w x y u Q q s r1 r2 k => by
  dsimp only [eqD] at q
  by_cases hz : SeqAt.shaped (d x) = true ∧ SeqAt.shaped (e y) = true
  · rw [if_pos hz] at q
    cases q
    exact ⟨d x, e y, dp_same s (h1.dp _ _ _ r1), dp_same s (h2.dp _ _ _ r2), hz.1, hz.2, k _ G H (Ext.refl s) rfl⟩
  · rw [if_neg hz] at q
    cases q
theorem opEqD {c : Ctx} (X : Cx) (h : InC c X) : OpR X (compareOp .Eq) (rEqD c.g.K) := by
  rw [← h.K]
  exact op_eqD h.room.units
theorem opNeD {c : Ctx} (X : Cx) (h : InC c X) : OpR X (compareOp .NotEq) (rNeD c.g.K) := by
  rw [← h.K]
  exact op_neD h.room.units
/-! ### repr -/
def reprM (d : PyData) : Option (List Nat) := if d.showable = true ∧ d.hasDict = false ∧ d.depth ≤ 40 ∧ d.shown.length ≤ cap then some d.shown.cps.toList else none
def rRepr (K : PySem.W.Frag) : List V → Hp → VK → Prop := fun xs H Q => ∃ v d, xs = [v] ∧ Dp K H v d ∧ (d.showable = true ∧ d.hasDict = false ∧ d.depth ≤ 40 ∧ d.shown.length ≤ cap) ∧ Q (.str d.shown) H
theorem reprB {c : Ctx} (hgd : c.g.gd = true) (X : Cx) (h : InC c X) : CallR X (.builtin "repr") (rRepr c.g.K) := by
  rw [← h.K]
  intro pins s σ H xs us Q I r hh
  obtain ⟨v, d, rfl, dp, ⟨hs, hd, hdep, hz⟩, q⟩ := hh
  obtain ⟨u, rfl, ru⟩ := vals1 r
  cases dp with
  | non =>
    cases ru
    exact PySem.P.repr_of_none ⟨.str "None", H, I.tok _, ⟨_, rfl⟩, q⟩
  | bl b =>
    cases ru
    exact PySem.P.repr_of_bool ⟨.str _, H, I.tok _, ⟨_, rfl⟩, q⟩
  | int i =>
    obtain ⟨t, rfl⟩ := ru
    exact PySem.P.repr_of_int (by simpa [PyData.showable] using hs) ⟨.str _, H, I.tok _, ⟨_, rfl⟩, q⟩
  | str x =>
    obtain ⟨t, rfl⟩ := ru
    exact PySem.P.repr_of_str ⟨.str _, H, I.tok _, ⟨_, rfl⟩, q⟩ (cap_line hz)
  | @lst a xs ds hq ha =>
    obtain ⟨as, rd⟩ := Dp.reads I _ _ u (Dp.lst hq ha) ru
    cases ru
    exact repr_of_reads' (h₀ := s.heap) rd hs (PyData.noDict_hsm hd) (h.gd hgd) (by have := h.room.units; omega) (fun _ _ z => z) (fun h' t tk hk => ⟨.str _, H, I.kept hk, ⟨_, rfl⟩, q⟩) (cap_line hz)
  | @tup a xs ds hq ha =>
    obtain ⟨as, rd⟩ := Dp.reads I _ _ u (Dp.tup hq ha) ru
    cases ru
    exact repr_of_reads' (h₀ := s.heap) rd hs (PyData.noDict_hsm hd) (h.gd hgd) (by have := h.room.units; omega) (fun _ _ z => z) (fun h' t tk hk => ⟨.str _, H, I.kept hk, ⟨_, rfl⟩, q⟩) (cap_line hz)
theorem rp_repr (h : Da K R d) : RCP (rRepr K) (sOne R) rS (fun x => reprM (d x)) := fun G H vs x u Q q s ⟨v, ev, r⟩ k => by
  dsimp only [reprM] at q
  split at q
  · rename_i hz
    cases q
    refine ⟨v, d x, ev, dp_same s (h.dp _ _ _ r), hz, k _ G H (Ext.refl s) ⟨by rw [ofL_toList], ?_⟩⟩
    have := hz.2.2.2
    unfold Str.length at this
    simpa using this
  · cases q
end
end Ty
set_option Elab.async false
set_option linter.all false
set_option maxRecDepth 100000
set_option maxHeartbeats 4000000
/-! Calls with keywords, pop, a dict of written text keys, names changed by an operator. -/
namespace Ty
open PySem PySem.Spec PyProof.Rows L2 StX

section
variable {c : Ctx} {s : Str} {ps : List Str} {k : Nat} {sp : Sp} {e : Expr} {es : List Expr} {p pos : Pos} {t : TA}
/-- how a call with keywords alone binds: ks the keywords' names, gv puts their values in the parameters' order -/
structure KwB (g : Glb) (name : Str) (ps ks : List Str) (k : Nat) (sp : Sp) (gv : List V → List V) : Prop where
  ex : ∃ (f : Addr) (fd : FuncData) (gu : List Value → List Value), g.mg name = some (.ref f) ∧ PySem.W.keepIn g.K (.ref f) = true ∧ FnG g k f fd ps sp ∧
    (∀ (s : Shared) (ws : List Value), ws.length = ks.length → BindsTo s fd ⟨[], ks.zip ws⟩ (ps.zip (gu ws))) ∧ ∀ zs ws, Vals zs ws → zs.length = ks.length → Vals (gv zs) (gu ws)
def tCallKw (ks : List Str) (sp : Sp) (gv : List V → List V) (t : TA) : TE := fun σ H Q => t σ H fun zs H1 => zs.length = ks.length ∧ sp (gv zs) H1 Q E0
variable {ks : List Str} {gv : List V → List V} {kws : List Keyword} {tk : TA}
theorem pe_callKw {X : Cx} (F : KwB c.g s ps ks k sp gv) (hX : InC c X) (hk : k ≤ c.k) (hg : c.sc.names.lookup s = some .globalImplicit) (hkw : PK X kws tk) (hall : (backToKw pos (keywordEach kws X.env)).all (·.1.isSome) = true := by rfl) (hks : (backToKw pos (keywordEach kws X.env)).filterMap (·.1) = ks := by rfl)
    (hdb : (s == ("__debug__" : Str)) = false := by decide) (hpl : ((backTo pos (starEach [] X.env)).any (·.1) || (backToKw pos (keywordEach kws X.env)).any (·.1.isNone)) = false := by rfl) :
    PE X (.Call (.Name s p) [] kws pos) (tCallKw ks sp gv tk) := by
  obtain ⟨f, fd, gu, hm, kp, G, bd, rel⟩ := F.ex
  rw [hX.glb] at hm kp G
  refine ⟨fun pins s σ H Q I h => ?_⟩
  refine wpAny_Call_Name_kw (ld_glob I (hX.gl hg) hm ?_ hdb)
  refine PySem.W.callWith_KW0 (h₀ := X.base) I.ok.mod.kin kp hall (thn (hkw.run pos pins s σ H _ I h) fun ws s2 ⟨zs, H2, I2, rz, l, q2⟩ => ⟨I2.kIn, ?_⟩) hpl
  rw [hks]
  have lw : ws.length = ks.length := by rw [← rz.length]; exact l
  refine wpAny_call (codeAny_mono (G.run X.A X.stack s2 H2 ⟨[], ks.zip ws⟩ (gu ws) (gv zs) Q E0 (hX.room.mono hk) hX.gd I2.env0 (bd s2 ws lw) (rel zs ws rz l) q2) fun r s' hq => ?_)
  match r, hq with
  | .error _, hq => exact hq.elim
  | .ok (.ret _), hq => exact I2.after hq
  | .ok .next, hq => exact hq.elim
  | .ok .brk, hq => exact hq.elim
  | .ok .cont, hq => exact hq.elim
end
section
variable {𝓜 : Md} {α β γ : Type} {c : Ctx} {e e1 e2 : Expr} {es : List Expr} {Γ : List Slot} {R : Rp α} {U : Rp β} {T : Rp γ} {x : α} {m : 𝓜.M α} {n : 𝓜.M β} {pos p p1 p2 kp1 kp2 : Pos} {i k : Nat} {s : Str} {ps ks : List Str}
/-- keywords' values, from the left -/
def XK (𝓜 : Md) {α : Type} (c : Ctx) (kws : List Keyword) (Γ : List Slot) (A : Rps α) (m : 𝓜.M α) : Prop := ∃ t, (∀ X, InC c X → PK X kws t) ∧ EvA 𝓜 t Γ A m
theorem k_one {nm : Option Str} (h : XM 𝓜 c e Γ R m) : XK 𝓜 c [⟨nm, e, kp1⟩] Γ (sOne R) m :=
  let ⟨t, p, q⟩ := h; ⟨_, fun X hX => pk_cons (p X hX) pk_nil, fun C B d u d' σ G H Q rr ok ha k => q C B d u d' σ G H _ rr ok ha fun v G1 H1 e1 a1 r1 => k [v] G1 H1 e1 a1 ⟨v, rfl, r1⟩⟩
theorem k_cons {nm : Option Str} {kws : List Keyword} {A : Rps β} (h : XM 𝓜 c e Γ R m) (g : XK 𝓜 c kws Γ A n) : XK 𝓜 c (⟨nm, e, kp1⟩ :: kws) Γ (sCons R A) (𝓜.bnd m fun x => 𝓜.bnd n fun y => 𝓜.ret (x, y)) :=
  let ⟨t, p, q⟩ := h; let ⟨t2, p2, q2⟩ := g; ⟨_, fun X hX => pk_cons (p X hX) (p2 X hX), fun C B d u d' σ G H Q rr ok ha k => by
    obtain ⟨x, d1, r1, rr⟩ := 𝓜.run_bnd rr
    obtain ⟨y, d2, r2, rr⟩ := 𝓜.run_bnd rr
    obtain ⟨z1, z2⟩ := 𝓜.run_ret rr
    subst z1; subst z2
    exact q C B d x d1 σ G H _ r1 ok ha fun v G1 H1 e1 a1 p1 => q2 C B d1 y d' σ G1 H1 _ r2 (ok.ext (Ext.up e1)) a1 fun vs G2 H2 e2 a2 p2 => k (v :: vs) G2 H2 (e1.trans e2) a2 ⟨v, vs, rfl, R.st e2.g p1, p2⟩⟩
/-- f(k = e, ..): perm puts the values, as data, in the parameters' order -/
theorem xm_callKw {δ : Type} {A : Rps δ} {A' : Rps α} {fm : δ → Option γ} {gv : List V → List V} {perm : α → δ} {kws : List Keyword} (F : KwB c.g s ps ks k (spP A T fm) gv) (hk : k ≤ c.k) (hg : c.sc.names.lookup s = some .globalImplicit) (ha : XK 𝓜 c kws Γ A' m)
    (hp : ∀ H vs x, A'.r H vs x → vs.length = ks.length ∧ A.r H (gv vs) (perm x)) (hdb : (s == ("__debug__" : Str)) = false := by decide)
    (hall : ∀ env, (backToKw pos (keywordEach kws env)).all (·.1.isSome) = true := by intro _; rfl) (hks : ∀ env, (backToKw pos (keywordEach kws env)).filterMap (·.1) = ks := by intro _; rfl)
    (hpl : ∀ env, ((backTo pos (starEach [] env)).any (·.1) || (backToKw pos (keywordEach kws env)).any (·.1.isNone)) = false := by intro _; rfl) : XM 𝓜 c (.Call (.Name s p) [] kws pos) Γ T (𝓜.bnd m fun x => 𝓜.lft (fm (perm x))) :=
  let ⟨t, pa, ea⟩ := ha; ⟨_, fun X hX => pe_callKw F hX hk hg (pa X hX) (hall _) (hks _) hdb (hpl _), fun C B d u d' σ G H Q rr ok at0 kq => by
    obtain ⟨x, d1, r1, rr⟩ := 𝓜.run_bnd rr
    obtain ⟨q1, q2⟩ := 𝓜.run_lft rr
    subst q2
    refine ea C B d x d' σ G H _ r1 ok at0 fun vs G1 H1 e1 a1 p1 => ?_
    obtain ⟨l1, l2⟩ := hp _ _ _ p1
    exact ⟨l1, G1, perm x, u, q1, e1.sub, l2, fun v G2 H2 e2 r2 => kq v G2 H2 (e1.trans (Ext.mono e2)) (𝓜.at_st e2.hs a1) r2⟩⟩
end

/-! ### a dict with written text keys -/
section
variable {𝓜 : Md} {S L ρ α β γ : Type} {c : Ctx} {e e1 e2 tg : Expr} {sts : List Stmt} {es : List Expr} {Γ Γ' : List Slot} {Γn : S → List Slot} {Γl : L → List Slot} {R : Rp ρ} {T : Rp α} {U : Rp β} {x : α} {m : 𝓜.M α} {pos p apos cpos : Pos} {i : Nat} {y : Str} {kk : Nat}
def rRec (keys : List Str) (A : Rps α) : Rp α := ⟨fun H v x => ∃ a vs, v = .ref a ∧ H a = some (.dK ((keys.map Sum.inr).zip vs)) ∧ vs.length = keys.length ∧ A.r H vs x, fun s ⟨a, vs, e, h, z, r⟩ => ⟨a, vs, e, s _ _ h, z, A.st s r⟩⟩
end
end Ty
set_option Elab.async false
set_option linter.all false
set_option maxRecDepth 100000
set_option maxHeartbeats 4000000
/-! More rules: powers of written numbers, text[::-1], slices of partial readings, keyword calls from a def, records. -/
namespace Ty
open PySem PySem.Spec PyProof.Rows L2 StX

theorem noown_of {Γ : List Slot} {i : Nat} {s : Slot} (h : Γ.all (fun t => !t.isOwn) = true) (e : Γ[i]? = some s) : s.isOwn = false := by
  have hm := List.mem_of_getElem? e
  have := List.all_eq_true.mp h s hm
  simpa using this
section
variable {𝓜 : Md} {α β γ : Type} {c : Ctx} {e e1 e2 : Expr} {es : List Expr} {Γ Γ' : List Slot} {R : Rp α} {S : Rp β} {T : Rp γ} {x : α} {y : β} {m : 𝓜.M α} {n : 𝓜.M β} {pos p p2 : Pos} {i : Nat} {K : PySem.W.Frag} {s : Str}
theorem RC.pp {r : List V → Hp → VK → Prop} {A : Rps α} {f : α → γ} (h : RC r A T f) : RCP r A T (fun x => some (f x)) := fun G H vs x u Q e s h1 k => by
  cases e
  exact h G H vs x Q s h1 k
theorem xfm_callTy {id : String} {r : List V → Hp → VK → Prop} {A : Rps α} {f : α → List γ} (hc : ∀ X, InC c X → CallR X (.type id) r) (hr : RCF r A T f) (hg : c.sc.names.lookup s = some .globalImplicit) (hm : c.g.mg s = none) (hv : bootBuiltins s = some (.type id))
    (ha : XA 𝓜 c (e :: es) Γ A m) (hn : s ≠ "__name__" := by decide) (hdb : (s == ("__debug__" : Str)) = false := by decide)
    (he : ∀ env, starEach (e :: es) env = (false, eval e env) :: starEach es env := by intro _; rfl) (hpl : ∀ env, (backTo pos (starEach es env)).any (·.1) = false := by intro _; rfl) : XF 𝓜 c (.Call (.Name s p) (e :: es) [] pos) Γ T (𝓜.bnd m fun x => 𝓜.ret (f x)) :=
  let ⟨t, pa, ea⟩ := ha; ⟨_, fun X hX => pe_callTy (hc X hX) (hX.gl hg) (by rw [hX.mg]; exact hm) hv (pa X hX) hn hdb (he _) (hpl _), fun C B d u d' σ G H Q rr ok at0 k => by
    obtain ⟨x, d1, r1, rr⟩ := 𝓜.run_bnd rr
    obtain ⟨z1, z2⟩ := 𝓜.run_ret rr
    subst z1; subst z2
    exact ea C B d x d' σ G H _ r1 ok at0 fun vs G1 H1 e1 a1 r1 => hr G1 H1 vs x Q e1.sub r1 fun b ws nb hz pr =>
      k b ws G1 _ (back_none e1 nb) (e1.trans (Ext.newM e1.sub nb)) (𝓜.at_st (fun b' o q => by rw [upd_ne (ne_of_none q nb)]; exact q) a1) upd_same (free_of e1.sub nb) hz pr⟩
theorem xfm_rev {ms : 𝓜.M (List α)} {kk : Nat} {p4 p5 p6 : Pos} (h : XM 𝓜 c e Γ (rL R) ms) : XF 𝓜 c (.Subscript e (.Slice none none (some (.UnaryOp .USub (.Constant (.int 1) kk p4) p5)) p6) pos) Γ R (𝓜.bnd ms fun z => 𝓜.ret z.reverse) :=
  let ⟨t, p1, q1⟩ := h; ⟨tRevL c.g.K t, fun X hX => by rw [← hX.K]; exact pe_revL (p1 X hX), fun C B d u d' σ G H Q rr ok at0 k => by
    obtain ⟨x, d1, r1, rr⟩ := 𝓜.run_bnd rr
    obtain ⟨z1, z2⟩ := 𝓜.run_ret rr
    subst z1; subst z2
    exact q1 C B d x d' σ G H _ r1 ok at0 fun v G1 H1 e1 a1 ⟨a, vs, ev, hv, hz, pr⟩ => ⟨a, vs, ev, SqL.of (e1.sub _ _ hv), fun b nb => k b _ G1 _ (back_none e1 nb) (e1.trans (Ext.newM e1.sub nb)) (𝓜.at_st (fun b' o q => by rw [upd_ne (ne_of_none q nb)]; exact q) a1) upd_same (free_of e1.sub nb) (by rw [List.length_reverse]; exact hz) (paired_rev pr)⟩⟩
theorem xfm_slL {ms : 𝓜.M (List α)} {lo hi : Option Int} {ol oh : Option Expr} (h : XM 𝓜 c e Γ (rL R) ms) (hl : XO c ol Γ lo) (hh : XO c oh Γ hi) : XF 𝓜 c (.Subscript e (.Slice ol oh none p2) pos) Γ R (𝓜.bnd ms fun xs => 𝓜.ret (cut xs lo hi)) :=
  let ⟨t, p1, q1⟩ := h; let ⟨t2, p2, q2⟩ := hl; let ⟨t3, p3, q3⟩ := hh; ⟨tSl (rSlL c.g.K) t t2 t3, fun X hX => by rw [← hX.K]; exact pe_slice (sl_list (X := X)) (p1 X hX) (p2 X hX) (p3 X hX), fun C B d u d' σ G H Q rr ok at0 k => by
    obtain ⟨xs, d1, r1, rr⟩ := 𝓜.run_bnd rr
    obtain ⟨z1, z2⟩ := 𝓜.run_ret rr
    subst z1; subst z2
    exact q1 C B d xs d' σ G H _ r1 ok at0 fun v G1 H1 e1 a1 ⟨a, vs, ev, hv, hz, pr⟩ => q2 C B σ G1 H1 _ (ok.ext (Ext.up e1)) fun G2 H2 e2 => q3 C B σ G2 H2 _ ((ok.ext (Ext.up e1)).ext (Ext.mono e2)) fun G3 H3 e3 =>
      ⟨a, vs, ev, SqL.of (e3.sub _ _ (e3.g _ _ (e2.g _ _ hv))), fun b nb => k b _ G3 _ (back_none (e1.trans (e2.mono.trans e3.mono)) nb) ((e1.trans (e2.mono.trans e3.mono)).trans (Ext.newM e3.sub nb)) (𝓜.at_st (fun b' o q => by rw [upd_ne (ne_of_none q nb)]; exact q) (𝓜.at_st e3.hs (𝓜.at_st e2.hs a1))) upd_same (free_of e3.sub nb) (Nat.le_trans (cutV_length _ _ _) hz) (paired_cut lo hi (paired_st (e2.g.trans e3.g) pr))⟩⟩
theorem xm_slS {ms : 𝓜.M (List Nat)} {lo hi : Option Int} {ol oh : Option Expr} (h : XM 𝓜 c e Γ rS ms) (hl : XO c ol Γ lo) (hh : XO c oh Γ hi) : XM 𝓜 c (.Subscript e (.Slice ol oh none p2) pos) Γ rS (𝓜.bnd ms fun l => 𝓜.ret (cut l lo hi)) := by
  obtain ⟨t, p1, q1⟩ := h
  obtain ⟨t2, p2, q2⟩ := hl
  obtain ⟨t3, p3, q3⟩ := hh
  refine ⟨_, fun X hX => pe_slice sl_str (p1 X hX) (p2 X hX) (p3 X hX), fun C B d u d' σ G H Q rr ok at0 k => ?_⟩
  obtain ⟨l, d1, r1, rr⟩ := 𝓜.run_bnd rr
  obtain ⟨z1, z2⟩ := 𝓜.run_ret rr
  subst z1; subst z2
  refine q1 C B d l d' σ G H _ r1 ok at0 fun v G1 H1 e1 a1 hv => q2 C B σ G1 H1 _ (ok.ext (Ext.up e1)) fun G2 H2 e2 => q3 C B σ G2 H2 _ ((ok.ext (Ext.up e1)).ext (Ext.mono e2)) fun G3 H3 e3 => ?_
  refine ⟨ofL l, hv.1, by rw [ofL_len]; exact cap_line hv.2, k _ G3 H3 (e1.trans (e2.mono.trans e3.mono)) (𝓜.at_st e3.hs (𝓜.at_st e2.hs a1)) ⟨?_, Nat.le_trans (cut_len _ _ _) hv.2⟩⟩
  unfold cutS cut
  rw [ofL_len, ofL_cps]
  rfl
theorem rv_powK {a b : Int} (h : 0 ≤ b ∧ b ≤ 1000000 ∧ a.natAbs < 2 ^ 64) : RV (L2.rI CPow fun i j => .int (i ^ j.toNat)) (rIk a) (rIk b) rI (fun i j => i ^ j.toNat) := fun G H v w x y Q s h1 h2 k =>
  ⟨x, y, h1.1, h2.1, by rw [h1.2, h2.2]; exact h, k _ G H (Ext.refl s) rfl⟩

/-! ### text[::-1] -/
theorem str_pick (z : Str) : (Builtin.Str.strSliceIndices none none (-1) z.length).filterMap (z.cps[·]?) = z.cps.toList.reverse := by
  have e : Builtin.Str.strSliceIndices none none (-1) z.length = (List.range z.cps.size).map fun k => z.cps.size - 1 - k := by
    show sliceRange ((z.cps.size : Int) - 1) (-1) (-1) = _
    exact PySem.W.krv_sliceRange _
  rw [e, PySem.W.krv_range, List.filterMap_reverse, PySem.W.krv_all]
def tRevS (te : TE) : TE := fun σ H Q => te σ H fun x H1 => ∃ l : List Nat, x = .str (ofL l) ∧ l.length ≤ cap ∧ Q (.str (ofL l.reverse)) H1
theorem pe_revS {X : Cx} {e : Expr} {te : TE} {k : Nat} {p1 p2 p3 pos : Pos} (he : PE X e te) : PE X (.Subscript e (.Slice none none (some (.UnaryOp .USub (.Constant (.int 1) k p1) p2)) p3) pos) (tRevS te) := by
  refine ⟨fun pins s σ H Q I h => ?_⟩
  refine Subscript_ (thn (he.run pins s σ H _ I h) fun v s1 ⟨x, H1, I1, r1, q1⟩ => ?_)
  obtain ⟨zl, ex, hz, q⟩ := q1
  subst ex
  obtain ⟨t0, rfl⟩ := r1
  have hst : PO X (some (.UnaryOp .USub (.Constant (.int 1) k p1) p2)) (tPart (tUn (rU fun i => .int (-i)) (tC (.int 1)))) := po_some (pe_un un_neg pe_int)
  refine wpAny_Slice (thn (po_none.run pins s1 σ H1 (fun o H2 => o = none ∧ H2 = H1) I1 ⟨rfl, rfl⟩) fun vl s2 ⟨l, H2, I2, pl, el, e2⟩ => ?_)
  subst el e2
  refine thn (po_none.run pins s2 σ H2 (fun o H3 => o = none ∧ H3 = H2) I2 ⟨rfl, rfl⟩) fun vu s3 ⟨u, H3, I3, pu, eu, e3⟩ => ?_
  subst eu e3
  refine thn (hst.run pins s3 σ H3 (fun o H4 => o = some (-1) ∧ H4 = H3) I3 ⟨1, rfl, -1, rfl, rfl, rfl⟩) fun vs s4 ⟨o, H4, I4, ps, eo, e4⟩ => ?_
  subst eo e4
  have I5 : Inv X pins σ H4 { s4 with heap := s4.heap.push { cls := .type "slice", data := .fields #[vl, vu, vs] } } := I4.kept (t' := s4.toks) fun b ob q => Heap.get?_push_of_some _ q
  obtain ⟨l, rfl, el⟩ := IsPart.raw pl
  obtain ⟨u, rfl, eu⟩ := IsPart.raw pu
  obtain ⟨st, rfl, est⟩ := IsPart.raw ps
  cases l with
  | some l => cases el
  | none =>
  cases u with
  | some u => cases eu
  | none =>
  show wpAny (model X.prog X.w) X.A (subscriptTail e (.Slice none none (some (.UnaryOp .USub (.Constant (.int 1) k p1) p2)) p3) (.str (ofL zl) t0) (.ref s4.heap.objs.size)) (EP X pins σ Q) X.xe _
  refine tail_any (ops := [.str (ofL zl) t0, .ref s4.heap.objs.size]) (typeIs_str _ _ _) (F.slot_str_getitem.lookup) ?_ (by with_unfolding_all rfl)
  refine wpAny_getItem_str_slice (l := none) (u := none) (st := st) ⟨_, Heap.get?_push_size _ rfl, rfl, rfl⟩ (by rw [est]; rfl) ?_
  have hsm : sliceMade (ofL zl) t0 none none st = Made.str (ofL zl.reverse) := by
    unfold sliceMade
    have h1 : (st.map (·.1)).getD 1 = -1 := by rw [est]; rfl
    simp only [h1, Option.map_none]
    rw [if_neg (by simp)]
    show Made.str ⟨((Builtin.Str.strSliceIndices none none ((st.map (·.1)).getD 1) (ofL zl).length).filterMap ((ofL zl).cps[·]?)).toArray⟩ = _
    rw [h1, str_pick, ofL_cps]
    rfl
  rw [hsm]
  exact ⟨by rw [ofL_len, List.length_reverse]; exact cap_line hz, .str _, H4, I5.tok _, ⟨_, rfl⟩, q⟩
theorem x_revS {l : List Nat} {kk : Nat} {p4 p5 p6 : Pos} (h : XV c e Γ rS l) : XV c (.Subscript e (.Slice none none (some (.UnaryOp .USub (.Constant (.int 1) kk p4) p5)) p6) pos) Γ rS l.reverse :=
  let ⟨t, p1, q1⟩ := h; ⟨tRevS t, fun X hX => pe_revS (p1 X hX), fun C B σ G H Q ok k =>
    q1 C B σ G H _ ok fun v G1 H1 e1 ⟨ev, hz⟩ => ⟨l, ev, hz, k _ G1 H1 e1 ⟨rfl, by rw [List.length_reverse]; exact hz⟩⟩⟩
end

/-! ### records -/
section
variable {𝓜 : Md} {α β γ : Type} {c : Ctx} {e e1 e2 : Expr} {es : List Expr} {Γ Γ' : List Slot} {R : Rp α} {S : Rp β} {T : Rp γ} {x : α} {y : β} {m : 𝓜.M α} {n : 𝓜.M β} {pos p p2 : Pos} {i : Nat} {K : PySem.W.Frag} {s : Str}
theorem val_zip : ∀ {keys : List Str} {vs : List V} {j : Nat} {k : Str} {v : V}, keys.Nodup → keys[j]? = some k → vs[j]? = some v → valV ((keys.map (Sum.inr : Str → Key)).zip vs) (Sum.inr k) = some v
  | [], _, _, _, _, _, h, _ => by simp at h
  | _ :: _, [], _, _, _, _, _, h => by simp at h
  | a :: keys, w :: vs, 0, k, v, _, h1, h2 => by
    have e1 : a = k := by simpa using h1
    have e2 : w = v := by simpa using h2
    rw [List.map_cons, List.zip_cons_cons, valV_pos (by rw [e1]), e2]
  | a :: keys, w :: vs, j + 1, k, v, nd, h1, h2 => by
    have h1' : keys[j]? = some k := by simpa using h1
    have hne : ¬ (Sum.inr a : Key) = Sum.inr k := fun z => by
      cases z
      exact (List.nodup_cons.mp nd).1 (List.mem_of_getElem? h1')
    rw [List.map_cons, List.zip_cons_cons, valV_neg hne]
    exact val_zip (List.nodup_cons.mp nd).2 h1' (by simpa using h2)
theorem x_rec {keys : List Str} {A : Rps α} {j : Nat} {k : Str} {f : α → β} {kk : Nat} (ha : XV c e1 Γ (rRec keys A) x) (hi : Item A j S f) (hk : keys[j]? = some k) (nd : keys.Nodup := by decide +kernel) (hs : PlainIx (.Constant (.str k) kk p) := by intro _ _; rfl) :
    XV c (.Subscript e1 (.Constant (.str k) kk p) pos) Γ S (f x) :=
  let ⟨ta, pa, ea⟩ := ha; ⟨tDGet ta (tC (.str k)), fun X hX => pe_dget (by have := hX.room.units; omega) (pa X hX) pe_str (by intro _ _; rfl), fun C B σ G H Q ok q =>
    ea C B σ G H _ ok fun v G1 H1 e1 ⟨a, vs, ev, hv, hz, rr⟩ => by
      obtain ⟨z, h1, h2⟩ := item_at hi rr
      exact ⟨a, z, ev, .inl ⟨_, .inr k, .inl (e1.sub _ _ hv), rfl, (val_zip nd hk h1).symm⟩, q z G1 H1 e1 h2⟩⟩
theorem xm_rec {keys : List Str} {A : Rps α} {j : Nat} {k : Str} {f : α → β} {kk : Nat} (ha : XM 𝓜 c e1 Γ (rRec keys A) m) (hi : Item A j S f) (hk : keys[j]? = some k) (nd : keys.Nodup := by decide +kernel) (hs : PlainIx (.Constant (.str k) kk p) := by intro _ _; rfl) :
    XM 𝓜 c (.Subscript e1 (.Constant (.str k) kk p) pos) Γ S (𝓜.bnd m fun x => 𝓜.ret (f x)) :=
  let ⟨ta, pa, ea⟩ := ha; ⟨tDGet ta (tC (.str k)), fun X hX => pe_dget (by have := hX.room.units; omega) (pa X hX) pe_str (by intro _ _; rfl), fun C B d u d' σ G H Q rr ok at0 q => by
    obtain ⟨x, d1, r1, rr⟩ := 𝓜.run_bnd rr
    obtain ⟨z1, z2⟩ := 𝓜.run_ret rr
    subst z1; subst z2
    exact ea C B d x d' σ G H _ r1 ok at0 fun v G1 H1 e1 a1 ⟨a, vs, ev, hv, hz, rr⟩ => by
      obtain ⟨z, h1, h2⟩ := item_at hi rr
      exact ⟨a, z, ev, .inl ⟨_, .inr k, .inl (e1.sub _ _ hv), rfl, (val_zip nd hk h1).symm⟩, q z G1 H1 e1 a1 h2⟩⟩
/-- the pairs of a display, the keys written texts -/
def EvP (𝓜 : Md) {α : Type} (trs : List (TE × TE)) (keys : List Str) (Γ : List Slot) (A : Rps α) (m : 𝓜.M α) : Prop :=
  ∀ C B d x d' σ G H (Q : List (V × V) → Hp → Prop), 𝓜.run m d x d' → EnvOk C B Γ σ G H → 𝓜.at_ H C d → (∀ vs G' H', Ext (𝓜.cells C) G H G' H' → 𝓜.at_ H' C d' → vs.length = keys.length → A.r G' vs x → Q ((keys.map V.str).zip vs) H') → tPairs trs σ H Q
def XP (𝓜 : Md) {α : Type} (c : Ctx) (pos : Pos) (ks : List (Option Expr)) (es : List Expr) (keys : List Str) (Γ : List Slot) (A : Rps α) (m : 𝓜.M α) : Prop := ∃ trs, (∀ X, InC c X → PPs X pos ks es trs) ∧ EvP 𝓜 trs keys Γ A m
theorem d_one {kk : Nat} {kp : Pos} {k : Str} (h : XM 𝓜 c e Γ R m) : XP 𝓜 c pos [some (.Constant (.str k) kk kp)] [e] [k] Γ (sOne R) m :=
  let ⟨t, p, q⟩ := h; ⟨[(tC (.str k), t)], fun X hX => pps_cons pe_str (p X hX) pps_nil, fun C B d x d' σ G H Q rr ok at0 kq => q C B d x d' σ G H _ rr ok at0 fun v G1 H1 e1 a1 r1 => kq [v] G1 H1 e1 a1 rfl ⟨v, rfl, r1⟩⟩
theorem d_cons {kk : Nat} {kp : Pos} {k : Str} {ks : List (Option Expr)} {keys : List Str} {A : Rps β} (h : XM 𝓜 c e Γ R m) (g : XP 𝓜 c pos ks es keys Γ A n) : XP 𝓜 c pos (some (.Constant (.str k) kk kp) :: ks) (e :: es) (k :: keys) Γ (sCons R A) (𝓜.bnd m fun x => 𝓜.bnd n fun y => 𝓜.ret (x, y)) :=
  let ⟨t, p, q⟩ := h; let ⟨t2, p2, q2⟩ := g; ⟨(tC (.str k), t) :: t2, fun X hX => pps_cons pe_str (p X hX) (p2 X hX), fun C B d u d' σ G H Q rr ok at0 kq => by
    obtain ⟨x, d1, r1, rr⟩ := 𝓜.run_bnd rr
    obtain ⟨y, d2, r2, rr⟩ := 𝓜.run_bnd rr
    obtain ⟨z1, z2⟩ := 𝓜.run_ret rr
    subst z1; subst z2
    exact q C B d x d1 σ G H _ r1 ok at0 fun v G1 H1 e1 a1 p1 => q2 C B d1 y d' σ G1 H1 _ r2 (ok.ext (Ext.up e1)) a1 fun vs G2 H2 e2 a2 l2 p2 =>
      kq (v :: vs) G2 H2 (e1.trans e2) a2 (by simp [l2]) ⟨v, vs, rfl, R.st e2.g p1, p2⟩⟩
theorem merge_new : ∀ (more kvs : List (Key × V)), (kvs.map (·.1) ++ more.map (·.1)).Nodup → mergeK kvs more = kvs ++ more
  | [], kvs, _ => (List.append_nil _).symm
  | p :: more, kvs, nd => by
    show mergeK (putK kvs p.1 p.2) more = _
    have hno : (kvs.any fun kv => decide (kv.1 = p.1)) = false := by
      rw [List.any_eq_false]
      intro kv hkv he
      have he : kv.1 = p.1 := by simpa using he
      have := (List.nodup_append.mp nd).2.2 kv.1 (List.mem_map_of_mem hkv) p.1 (by simp)
      exact this he
    have hp : putK kvs p.1 p.2 = kvs ++ [p] := by
      unfold putK
      rw [hno]; rfl
    rw [hp, merge_new more (kvs ++ [p]) (by simpa using nd), List.append_assoc]; rfl
theorem nodup_inr : ∀ {keys : List Str}, keys.Nodup → (keys.map (Sum.inr : Str → Key)).Nodup
  | [], _ => List.nodup_nil
  | k :: keys, h => by
    rw [List.map_cons, List.nodup_cons]
    refine ⟨fun hm => ?_, nodup_inr (List.nodup_cons.mp h).2⟩
    obtain ⟨q, h1, h2⟩ := List.mem_map.mp hm
    cases h2
    exact (List.nodup_cons.mp h).1 h1
/-- {'k': e, ..} -/
theorem xm_dict {ks : List (Option Expr)} {keys : List Str} {A : Rps α} (h : XP 𝓜 c pos ks es keys Γ A m) (hnd : keys.Nodup := by decide +kernel) (h15 : keys.length ≤ 15 := by decide) (hall : ks.all (·.isSome) = true := by rfl) (hl : ks.length = es.length := by rfl) (h0 : ks ≠ [] := by exact fun z => nomatch z) (h16 : ks.length ≤ 15 := by decide) :
    XM 𝓜 c (.Dict ks es pos) Γ (rRec keys A) m :=
  let ⟨trs, p, q⟩ := h; ⟨tDisp trs, fun X hX => pe_disp (p X hX) hall hl h0 h16, fun C B d x d' σ G H Q rr ok at0 k => fun a na => by
    have e0 : Ext (𝓜.cells C) G H G (upd H a (.dK [])) := Ext.newM ok.sub na
    have nC : a ∉ C := fun hc => ok.dkh a hc na
    have ga : G a = none := free_of ok.sub na
    refine q C B d x d' σ G _ _ rr (ok.ext e0.up) (𝓜.at_st (fun b' o q => by rw [upd_ne (ne_of_none q na)]; exact q) at0) fun vs G1 H1 e1 a1 l1 r1 => ?_
    have ha : H1 a = some (.dK []) := e1.h _ _ (fun z => nC (𝓜.cells_sub z)) upd_same
    have ga1 : G1 a = none := e1.fr a (by rw [upd_same]; exact fun z => by cases z) ga
    refine ⟨ha, (keys.map Sum.inr).zip vs, ?_, ?_, ?_⟩
    · clear r1
      have : ∀ (keys : List Str) (vs : List V), (keys.map V.str).zip vs = ((keys.map (Sum.inr : Str → Key)).zip vs).map fun kv => (kV kv.1, kv.2) := by
        intro keys
        induction keys with
        | nil => intro vs; rfl
        | cons k keys ih =>
          intro vs
          cases vs with
          | nil => rfl
          | cons v vs => simp only [List.map_cons, List.zip_cons_cons, ih]; rfl
      exact this keys vs
    · rw [List.length_zip, List.length_map]
      exact Nat.le_trans (Nat.min_le_left _ _) h15
    · have hk : ((keys.map (Sum.inr : Str → Key)).zip vs).map (·.1) = keys.map Sum.inr := by
        rw [List.map_fst_zip]
        rw [List.length_map, l1]; exact Nat.le_refl _
      rw [merge_new _ [] (by rw [List.map_nil, List.nil_append, hk]; exact nodup_inr hnd), List.nil_append]
      have eP : Ext (𝓜.cells C) G H G1 (upd H1 a (.dK ((keys.map Sum.inr).zip vs))) := (e0.trans e1).put na ga1
      have eF := eP.fix na upd_same ga1
      refine k _ _ _ eF (𝓜.at_in (fun b o hb q => by rw [upd_ne (fun z => by subst z; exact nC hb)]; exact q) a1) ⟨a, vs, rfl, upd_same, l1, A.st (fun b o q => by rw [upd_ne (ne_of_none q ga1)]; exact q) r1⟩⟩
end
/-! ### keyword calls from a def -/
theorem kw_of {g : Glb} {name : Str} {st : Stmt} {ps ks : List Str} {k : Nat} {sp : Sp} {gv : List V → List V} (gu : List Value → List Value) (F : Def g name st ps) (Fp : Fn g name ps k sp)
    (hb : ∀ (kV doc pm : Value) (an : Option Addr) (cdv ct : Value) (ws : List Value), ws.length = ks.length → bindArgs (PySem.W.fnOf name name (defArgs st) (defBody st) (defScope st) .none kV doc pm an cdv ct) ⟨[], ks.zip ws⟩ = pure (ps.zip (gu ws)))
    (hrel : ∀ zs ws, Vals zs ws → zs.length = ks.length → Vals (gv zs) (gu ws)) : KwB g name ps ks k sp gv := by
  obtain ⟨f, fd, hm, kp, ⟨bd, oc2, od2, osl2, lk2⟩, G⟩ := Fp.ex
  obtain ⟨f', fd', hm', Fu, hd⟩ := F.ex
  have e : f = f' := by rw [hm] at hm'; cases hm'; rfl
  subst e
  obtain ⟨oc, od, kV, doc, pm, an, cdv, ct, osl, efd, lk, hcd⟩ := Fu.ex
  have efd2 : fd = fd' := by rw [lk] at lk2; cases lk2; rfl
  subst efd2
  exact ⟨f, fd, gu, hm, kp, G, fun s ws hl => .of_eq (by rw [efd]; exact hb kV doc pm an cdv ct ws hl), hrel⟩
end Ty
set_option Elab.async false
set_option linter.all false
set_option maxRecDepth 100000
set_option maxHeartbeats 4000000
/-! The same rules, what is looked up in a scope checked by the kernel at once. -/
namespace Ty
open PySem PySem.Spec PyProof.Rows L2 StX

def isVis (k : Option NameKind) : Bool := match k with
  | some .local => true
  | some .cell => true
  | some .free => true
  | _ => false
def isLoc (k : Option NameKind) : Bool := match k with
  | some .local => true
  | some .cell => true
  | _ => false
def isLocal (k : Option NameKind) : Bool := match k with
  | some .local => true
  | _ => false
def isGlob (k : Option NameKind) : Bool := match k with
  | some .globalImplicit => true
  | _ => false
def sameAt (N : List Str) (i : Nat) (s : Str) : Bool := match N[i]? with
  | some t => decide (t = s)
  | none => false
theorem sameAt_eq {N : List Str} {i : Nat} {s : Str} (h : sameAt N i s = true) : N[i]? = some s := by
  unfold sameAt at h
  split at h
  · rename_i t e
    rw [e, of_decide_eq_true h]
  · cases h
def okVar (N : List Str) (sc : Scope) (i : Nat) (s : Str) : Bool := sameAt N i s && isVis (sc.names.lookup s) && !(s == ("__debug__" : Str)) && !(s == ("__classdict__" : Str))
def okLoc (N : List Str) (sc : Scope) (i : Nat) (s : Str) : Bool := sameAt N i s && isLoc (sc.names.lookup s)
def okLocal (N : List Str) (sc : Scope) (i : Nat) (s : Str) : Bool := sameAt N i s && isLocal (sc.names.lookup s)
def okGlob (sc : Scope) (s : Str) : Bool := isGlob (sc.names.lookup s) && !(s == ("__debug__" : Str)) && !(s == ("__name__" : Str))
section
variable {N : List Str} {sc : Scope} {i : Nat} {s : Str}
theorem va_N (h : okVar N sc i s = true) : N[i]? = some s := by
  simp only [okVar, Bool.and_eq_true] at h
  exact sameAt_eq h.1.1.1
theorem va_V (h : okVar N sc i s = true) : Vis sc s := by
  simp only [okVar, Bool.and_eq_true] at h
  have := h.1.1.2
  unfold isVis at this
  split at this
  · rename_i e; exact .inl e
  · rename_i e; exact .inr (.inl e)
  · rename_i e; exact .inr (.inr e)
  · cases this
theorem va_d (h : okVar N sc i s = true) : (s == ("__debug__" : Str)) = false := by
  simp only [okVar, Bool.and_eq_true, Bool.not_eq_true'] at h
  exact h.1.2
theorem va_c (h : okVar N sc i s = true) : (s == ("__classdict__" : Str)) = false := by
  simp only [okVar, Bool.and_eq_true, Bool.not_eq_true'] at h
  exact h.2
theorem lo_N (h : okLoc N sc i s = true) : N[i]? = some s := by
  simp only [okLoc, Bool.and_eq_true] at h
  exact sameAt_eq h.1
theorem lo_L (h : okLoc N sc i s = true) : Loc sc s := by
  simp only [okLoc, Bool.and_eq_true] at h
  have := h.2
  unfold isLoc at this
  split at this
  · rename_i e; exact .inl e
  · rename_i e; exact .inr e
  · cases this
theorem ll_N (h : okLocal N sc i s = true) : N[i]? = some s := by
  simp only [okLocal, Bool.and_eq_true] at h
  exact sameAt_eq h.1
theorem ll_l (h : okLocal N sc i s = true) : sc.names.lookup s = some .local := by
  simp only [okLocal, Bool.and_eq_true] at h
  have := h.2
  unfold isLocal at this
  split at this
  · rename_i e; exact e
  · cases this
theorem gl_l (h : okGlob sc s = true) : sc.names.lookup s = some .globalImplicit := by
  simp only [okGlob, Bool.and_eq_true] at h
  have := h.1.1
  unfold isGlob at this
  split at this
  · rename_i e; exact e
  · cases this
theorem gl_d (h : okGlob sc s = true) : (s == ("__debug__" : Str)) = false := by
  simp only [okGlob, Bool.and_eq_true, Bool.not_eq_true'] at h
  exact h.1.2
theorem gl_n (h : okGlob sc s = true) : s ≠ ("__name__" : Str) := by
  simp only [okGlob, Bool.and_eq_true, Bool.not_eq_true'] at h
  intro e
  rw [e] at h
  have := h.2
  simp at this
end
section
variable {𝓜 : Md} {S S' L ρ α β γ δ : Type} {c : Ctx} {e e1 e2 e3 tg : Expr} {sts : List Stmt} {es : List Expr} {Γ Γ' : List Slot} {Γn : S → List Slot} {Γl : L → List Slot} {R : Rp ρ} {T : Rp α} {U : Rp β} {W : Rp δ} {x : α} {m : 𝓜.M α} {pos p p1 spos apos cpos : Pos} {i j l k : Nat} {s y y2 y3 : Str} {ps : List Str}
theorem x_v (q : Has Γ i (.val T x)) (h : okVar c.N c.sc i s = true := by kernel_rfl) : XV c (.Name s p) Γ T x := x_var (va_N h) (va_V h) q (va_d h) (va_c h)
theorem x_gI {j : Int} {t : Tok} (hm : c.g.mg s = some (.int j t)) (h : okGlob c.sc s = true := by kernel_rfl) : XV c (.Name s p) Γ rI j := x_globI (gl_l h) hm (gl_d h)
theorem x_gk {j : Int} {t : Tok} (hm : c.g.mg s = some (.int j t)) (h : okGlob c.sc s = true := by kernel_rfl) : XV c (.Name s p) Γ (rIk j) j := x_globk (gl_l h) hm (gl_d h)
theorem x_cB {T : Rp γ} {id : String} {r : List V → Hp → VK → Prop} {A : Rps α} {f : α → γ} (hc : ∀ X, InC c X → CallR X (.builtin id) r) (hr : RC r A T f) (hm : c.g.mg s = none) (hv : bootBuiltins s = some (.builtin id)) (ha : XAV c (e :: es) Γ A x) (h : okGlob c.sc s = true := by kernel_rfl)
    (he : ∀ env, starEach (e :: es) env = (false, eval e env) :: starEach es env := by intro _; rfl) (hpl : ∀ env, (backTo pos (starEach es env)).any (·.1) = false := by intro _; rfl) : XV c (.Call (.Name s p) (e :: es) [] pos) Γ T (f x) := x_callB hc hr (gl_l h) hm hv ha (gl_n h) (gl_d h) he hpl
theorem x_cTy {T : Rp γ} {id : String} {r : List V → Hp → VK → Prop} {A : Rps α} {f : α → γ} (hc : ∀ X, InC c X → CallR X (.type id) r) (hr : RC r A T f) (hm : c.g.mg s = none) (hv : bootBuiltins s = some (.type id)) (ha : XAV c (e :: es) Γ A x) (h : okGlob c.sc s = true := by kernel_rfl)
    (he : ∀ env, starEach (e :: es) env = (false, eval e env) :: starEach es env := by intro _; rfl) (hpl : ∀ env, (backTo pos (starEach es env)).any (·.1) = false := by intro _; rfl) : XV c (.Call (.Name s p) (e :: es) [] pos) Γ T (f x) := x_callTy hc hr (gl_l h) hm hv ha (gl_n h) (gl_d h) he hpl
theorem xm_cB {T : Rp γ} {id : String} {r : List V → Hp → VK → Prop} {A : Rps α} {f : α → Option γ} (hc : ∀ X, InC c X → CallR X (.builtin id) r) (hr : RCP r A T f) (hm : c.g.mg s = none) (hv : bootBuiltins s = some (.builtin id)) (ha : XA 𝓜 c (e :: es) Γ A m) (h : okGlob c.sc s = true := by kernel_rfl)
    (he : ∀ env, starEach (e :: es) env = (false, eval e env) :: starEach es env := by intro _; rfl) (hpl : ∀ env, (backTo pos (starEach es env)).any (·.1) = false := by intro _; rfl) : XM 𝓜 c (.Call (.Name s p) (e :: es) [] pos) Γ T (𝓜.bnd m fun x => 𝓜.lft (f x)) := xm_callB hc hr (gl_l h) hm hv ha (gl_n h) (gl_d h) he hpl
theorem xm_cTy {T : Rp γ} {id : String} {r : List V → Hp → VK → Prop} {A : Rps α} {f : α → Option γ} (hc : ∀ X, InC c X → CallR X (.type id) r) (hr : RCP r A T f) (hm : c.g.mg s = none) (hv : bootBuiltins s = some (.type id)) (ha : XA 𝓜 c (e :: es) Γ A m) (h : okGlob c.sc s = true := by kernel_rfl)
    (he : ∀ env, starEach (e :: es) env = (false, eval e env) :: starEach es env := by intro _; rfl) (hpl : ∀ env, (backTo pos (starEach es env)).any (·.1) = false := by intro _; rfl) : XM 𝓜 c (.Call (.Name s p) (e :: es) [] pos) Γ T (𝓜.bnd m fun x => 𝓜.lft (f x)) := xm_callTy hc hr (gl_l h) hm hv ha (gl_n h) (gl_d h) he hpl
theorem xf_cTy {T : Rp γ} {id : String} {r : List V → Hp → VK → Prop} {A : Rps α} {f : α → List γ} (hc : ∀ X, InC c X → CallR X (.type id) r) (hr : RCF r A T f) (hm : c.g.mg s = none) (hv : bootBuiltins s = some (.type id)) (ha : XAV c (e :: es) Γ A x) (h : okGlob c.sc s = true := by kernel_rfl)
    (he : ∀ env, starEach (e :: es) env = (false, eval e env) :: starEach es env := by intro _; rfl) (hpl : ∀ env, (backTo pos (starEach es env)).any (·.1) = false := by intro _; rfl) : XFV c (.Call (.Name s p) (e :: es) [] pos) Γ T (f x) := xf_callTy hc hr (gl_l h) hm hv ha (gl_n h) (gl_d h) he hpl
theorem xfm_cTy {T : Rp γ} {id : String} {r : List V → Hp → VK → Prop} {A : Rps α} {f : α → List γ} (hc : ∀ X, InC c X → CallR X (.type id) r) (hr : RCF r A T f) (hm : c.g.mg s = none) (hv : bootBuiltins s = some (.type id)) (ha : XA 𝓜 c (e :: es) Γ A m) (h : okGlob c.sc s = true := by kernel_rfl)
    (he : ∀ env, starEach (e :: es) env = (false, eval e env) :: starEach es env := by intro _; rfl) (hpl : ∀ env, (backTo pos (starEach es env)).any (·.1) = false := by intro _; rfl) : XF 𝓜 c (.Call (.Name s p) (e :: es) [] pos) Γ T (𝓜.bnd m fun x => 𝓜.ret (f x)) := xfm_callTy hc hr (gl_l h) hm hv ha (gl_n h) (gl_d h) he hpl
theorem xm_c {T : Rp γ} {A : Rps α} {fm : α → Option γ} (F : Fn c.g s ps k (spP A T fm)) (hk : k ≤ c.k) (ha : XA 𝓜 c (e :: es) Γ A m) (h : okGlob c.sc s = true := by kernel_rfl)
    (he : ∀ env, starEach (e :: es) env = (false, eval e env) :: starEach es env := by intro _; rfl) (hpl : ∀ env, (backTo pos (starEach es env)).any (·.1) = false := by intro _; rfl) : XM 𝓜 c (.Call (.Name s p) (e :: es) [] pos) Γ T (𝓜.bnd m fun x => 𝓜.lft (fm x)) := xm_call F hk (gl_l h) ha (gl_d h) he hpl
theorem xm_c0 {T : Rp γ} {fm : Unit → Option γ} (F : Fn c.g s ps k (spP sNil T fm)) (hk : k ≤ c.k) (h : okGlob c.sc s = true := by kernel_rfl) : XM 𝓜 c (.Call (.Name s p) [] [] pos) Γ T (𝓜.lft (fm ())) := xm_call0 F hk (gl_l h) (gl_d h)
theorem xm_cD {T : Rp γ} {A : Rps α} {fm : α → 𝓜.M γ} {sd : Str} (F : Fn c.g s ps k (spD 𝓜 A T fm)) (hk : k ≤ c.k) (hd : Has Γ i .dk) (ha : XA 𝓜 c es Γ A m) (h : okGlob c.sc s = true := by kernel_rfl) (h2 : okVar c.N c.sc i sd = true := by kernel_rfl)
    (he : ∀ env, starEach (.Name sd p1 :: es) env = (false, eval (.Name sd p1) env) :: starEach es env := by intro _; rfl) (hpl : ∀ env, (backTo pos (starEach es env)).any (·.1) = false := by intro _; rfl) : XM 𝓜 c (.Call (.Name s p) (.Name sd p1 :: es) [] pos) Γ T (𝓜.bnd m fm) :=
  xm_callD F hk (gl_l h) (va_N h2) (va_V h2) hd ha (gl_d h) (va_d h2) (va_c h2) he hpl
theorem xm_cKw {T : Rp γ} {ks : List Str} {A : Rps δ} {A' : Rps α} {fm : δ → Option γ} {gv : List V → List V} {perm : α → δ} {kws : List Keyword} (F : KwB c.g s ps ks k (spP A T fm) gv) (hk : k ≤ c.k) (ha : XK 𝓜 c kws Γ A' m) (hp : ∀ H vs x, A'.r H vs x → vs.length = ks.length ∧ A.r H (gv vs) (perm x)) (h : okGlob c.sc s = true := by kernel_rfl)
    (hall : ∀ env, (backToKw pos (keywordEach kws env)).all (·.1.isSome) = true := by intro _; rfl) (hks : ∀ env, (backToKw pos (keywordEach kws env)).filterMap (·.1) = ks := by intro _; rfl)
    (hpl : ∀ env, ((backTo pos (starEach [] env)).any (·.1) || (backToKw pos (keywordEach kws env)).any (·.1.isNone)) = false := by intro _; rfl) : XM 𝓜 c (.Call (.Name s p) [] kws pos) Γ T (𝓜.bnd m fun x => 𝓜.lft (fm (perm x))) := xm_callKw F hk (gl_l h) ha hp (gl_d h) hall hks hpl
theorem i_rng1 {mi : 𝓜.M Int} (hm : c.g.mg "range" = none) (h : XM 𝓜 c e Γ rI mi) (hg : okGlob c.sc "range" = true := by kernel_rfl) (hs : ∀ env, starEach [e] env = [(false, eval e env)] := by intro _; rfl) : XI 𝓜 c tg (.Call (.Name "range" p) [e] [] pos) Γ rI (𝓜.bnd mi fun n => 𝓜.lft (rangeM n)) := i_range1 (gl_l hg) hm h hs
theorem i_rng2 {mi mj : 𝓜.M Int} (hm : c.g.mg "range" = none) (h : XM 𝓜 c e Γ rI mi) (h2 : XM 𝓜 c e1 Γ rI mj) (hg : okGlob c.sc "range" = true := by kernel_rfl) (hs : ∀ env, starEach [e, e1] env = [(false, eval e env), (false, eval e1 env)] := by intro _; rfl)
    (hs2 : ∀ env, starEach [e1] env = [(false, eval e1 env)] := by intro _; rfl) : XI 𝓜 c tg (.Call (.Name "range" p) [e, e1] [] pos) Γ rI (𝓜.bnd mi fun a => 𝓜.bnd mj fun b => 𝓜.lft (rangeM2 a b)) := i_range2 (gl_l hg) hm h h2 hs hs2
theorem i_enu {kk : Nat} {ms : 𝓜.M (List α)} {elts : List Expr} {tpos : Pos} (hm : c.g.mg "enumerate" = none) (h : XM 𝓜 c e Γ (rL T) ms) (hg : okGlob c.sc "enumerate" = true := by kernel_rfl) (hs : ∀ env, starEach [e] env = [(false, eval e env)] := by intro _; rfl) :
    XI 𝓜 c (.Tuple elts kk tpos) (.Call (.Name "enumerate" p) [e] [] pos) Γ (rT c.g.K (sCons rI (sOne T))) (𝓜.bnd ms fun l => 𝓜.ret (enumL l)) := i_enum (gl_l hg) hm h hs
theorem i_zp {kk : Nat} {ms : 𝓜.M (List α)} {ns : 𝓜.M (List β)} {elts : List Expr} {tpos : Pos} (hm : c.g.mg "zip" = none) (h : XM 𝓜 c e Γ (rL T) ms) (h2 : XM 𝓜 c e1 Γ (rL U) ns) (hg : okGlob c.sc "zip" = true := by kernel_rfl)
    (hs : ∀ env, starEach [e, e1] env = (false, eval e env) :: starEach [e1] env := by intro _; rfl) (hs1 : ∀ env, starEach [e1] env = (false, eval e1 env) :: starEach [] env := by intro _; rfl) (hpl : ∀ env, (backTo pos (starEach [e1] env)).any (·.1) = false := by intro _; rfl) :
    XI 𝓜 c (.Tuple elts kk tpos) (.Call (.Name "zip" p) [e, e1] [] pos) Γ (rT c.g.K (sCons T (sOne U))) (𝓜.bnd ms fun l => 𝓜.bnd ns fun r => 𝓜.ret (l.zip r)) := i_zip (gl_l hg) hm h h2 hs hs1 hpl
/-- a name of the def as a target; of a comprehension -/
theorem g_n (q : Put Γ i (.val T x) Γ') (hf : c.fn = fun _ => true := by rfl) (h : okLoc c.N c.sc i y = true := by kernel_rfl) : XG c (.Name y p) Γ T x Γ' [i] := g_name (lo_N h) (lo_L h) (.inl (by rw [hf])) q
theorem g_b (q : Put Γ i (.val T x) Γ') (h : okLocal c.N c.sc i y = true := by kernel_rfl) : XG c (.Name y p) Γ T x Γ' [i] := g_name (ll_N h) (.inl (ll_l h)) (.inr (ll_l h)) q
theorem xs_st {k : α → 𝓜.M (Fl S L ρ)} {Γ' : α → List Slot} (he : XV c e Γ T x) (q : ∀ a, Put Γ i (.val T a) (Γ' a)) (hr : ∀ a, XS 𝓜 c sts (Γ' a) Γn Γl R (k a)) (hf : c.fn = fun _ => true := by rfl) (h : okLoc c.N c.sc i y = true := by kernel_rfl)
    (hs : ∀ X, InC c X → swapsWith e (some (.Name y p)) pos.line X.env = pure false := by intro _ _; rfl) : XS 𝓜 c (.Assign [.Name y p] e pos :: sts) Γ Γn Γl R (lt x k) := xs_set (lo_N h) (lo_L h) (.inl (by rw [hf])) he q hr hs
theorem xs_stM {k : α → 𝓜.M (Fl S L ρ)} {Γ' : α → List Slot} (he : XM 𝓜 c e Γ T m) (q : ∀ a, Put Γ i (.val T a) (Γ' a)) (hr : ∀ a, XS 𝓜 c sts (Γ' a) Γn Γl R (k a)) (hf : c.fn = fun _ => true := by rfl) (h : okLoc c.N c.sc i y = true := by kernel_rfl)
    (hs : ∀ X, InC c X → swapsWith e (some (.Name y p)) pos.line X.env = pure false := by intro _ _; rfl) : XS 𝓜 c (.Assign [.Name y p] e pos :: sts) Γ Γn Γl R (𝓜.bnd m k) := xs_setM (lo_N h) (lo_L h) (.inl (by rw [hf])) he q hr hs
theorem xs_ow {xs : List α} {k : List α → 𝓜.M (Fl S L ρ)} {Γ' : List α → List Slot} (he : XFV c e Γ T xs) (q : ∀ a, Put Γ i (.own T a) (Γ' a)) (hr : ∀ a, XS 𝓜 c sts (Γ' a) Γn Γl R (k a)) (hf : c.fn = fun _ => true := by rfl) (h : okLoc c.N c.sc i y = true := by kernel_rfl)
    (hs : ∀ X, InC c X → swapsWith e (some (.Name y p)) pos.line X.env = pure false := by intro _ _; rfl) : XS 𝓜 c (.Assign [.Name y p] e pos :: sts) Γ Γn Γl R (lt xs k) := xs_own (lo_N h) (lo_L h) (.inl (by rw [hf])) he q hr hs
theorem xs_owM {ms : 𝓜.M (List α)} {k : List α → 𝓜.M (Fl S L ρ)} {Γ' : List α → List Slot} (he : XF 𝓜 c e Γ T ms) (q : ∀ a, Put Γ i (.own T a) (Γ' a)) (hr : ∀ a, XS 𝓜 c sts (Γ' a) Γn Γl R (k a)) (hf : c.fn = fun _ => true := by rfl) (h : okLoc c.N c.sc i y = true := by kernel_rfl)
    (hs : ∀ X, InC c X → swapsWith e (some (.Name y p)) pos.line X.env = pure false := by intro _ _; rfl) : XS 𝓜 c (.Assign [.Name y p] e pos :: sts) Γ Γn Γl R (𝓜.bnd ms k) := xs_ownM (lo_N h) (lo_L h) (.inl (by rw [hf])) he q hr hs
theorem xs_ap {xs : List α} {k : α → 𝓜.M (Fl S L ρ)} {Γ' : α → List Slot} (h : Has Γ i (.own T xs)) (he : XM 𝓜 c e Γ T m) (q : ∀ a, Put Γ i (.own T (xs ++ [a])) (Γ' a)) (hr : ∀ a, XS 𝓜 c sts (Γ' a) Γn Γl R (k a)) (hv : okVar c.N c.sc i y = true := by kernel_rfl)
    (hs : ∀ env, starEach (e :: []) env = (false, eval e env) :: starEach [] env := by intro _; rfl) (hb : ∀ env, attributeBase (.Name y p) "append" env (eval (.Name y p) env) = eval (.Name y p) env := by intro _; rfl)
    (hfew : ∀ env, ((backTo cpos (starEach (e :: []) env)).all (fun x => !x.1) && (backToKw cpos (keywordEach [] env)).all (fun x => x.1.isSome)
      && decide ((e :: ([] : List Expr)).length + ([] : List Keyword).length + (if ([] : List Keyword).isEmpty then 0 else 1) < 30)) = true := by intro _; rfl)
    (hline : (apos.endLine == cpos.line) = true := by rfl) (hpl : ∀ env, (backTo cpos (starEach [] env)).any (·.1) = false := by intro _; rfl) (hsw : ∀ env, swapsWith (.Call (.Attribute (.Name y p) "append" apos) [e] [] cpos) none pos.line env = pure false := by intro _; rfl) :
    XS 𝓜 c (.Expr (.Call (.Attribute (.Name y p) "append" apos) [e] [] cpos) pos :: sts) Γ Γn Γl R (𝓜.bnd m fun a => 𝓜.bnd (𝓜.lft (okLen xs.length)) fun _ => k a) := xs_app (va_N hv) (va_V hv) h he q hr (va_d hv) (va_c hv) hs hb hfew hline hpl hsw
theorem xs_oLc {scope : Scope} {own : List (Str × Nat)} {ws : List Nat} {Γ0 : List Slot} {ms : 𝓜.M (List α)} {f : α → 𝓜.M β} {Γb : α → List Slot} {k : List β → 𝓜.M (Fl S L ρ)} {Γ' : List β → List Slot}
    (hi : XI 𝓜 c tg e Γ T ms) (hl : Le Γ0 Γ) (hu : Uns Γ0 (own.map (·.2))) (hg : ∀ a, XG (c.blk scope) tg Γ0 T a (Γb a) ws) (he : ∀ a, XM 𝓜 (c.blk scope) e1 (Γb a) U (f a)) (q : ∀ a, Put Γ i (.own U a) (Γ' a)) (hr : ∀ a, XS 𝓜 c sts (Γ' a) Γn Γl R (k a)) (hin : okLocal c.N c.sc i y = true := by kernel_rfl) (hk : c.sc.kind = .function := by rfl) (hline : (p.line == pos.line) = true := by rfl)
    (ha : (scope.names.any fun (n, k) => n == y && (k == .local || k == .cell)) = false := by kernel_rfl) (bk : blkC c.N c.sc scope own = true := by kernel_rfl) (hw : (ws.all fun j => (own.map (·.2)).contains j) = true := by rfl) (hs : ∀ env x, foldedSetIterable e env x = pure x := by intro _ _; rfl) :
    XS 𝓜 c (.Assign [.Name y p] (.ListComp e1 [⟨tg, e, [], 0⟩] scope pos) spos :: sts) Γ Γn Γl R (𝓜.bnd (𝓜.bnd ms fun l => lcM 𝓜 (fun _ => 𝓜.ret true) f l) k) :=
  xs_ownLc (ll_N hin) (ll_l hin) hk hline ha hi (blkOk_by bk) hl hu hg (fun j hj => by simpa using List.all_eq_true.mp hw j hj) he q hr hs
theorem xs_oLcIf {scope : Scope} {own : List (Str × Nat)} {ws : List Nat} {Γ0 : List Slot} {ms : 𝓜.M (List α)} {prd : α → 𝓜.M Bool} {f : α → 𝓜.M β} {Γb : α → List Slot} {k : List β → 𝓜.M (Fl S L ρ)} {Γ' : List β → List Slot}
    (hi : XI 𝓜 c tg e Γ T ms) (hl : Le Γ0 Γ) (hu : Uns Γ0 (own.map (·.2))) (hg : ∀ a, XG (c.blk scope) tg Γ0 T a (Γb a) ws) (ht : ∀ a, XT 𝓜 (c.blk scope) e2 (Γb a) (prd a)) (he : ∀ a, XM 𝓜 (c.blk scope) e1 (Γb a) U (f a)) (q : ∀ a, Put Γ i (.own U a) (Γ' a)) (hr : ∀ a, XS 𝓜 c sts (Γ' a) Γn Γl R (k a)) (hin : okLocal c.N c.sc i y = true := by kernel_rfl) (hk : c.sc.kind = .function := by rfl) (hline : (p.line == pos.line) = true := by rfl)
    (ha : (scope.names.any fun (n, k) => n == y && (k == .local || k == .cell)) = false := by kernel_rfl) (bk : blkC c.N c.sc scope own = true := by kernel_rfl) (hw : (ws.all fun j => (own.map (·.2)).contains j) = true := by rfl) (hs : ∀ env x, foldedSetIterable e env x = pure x := by intro _ _; rfl) :
    XS 𝓜 c (.Assign [.Name y p] (.ListComp e1 [⟨tg, e, [e2], 0⟩] scope pos) spos :: sts) Γ Γn Γl R (𝓜.bnd (𝓜.bnd ms fun l => lcM 𝓜 prd f l) k) :=
  xs_ownLcIf (ll_N hin) (ll_l hin) hk hline ha hi (blkOk_by bk) hl hu hg (fun j hj => by simpa using List.all_eq_true.mp hw j hj) ht he q hr hs
theorem xf_c {scope : Scope} {own : List (Str × Nat)} {ws : List Nat} {Γ0 : List Slot} {ms : 𝓜.M (List α)} {f : α → 𝓜.M β} {Γb : α → List Slot} (hi : XI 𝓜 c tg e Γ T ms) (hl : Le Γ0 Γ) (hu : Uns Γ0 (own.map (·.2))) (hg : ∀ a, XG (c.blk scope) tg Γ0 T a (Γb a) ws) (he : ∀ a, XM 𝓜 (c.blk scope) e1 (Γb a) U (f a))
    (bk : blkC c.N c.sc scope own = true := by kernel_rfl) (hw : (ws.all fun j => (own.map (·.2)).contains j) = true := by rfl) (hs : ∀ env x, foldedSetIterable e env x = pure x := by intro _ _; rfl) : XF 𝓜 c (.ListComp e1 [⟨tg, e, [], 0⟩] scope pos) Γ U (𝓜.bnd ms fun l => lcM 𝓜 (fun _ => 𝓜.ret true) f l) :=
  xf_lc hi (blkOk_by bk) hl hu hg (fun j hj => by simpa using List.all_eq_true.mp hw j hj) he hs
theorem xf_cIf {scope : Scope} {own : List (Str × Nat)} {ws : List Nat} {Γ0 : List Slot} {ms : 𝓜.M (List α)} {pr : α → 𝓜.M Bool} {f : α → 𝓜.M β} {Γb : α → List Slot} (hi : XI 𝓜 c tg e Γ T ms) (hl : Le Γ0 Γ) (hu : Uns Γ0 (own.map (·.2))) (hg : ∀ a, XG (c.blk scope) tg Γ0 T a (Γb a) ws) (ht : ∀ a, XT 𝓜 (c.blk scope) e2 (Γb a) (pr a)) (he : ∀ a, XM 𝓜 (c.blk scope) e1 (Γb a) U (f a))
    (bk : blkC c.N c.sc scope own = true := by kernel_rfl) (hw : (ws.all fun j => (own.map (·.2)).contains j) = true := by rfl) (hs : ∀ env x, foldedSetIterable e env x = pure x := by intro _ _; rfl) : XF 𝓜 c (.ListComp e1 [⟨tg, e, [e2], 0⟩] scope pos) Γ U (𝓜.bnd ms fun l => lcM 𝓜 pr f l) :=
  xf_lcIf hi (blkOk_by bk) hl hu hg (fun j hj => by simpa using List.all_eq_true.mp hw j hj) ht he hs
theorem sw_c {elt : Expr} {gs : List Comprehension} {scope : Scope} {l : Nat} {p2 : Pos} (X : Cx) (hX : InC c X) (h : isLocal (c.sc.names.lookup y) = false := by kernel_rfl) : swapsWith (.ListComp elt gs scope p2) (some (.Name y p)) l X.env = pure false :=
  sw_cell (fun z => by rw [z] at h; cases h) X hX
theorem xs_pr {px py pt : Pos} {kt k2 : Nat} {pt2 : Pos} {ms : 𝓜.M (α × β)} {k : α → β → 𝓜.M (Fl S L ρ)} {Γ1 : α → List Slot} {Γ' : α → β → List Slot} (he : XA 𝓜 c [e1, e2] Γ (sCons T (sOne U)) ms) (q1 : ∀ a, Put Γ i (.val T a) (Γ1 a)) (q2 : ∀ a b, Put (Γ1 a) j (.val U b) (Γ' a b)) (hr : ∀ a b, XS 𝓜 c sts (Γ' a b) Γn Γl R (k a b))
    (hij : i ≠ j := by decide) (h1 : okLocal c.N c.sc i y = true := by kernel_rfl) (h2 : okLocal c.N c.sc j y2 = true := by kernel_rfl) (hw : swappedStores [.Tuple [.Name y px, .Name y2 py] kt pt] (.Tuple [e1, e2] k2 pt2) (envS c.sc) = pure (some [y, y2]) := by kernel_rfl)
    (hs : ∀ env, swapsWithSole [.Tuple [.Name y px, .Name y2 py] kt pt] (.Tuple [e1, e2] k2 pt2) pos.line env = pure false := by intro _; rfl) : XS 𝓜 c (.Assign [.Tuple [.Name y px, .Name y2 py] kt pt] (.Tuple [e1, e2] k2 pt2) pos :: sts) Γ Γn Γl R (𝓜.bnd ms (unc k)) :=
  xs_par (ll_N h1) (ll_N h2) hij (ll_l h1) (ll_l h2) hw he q1 q2 hr hs
theorem xs_pr3 {px py pz pt : Pos} {kt k2 : Nat} {pt2 : Pos} {ms : 𝓜.M (α × β × δ)} {k : α → β → δ → 𝓜.M (Fl S L ρ)} {Γ1 : α → List Slot} {Γ2 : α → β → List Slot} {Γ' : α → β → δ → List Slot} (he : XA 𝓜 c [e1, e2, e3] Γ (sCons T (sCons U (sOne W))) ms) (q1 : ∀ a, Put Γ i (.val T a) (Γ1 a)) (q2 : ∀ a b, Put (Γ1 a) j (.val U b) (Γ2 a b)) (q3 : ∀ a b z, Put (Γ2 a b) l (.val W z) (Γ' a b z)) (hr : ∀ a b z, XS 𝓜 c sts (Γ' a b z) Γn Γl R (k a b z))
    (hij : i ≠ j := by decide) (hil : i ≠ l := by decide) (hjl : j ≠ l := by decide) (h1 : okLocal c.N c.sc i y = true := by kernel_rfl) (h2 : okLocal c.N c.sc j y2 = true := by kernel_rfl) (h3 : okLocal c.N c.sc l y3 = true := by kernel_rfl)
    (hw : swappedStores [.Tuple [.Name y px, .Name y2 py, .Name y3 pz] kt pt] (.Tuple [e1, e2, e3] k2 pt2) (envS c.sc) = pure (some [y, y2, y3]) := by kernel_rfl)
    (hs : ∀ env, swapsWithSole [.Tuple [.Name y px, .Name y2 py, .Name y3 pz] kt pt] (.Tuple [e1, e2, e3] k2 pt2) pos.line env = pure false := by intro _; rfl) : XS 𝓜 c (.Assign [.Tuple [.Name y px, .Name y2 py, .Name y3 pz] kt pt] (.Tuple [e1, e2, e3] k2 pt2) pos :: sts) Γ Γn Γl R (𝓜.bnd ms (unc3 k)) :=
  xs_par3 (ll_N h1) (ll_N h2) (ll_N h3) hij hil hjl (ll_l h1) (ll_l h2) (ll_l h3) hw he q1 q2 q3 hr hs
end
end Ty
set_option Elab.async false
set_option linter.all false
set_option maxRecDepth 100000
set_option maxHeartbeats 4000000
/-! A deck: a list of a list of ints, an int and an int, from which numbers are drawn. -/
namespace Ty
open PySem PySem.Spec PyProof.Rows L2 StX

structure Dk where
  cells : List Int
  mixed : Int
  n : Int
abbrev DkM (α : Type) := Dk → Option (α × Dk)
def dR {α : Type} (x : α) : DkM α := fun d => some (x, d)
def dB {α β : Type} (m : DkM α) (k : α → DkM β) : DkM β := fun d => (m d).bind fun p => k p.1 p.2
def dLf {α : Type} (o : Option α) : DkM α := fun d => o.map fun x => (x, d)
@[reducible] def dkL : Md where
  M := fun α => DkM α
  D := Dk
  ret := dR
  bnd := dB
  lft := dLf
  run := fun m d x d' => m d = some (x, d')
  at_ := fun H C d => ∃ a b r, C = a :: b :: r ∧ a ≠ b ∧ H a = some (.lst [.ref b, .int d.mixed, .int d.n]) ∧ H b = some (.lst (d.cells.map .int)) ∧ d.cells.length ≤ cap
  cells := fun C => C
  run_ret := fun h => by cases h; exact ⟨rfl, rfl⟩
  run_bnd := fun {α β m k d d' y} h => by
    obtain ⟨p, h1, h2⟩ := Option.bind_eq_some_iff.mp h
    exact ⟨p.1, p.2, h1, h2⟩
  run_lft := fun h => by
    obtain ⟨x, h1, h2⟩ := Option.map_eq_some_iff.mp h
    cases h2
    exact ⟨h1, rfl⟩
  at_in := fun {H H' C d} k h => by
    obtain ⟨a, b, r, e, ne, h1, h2, z⟩ := h
    subst e
    exact ⟨a, b, r, rfl, ne, k _ _ (by simp) h1, k _ _ (by simp) h2, z⟩
  cells_sub := fun h => h
theorem Ext.cell {C : List Addr} {G H : Hp} {p : Addr} {o : HO} (s : Same G H) (hp : p ∈ C) (g : G p = none) : Ext C G H G (upd H p o) where
  g := Same.refl _
  h := fun b u n q => by rw [upd_ne (fun z => by subst z; exact n hp)]; exact q
  th := fun b q => by
    by_cases z : b = p
    · subst z; rw [upd_same]; exact fun z => by cases z
    · rw [upd_ne z]; exact q
  sub := fun b u q => by rw [upd_ne (ne_of_none q g)]; exact s b u q
  fr := fun b _ q => q
def dMix : DkM Int := fun d => some (d.mixed, d)
def dNum : DkM Int := fun d => some (d.n, d)
def dAny : DkM Bool := fun d => some (!d.cells.isEmpty, d)
def dPop : DkM Int := fun d => (d.cells.getLast?).map fun x => (x, { d with cells := d.cells.dropLast })
def dPush (x : Int) : DkM Unit := fun d => if d.cells.length < cap then some ((), { d with cells := d.cells ++ [x] }) else none
def dSetMix (x : Int) : DkM Unit := fun d => some ((), { d with mixed := x })
def dSetNum (x : Int) : DkM Unit := fun d => some ((), { d with n := x })

theorem shaped_ints (xs : List Int) : SeqAt.shaped (.list (xs.map PyData.int)) = true := by
  have h1 : ∀ xs : List Int, PyData.canLayAll0 (xs.map PyData.int) = true := by
    intro xs
    induction xs with
    | nil => rfl
    | cons x xs ih => simp [PyData.canLayAll0, PyData.canLay0, ih]
  have h2 : ∀ xs : List Int, PyData.depthAll (xs.map PyData.int) = 0 := by
    intro xs
    induction xs with
    | nil => rfl
    | cons x xs ih => simp [PyData.depthAll, PyData.depth, ih]
  unfold SeqAt.shaped
  simp [PyData.canLay0, PyData.depth, h1, h2]
theorem eqv_nil (xs : List Int) : PyData.eqv (.list (xs.map PyData.int)) (.list []) = xs.isEmpty := by
  cases xs with
  | nil => simp [PyData.eqv, PyData.eqvAll]
  | cons x xs => simp [PyData.eqv, PyData.eqvAll]
theorem dpAll_ints {K : PySem.W.Frag} {H : Hp} : ∀ xs : List Int, DpAll K H (xs.map V.int) (xs.map PyData.int)
  | [] => .nil
  | x :: xs => .cons (.int x) (dpAll_ints xs)

section
variable {S L ρ α β γ : Type} {c : Ctx} {e e1 e2 : Expr} {sts : List Stmt} {es : List Expr} {Γ Γ' : List Slot} {Γn : S → List Slot} {Γl : L → List Slot} {R : Rp ρ} {T : Rp α} {x : α} {m : DkM α} {pos p p1 p2 p3 spos apos cpos tpos : Pos} {i k kk : Nat} {sd : Str}
theorem dk_at {C : List Addr} {B G H : Hp} {σ : L2.St} {d : Dk} (ok : EnvOk C B Γ σ G H) (hd : Has Γ i .dk) (at0 : dkL.at_ H C d) :
    ∃ a b r, C = a :: b :: r ∧ a ≠ b ∧ σ[i]? = some (some (.ref a)) ∧ H a = some (.lst [.ref b, .int d.mixed, .int d.n]) ∧ H b = some (.lst (d.cells.map .int)) ∧ d.cells.length ≤ cap ∧ G a = none ∧ G b = none := by
  obtain ⟨a, b, r, e, ne, h1, h2, z⟩ := at0
  obtain ⟨o, q1, a', r', eC, q2⟩ := ok.has hd
  rw [e] at eC
  cases eC
  refine ⟨a, b, r, e, ne, by rw [q1, q2], h1, h2, z, ok.dkg a (by rw [e]; simp), ok.dkg b (by rw [e]; simp)⟩
theorem x_dMix (hd : Has Γ i .dk) (h : okVar c.N c.sc i sd = true := by kernel_rfl) : XM dkL c (.Subscript (.Name sd p1) (.Constant (.int 1) kk p2) pos) Γ rI dMix :=
  ⟨tOp (rIxL c.g.K) (tVar i) (tC (.int 1)), fun X hX => by rw [← hX.K]; exact pe_ix ix_list (pe_var (by rw [hX.N]; exact va_N h) (hX.vis (va_V h)) (va_d h) (va_c h)) pe_int (by intro _ _; rfl), fun C B d u d' σ G H Q rr ok at0 k => by
    cases rr
    obtain ⟨a, b, r, eC, ne, hs, ha, hb, z, ga, gb⟩ := dk_at ok hd at0
    exact ⟨.ref a, hs, a, _, 1, .int d.mixed, rfl, rfl, SqL.of ha, rfl, k _ G H (Ext.refl ok.sub) at0 rfl⟩⟩
theorem x_dNum (hd : Has Γ i .dk) (h : okVar c.N c.sc i sd = true := by kernel_rfl) : XM dkL c (.Subscript (.Name sd p1) (.Constant (.int 2) kk p2) pos) Γ rI dNum :=
  ⟨tOp (rIxL c.g.K) (tVar i) (tC (.int 2)), fun X hX => by rw [← hX.K]; exact pe_ix ix_list (pe_var (by rw [hX.N]; exact va_N h) (hX.vis (va_V h)) (va_d h) (va_c h)) pe_int (by intro _ _; rfl), fun C B d u d' σ G H Q rr ok at0 k => by
    cases rr
    obtain ⟨a, b, r, eC, ne, hs, ha, hb, z, ga, gb⟩ := dk_at ok hd at0
    exact ⟨.ref a, hs, a, _, 2, .int d.n, rfl, rfl, SqL.of ha, rfl, k _ G H (Ext.refl ok.sub) at0 rfl⟩⟩
/-- deck[0] != [] -/
theorem t_dAny (hd : Has Γ i .dk) (h : okVar c.N c.sc i sd = true := by kernel_rfl) : XT dkL c (.Compare (.Subscript (.Name sd p1) (.Constant (.int 0) kk p2) p3) [.NotEq] [.List [] tpos] pos) Γ dAny :=
  ⟨tTest (tOp (rNeD c.g.K) (tOp (rIxL c.g.K) (tVar i) (tC (.int 0))) (tLst tNil)), fun X hX => pt_cmpR (opNeD X hX) (pe_ix (r := rIxL c.g.K) (hX.K ▸ ix_list) (pe_var (by rw [hX.N]; exact va_N h) (hX.vis (va_V h)) (va_d h) (va_c h)) pe_int (by intro _ _; rfl)) (pe_lst (pa_nil (X := X))) rfl, fun C B d u d' σ G H Q rr ok at0 k => by
    cases rr
    obtain ⟨a, b, r, eC, ne, hs, ha, hb, z, ga, gb⟩ := dk_at ok hd at0
    refine ⟨.ref a, hs, a, _, 0, .ref b, rfl, rfl, SqL.of ha, rfl, ⟨Nat.zero_le _, fun q nq => ?_⟩⟩
    refine ⟨.list (d.cells.map .int), .list [], .lst (SqL.of (by rw [upd_ne (ne_of_none hb nq)]; exact hb)) (dpAll_ints _), .lst (SqL.of upd_same) .nil, shaped_ints _, shaped_ints [], !d.cells.isEmpty, by rw [eqv_nil], ?_⟩
    exact k G _ (Ext.newM ok.sub nq) (dkL.at_st (fun b o w => by rw [upd_ne (ne_of_none w nq)]; exact w) at0)⟩
theorem map_last {xs : List Int} {x : Int} (h : xs.getLast? = some x) : (xs.map V.int)[(xs.map V.int).length - 1]? = some (.int x) := by
  rw [List.length_map, List.getElem?_map, ← List.getLast?_eq_getElem?, h]; rfl
/-- deck[0].pop() -/
theorem x_dPop (hd : Has Γ i .dk) (h : okVar c.N c.sc i sd = true := by kernel_rfl) (hb : ∀ env, attributeBase (.Subscript (.Name sd p1) (.Constant (.int 0) kk p2) p3) "pop" env (eval (.Subscript (.Name sd p1) (.Constant (.int 0) kk p2) p3) env) = eval (.Subscript (.Name sd p1) (.Constant (.int 0) kk p2) p3) env := by intro _; rfl)
    (hline : (apos.endLine == cpos.line) = true := by rfl) : XM dkL c (.Call (.Attribute (.Subscript (.Name sd p1) (.Constant (.int 0) kk p2) p3) "pop" apos) [] [] cpos) Γ rI dPop :=
  ⟨tBM0 c.g.K "list" rPop (tOp (rIxL c.g.K) (tVar i) (tC (.int 0))), fun X hX => by rw [← hX.K]; exact pe_bm0 PySem.F.plainAttrs_list PySem.F.slot_list_pop PySem.F.type_list_pop mt_pop (pe_ix ix_list (pe_var (by rw [hX.N]; exact va_N h) (hX.vis (va_V h)) (va_d h) (va_c h)) pe_int (by intro _ _; rfl)) (hb _) hline, fun C B d u d' σ G H Q rr ok at0 k => by
    obtain ⟨y, h1, h2⟩ := Option.map_eq_some_iff.mp rr
    cases h2
    obtain ⟨a, b, r, eC, ne, hs, ha, hb, z, ga, gb⟩ := dk_at ok hd at0
    refine ⟨.ref a, hs, a, _, 0, .ref b, rfl, rfl, SqL.of ha, rfl, .inl ⟨rfl, _, SqL.of hb⟩, b, _, .int u, rfl, rfl, hb, map_last h1, ?_⟩
    refine k _ G _ (Ext.cell ok.sub (by rw [eC]; simp) gb) ⟨a, b, r, eC, ne, by rw [upd_ne ne]; exact ha, by rw [upd_same, List.map_dropLast], ?_⟩ rfl
    rw [List.length_dropLast]; omega⟩
/-- deck[0].append(e) -/
theorem xs_dPush {m : DkM Int} {f : DkM (Fl S L ρ)} (hd : Has Γ i .dk) (he : XM dkL c e Γ rI m) (hr : XS dkL c sts Γ Γn Γl R f) (h : okVar c.N c.sc i sd = true := by kernel_rfl)
    (hb : ∀ env, attributeBase (.Subscript (.Name sd p1) (.Constant (.int 0) kk p2) p3) "append" env (eval (.Subscript (.Name sd p1) (.Constant (.int 0) kk p2) p3) env) = eval (.Subscript (.Name sd p1) (.Constant (.int 0) kk p2) p3) env := by intro _; rfl)
    (hs : ∀ env, starEach (e :: []) env = (false, eval e env) :: starEach [] env := by intro _; rfl)
    (hfew : ∀ env, ((backTo cpos (starEach (e :: []) env)).all (fun x => !x.1) && (backToKw cpos (keywordEach [] env)).all (fun x => x.1.isSome)
      && decide ((e :: ([] : List Expr)).length + ([] : List Keyword).length + (if ([] : List Keyword).isEmpty then 0 else 1) < 30)) = true := by intro _; rfl)
    (hline : (apos.endLine == cpos.line) = true := by rfl) (hpl : ∀ env, (backTo cpos (starEach [] env)).any (·.1) = false := by intro _; rfl) (hsw : ∀ env, swapsWith (.Call (.Attribute (.Subscript (.Name sd p1) (.Constant (.int 0) kk p2) p3) "append" apos) [e] [] cpos) none pos.line env = pure false := by intro _; rfl) :
    XS dkL c (.Expr (.Call (.Attribute (.Subscript (.Name sd p1) (.Constant (.int 0) kk p2) p3) "append" apos) [e] [] cpos) pos :: sts) Γ Γn Γl R (dkL.bnd m fun a => dkL.bnd (dPush a) fun _ => f) :=
  let ⟨t, pe, ee⟩ := he; ⟨tSeq (tDrop (tBM c.g.K "list" rAppend (tOp (rIxL c.g.K) (tVar i) (tC (.int 0))) (tCons t tNil))) (WS c sts), fun X hX => pss_cons (ps_expr (by rw [← hX.K]; exact pe_bm PySem.F.plainAttrs_list PySem.F.slot_list_append PySem.F.type_list_append mt_append (pe_ix ix_list (pe_var (by rw [hX.N]; exact va_N h) (hX.vis (va_V h)) (va_d h) (va_c h)) pe_int (by intro _ _; rfl)) (pa_cons (pe X hX) pa_nil (hs _)) (hb _) (hfew _) hline (hs _) (hpl _)) (hsw _)) (pss_can X hX),
    fun C d f' d' G0 H0 σ G H D rr ok at0 kk => by
    obtain ⟨y, d1, r1, rr⟩ := dkL.run_bnd rr
    obtain ⟨u, d2, r2, r3⟩ := dkL.run_bnd rr
    obtain ⟨a, b, r, eC, ne, hs, ha, hb, z, ga, gb⟩ := dk_at ok.ok hd at0
    refine ⟨.ref a, hs, a, _, 0, .ref b, rfl, rfl, SqL.of ha, rfl, .inl ⟨rfl, _, SqL.of hb⟩, ee C H0 d y d1 σ G H _ r1 ok.ok at0 fun v G1 H1 e1 a1 p1 => ?_⟩
    have ok1 := ok.ext e1
    obtain ⟨a', b', r', eC', ne', hs', ha', hb', z', ga', gb'⟩ := dk_at ok1.ok hd a1
    have eab : a = a' ∧ b = b' := by rw [eC] at eC'; cases eC'; exact ⟨rfl, rfl⟩
    obtain ⟨rfl, rfl⟩ := eab
    change (if d1.cells.length < cap then some ((), { d1 with cells := d1.cells ++ [y] }) else none) = some (u, d2) at r2
    split at r2
    · rename_i hlen
      cases r2
      cases p1
      refine ⟨b, _, .int y, rfl, rfl, hb', by rw [List.length_map]; exact cap_lt hlen, ?_⟩
      refine hr.can C _ f' d' G0 H0 σ G1 _ D r3 (ok1.ext (𝓜 := dkL) (Ext.cell ok1.ok.sub (by rw [eC]; simp) gb')) ⟨a, b, r, eC, ne, by rw [upd_ne ne]; exact ha', by rw [upd_same, List.map_append]; rfl, by rw [List.length_append]; exact hlen⟩ (kk.mono e1.g)
    · cases r2⟩
/-- deck[1] = e, deck[2] = e -/
theorem xs_dSetMix {m : DkM Int} {f : DkM (Fl S L ρ)} (hd : Has Γ i .dk) (he : XM dkL c e Γ rI m) (hr : XS dkL c sts Γ Γn Γl R f) (h : okVar c.N c.sc i sd = true := by kernel_rfl)
    (hs : ∀ env, swapsWithSole [.Subscript (.Name sd p1) (.Constant (.int 1) kk p2) p3] e pos.line env = pure false := by intro _; rfl) (hw : ∀ X, InC c X → swappedStores [.Subscript (.Name sd p1) (.Constant (.int 1) kk p2) p3] e X.env = pure none := by intro _ _; rfl)
    (h1 : ∀ env, (assignEach [.Subscript (.Name sd p1) (.Constant (.int 1) kk p2) p3] env).map (·.2) = [assign (.Subscript (.Name sd p1) (.Constant (.int 1) kk p2) p3) env] := by intro _; rfl) :
    XS dkL c (.Assign [.Subscript (.Name sd p1) (.Constant (.int 1) kk p2) p3] e pos :: sts) Γ Γn Γl R (dkL.bnd m fun a => dkL.bnd (dSetMix a) fun _ => f) :=
  let ⟨t, pe, ee⟩ := he; ⟨tSeq (tAsg t (gSub (tVar i) (tC (.int 1)) rSetL)) (WS c sts), fun X hX => pss_cons (ps_asg (pe X hX) (pg_sub (pe_var (by rw [hX.N]; exact va_N h) (hX.vis (va_V h)) (va_d h) (va_c h)) pe_int set_list) (hs _) (hw X hX) (h1 _)) (pss_can X hX), fun C d f' d' G0 H0 σ G H D rr ok at0 kk => by
    obtain ⟨y, d1, r1, rr⟩ := dkL.run_bnd rr
    obtain ⟨u, d2, r2, r3⟩ := dkL.run_bnd rr
    cases r2
    refine ee C H0 d y d1 σ G H _ r1 ok.ok at0 fun v G1 H1 e1 a1 p1 => ?_
    have ok1 := ok.ext e1
    obtain ⟨a, b, r, eC, ne, hs, ha, hb, z, ga, gb⟩ := dk_at ok1.ok hd a1
    cases p1
    refine ⟨.ref a, hs, a, _, 1, 1, rfl, rfl, ha, rfl, ?_⟩
    exact hr.can C _ f' d' G0 H0 σ G1 _ D r3 (ok1.ext (𝓜 := dkL) (Ext.cell ok1.ok.sub (by rw [eC]; simp) ga)) ⟨a, b, r, eC, ne, upd_same, by rw [upd_ne (Ne.symm ne)]; exact hb, z⟩ (kk.mono e1.g)⟩
theorem xs_dSetNum {m : DkM Int} {f : DkM (Fl S L ρ)} (hd : Has Γ i .dk) (he : XM dkL c e Γ rI m) (hr : XS dkL c sts Γ Γn Γl R f) (h : okVar c.N c.sc i sd = true := by kernel_rfl)
    (hs : ∀ env, swapsWithSole [.Subscript (.Name sd p1) (.Constant (.int 2) kk p2) p3] e pos.line env = pure false := by intro _; rfl) (hw : ∀ X, InC c X → swappedStores [.Subscript (.Name sd p1) (.Constant (.int 2) kk p2) p3] e X.env = pure none := by intro _ _; rfl)
    (h1 : ∀ env, (assignEach [.Subscript (.Name sd p1) (.Constant (.int 2) kk p2) p3] env).map (·.2) = [assign (.Subscript (.Name sd p1) (.Constant (.int 2) kk p2) p3) env] := by intro _; rfl) :
    XS dkL c (.Assign [.Subscript (.Name sd p1) (.Constant (.int 2) kk p2) p3] e pos :: sts) Γ Γn Γl R (dkL.bnd m fun a => dkL.bnd (dSetNum a) fun _ => f) :=
  let ⟨t, pe, ee⟩ := he; ⟨tSeq (tAsg t (gSub (tVar i) (tC (.int 2)) rSetL)) (WS c sts), fun X hX => pss_cons (ps_asg (pe X hX) (pg_sub (pe_var (by rw [hX.N]; exact va_N h) (hX.vis (va_V h)) (va_d h) (va_c h)) pe_int set_list) (hs _) (hw X hX) (h1 _)) (pss_can X hX), fun C d f' d' G0 H0 σ G H D rr ok at0 kk => by
    obtain ⟨y, d1, r1, rr⟩ := dkL.run_bnd rr
    obtain ⟨u, d2, r2, r3⟩ := dkL.run_bnd rr
    cases r2
    refine ee C H0 d y d1 σ G H _ r1 ok.ok at0 fun v G1 H1 e1 a1 p1 => ?_
    have ok1 := ok.ext e1
    obtain ⟨a, b, r, eC, ne, hs, ha, hb, z, ga, gb⟩ := dk_at ok1.ok hd a1
    cases p1
    refine ⟨.ref a, hs, a, _, 2, 2, rfl, rfl, ha, rfl, ?_⟩
    exact hr.can C _ f' d' G0 H0 σ G1 _ D r3 (ok1.ext (𝓜 := dkL) (Ext.cell ok1.ok.sub (by rw [eC]; simp) ga)) ⟨a, b, r, eC, ne, upd_same, by rw [upd_ne (Ne.symm ne)]; exact hb, z⟩ (kk.mono e1.g)⟩
end
end Ty
set_option Elab.async false
set_option linter.all false
set_option maxRecDepth 100000
set_option maxHeartbeats 4000000
/-! How a deck is made, and used from there on. -/
namespace Ty
open PySem PySem.Spec PyProof.Rows L2 StX

def IsDk (H : Hp) (a b : Addr) (d : Dk) : Prop := a ≠ b ∧ H a = some (.lst [.ref b, .int d.mixed, .int d.n]) ∧ H b = some (.lst (d.cells.map .int)) ∧ d.cells.length ≤ cap
/-- a deck that was not there at B -/
def rNew (B : Hp) : Rp Dk := ⟨fun G v d => ∃ a b, v = .ref a ∧ B a = none ∧ B b = none ∧ IsDk G a b d, fun s ⟨a, b, e, n1, n2, ne, h1, h2, z⟩ => ⟨a, b, e, n1, n2, ne, s _ _ h1, s _ _ h2, z⟩⟩
def spMk {α : Type} (A : Rps α) (fm : α → Option Dk) : Sp := fun vs H Q _ => ∃ G x z, fm x = some z ∧ Same G H ∧ A.r G vs x ∧ ∀ v G' H', Ext [] G H G' H' → (rNew H).r G' v z → Q v H'
theorem ints_of {G : Hp} : ∀ {vs : List V} {xs : List Int}, Paired (rI.r G) vs xs → vs = xs.map .int
  | _, _, .nil => rfl
  | _, _, .cons h t => by rw [List.map_cons, ints_of t]; cases h; rfl
/-- what a block returns, and nothing else -/
def onlyRt {S L S' L' ρ : Type} (o : Option (Fl S' L' ρ × Dk)) : Option (Fl S L ρ) := match o with
  | some (.rt r, _) => some (.rt r)
  | _ => none
def Slot.isDk : Slot → Bool
  | .dk => true
  | _ => false
section
variable {S L S' L' ρ α β γ : Type} {c : Ctx} {e e0 e1 e2 : Expr} {sts : List Stmt} {es : List Expr} {Γ Γ' : List Slot} {Γn : S → List Slot} {Γl : L → List Slot} {Γn' : S' → List Slot} {Γl' : L' → List Slot} {R : Rp ρ} {T : Rp α} {A : Rps α} {x : α} {pos p p1 cpos : Pos} {i k : Nat} {s y : Str} {ps : List Str} {B : Hp}
theorem xs_retDk {m0 : Option (List Int)} {m1 m2 : Option Int} (hB : Has Γ i (.base B)) (h0 : XF pureMd c e0 Γ rI m0) (h1 : XM pureMd c e1 Γ rI m1) (h2 : XM pureMd c e2 Γ rI m2)
    (hs0 : ∀ env, starEach (e0 :: e1 :: e2 :: []) env = (false, eval e0 env) :: starEach (e1 :: e2 :: []) env := by intro _; rfl) (hs1 : ∀ env, starEach (e1 :: e2 :: []) env = (false, eval e1 env) :: starEach (e2 :: []) env := by intro _; rfl) (hs2 : ∀ env, starEach (e2 :: []) env = (false, eval e2 env) :: starEach [] env := by intro _; rfl) :
    XS pureMd c [.Return (some (.List [e0, e1, e2] p)) pos] Γ Γn Γl (rNew B) (pureMd.bnd m0 fun xs => pureMd.bnd m1 fun y => pureMd.bnd m2 fun n => pureMd.ret (.rt ⟨xs, y, n⟩)) :=
  let ⟨t0, p0, q0⟩ := h0; let ⟨t1, p1, q1⟩ := h1; let ⟨t2, p2, q2⟩ := h2; ⟨tRet (tLst (tCons t0 (tCons t1 (tCons t2 tNil)))), fun X hX => pss_one (ps_ret (pe_lst (pa_cons (p0 X hX) (pa_cons (p1 X hX) (pa_cons (p2 X hX) pa_nil (hs2 _)) (hs1 _)) (hs0 _)))), fun C d f d' G0 H0 σ G H D rr ok at0 kk => by
    obtain ⟨xs, d1, r1, rr⟩ := pureMd.run_bnd rr
    obtain ⟨y, d2, r2, rr⟩ := pureMd.run_bnd rr
    obtain ⟨n, d3, r3, rr⟩ := pureMd.run_bnd rr
    obtain ⟨z1, z2⟩ := pureMd.run_ret rr
    subst z1
    obtain ⟨o, hb1, hb2⟩ := ok.ok.has hB
    have eB : B = H0 := hb2
    refine q0 C H0 d xs d1 σ G H _ r1 ok.ok at0 fun pp vs G1 H1 np e1 a1 hp gp hz pr => ?_
    have ok1 := ok.ext (𝓜 := pureMd) e1
    refine q1 C H0 d1 y d2 σ G1 H1 _ r2 ok1.ok a1 fun v1 G2 H2 e2 a2 rv1 => ?_
    have ok2 := ok1.ext (𝓜 := pureMd) e2
    refine q2 C H0 d2 n d3 σ G2 H2 _ r3 ok2.ok a2 fun v2 G3 H3 e3 a3 rv2 => ?_
    have ok3 := ok2.ext (𝓜 := pureMd) e3
    refine ⟨by show 3 ≤ sizeLine; decide, fun a na => ?_⟩
    have n0 : H0 pp = none := back_none ok.ex np
    have hp3 : H3 pp = some (.lst vs) := (e2.trans e3).hs _ _ hp
    have gp3 : G3 pp = none := (e2.trans e3).fr pp (by rw [hp]; exact fun z => by cases z) gp
    have na0 : H0 a = none := back_none ok3.ex na
    have ne : a ≠ pp := fun z => by subst z; rw [hp3] at na; cases na
    have x1 := ok3.ex.fix n0 hp3 gp3
    have x2 := x1.trans (Ext.new (o := .lst [.ref pp, v1, v2]) x1.sub na)
    refine kk (.ref a) _ _ x2 trivial ⟨a, pp, rfl, by rw [eB]; exact na0, by rw [eB]; exact n0, ne, ?_, ?_, ?_⟩
    · rw [upd_same]; cases rv1; cases rv2; rfl
    · rw [upd_ne (Ne.symm ne), upd_same, ints_of pr]
    · have := ints_of pr
      subst this
      simpa using hz⟩
/-- a def that makes a deck -/
theorem fn_mk {g : Glb} {name : Str} {st : Stmt} {N ps : List Str} {Γ : Hp → α → List Slot} {f : α → Option (Fl S L Dk)} (F : Def g name st ps) (Sc : FnScope N ps (defScope st)) (len : ∀ H vs x, A.r H vs x → vs.length = ps.length) (h0 : ∀ G H vs x, A.r G vs x → Slots [] H G H (Γ H x) (start N vs))
    (hno : ∀ (B : Hp) (x : α) (i : Nat) (s : Slot), (Γ B x)[i]? = some s → s.isOwn = false) (body : ∀ B x, XS pureMd (cx g N (defScope st) k Sc.nd) (defBody st) (Γ B x) Γn Γl (rNew B) (f x)) : Fn g name ps (k + 1) (spMk A fun x => retM pureMd (f x)) := by
  refine fnG_of F Sc (fun vs H Q E ⟨G, x, z, _, _, ha, _⟩ => len _ _ _ ha) ⟨WS _ _, pss_can, fun vs H Q E ⟨G, x, z, e, sub, ha, kk⟩ => ?_⟩
  obtain ⟨fl, e1, e2⟩ := Option.bind_eq_some_iff.mp e
  obtain ⟨l1, l2⟩ := (h0 G H vs x ha).ix
  refine (body H x).can [] () fl () G H _ G H _ e1 ⟨⟨sub, l1, l2, fun i j p ⟨⟨s, q1, q2⟩, _⟩ _ => ?_, fun _ z => by simp at z, fun _ z => by simp at z⟩, Ext.refl sub⟩ trivial ?_
  · rw [hno H x i s q1] at q2; cases q2
  · cases fl with
    | rt r =>
      cases e2
      exact fun v G' H' ex _ rr => kk v G' H' ex rr
    | nx s => cases e2
    | ct s => cases e2
    | bk s => cases e2
/-- y = the call of such a def; from here on numbers are drawn -/
theorem xs_mk {fm : α → Option Dk} {m : Option α} {kd : DkM (Fl S' L' ρ)} (F : Fn c.g s ps k (spMk A fm)) (hk : k ≤ c.k) (ha : XA pureMd c (e :: es) Γ A m) (hp : Put Γ i .dk Γ') (hr : XS dkL c sts Γ' Γn' Γl' R kd) (hnd : Γ.all (fun t => !t.isDk) = true := by rfl) (hf : c.fn = fun _ => true := by rfl) (hl : okLoc c.N c.sc i y = true := by kernel_rfl) (hg : okGlob c.sc s = true := by kernel_rfl)
    (hs : ∀ X, InC c X → swapsWith (.Call (.Name s p1) (e :: es) [] cpos) (some (.Name y p)) pos.line X.env = pure false := by intro _ _; rfl) (he : ∀ env, starEach (e :: es) env = (false, eval e env) :: starEach es env := by intro _; rfl) (hpl : ∀ env, (backTo cpos (starEach es env)).any (·.1) = false := by intro _; rfl) :
    XS pureMd c (.Assign [.Name y p] (.Call (.Name s p1) (e :: es) [] cpos) pos :: sts) Γ Γn Γl R (pureMd.bnd m fun x => pureMd.bnd (fm x) fun d0 => onlyRt (kd d0)) :=
  let ⟨t, pa, ea⟩ := ha; ⟨_, fun X hX => pss_cons (ps_set hX.nodup (by rw [hX.N]; exact lo_N hl) (hX.loc (lo_L hl)) (pe_callG F hX hk (gl_l hg) (pa X hX) (gl_d hg) (he _) (hpl _)) (hs X hX) (hX.fnl (.inl (by rw [hf])))) (pss_can X hX), fun C d f d' G0 H0 σ G H D rr ok at0 kk => by
    obtain ⟨x, d1, r1, rr⟩ := pureMd.run_bnd rr
    obtain ⟨dk, d2, r2, rr⟩ := pureMd.run_bnd rr
    refine ea C H0 d x d1 σ G H _ r1 ok.ok at0 fun vs G1 H1 e1 a1 p1 => ⟨G1, x, dk, r2, e1.sub, p1, fun v G2 H2 e2 ⟨a, b, ev, na, nb, ne, ha, hb, hz⟩ => ?_⟩
    subst ev
    have nHa : H a = none := back_none e1 na
    have nHb : H b = none := back_none e1 nb
    have e12 : Ext [] G H G2 H2 := e1.trans e2
    -- what is fixed, without the deck
    let G3 : Hp := fun q => if q = a ∨ q = b then none else G2 q
    have g3 : ∀ q u, G3 q = some u → G2 q = some u := fun q u z => by
      by_cases w : q = a ∨ q = b
      · simp only [G3, if_pos w] at z; cases z
      · simp only [G3, if_neg w] at z; exact z
    have e13 : Ext C G H G3 H2 := by
      refine ⟨fun q u z => ?_, fun q o _ z => e12.hs _ _ z, e12.th, fun q u z => e12.sub _ _ (g3 q u z), fun q z w => ?_⟩
      · have w : ¬ (q = a ∨ q = b) := by
          rintro (w | w)
          · subst w; rw [free_of ok.ok.sub nHa] at z; cases z
          · subst w; rw [free_of ok.ok.sub nHb] at z; cases z
        simp only [G3, if_neg w]; exact e12.g _ _ z
      · by_cases w' : q = a ∨ q = b
        · simp only [G3, if_pos w']
        · simp only [G3, if_neg w']; exact e12.fr q z w
    have ok3 := ok.ok.ext e13
    have h2a : H2 a = some (.lst [.ref b, .int dk.mixed, .int dk.n]) := e12.sub _ _ ha
    have h2b : H2 b = some (.lst (dk.cells.map .int)) := e12.sub _ _ hb
    have okD : EnvOk (a :: b :: C) H0 Γ' (σ.set i (some (.ref a))) G3 H2 := by
      refine ⟨e13.sub, by rw [hp.length, List.length_set, ok3.len], fun j t w => ?_, fun i' j' p' u w => ok3.dst _ _ _ (u.put hp rfl).2 (w.put hp rfl).2, fun q hq => ?_, fun q hq => ?_⟩
      · rw [hp.get] at w
        by_cases z : j = i
        · rw [if_pos z] at w
          cases w
          subst z
          exact ⟨some (.ref a), List.getElem?_set_self (by rw [← ok3.len]; exact hp.lt), a, b :: C, rfl, rfl⟩
        · rw [if_neg z] at w
          rw [List.getElem?_set_ne (Ne.symm z)]
          obtain ⟨o, q1, q2⟩ := ok3.sl j t w
          refine ⟨o, q1, ?_⟩
          have nd : t.isDk = false := by
            have := List.all_eq_true.mp hnd t (List.mem_of_getElem? w)
            simpa using this
          cases t with
          | un => trivial
          | val R' x' => exact q2
          | own R' xs' =>
            obtain ⟨o0, s1, s2⟩ := ok.ok.sl j _ w
            obtain ⟨pp, vs', b1, b2, b3, b4, b5, b6, b7⟩ := q2
            obtain ⟨pp0, vs0, c1, c2, c3, c4, c5, c6, c7⟩ := s2
            rw [q1] at s1
            cases s1
            rw [b1] at c1
            cases c1
            refine ⟨pp, vs', b1, b2, b3, ?_, b5, b6, b7⟩
            have na' : pp ≠ a := fun z => by rw [z, nHa] at c2; cases c2
            have nb' : pp ≠ b := fun z => by rw [z, nHb] at c2; cases c2
            intro z
            rcases List.mem_cons.mp z with z | z
            · exact na' z
            · rcases List.mem_cons.mp z with z | z
              · exact nb' z
              · exact b4 z
          | ownP pp vs' R' xs' =>
            obtain ⟨o0, s1, s2⟩ := ok.ok.sl j _ w
            obtain ⟨b1, b2, b3, b4, b5, b6, b7⟩ := q2
            obtain ⟨c1, c2, c3, c4, c5, c6, c7⟩ := s2
            refine ⟨b1, b2, b3, ?_, b5, b6, b7⟩
            have na' : pp ≠ a := fun z => by rw [z, nHa] at c2; cases c2
            have nb' : pp ≠ b := fun z => by rw [z, nHb] at c2; cases c2
            intro z
            rcases List.mem_cons.mp z with z | z
            · exact na' z
            · rcases List.mem_cons.mp z with z | z
              · exact nb' z
              · exact b4 z
          | dk => cases nd
          | base B' => exact q2
      · rcases List.mem_cons.mp hq with z | hq
        · simp only [G3, if_pos (Or.inl z)]
        · rcases List.mem_cons.mp hq with z | hq
          · simp only [G3, if_pos (Or.inr z)]
          · exact ok3.dkg q hq
      · rcases List.mem_cons.mp hq with z | hq
        · rw [z, h2a]; exact fun z => by cases z
        · rcases List.mem_cons.mp hq with z | hq
          · rw [z, h2b]; exact fun z => by cases z
          · exact ok3.dkh q hq
    have ex0 : Ext (a :: b :: C) G0 H0 G3 H2 := by
      have := ok.ex.trans e13
      exact ⟨this.g, fun q o nq z => this.h q o (fun w => nq (List.mem_cons_of_mem _ (List.mem_cons_of_mem _ w))) z, this.th, this.sub, this.fr⟩
    have n0a : H0 a = none := back_none ok.ex nHa
    have n0b : H0 b = none := back_none ok.ex nHb
    -- the rest
    show WS c sts D _ H2
    unfold onlyRt at rr
    split at rr
    · rename_i r d3 er
      cases rr
      refine hr.can (a :: b :: C) dk (.rt r) d3 G0 H0 _ G3 H2 D er ⟨okD, ex0⟩ ⟨a, b, C, rfl, ne, h2a, h2b, hz⟩ fun v G4 H4 e4 a4 r4 => kk v G4 H4 ⟨e4.g, fun q o nq z => ?_, e4.th, e4.sub, e4.fr⟩ trivial r4
      refine e4.h q o (fun w => ?_) z
      rcases List.mem_cons.mp w with w | w
      · subst w; rw [n0a] at z; cases z
      · rcases List.mem_cons.mp w with w | w
        · subst w; rw [n0b] at z; cases z
        · exact nq w
    · cases rr⟩
end
end Ty
set_option Elab.async false
set_option linter.all false
set_option maxRecDepth 100000
set_option maxHeartbeats 4000000
/-! Unpacking a list. -/
namespace Ty
open PySem PySem.Spec PyProof.Rows L2 StX

def toT2 {α : Type} : List α → Option (α × α)
  | [a, b] => some (a, b)
  | _ => none
def toT3 {α : Type} : List α → Option (α × α × α)
  | [a, b, c] => some (a, b, c)
  | _ => none
section
variable {𝓜 : Md} {S L ρ α β τ : Type} {c : Ctx} {e : Expr} {sts : List Stmt} {es : List Expr} {Γ Γ' : List Slot} {Γn : S → List Slot} {Γl : L → List Slot} {R : Rp ρ} {T : Rp α} {A : Rps τ} {x : α} {m : 𝓜.M (List α)} {pos p : Pos} {kk : Nat}
theorem c_toT2 : ∀ G vs xs t, Paired (T.r G) vs xs → toT2 xs = some t → (sCons T (sOne T)).r G vs t := fun G vs xs t h e => by
  match xs, vs, h, e with
  | [a, b], [v, w], .cons h1 (.cons h2 .nil), e =>
    cases e
    exact ⟨v, [w], rfl, h1, w, rfl, h2⟩
theorem c_toT3 : ∀ G vs xs t, Paired (T.r G) vs xs → toT3 xs = some t → (sCons T (sCons T (sOne T))).r G vs t := fun G vs xs t h e => by
  match xs, vs, h, e with
  | [a, b, d], [v, w, u], .cons h1 (.cons h2 (.cons h3 .nil)), e =>
    cases e
    exact ⟨v, [w, u], rfl, h1, w, [u], rfl, h2, u, rfl, h3⟩
/-- plain names as targets, one reading for all values -/
def GsAll {σ β : Type} (c : Ctx) (es : List Expr) (Γ : σ → List Slot) (A : Rps β) (pr : σ → β) (Γ' : σ → List Slot) (ws : List Nat) : Prop := ∃ g, (∀ X, InC c X → PGs X es g) ∧ ∀ t, Gts g (Γ t) A (pr t) (Γ' t) ws
theorem gs_one {σ : Type} {Γ Γ' : σ → List Slot} {pr : σ → α} {i : Nat} {y : Str} (q : ∀ t, Put (Γ t) i (.val T (pr t)) (Γ' t)) (hf : c.fn = fun _ => true := by rfl) (h : okLoc c.N c.sc i y = true := by kernel_rfl) (hs : ∀ env, (assignEach (.Name y p :: []) env).map (·.2) = assign (.Name y p) env :: (assignEach [] env).map (·.2) := by intro _; rfl) :
    GsAll c [.Name y p] Γ (sOne T) pr Γ' [i] :=
  ⟨gCons (gName i) gNil, fun X hX => pgs_cons (pg_name hX.nodup (by rw [hX.N]; exact lo_N h) (hX.loc (lo_L h)) (hX.fnl (.inl (by rw [hf])))) pgs_nil (hs _), fun t C B σ G H vs Q ok ⟨v, ev, r⟩ k => ⟨v, [], ev, rfl, k _ (ok.put (q t) rfl ⟨v, rfl, r⟩) But.set⟩⟩
theorem gs_cons {σ β : Type} {Ar : Rps β} {Γ Γ1 Γ' : σ → List Slot} {pr : σ → α × β} {i : Nat} {y : Str} {us : List Nat} (q : ∀ t, Put (Γ t) i (.val T (pr t).1) (Γ1 t)) (h2 : GsAll c es Γ1 Ar (fun t => (pr t).2) Γ' us) (hf : c.fn = fun _ => true := by rfl) (h : okLoc c.N c.sc i y = true := by kernel_rfl)
    (hs : ∀ env, (assignEach (.Name y p :: es) env).map (·.2) = assign (.Name y p) env :: (assignEach es env).map (·.2) := by intro _; rfl) : GsAll c (.Name y p :: es) Γ (sCons T Ar) pr Γ' ([i] ++ us) :=
  let ⟨g2, p2, q2⟩ := h2; ⟨gCons (gName i) g2, fun X hX => pgs_cons (pg_name hX.nodup (by rw [hX.N]; exact lo_N h) (hX.loc (lo_L h)) (hX.fnl (.inl (by rw [hf])))) (p2 X hX) (hs _), fun t C B σ G H vs Q ok ⟨v, ws, ev, r, r2⟩ k =>
    ⟨v, ws, ev, q2 t C B _ G H ws _ (ok.put (q t) rfl ⟨v, rfl, r⟩) r2 fun σ'' ok'' b2 => k σ'' ok'' (But.set.trans b2)⟩⟩
/-- a, b, .. = e, e a list -/
theorem xs_unl {k : τ → 𝓜.M (Fl S L ρ)} {Γ' : τ → List Slot} {conv : List α → Option τ} {ws : List Nat} {n : Nat} (he : XM 𝓜 c e Γ (rL T) m) (hc : ∀ G vs xs t, Paired (T.r G) vs xs → conv xs = some t → A.r G vs t) (hlen : ∀ H vs y, A.r H vs y → vs.length = n)
    (hgs : GsAll c es (fun _ => Γ) A (fun t => t) Γ' ws) (hr : ∀ t, XS 𝓜 c sts (Γ' t) Γn Γl R (k t)) (hn : ∀ env, (assignEach es env).length = n := by intro _; rfl) (hst : ∀ env, (assignEach es env).findIdx? (·.1) = none := by intro _; rfl)
    (hs : ∀ env, swapsWithSole [.Tuple es kk p] e pos.line env = pure false := by intro _; rfl) (hw : ∀ X, InC c X → swappedStores [.Tuple es kk p] e X.env = pure none := by intro _ _; rfl)
    (h1 : ∀ env, (assignEach [.Tuple es kk p] env).map (·.2) = [assign (.Tuple es kk p) env] := by intro _; rfl) : XS 𝓜 c (.Assign [.Tuple es kk p] e pos :: sts) Γ Γn Γl R (𝓜.bnd m fun xs => 𝓜.bnd (𝓜.lft (conv xs)) k) :=
  let ⟨t, pe, ee⟩ := he; let ⟨g, pg, eg⟩ := hgs; ⟨tSeq (tAsg t (gUnl c.g.K n g)) (WS c sts), fun X hX => pss_cons (ps_asg (pe X hX) (by rw [← hX.K]; exact pg_unl hX.calm (pg X hX) (hn _) (hst _)) (hs _) (hw X hX) (h1 _)) (pss_can X hX), fun C d f d' G0 H0 σ G H D rr ok at0 kk => by
    obtain ⟨xs, d1, r1, rr⟩ := 𝓜.run_bnd rr
    obtain ⟨t, d2, r2, r3⟩ := 𝓜.run_bnd rr
    obtain ⟨q1, q2⟩ := 𝓜.run_lft r2
    subst q2
    refine ee C H0 d xs d2 σ G H _ r1 ok.ok at0 fun v G1 H1 e1 a1 ⟨a, vs, ev, hv, hz, pr⟩ => ?_
    have hA := hc _ _ _ _ pr q1
    refine ⟨a, vs, ev, SqL.of (e1.sub _ _ hv), hlen _ _ _ hA, eg t C H0 σ G1 H1 vs _ (ok.ext e1).ok hA fun σ' ok' _ => ?_⟩
    exact (hr t).can C d2 f d' G0 H0 σ' G1 H1 D r3 ⟨ok', (ok.ext e1).ex⟩ a1 (kk.mono e1.g)⟩
end
end Ty
set_option Elab.async false
set_option linter.all false
set_option maxRecDepth 100000
set_option maxHeartbeats 4000000
/-! The end: from the law's promise (for callers that show no container) to the statement. -/
namespace Ty
open PySem PySem.Spec PyProof.Rows L2 StX

/-- a def of the module from what stands behind the top -/
theorem def_mk {P : Program} {w : World} {K : PySem.W.Frag} {h base : Heap} {mg : Str → Option Value} {gb : Bool} {nm : Str} {st : Stmt} {ps : List Str} {f : Addr} {oc kV doc pm cdv ct : Value} {od an : Option Addr} {osl : Array (Option Value)} (X : K.In h) (N : h.Ns mainGlobals mg)
    (a : PySem.W.nsIn K mainGlobals nm = some (some (.ref f))) (l : K.lookup f = some ⟨oc, od, .func (PySem.W.fnOf nm nm (defArgs st) (defBody st) (defScope st) .none kV doc pm an cdv ct), osl⟩) (cc : PySem.W.codeIn K cdv nm = true) (kp : PySem.W.keepIn K (.ref f) = true)
    (hb : ∀ (kV doc pm : Value) (an : Option Addr) (cdv ct : Value) (us : List Value), us.length = ps.length → bindArgs (PySem.W.fnOf nm nm (defArgs st) (defBody st) (defScope st) .none kV doc pm an cdv ct) ⟨us, []⟩ = pure (ps.zip us)) :
    Def ⟨P, w, K, mg, base, gb⟩ nm st ps :=
  have F := fun_mk (st := st) l cc kp
  ⟨f, _, PySem.W.mg_of X N a, F, F.binds hb⟩

section
variable {P : Program} {w : World} {K : PySem.W.Frag} {mg mb : Str → Option Value} {k : Nat} {fa scr : Addr} {nm x : Str} {s1 : Shared} {us : List Value} {ns : List Int} {fm : List Int → Option Bool}
/-- what is tracked when the law is called: the script, or nothing, if the module knows it -/
structure AtStart (K : PySem.W.Frag) (P : Program) (w : World) (h : Heap) (scr : Addr) (ns : List Int) (T : Hp) : Prop where
  sees : SqL K T scr (ns.map V.int)
  holds : HOk P w T h
  none_else : ∀ q, q ≠ scr → T q = none
  frozen : ∀ u, T scr = some u → ∃ o ys, u = .frz o (.lst ys)
  unknown : T scr ≠ none → K.lookup scr = none
theorem start_of (KX : K.In s1.heap) (ha : s1.heap.get? scr = some { cls := .type "list", data := .seq us.toArray }) (hi : IntsAre us ns) (hl : ns.length ≤ sizeLine) : ∃ T, AtStart K P w s1.heap scr ns T := by
  have len := hi.length
  have sz : (ns.map V.int).length ≤ sizeLine := by rw [List.length_map]; exact hl
  rcases Option.eq_none_or_eq_some (K.lookup scr) with hk | ⟨ob, hk⟩
  · let ob0 : Obj := { cls := .type "list", data := .seq us.toArray }
    let T : Hp := fun q => if q = scr then some (.frz ob0 (.lst (ns.map V.int))) else none
    have T1 : T scr = some (.frz ob0 (.lst (ns.map V.int))) := if_pos rfl
    have T2 : ∀ q, q ≠ scr → T q = none := fun q z => if_neg z
    refine ⟨T, .inl (.inr ⟨ob0, T1⟩), fun q u e => ?_, T2, fun u e => ?_, fun _ => hk⟩
    · rcases Classical.em (q = scr) with z | z
      · subst z
        rw [T1] at e
        cases e
        exact ⟨ha, sz, us, _, vals_ints hi, ha⟩
      · rw [T2 q z] at e
        cases e
    · rw [T1] at e
      cases e
      exact ⟨_, _, rfl⟩
  · have same := KX scr ob hk
    rw [ha] at same
    have eo := Option.some.inj same
    subst eo
    exact ⟨fun _ => none, .inr ⟨_, us.toArray, _, hk, rfl, rfl, rfl, by rw [List.size_toArray, len]; exact hl, by simpa using vals_ints hi⟩, fun _ _ e => (nomatch e), fun _ _ => rfl, fun _ e => (nomatch e), fun z => absurd rfl z⟩
/-- the law, called -/
theorem lawG (KX : K.In s1.heap) (hns : s1.heap.Ns mainGlobals mg) (hbn : s1.heap.Ns builtinsNs mb) (hbb : ∀ x : Str, x ≠ "__name__" → mb x = bootBuiltins x) (hlim : s1.heap.NoLimit) (hgens : s1.gens = #[])
    (ha : s1.heap.get? scr = some { cls := .type "list", data := .seq us.toArray }) (hi : IntsAre us ns) (hl : ns.length ≤ cap) (hr : Room k callerA) (hm : mg nm = some (.ref fa))
    (F : ∀ base : Heap, K.In base → base.Ns mainGlobals mg → Fn ⟨P, w, K, mg, base, true⟩ nm [x] k (spP (sOne (rLK K rI)) rB fm)) (hlaw : fm ns = some true) :
    codeAny (model P w) callerA (.call (.ref fa) ⟨[.ref scr], []⟩) (fun r t => r = .ok (.ret (.bool true)) ∧ OldK s1.heap t.heap ∧ t.os = s1.os ∧ AllBare t.gens) s1 := by
  obtain ⟨T, st⟩ := start_of (P := P) (w := w) KX ha hi (cap_line hl)
  have only : ∀ q, T q ≠ none → q = scr := fun q z => Classical.byContradiction fun y => z (st.none_else q y)
  -- the heap without the script, where it is tracked
  have low : ∀ {q : Addr} {o : Obj}, s1.heap.get? q = some o → T q = none → (hidT s1.heap T).get? q = some o := fun e z => hidT_get e z
  have dictFree : ∀ {q : Addr} {o : Obj} {es : Array DictEntry} {j : Nat}, s1.heap.get? q = some o → o.data = .dict es j → T q = none := fun {q o es j} e dd => by
    rcases Classical.em (T q = none) with z | z
    · exact z
    · have zq := only q z
      subst zq
      rw [ha] at e
      cases e
      exact nomatch (dd : Data.seq us.toArray _ = Data.dict es j)
  have lowNs : ∀ {q : Addr} {f : Str → Option Value}, s1.heap.Ns q f → (hidT s1.heap T).Ns q f := fun ⟨o, es, j, e, dd, rest⟩ => ⟨o, es, j, low e (dictFree e dd), dd, rest⟩
  have lowK : K.In (hidT s1.heap T) := fun q o e => low (KX q o e) (by
    rcases Classical.em (T q = none) with z | z
    · exact z
    · have zq := only q z
      subst zq
      rw [st.unknown z] at e
      cases e)
  have hM : Mod K mg (hidT s1.heap T) := by
    refine ⟨lowK, lowNs hns, ⟨mb, lowNs hbn, hbb⟩, ?_⟩
    obtain ⟨ml, q1, q2⟩ := hlim
    exact ⟨ml, lowNs q1, q2⟩
  have e0 : Env0 P w K mg (hidT s1.heap T) callerA [] s1 T := by
    refine ⟨rfl, hM, fun q o e => of_hidT e, Nat.le_of_eq (hidT_size _ _), trivial, ?_, st.holds, .of_eq hgens⟩
    intro q z
    exact absurd (show q ∈ ([] : List Addr) from z) (by simp)
  obtain ⟨f, fd, hm2, kp, ⟨hb, _⟩, G⟩ := (F _ lowK (lowNs hns)).ex
  have ef : f = fa := by
    have hm2 : mg nm = some (.ref f) := hm2
    rw [hm] at hm2
    cases hm2; rfl
  subst ef
  have bind := hb s1 [.ref scr] KX rfl
  rw [List.append_nil] at bind
  have prom : spP (sOne (rLK K rI)) rB fm [.ref scr] T (fun v _ => v = .bl true) E0 := by
    refine ⟨T, ns, true, hlaw, Same.refl T, ⟨.ref scr, rfl, scr, ns.map V.int, rfl, st.sees, by rw [List.length_map]; exact hl, ?_⟩, fun v G' H' _ rv => rv⟩
    clear hlaw hl hi ha st
    induction ns with
    | nil => exact .nil
    | cons n ns ih => exact .cons rfl ih
  have done := G.run callerA [] s1 T ⟨[.ref scr], []⟩ [.ref scr] [.ref scr] _ E0 hr (fun _ => rfl) e0 bind (.cons rfl .nil) prom
  refine codeAny_mono done fun res t out => ?_
  match res, out with
  | .error e, out => exact (out : False).elim
  | .ok .next, out => exact (out : False).elim
  | .ok .brk, out => exact (out : False).elim
  | .ok .cont, out => exact (out : False).elim
  | .ok (.ret u), ⟨v, H', os, bare, un, hok', rel, q⟩ =>
    have q : v = .bl true := q
    subst q
    have eu : u = Value.bool true := rel
    subst eu
    refine ⟨rfl, OldK.of_keep fun q o e => ?_, os, bare⟩
    rcases Classical.em (T q = none) with z | z
    · exact un.keep q o e z (by intro y; exact absurd (show q ∈ ([] : List Addr) from y) (by simp)) (by simp)
    · have zq := only q z
      subst zq
      rcases hT : T q with _ | u
      · exact absurd hT z
      · obtain ⟨ob, ys, rfl⟩ := st.frozen u hT
        obtain ⟨e1, _⟩ := st.holds q _ hT
        obtain ⟨e2, _⟩ := hok' q _ (un.frzs q ob _ hT)
        rw [e] at e1
        cases e1
        exact e2
end
/-- the goal that the head leaves -/
theorem walkG {l : PySem.W.OpenLaw} {n k : Nat} {q : Program} {loose : List Str} {XP : (Str → Option Value) → Heap → Prop} {YP : World → Heap → Prop} {d : DefRec} {K : Params → PySem.W.Frag} {x : Str} {fm : List Int → Option Bool}
    (hn : l.most = some n) (hn2 : n ≤ cap) (hdf : d.params.defaults = []) (hr : Room k callerA) (hY : ∀ (w : World) (h : Heap), YP w h → (K w.params).In h)
    (F : ∀ (w : World) (mg : Str → Option Value) (h : Heap), (K w.params).In h → h.Ns mainGlobals mg → ∀ base : Heap, (K w.params).In base → base.Ns mainGlobals mg → Fn ⟨l.prog, w, K w.params, mg, base, true⟩ d.name [x] k (spP (sOne (rLK (K w.params) rI)) rB fm))
    (hlaw : ∀ ns : List Int, ns.length ≤ n → fm ns = some true) :
    PySem.W.WalkO q loose XP YP l.row.toRowW d [] (fun f vs => PySem.call f vs) := by
  refine Att.attach_call hn hdf fun w s0 s1 mg mb fa o pm cd doc scr us ns G Y _ _ _ hm hobj hints hlen hgens => ?_
  have KX := hY w _ Y
  exact lawG KX G.T.g G.T.b G.T.builtins G.T.nolimit hgens hobj hints (Nat.le_trans hlen hn2) hr hm (F w mg _ KX G.T.g) (hlaw ns hlen)
end Ty
set_option Elab.async false
set_option linter.all false
set_option maxRecDepth 100000
set_option maxHeartbeats 4000000
/-! Reasoning about mirrors: what a deck computation answers, how often it draws. -/
namespace Ty
open PySem

/-! ### simplifying mirrors -/
section
variable {𝓜 : Md} {S S' L L' ρ α β γ δ : Type}
theorem p_bnd_some (x : α) (k : α → Option β) : Option.bind (some x) k = k x := rfl
theorem p_bnd_bnd (m : Option α) (f : α → Option β) (g : β → Option γ) : Option.bind (Option.bind m f) g = Option.bind m fun x => Option.bind (f x) g := by cases m <;> rfl
theorem d_bnd_ret (x : α) (k : α → DkM β) : dB (dR x) k = k x := rfl
theorem d_bnd_bnd (m : DkM α) (f : α → DkM β) (g : β → DkM γ) : dB (dB m f) g = dB m fun x => dB (f x) g := by
  funext d
  show ((m d).bind fun p => f p.1 p.2).bind _ = (m d).bind _
  cases m d <;> rfl
theorem d_lft_some (x : α) : dLf (some x) = dR x := rfl
theorem d_bndF_nx (s : S) (k : S → DkM (Fl S' L ρ)) : bndF dkL (dR (.nx s)) k = k s := rfl
theorem d_bndF_rt (r : ρ) (k : S → DkM (Fl S' L ρ)) : bndF dkL (dR (.rt r)) k = dR (.rt r) := rfl
theorem p_bndF_nx (s : S) (k : S → Option (Fl S' L ρ)) : bndF pureMd (some (.nx s)) k = k s := rfl
theorem p_bndF_rt (r : ρ) (k : S → Option (Fl S' L ρ)) : bndF pureMd (some (.rt r)) k = some (.rt r) := rfl
theorem d_bndF_bnd (m : DkM α) (f : α → DkM (Fl S L ρ)) (k : S → DkM (Fl S' L ρ)) : bndF dkL (dB m f) k = dB m fun x => bndF dkL (f x) k := by
  funext d
  show Option.bind (Option.bind (m d) _) _ = Option.bind (m d) _
  cases m d <;> rfl
theorem p_bndF_bnd (m : Option α) (f : α → Option (Fl S L ρ)) (k : S → Option (Fl S' L ρ)) : bndF pureMd (Option.bind m f) k = Option.bind m fun x => bndF pureMd (f x) k := p_bnd_bnd _ _ _
theorem d_retM_rt (r : ρ) : retM dkL (dR (.rt r) : DkM (Fl S L ρ)) = dR r := rfl
theorem p_retM_rt (r : ρ) : retM pureMd (some (.rt r) : Option (Fl S L ρ)) = some r := rfl
theorem d_retM_bnd (m : DkM α) (f : α → DkM (Fl S L ρ)) : retM dkL (dB m f) = dB m fun x => retM dkL (f x) := by
  funext d
  show Option.bind (Option.bind (m d) _) _ = Option.bind (m d) _
  cases m d <;> rfl
theorem p_retM_bnd (m : Option α) (f : α → Option (Fl S L ρ)) : retM pureMd (Option.bind m f) = Option.bind m fun x => retM pureMd (f x) := p_bnd_bnd _ _ _
theorem lt_eq (x : α) (k : α → β) : lt x k = k x := rfl
theorem unc_mk (k : α → β → γ) (a : α) (b : β) : unc k (a, b) = k a b := rfl
theorem ifB_true (x y : α) : ifB true x y = x := rfl
theorem ifB_false (x y : α) : ifB false x y = y := rfl
theorem p_iteM (b : Bool) (x y : Option α) : iteM pureMd (some b) x y = ifB b x y := rfl
theorem d_iteM (b : Bool) (x y : DkM α) : iteM dkL (dR b) x y = ifB b x y := rfl
theorem p_notM (b : Bool) : notM pureMd (some b) = some (!b) := rfl
theorem d_notM (b : Bool) : notM dkL (dR b) = dR (!b) := rfl
theorem p_orM (a : Bool) (m : Option Bool) : orM pureMd (some a) m = ifB a (some true) m := rfl
theorem p_andM (a : Bool) (m : Option Bool) : andM pureMd (some a) m = ifB a m (some false) := rfl
theorem d_orM (a : Bool) (m : DkM Bool) : orM dkL (dR a) m = ifB a (dR true) m := rfl
theorem d_andM (a : Bool) (m : DkM Bool) : andM dkL (dR a) m = ifB a m (dR false) := rfl
end


/-! ### Hoare triples of the deck -/
structure DkInv (k : Nat) (d : Dk) : Prop where
  m0 : 0 ≤ d.mixed
  m1 : d.mixed < 4294967296
  n0 : 0 ≤ d.n
  n1 : d.n ≤ k
  len : d.cells.length ≤ 1000
theorem DkInv.mono {k j : Nat} {d : Dk} (h : DkInv k d) (l : k ≤ j) : DkInv j d := ⟨h.m0, h.m1, h.n0, by have := h.n1; omega, h.len⟩
/-- from every deck m gives an answer of P, drawing at most c times -/
def Dr {α : Type} (c : Nat) (m : DkM α) (P : α → Prop) : Prop := ∀ d k, DkInv k d → k + c ≤ 1000000 → ∃ x d', m d = some (x, d') ∧ DkInv (k + c) d' ∧ P x
section
variable {S L ρ α β γ : Type} {a b c : Nat} {m : DkM α} {k : α → DkM β} {P : α → Prop} {Q : β → Prop}
theorem dr_ret {x : α} (h : P x) : Dr 0 (dR x) P := fun d k i _ => ⟨x, d, rfl, i, h⟩
theorem dr_lft {o : Option α} {x : α} (e : o = some x) (h : P x) : Dr 0 (dLf o) P := fun d k i _ => ⟨x, d, by rw [e]; rfl, i, h⟩
theorem dr_bnd (h : Dr a m P) (g : ∀ x, P x → Dr b (k x) Q) : Dr (a + b) (dB m k) Q := fun d j i l => by
  obtain ⟨x, d1, e1, i1, p⟩ := h d j i (by omega)
  obtain ⟨y, d2, e2, i2, q⟩ := g x p d1 (j + a) i1 (by omega)
  exact ⟨y, d2, by show ((m d).bind _) = _; rw [e1]; exact e2, by rw [← Nat.add_assoc]; exact i2, q⟩
theorem dr_retK {x : α} (h : P x) : Dr 0 (dkL.ret x) P := fun d k i _ => ⟨x, d, rfl, i, h⟩
theorem dr_lftK {o : Option α} {x : α} (e : o = some x) (h : P x) : Dr 0 (dkL.lft o) P := fun d k i _ => ⟨x, d, by rw [e]; rfl, i, h⟩
theorem dr_bndK (h : Dr a m P) (g : ∀ x, P x → Dr b (k x) Q) : Dr (a + b) (dkL.bnd m k) Q := fun d j i l => by
  obtain ⟨x, d1, e1, i1, p⟩ := h d j i (by omega)
  obtain ⟨y, d2, e2, i2, q⟩ := g x p d1 (j + a) i1 (by omega)
  exact ⟨y, d2, by show ((m d).bind _) = _; rw [e1]; exact e2, by rw [← Nat.add_assoc]; exact i2, q⟩
theorem dr_mono {P' : α → Prop} (h : Dr a m P) (l : a ≤ b) (i : ∀ x, P x → P' x) : Dr b m P' := fun d j q l2 => by
  obtain ⟨x, d1, e1, i1, p⟩ := h d j q (by omega)
  exact ⟨x, d1, e1, i1.mono (by omega), i x p⟩
theorem dr_le (h : Dr a m P) (l : a ≤ b) : Dr b m P := dr_mono h l fun _ p => p
theorem dr_imp {P' : α → Prop} (h : Dr a m P) (i : ∀ x, P x → P' x) : Dr a m P' := dr_mono h (Nat.le_refl _) i
/-- a block's end -/
def EndP (I : S → Prop) (J : L → Prop) (R : ρ → Prop) : Fl S L ρ → Prop
  | .nx s => I s
  | .ct l => J l
  | .bk l => J l
  | .rt r => R r
def NoL (L : Type) : L → Prop := fun _ => False
theorem dr_for {S L ρ : Type} {I : S → Prop} {J : L → Prop} {R : ρ → Prop} {f : α → S → DkM (Fl S S ρ)} : ∀ {l : List α} {s : S}, (∀ a ∈ l, ∀ s, I s → Dr c (f a s) (EndP I I R)) → I s → Dr (l.length * c) (forL (L := L) dkL f l s) (EndP I J R)
  | [], s, _, h => by rw [List.length_nil, Nat.zero_mul]; exact dr_retK h
  | x :: l, s, hf, h => by
    have e : (x :: l).length * c = c + l.length * c := by rw [List.length_cons, Nat.succ_mul]; omega
    rw [e]
    refine dr_bndK (hf x (by simp) s h) fun r hr => ?_
    have rest : ∀ s', I s' → Dr (l.length * c) (forL (L := L) dkL f l s') (EndP I J R) := fun s' h' => dr_for (fun a ha => hf a (List.mem_cons_of_mem _ ha)) h'
    cases r with
    | nx s' => exact rest s' hr
    | ct s' => exact rest s' hr
    | bk s' => exact dr_le (dr_retK (P := EndP I J R) hr) (Nat.zero_le _)
    | rt r => exact dr_le (dr_retK (P := EndP I J R) hr) (Nat.zero_le _)
/-- a loop whose turns are counted, without break and continue -/
theorem dr_forN {S L ρ : Type} {I : Nat → S → Prop} {J : L → Prop} {R : ρ → Prop} {f : α → S → DkM (Fl S S ρ)} : ∀ {l : List α} {s : S} {n : Nat}, (∀ a ∈ l, ∀ i s, i < n + l.length → I i s → Dr c (f a s) (EndP (I (i + 1)) (fun _ => False) R)) → I n s → Dr (l.length * c) (forL (L := L) dkL f l s) (EndP (I (n + l.length)) J R)
  | [], s, n, _, h => by rw [List.length_nil, Nat.zero_mul]; exact dr_retK h
  | x :: l, s, n, hf, h => by
    have e : (x :: l).length * c = c + l.length * c := by rw [List.length_cons, Nat.succ_mul]; omega
    have e2 : n + (x :: l).length = n + 1 + l.length := by rw [List.length_cons]; omega
    rw [e, e2]
    refine dr_bndK (hf x (by simp) n s (by rw [List.length_cons]; omega) h) fun r hr => ?_
    cases r with
    | nx s' => exact dr_forN (fun a ha i s hi => hf a (List.mem_cons_of_mem _ ha) i s (by rw [e2]; exact hi)) hr
    | ct s' => exact hr.elim
    | bk s' => exact hr.elim
    | rt r => exact dr_le (dr_retK (P := EndP _ J R) hr) (Nat.zero_le _)
/-- the rest of a block -/
theorem dr_bndF {S S' L ρ : Type} {I : S → Prop} {I' : S' → Prop} {J : L → Prop} {R : ρ → Prop} {m : DkM (Fl S L ρ)} {k : S → DkM (Fl S' L ρ)} (h : Dr a m (EndP I J R)) (g : ∀ s, I s → Dr b (k s) (EndP I' J R)) : Dr (a + b) (bndF dkL m k) (EndP I' J R) :=
  dr_bndK h fun r hr => by
    cases r with
    | nx s => exact g s hr
    | ct s => exact dr_le (dr_retK (P := EndP I' J R) hr) (Nat.zero_le _)
    | bk s => exact dr_le (dr_retK (P := EndP I' J R) hr) (Nat.zero_le _)
    | rt r => exact dr_le (dr_retK (P := EndP I' J R) hr) (Nat.zero_le _)
theorem dr_retM {S L ρ : Type} {R : ρ → Prop} {m : DkM (Fl S L ρ)} (h : Dr a m (EndP (fun _ => False) (fun _ => False) R)) : Dr a (retM dkL m) R := by
  have := dr_bndK (b := 0) (k := fun f => dkL.lft (retO f)) (Q := R) h fun r hr => by
    cases r with
    | rt r => exact dr_lftK rfl hr
    | nx s => exact hr.elim
    | ct s => exact hr.elim
    | bk s => exact hr.elim
  exact this
theorem dr_lc {f : α → DkM β} : ∀ {l : List α}, (∀ a ∈ l, Dr c (f a) Q) → Dr (l.length * c) (lcM dkL (fun _ => dkL.ret true) f l) (fun ys => ys.length = l.length ∧ ∀ y ∈ ys, Q y)
  | [], _ => by rw [List.length_nil, Nat.zero_mul]; exact dr_retK ⟨rfl, fun y h => by simp at h⟩
  | x :: l, hf => by
    have e : (x :: l).length * c = c + (l.length * c + 0) := by rw [List.length_cons, Nat.succ_mul]; omega
    rw [e]
    show Dr _ (dkL.bnd (f x) fun y => dkL.bnd (lcM dkL (fun _ => dkL.ret true) f l) fun ys => dkL.ret (y :: ys)) _
    refine dr_bndK (hf x (by simp)) fun y hy => dr_bndK (dr_lc fun a ha => hf a (List.mem_cons_of_mem _ ha)) fun ys hys => dr_retK ⟨by rw [List.length_cons, List.length_cons, hys.1], fun z hz => ?_⟩
    rcases List.mem_cons.mp hz with e | e
    · rw [e]; exact hy
    · exact hys.2 z e
theorem dr_ifB {x y : DkM α} {t : Bool} (h1 : t = true → Dr a x P) (h2 : t = false → Dr a y P) : Dr a (ifB t x y) P := by
  cases t with
  | true => exact h1 rfl
  | false => exact h2 rfl
theorem dr_iteM {x y : DkM α} {t : DkM Bool} {T : Bool → Prop} (h : Dr a t T) (h1 : T true → Dr b x P) (h2 : T false → Dr b y P) : Dr (a + b) (iteM dkL t x y) P :=
  dr_bndK h fun z hz => by
    cases z with
    | true => exact h1 hz
    | false => exact h2 hz
theorem dr_lenM {α : Type} {m : DkM (List α)} {P : List α → Prop} (h : Dr a m P) (hl : ∀ xs, P xs → xs.length ≤ cap) : Dr a (lenM dkL m) P := by
  have := dr_bndK (b := 0) (k := fun xs => dkL.lft (if xs.length ≤ cap then some xs else none)) (Q := P) h fun xs hx => dr_lftK (if_pos (hl xs hx)) hx
  exact this
end
/-! ### pure loops -/
section
variable {S L ρ α β : Type}
theorem lc_all {f : α → Option β} {g : α → β} : ∀ {l : List α}, (∀ a ∈ l, f a = some (g a)) → lcM pureMd (fun _ => pureMd.ret true) f l = some (l.map g)
  | [], _ => rfl
  | x :: l, h => by
    show Option.bind (f x) (fun y => Option.bind (lcM pureMd (fun _ => pureMd.ret true) f l) fun ys => some (y :: ys)) = _
    rw [h x (by simp), lc_all fun a ha => h a (List.mem_cons_of_mem _ ha)]
    rfl
theorem lc_filter {p : α → Option Bool} {q : α → Bool} {f : α → Option β} {g : α → β} : ∀ {l : List α}, (∀ a ∈ l, p a = some (q a)) → (∀ a ∈ l, q a = true → f a = some (g a)) → lcM pureMd p f l = some ((l.filter q).map g)
  | [], _, _ => rfl
  | x :: l, hp, h => by
    have ih := lc_filter (l := l) (fun a ha => hp a (List.mem_cons_of_mem _ ha)) fun a ha => h a (List.mem_cons_of_mem _ ha)
    show Option.bind (p x) (fun b => if b = true then _ else lcM pureMd p f l) = _
    rw [hp x (by simp)]
    show (if q x = true then Option.bind (f x) (fun y => Option.bind (lcM pureMd p f l) fun ys => some (y :: ys)) else lcM pureMd p f l) = _
    by_cases e : q x = true
    · rw [if_pos e, h x (by simp) e, ih, List.filter_cons_of_pos e]; rfl
    · rw [if_neg e, ih, List.filter_cons_of_neg e]
/-- a for whose turns all go on -/
theorem for_fold {f : α → S → Option (Fl S S ρ)} {g : S → α → S} {I : S → Prop} : ∀ {l : List α} {s : S}, I s → (∀ a ∈ l, ∀ s, I s → f a s = some (.nx (g s a)) ∧ I (g s a)) → forL (L := L) pureMd f l s = some (.nx (l.foldl g s)) ∧ I (l.foldl g s)
  | [], s, h, _ => ⟨rfl, h⟩
  | x :: l, s, h, hf => by
    obtain ⟨e, h'⟩ := hf x (by simp) s h
    have := for_fold (l := l) h' fun a ha => hf a (List.mem_cons_of_mem _ ha)
    refine ⟨?_, this.2⟩
    show Option.bind (f x s) _ = _
    rw [e]
    exact this.1
end
/-! ### sizes of ints -/
theorem log2_lt' {n a : Nat} (h : n < 2 ^ a) (ha : 0 < a) : n.log2 < a := by
  by_cases z : n = 0
  · subst z; simpa using ha
  · exact (Nat.log2_lt z).mpr h
theorem mulM_ok {x y : Int} {a b : Nat} (hx : x.natAbs < 2 ^ a) (hy : y.natAbs < 2 ^ b) (ha : 0 < a) (hb : 0 < b) (h : a + b ≤ 1000000) : mulM x y = some (x * y) := by
  unfold mulM
  rw [if_pos]
  have h1 := log2_lt' hx ha
  have h2 := log2_lt' hy hb
  omega
theorem mul_lt' {x y : Int} {a b : Nat} (hx : x.natAbs < 2 ^ a) (hy : y.natAbs < 2 ^ b) : (x * y).natAbs < 2 ^ (a + b) := by
  rw [Int.natAbs_mul, Nat.pow_add]
  exact Nat.mul_lt_mul'' hx hy
theorem pow_mono' {n a b : Nat} (h : n < 2 ^ a) (l : a ≤ b) : n < 2 ^ b := Nat.lt_of_lt_of_le h (Nat.pow_le_pow_right (by decide) l)
theorem sub_lt' {x y : Int} {a : Nat} (hx : x.natAbs < 2 ^ a) (hy : y.natAbs < 2 ^ a) : (x - y).natAbs < 2 ^ (a + 1) := by
  rw [Nat.pow_succ]; omega
theorem add_lt' {x y : Int} {a : Nat} (hx : x.natAbs < 2 ^ a) (hy : y.natAbs < 2 ^ a) : (x + y).natAbs < 2 ^ (a + 1) := by
  rw [Nat.pow_succ]; omega
end Ty
set_option Elab.async false
set_option linter.all false
set_option maxRecDepth 100000
set_option maxHeartbeats 4000000
/-! isinstance by the type of a representation; None or a value; // by any great int; an int among ints; an item of our own list is set. -/
namespace Ty
open PySem PySem.Spec PyProof.Rows L2 StX

/-! ### isinstance -/
structure TyR (K : PySem.W.Frag) {α : Type} (R : Rp α) (ty : α → String) : Prop where
  t : ∀ G H v x, Same G H → R.r G v x → TyX K H v (.type (ty x))
section
variable {K : PySem.W.Frag} {α : Type} {R : Rp α} {A : Rps α} {ty : α → String}
theorem ty_I : TyR K rI (fun _ => "int") := ⟨fun G H v x s h => by cases h; exact .base (.int x)⟩
theorem ty_B : TyR K rB (fun _ => "bool") := ⟨fun G H v x s h => by cases h; exact .base (.bl x)⟩
theorem ty_N : TyR K rN (fun _ => "NoneType") := ⟨fun G H v x s h => by cases h; exact .base .non⟩
theorem ty_S : TyR K rS (fun _ => "str") := ⟨fun G H v x s h => by rw [h.1]; exact .base (.str _)⟩
theorem ty_L : TyR K (rL R) (fun _ => "list") := ⟨fun G H v x s ⟨a, vs, e, h, _⟩ => by rw [e]; exact .base (.lst (s _ _ h))⟩
theorem ty_T : TyR K (rT K A) (fun _ => "tuple") := ⟨fun G H v x s ⟨a, vs, e, h, _⟩ => by
  rw [e]
  rcases same_t s h with (h | ⟨o, h⟩) | h
  · exact .base (.tup h)
  · exact .fTuple h
  · obtain ⟨o, its, n, h1, h2, h3⟩ := h
    exact .kTuple h1 h2⟩
theorem ty_O (h : TyR K R ty) : TyR K (rO R) (fun o => match o with | none => "NoneType" | some x => ty x) := ⟨fun G H v o s r => by
  cases o with
  | none => cases r; exact .base .non
  | some x => exact h.t G H v x s r⟩
end
section
variable {𝓜 : Md} {S L ρ α β γ : Type} {c : Ctx} {e e1 e2 : Expr} {sts : List Stmt} {Γ Γ' : List Slot} {Γn : S → List Slot} {Γl : L → List Slot} {R : Rp ρ} {T : Rp α} {U : Rp β} {x : α} {m : 𝓜.M α} {pos p p2 p3 tpos : Pos} {i : Nat} {y s tn : Str} {ty : α → String} {tt : String} {K : PySem.W.Frag}
theorem isi_args {X : Cx} {t : TE} (hX : InC c X) (hp : PE X e t) (hm2 : c.g.mg tn = none) (hv2 : bootBuiltins tn = some (.type tt)) (h2 : okGlob c.sc tn = true) (hs : starEach (e :: [.Name tn p2]) X.env = (false, eval e X.env) :: starEach [.Name tn p2] X.env) (hs2 : starEach (.Name tn p2 :: []) X.env = (false, eval (.Name tn p2) X.env) :: starEach [] X.env) : PA X [e, .Name tn p2] (tCons t (tCons (tC (.ty tt)) tNil)) :=
  pa_cons hp (pa_cons (pe_bltn (hX.gl (gl_l h2)) (by rw [hX.mg]; exact hm2) hv2 rfl (gl_n h2) (gl_d h2)) pa_nil hs2) hs
theorem isiB (X : Cx) (h : InC c X) : CallR X (.builtin "isinstance") (rIsi c.g.K) := h.K ▸ call_isi
theorem x_isi {f : α → Bool} (he : XV c e Γ T x) (ht : TyR c.g.K T ty) (hf : ∀ x, kitB (ty x) tt = some (f x)) (hm : c.g.mg "isinstance" = none) (hm2 : c.g.mg tn = none) (hv : bootBuiltins "isinstance" = some (.builtin "isinstance")) (hv2 : bootBuiltins tn = some (.type tt)) (h : okGlob c.sc "isinstance" = true := by kernel_rfl) (h2 : okGlob c.sc tn = true := by kernel_rfl)
    (hs : ∀ env, starEach (e :: [.Name tn p2]) env = (false, eval e env) :: starEach [.Name tn p2] env := by intro _; rfl) (hs2 : ∀ env, starEach (.Name tn p2 :: []) env = (false, eval (.Name tn p2) env) :: starEach [] env := by intro _; rfl) (hpl : ∀ env, (backTo pos (starEach [.Name tn p2] env)).any (·.1) = false := by intro _; rfl) :
    XV c (.Call (.Name "isinstance" p) [e, .Name tn p2] [] pos) Γ rB (f x) :=
  let ⟨t, pe, ee⟩ := he; ⟨_, fun X hX => pe_callB (isiB X hX) (hX.gl (gl_l h)) (by rw [hX.mg]; exact hm) hv (isi_args hX (pe X hX) hm2 hv2 h2 (hs _) (hs2 _)) (gl_n h) (gl_d h) (hs _) (hpl _), fun C B σ G H Q ok k =>
    ee C B σ G H _ ok fun v G1 H1 e1 r1 => ⟨v, .ty tt, .type (ty x), .type tt, f x, rfl, .ty tt, ht.t G1 H1 v x e1.sub r1, kit_ty (hf x), k _ G1 H1 e1 rfl⟩⟩
theorem xm_isi {f : α → Bool} (he : XM 𝓜 c e Γ T m) (ht : TyR c.g.K T ty) (hf : ∀ x, kitB (ty x) tt = some (f x)) (hm : c.g.mg "isinstance" = none) (hm2 : c.g.mg tn = none) (hv : bootBuiltins "isinstance" = some (.builtin "isinstance")) (hv2 : bootBuiltins tn = some (.type tt)) (h : okGlob c.sc "isinstance" = true := by kernel_rfl) (h2 : okGlob c.sc tn = true := by kernel_rfl)
    (hs : ∀ env, starEach (e :: [.Name tn p2]) env = (false, eval e env) :: starEach [.Name tn p2] env := by intro _; rfl) (hs2 : ∀ env, starEach (.Name tn p2 :: []) env = (false, eval (.Name tn p2) env) :: starEach [] env := by intro _; rfl) (hpl : ∀ env, (backTo pos (starEach [.Name tn p2] env)).any (·.1) = false := by intro _; rfl) :
    XM 𝓜 c (.Call (.Name "isinstance" p) [e, .Name tn p2] [] pos) Γ rB (𝓜.bnd m fun x => 𝓜.ret (f x)) :=
  let ⟨t, pe, ee⟩ := he; ⟨_, fun X hX => pe_callB (isiB X hX) (hX.gl (gl_l h)) (by rw [hX.mg]; exact hm) hv (isi_args hX (pe X hX) hm2 hv2 h2 (hs _) (hs2 _)) (gl_n h) (gl_d h) (hs _) (hpl _), fun C B d u d' σ G H Q rr ok at0 k => by
    obtain ⟨x, d1, r1, rr⟩ := 𝓜.run_bnd rr
    obtain ⟨z1, z2⟩ := 𝓜.run_ret rr
    subst z1; subst z2
    exact ee C B d x d' σ G H _ r1 ok at0 fun v G1 H1 e1 a1 r1 => ⟨v, .ty tt, .type (ty x), .type tt, f x, rfl, .ty tt, ht.t G1 H1 v x e1.sub r1, kit_ty (hf x), k _ G1 H1 e1 a1 rfl⟩⟩
/-! ### None or a value -/
/-- its values are not None -/
def NoNon {α : Type} (R : Rp α) : Prop := ∀ G v x, R.r G v x → v ≠ .non
theorem nn_I : NoNon rI := fun G v x h => by cases h; exact fun z => by cases z
theorem nn_S : NoNon rS := fun G v x h => by rw [h.1]; exact fun z => by cases z
theorem nn_L : NoNon (rL T) := fun G v x ⟨a, vs, e, _⟩ => by rw [e]; exact fun z => by cases z
theorem nn_T {A : Rps α} : NoNon (rT K A) := fun G v x ⟨a, vs, e, _⟩ => by rw [e]; exact fun z => by cases z
theorem rv_isNone (h : NoNon T) : RV (fun x y H Q => y = .non ∧ Q (.bl (decide (x = .non))) H) (rO T) rN rB (fun o _ => o.isNone) := fun G H v w x y Q s h1 h2 k => by
  refine ⟨h2, ?_⟩
  cases x with
  | none => cases h1; exact k _ G H (Ext.refl s) rfl
  | some x => rw [decide_eq_false (h G v x h1)]; exact k _ G H (Ext.refl s) rfl
theorem rv_notNone (h : NoNon T) : RV (fun x y H Q => y = .non ∧ Q (.bl (!decide (x = .non))) H) (rO T) rN rB (fun o _ => o.isSome) := fun G H v w x y Q s h1 h2 k => by
  refine ⟨h2, ?_⟩
  cases x with
  | none => cases h1; exact k _ G H (Ext.refl s) rfl
  | some x => rw [decide_eq_false (h G v x h1)]; exact k _ G H (Ext.refl s) rfl
/-- where it is used, it is a value -/
theorem XV.the {o : Option α} (h : XV c e Γ (rO T) o) : XM 𝓜 c e Γ T (𝓜.lft o) := let ⟨t, p, q⟩ := h; ⟨t, p, fun C B d x d' σ G H Q rr ok at0 k => by
  obtain ⟨e1, e2⟩ := 𝓜.run_lft rr
  subst e1; subst e2
  exact q C B σ G H Q ok fun v G1 H1 e1 r1 => k v G1 H1 e1.mono (𝓜.at_st e1.hs at0) r1⟩
theorem XM.the {mo : 𝓜.M (Option α)} (h : XM 𝓜 c e Γ (rO T) mo) : XM 𝓜 c e Γ T (𝓜.bnd mo fun o => 𝓜.lft o) := let ⟨t, p, q⟩ := h; ⟨t, p, fun C B d x d' σ G H Q rr ok at0 k => by
  obtain ⟨o, d1, r1, r2⟩ := 𝓜.run_bnd rr
  obtain ⟨e1, e2⟩ := 𝓜.run_lft r2
  subst e1; subst e2
  exact q C B d (some x) d' σ G H Q r1 ok at0 fun v G1 H1 e1 a1 r1 => k v G1 H1 e1 a1 r1⟩
/-! ### // by any great int -/
def CDivNW (_ j : Int) : Prop := j ≠ 0 ∧ j.natAbs.log2 < 9000
theorem op_fdivNW {X : Cx} : OpR X (binaryOp .FloorDiv) (L2.rI CDivNW fun i j => .int (i.fdiv j)) := opI fun i j _ _ _ _ _ hc q => floordiv_int hc.1 q (.inl (PyProof.noPylong_of_log2 hc.2))
def divNW (i j : Int) : Option Int := if j ≠ 0 ∧ j.natAbs.log2 < 9000 then some (i.fdiv j) else none
theorem rp_divNW : RP (L2.rI CDivNW fun i j => .int (i.fdiv j)) rI rI rI divNW := fun G H v w x y u Q e s h1 h2 k => by
  unfold divNW at e
  split at e
  · rename_i q
    cases e
    exact ⟨x, y, h1, h2, q, k _ G H (Ext.refl s) rfl⟩
  · cases e
/-! ### an item of a tuple of three ints, at a place that is not written -/
def atT3 (x : Int × Int × Int) (i : Int) : Option Int := atI [x.1, x.2.1, x.2.2] i
theorem rp_ixT3 : RP (rIxT K) (rT K (sCons rI (sCons rI (sOne rI)))) rI rI atT3 := fun G H v w x i u Q e s ⟨a, vs, ev, hv, hz, v1, ws1, e1, h1, v2, ws2, e2, h3, v3, e3, h4⟩ h2 k => by
  cases h1; cases h3; cases h4
  have pr : Paired (rI.r G) [V.int x.1, V.int x.2.1, V.int x.2.2] [x.1, x.2.1, x.2.2] := .cons rfl (.cons rfl (.cons rfl .nil))
  obtain ⟨z, q1, q2⟩ := paired_at pr e
  subst e1; subst e2; subst e3
  exact ⟨a, _, i, z, ev, h2, same_t s hv, q1, k z G H (Ext.refl s) q2⟩
/-! ### an int among ints -/
theorem inV_ints (i : Int) (xs : List Int) : inV (.int i) (xs.map .int) = xs.contains i := by
  unfold inV
  induction xs with
  | nil => rfl
  | cons x xs ih =>
    rw [List.map_cons, List.any_cons, ih, List.contains_cons]
    congr 1
    show (x == i) = (i == x)
    exact Bool.eq_iff_iff.mpr ⟨fun h => by rw [eq_of_beq h]; simp, fun h => by rw [eq_of_beq h]; simp⟩
theorem flat_ints (xs : List Int) : (xs.map V.int).all flatV = true := by
  rw [List.all_eq_true]
  intro v hv
  obtain ⟨x, _, rfl⟩ := List.mem_map.mp hv
  rfl
theorem ints_are {G : Hp} : ∀ {vs : List V} {xs : List Int}, Paired (rI.r G) vs xs → vs = xs.map .int
  | _, _, .nil => rfl
  | _, _, .cons h t => by rw [List.map_cons, ints_are t]; cases h; rfl
theorem rv_inI : RV (rIn K false) rI (rL rI) rB (fun i xs => xs.contains i) := fun G H v w i xs Q s h1 ⟨a, vs, e, hv, hz, pr⟩ k => by
  cases h1
  have ev := ints_are pr
  subst ev
  refine ⟨a, _, e, .inl (SqL.of (s _ _ hv)), rfl, flat_ints xs, ?_⟩
  rw [if_neg Bool.false_ne_true, inV_ints]
  exact k _ G H (Ext.refl s) rfl
theorem rv_ninI : RV (rIn K true) rI (rL rI) rB (fun i xs => !xs.contains i) := fun G H v w i xs Q s h1 ⟨a, vs, e, hv, hz, pr⟩ k => by
  cases h1
  have ev := ints_are pr
  subst ev
  refine ⟨a, _, e, .inl (SqL.of (s _ _ hv)), rfl, flat_ints xs, ?_⟩
  rw [if_pos rfl, inV_ints]
  exact k _ G H (Ext.refl s) rfl
theorem opInS (X : Cx) (h : InC c X) : OpR X (compareOp .In) (rIn c.g.K false) := h.K ▸ op_in_seq
theorem opNinS (X : Cx) (h : InC c X) : OpR X (compareOp .NotIn) (rIn c.g.K true) := h.K ▸ op_notIn_seq
/-! ### an item of our own list is set -/
def setI {α : Type} (xs : List α) (i : Int) (x : α) : Option (List α) := (ixN xs.length i).map fun j => xs.set j x
theorem paired_set {F : V → α → Prop} {v : V} {x : α} : ∀ {vs : List V} {xs : List α} (j : Nat), Paired F vs xs → F v x → Paired F (vs.set j v) (xs.set j x)
  | _, _, _, .nil, _ => by simp; exact .nil
  | _, _, 0, .cons _ t, h => .cons h t
  | _, _, j + 1, .cons f t, h => .cons f (paired_set j t h)
theorem xs_setIx {xs : List α} {mi : 𝓜.M Int} {ie : Expr} {p1 : Pos} {k : List α → 𝓜.M (Fl S L ρ)} {Γ' : List α → List Slot} (h : Has Γ i (.own T xs)) (he : XM 𝓜 c e Γ T m) (hie : XM 𝓜 c ie Γ rI mi) (q : ∀ ys, Put Γ i (.own T ys) (Γ' ys)) (hr : ∀ ys, XS 𝓜 c sts (Γ' ys) Γn Γl R (k ys)) (hv : okVar c.N c.sc i y = true := by kernel_rfl)
    (hs : ∀ env, swapsWithSole [.Subscript (.Name y p1) ie p2] e pos.line env = pure false := by intro _; rfl) (hw : ∀ X, InC c X → swappedStores [.Subscript (.Name y p1) ie p2] e X.env = pure none := by intro _ _; rfl)
    (h1 : ∀ env, (assignEach [.Subscript (.Name y p1) ie p2] env).map (·.2) = [assign (.Subscript (.Name y p1) ie p2) env] := by intro _; rfl)
    (ha : ∀ env v, assign (.Subscript (.Name y p1) ie p2) env v = (do
      let ov ← holding [v] (eval (.Name y p1) env)
      let iv ← holding [v, ov] (eval ie env)
      standAt p2
      holding [v, ov, iv] (setItem ov iv v)
      release [v, ov, iv] []) := by intro _ _; rfl) :
    XS 𝓜 c (.Assign [.Subscript (.Name y p1) ie p2] e pos :: sts) Γ Γn Γl R (𝓜.bnd m fun a => 𝓜.bnd mi fun j => 𝓜.bnd (𝓜.lft (setI xs j a)) k) :=
  let ⟨t, pe, ee⟩ := he; let ⟨ti, pi, ei⟩ := hie; ⟨tSeq (tAsg t (gSub (tVar i) ti rSetL)) (WS c sts), fun X hX => pss_cons (ps_asg (pe X hX) (pg_sub (pe_var (by rw [hX.N]; exact va_N hv) (hX.vis (va_V hv)) (va_d hv) (va_c hv)) (pi X hX) set_list (ha _)) (hs _) (hw X hX) (h1 _)) (pss_can X hX), fun C d f d' G0 H0 σ G H D rr ok at0 kk => by
    obtain ⟨a, d1, r1, rr⟩ := 𝓜.run_bnd rr
    obtain ⟨j, d2, r2, rr⟩ := 𝓜.run_bnd rr
    obtain ⟨ys, d3, r3, r4⟩ := 𝓜.run_bnd rr
    obtain ⟨q1, q2⟩ := 𝓜.run_lft r3
    subst q2
    obtain ⟨n, hn, eys⟩ := Option.map_eq_some_iff.mp q1
    subst eys
    refine ee C H0 d a d1 σ G H _ r1 ok.ok at0 fun v G1 H1 e1 a1 p1 => ?_
    have ok1 := ok.ext e1
    obtain ⟨o, ho, p', vs, eo, hp, gp, nc, bp, hz, pr⟩ := ok1.ok.has h
    refine ⟨.ref p', by rw [ho, eo], ei C H0 d1 j d3 σ G1 H1 _ r2 ok1.ok a1 fun w G2 H2 e2 a2 p2 => ?_⟩
    have ok2 := ok1.ext e2
    obtain ⟨o2, ho2, p3, vs2, eo2, hp2, gp2, nc2, bp2, hz2, pr2⟩ := ok2.ok.has h
    rw [ho] at ho2
    cases ho2
    rw [eo] at eo2
    cases eo2
    refine ⟨p', vs2, j, n, rfl, p2, hp2, by rw [Paired.length pr2]; exact hn, ?_⟩
    have at2 : 𝓜.at_ (upd H2 p' (.lst (vs2.set n v))) C d3 := 𝓜.at_in (fun b o hb q => by rw [upd_ne (fun z => by subst z; exact nc2 hb)]; exact q) a2
    exact (hr _).can C d3 f d' G0 H0 σ G2 _ D r4 ⟨ok2.ok.mutate h (by rw [ho, eo]) (q _) (by rw [List.length_set]; exact hz2) (paired_set n pr2 (T.st e2.g p1)), ok2.ex.put bp2 gp2⟩ at2 (kk.mono (e1.g.trans e2.g))⟩
end
end Ty
set_option Elab.async false
set_option linter.all false
set_option maxRecDepth 100000
set_option maxHeartbeats 4000000
/-! Instances: fields, how one is made. -/
namespace Ty
open PySem PySem.Spec PyProof.Rows L2 StX

/-- an instance of the class at cls, its fields set for good -/
def rObj {α : Type} (cls : Addr) (names : List Str) (A : Rps α) : Rp α := ⟨fun H v x => ∃ a dx vs, v = .ref a ∧ H a = some (.ins cls dx (names.zip vs)) ∧ vs.length = names.length ∧ A.r H vs x,
  fun s ⟨a, dx, vs, e, h, z, r⟩ => ⟨a, dx, vs, e, s _ _ h, z, A.st s r⟩⟩
theorem look_zip : ∀ {names : List Str} {vs : List V} {j : Nat} {f : Str} {v : V}, names.Nodup → names[j]? = some f → vs[j]? = some v → (names.zip vs).lookup f = some v
  | [], _, _, _, _, _, h, _ => by simp at h
  | _ :: _, [], _, _, _, _, _, h => by simp at h
  | a :: names, w :: vs, 0, f, v, _, h1, h2 => by
    have e1 : a = f := by simpa using h1
    have e2 : w = v := by simpa using h2
    rw [List.zip_cons_cons, List.lookup_cons, e1, e2]
    simp
  | a :: names, w :: vs, j + 1, f, v, nd, h1, h2 => by
    have h1' : names[j]? = some f := by simpa using h1
    have hne : (f == a) = false := by
      rw [beq_eq_false_iff_ne]
      intro z
      rw [z] at h1'
      exact (List.nodup_cons.mp nd).1 (List.mem_of_getElem? h1')
    rw [List.zip_cons_cons, List.lookup_cons, hne]
    exact look_zip (List.nodup_cons.mp nd).2 h1' (by simpa using h2)
/-- what is known of a class whose instances have these fields -/
structure ClsF (K : PySem.W.Frag) (cls : Addr) (names : List Str) : Prop where
  c : Cls K cls
  no : ∀ f ∈ names, NoAttr K cls f
section
variable {𝓜 : Md} {α β : Type} {c : Ctx} {e : Expr} {Γ : List Slot} {S : Rp β} {x : α} {m : 𝓜.M α} {pos p : Pos} {cls : Addr} {names : List Str} {A : Rps α} {j : Nat} {f : Str}
theorem x_fld {g : α → β} (F : ClsF c.g.K cls names) (he : XV c e Γ (rObj cls names A) x) (hi : Item A j S g) (hk : names[j]? = some f) (nd : names.Nodup := by decide +kernel) (hb : ∀ env, attributeBase e f env (eval e env) = eval e env := by intro _; rfl) : XV c (.Attribute e f pos) Γ S (g x) :=
  let ⟨t, pe, ee⟩ := he; ⟨tFld c.g.K t f, fun X hX => by rw [← hX.K]; exact pe_fld (pe X hX) (hb _), fun C B σ G H Q ok k => ee C B σ G H _ ok fun v G1 H1 e1 ⟨a, dx, vs, ev, hv, hz, rr⟩ => by
    obtain ⟨z, h1, h2⟩ := item_at hi rr
    exact ⟨a, cls, dx, _, z, ev, e1.sub _ _ hv, F.c, F.no f (List.mem_of_getElem? hk), look_zip nd hk h1, k z G1 H1 e1 h2⟩⟩
theorem xm_fld {g : α → β} (F : ClsF c.g.K cls names) (he : XM 𝓜 c e Γ (rObj cls names A) m) (hi : Item A j S g) (hk : names[j]? = some f) (nd : names.Nodup := by decide +kernel) (hb : ∀ env, attributeBase e f env (eval e env) = eval e env := by intro _; rfl) : XM 𝓜 c (.Attribute e f pos) Γ S (𝓜.bnd m fun x => 𝓜.ret (g x)) :=
  let ⟨t, pe, ee⟩ := he; ⟨tFld c.g.K t f, fun X hX => by rw [← hX.K]; exact pe_fld (pe X hX) (hb _), fun C B d u d' σ G H Q rr ok at0 k => by
    obtain ⟨x, d1, r1, rr⟩ := 𝓜.run_bnd rr
    obtain ⟨z1, z2⟩ := 𝓜.run_ret rr
    subst z1; subst z2
    exact ee C B d x d' σ G H _ r1 ok at0 fun v G1 H1 e1 a1 ⟨a, dx, vs, ev, hv, hz, rr⟩ => by
      obtain ⟨z, h1, h2⟩ := item_at hi rr
      exact ⟨a, cls, dx, _, z, ev, e1.sub _ _ hv, F.c, F.no f (List.mem_of_getElem? hk), look_zip nd hk h1, k z G1 H1 e1 a1 h2⟩⟩
end

/-! ### making an instance -/
@[reducible] def Glb.low (g : Glb) : Glb := { g with gd := false }
theorem fnOk_of {P : Program} {w : World} {K : PySem.W.Frag} {mg : Str → Option Value} {base : Heap} {k : Nat} {f : Addr} {fd : FuncData} {ps : List Str} {sp : Sp} (F : FnG ⟨P, w, K, mg, base, false⟩ k f fd ps sp) : FnOk P w K mg base CX0 k f fd ps sp :=
  ⟨F.len, fun A outer s H args us vs Q E hr e0 bd r h => F.run A outer s H args us vs Q E hr (fun z => by cases z) e0 bd r h⟩
/-- what __init__ promises: it sets the fields, in this order -/
def spInit {α β : Type} (cls : Addr) (names : List Str) (A : Rps α) (B : Rps β) (fm : α → Option β) : Sp := fun vs H Q _ => ∃ G x z a dx ws, fm x = some z ∧ vs = .ref a :: ws ∧ H a = some (.ins cls dx []) ∧ G a = none ∧ Same G H ∧ A.r G ws x ∧
  ∀ G' H' us, Ext [a] G H G' H' → H' a = some (.ins cls dx (names.zip us)) → us.length = names.length → B.r G' us z → Q .non H'
/-- a class of the module by its name -/
structure Mkr (g : Glb) (name : Str) (cls : Addr) (ps : List Str) (k : Nat) (sp : Sp) : Prop where
  ex : ∃ f fd, g.mg name = some (.ref cls) ∧ Mk g.K cls f ∧ Binds g.K fd ps [] ∧ FnG g.low k f fd ps sp
section
variable {𝓜 : Md} {α β : Type} {c : Ctx} {e : Expr} {es : List Expr} {Γ : List Slot} {m : 𝓜.M α} {pos p : Pos} {cls : Addr} {names : List Str} {A : Rps α} {B : Rps β} {k : Nat} {s : Str} {ps : List Str}
theorem xm_make {fm : α → Option β} (F : Mkr c.g s cls ps k (spInit cls names A B fm)) (hk : k + 1 ≤ c.k) (ha : XA 𝓜 c (e :: es) Γ A m) (h : okGlob c.sc s = true := by kernel_rfl)
    (he : ∀ env, starEach (e :: es) env = (false, eval e env) :: starEach es env := by intro _; rfl) (hpl : ∀ env, (backTo pos (starEach es env)).any (·.1) = false := by intro _; rfl) : XM 𝓜 c (.Call (.Name s p) (e :: es) [] pos) Γ (rObj cls names B) (𝓜.bnd m fun x => 𝓜.lft (fm x)) :=
  let ⟨t, pa, ea⟩ := ha; ⟨tMake cls (spInit cls names A B fm) [] E0 t, fun X hX => by
    obtain ⟨f, fd, hm, M, hb, G⟩ := F.ex
    rw [hX.glb] at hm M hb G
    exact pe_make M (fnOk_of G) (hX.room.mono hk) (hX.gl (gl_l h)) hm hb .nil pass0 (pa X hX) (gl_d h) (he _) (hpl _), fun C B' d u d' σ G H Q rr ok at0 kq => by
    obtain ⟨x, d1, r1, rr⟩ := 𝓜.run_bnd rr
    obtain ⟨q1, q2⟩ := 𝓜.run_lft rr
    subst q2
    refine ea C B' d x d' σ G H _ r1 ok at0 fun vs G1 H1 e1 a1 p1 => fun a dx na nx ne => ?_
    -- the two new objects, not fixed yet
    have x1 : Ext (𝓜.cells C) G1 H1 G1 (upd H1 dx (.own a)) := Ext.newM e1.sub nx
    have na' : (upd H1 dx (.own a)) a = none := by rw [upd_ne (Ne.symm ne)]; exact na
    have x2 : Ext (𝓜.cells C) G1 (upd H1 dx (.own a)) G1 (upd (upd H1 dx (.own a)) a (.ins cls dx [])) := Ext.newM x1.sub na'
    have x12 := x1.trans x2
    have ga : G1 a = none := free_of e1.sub na
    refine ⟨G1, x, u, a, dx, vs, q1, by rw [List.append_nil], upd_same, ga, x12.sub, p1, fun G' H' us ex hi hz rb => ⟨rfl, ?_⟩⟩
    have ga' : G' a = none := ex.fr a (by rw [upd_same]; exact fun z => by cases z) ga
    -- what has changed since is the new object alone
    have x3 : Ext (𝓜.cells C) G1 H1 G' H' := ⟨x12.g.trans ex.g, fun b o hb q => by
      have hba : b ≠ a := fun z => by rw [z, na] at q; cases q
      exact ex.h b o (fun z => hba (List.mem_singleton.mp z)) (x12.h b o hb q), fun b q => ex.th b (x12.th b q), ex.sub, fun b q w => ex.fr b (x12.th b q) (x12.fr b q w)⟩
    have x4 := (e1.trans x3)
    have nH : H a = none := back_none e1 na
    have x5 := x4.fix nH hi ga'
    have nC : ∀ b, b ∈ C → b ≠ a := fun b hb z => ok.dkh b hb (by rw [z]; exact nH)
    refine kq (.ref a) _ H' x5 (𝓜.at_in (fun b o hb q => ?_) a1) ⟨a, dx, us, rfl, upd_same, hz, B.st (fun b o q => by rw [upd_ne (ne_of_none q ga')]; exact q) rb⟩
    have hba : b ≠ a := nC b hb
    have hbd : b ≠ dx := fun z => by rw [z, nx] at q; cases q
    exact ex.h b o (fun z => hba (List.mem_singleton.mp z)) (by rw [upd_ne hba, upd_ne hbd]; exact q)⟩
end

/-! ### __init__ -/
theorem lookup_no : ∀ {done : List Str} {vs : List V} {f : Str}, f ∉ done → (done.zip vs).lookup f = none
  | [], _, _, _ => by simp
  | _ :: _, [], _, _ => by simp
  | a :: done, v :: vs, f, h => by
    rw [List.zip_cons_cons, List.lookup_cons]
    have : (f == a) = false := by rw [beq_eq_false_iff_ne]; exact fun z => h (by rw [z]; simp)
    rw [this]
    exact lookup_no fun z => h (List.mem_cons_of_mem _ z)
def XInit {β : Type} (c : Ctx) (cls : Addr) (sts : List Stmt) (Γ : List Slot) (done names : List Str) (B : Rps β) (m : Option β) : Prop := ∃ t, (∀ X, InC c X → PSs X sts t) ∧
  ∀ a dx vs0 z G0 H0 σ G H (D : Ends), m = some z → EnvB [a] G0 H0 Γ σ G H → H a = some (.ins cls dx (done.zip vs0)) → vs0.length = done.length →
    (∀ σ' G' H' us, Ext [a] G0 H0 G' H' → Same G G' → H' a = some (.ins cls dx ((done ++ names).zip (vs0 ++ us))) → us.length = names.length → B.r G' us z → D.nx σ' H') → t D σ H
section
variable {α β : Type} {c : Ctx} {e te : Expr} {sts rs : List Stmt} {Γ : List Slot} {T : Rp α} {B : Rps β} {me : Option α} {mr : Option β} {pos p p1 p2 : Pos} {cls : Addr} {done names all : List Str} {i : Nat} {sd f : Str}
theorem i_put : ∀ {done : List Str} {vs0 : List V} {v : V}, f ∉ done → vs0.length = done.length → putF f v (done.zip vs0) = (done ++ [f]).zip (vs0 ++ [v])
  | [], [], _, _, _ => rfl
  | [], _ :: _, _, _, h => by simp at h
  | _ :: _, [], _, _, h => by simp at h
  | a :: done, w :: vs, v, h, hl => by
    have hne : a ≠ f := fun z => h (by rw [z]; simp)
    show (if a = f then _ else (a, w) :: putF f v (done.zip vs)) = _
    rw [if_neg hne, i_put (fun z => h (List.mem_cons_of_mem _ z)) (by simpa using hl)]
    rfl
/-- self.f = e, evaluated: the object grows by a field -/
theorem ev_set {t : TE} {G0 H0 G H : Hp} {σ : L2.St} {a dx : Addr} {vs0 : List V} {x : α} {D : Ends} (F : ClsF c.g.K cls all) (hf : f ∈ all) (hd : Has Γ i .dk) (q : Ev pureMd t Γ T me) (hm : me = some x) (ok : EnvB [a] G0 H0 Γ σ G H) (ho : H a = some (.ins cls dx (done.zip vs0))) (hl : vs0.length = done.length) (hnew : f ∉ done) (hlen : done.length < 1000)
    (k : ∀ v G' H', Ext [a] G0 H0 G' H' → EnvB [a] G0 H0 Γ σ G' H' → Same G G' → T.r G' v x → H' a = some (.ins cls dx ((done ++ [f]).zip (vs0 ++ [v]))) → D.nx σ H') : sFld c.g.K (tVar i) t f D σ H := by
  refine q [a] H0 () x () σ G H _ hm ok.ok trivial fun v G1 H1 e1 _ r1 => ?_
  have ok1 : EnvB [a] G0 H0 Γ σ G1 H1 := ok.ext (𝓜 := pureMd) e1
  obtain ⟨o, h1, a', r, eC, h2⟩ := ok1.ok.has hd
  cases eC
  have ho1 : H1 a = some (.ins cls dx (done.zip vs0)) := e1.h a _ (by simp) ho
  have ga : G1 a = none := ok1.ok.dkg a (by simp)
  refine ⟨.ref a, by rw [h1, h2], a, cls, dx, _, rfl, ho1, F.c, F.no f hf, ?_, ?_⟩
  · rw [List.length_zip]; omega
  · rw [i_put hnew hl]
    have ec : Ext [a] G1 H1 G1 (upd H1 a (.ins cls dx ((done ++ [f]).zip (vs0 ++ [v])))) := Ext.cell ok1.ok.sub (by simp) ga
    have ok2 : EnvB [a] G0 H0 Γ σ G1 (upd H1 a (.ins cls dx ((done ++ [f]).zip (vs0 ++ [v])))) := ⟨ok1.ok.ext ec, ok1.ex.trans ec⟩
    exact k v G1 _ ok2.ex ok2 e1.g r1 upd_same
theorem i_one (F : ClsF c.g.K cls all) (hf : f ∈ all) (hd : Has Γ i .dk) (he : XM pureMd c e Γ T me) (hnew : f ∉ done) (hlen : done.length < 1000) (hv : okVar c.N c.sc i sd = true := by kernel_rfl) (hs : ∀ env, swapsWith e (some (.Attribute (.Name sd p1) f p2)) pos.line env = pure false := by intro _; rfl) :
    XInit c cls [.Assign [.Attribute (.Name sd p1) f p2] e pos] Γ done [f] (sOne T) me :=
  let ⟨t, p, q⟩ := he; ⟨sFld c.g.K (tVar i) t f, fun X hX => by rw [← hX.K]; exact pss_one (ps_fld (pe_var (by rw [hX.N]; exact va_N hv) (hX.vis (va_V hv)) (va_d hv) (va_c hv)) (p X hX) (hs _)), fun a dx vs0 z G0 H0 σ G H D hm ok ho hl k =>
    ev_set F hf hd q hm ok ho hl hnew hlen fun v G' H' ex _ sg r hi => k σ G' H' [v] ex sg hi rfl ⟨v, rfl, r⟩⟩
theorem i_cons (F : ClsF c.g.K cls all) (hf : f ∈ all) (hd : Has Γ i .dk) (he : XM pureMd c e Γ T me) (hr : XInit c cls sts Γ (done ++ [f]) names B mr) (hnew : f ∉ done) (hlen : done.length < 1000) (hv : okVar c.N c.sc i sd = true := by kernel_rfl) (hs : ∀ env, swapsWith e (some (.Attribute (.Name sd p1) f p2)) pos.line env = pure false := by intro _; rfl) :
    XInit c cls (.Assign [.Attribute (.Name sd p1) f p2] e pos :: sts) Γ done (f :: names) (sCons T B) (me.bind fun x => mr.bind fun y => some (x, y)) :=
  let ⟨t, p, q⟩ := he; let ⟨t2, p2, q2⟩ := hr; ⟨tSeq (sFld c.g.K (tVar i) t f) t2, fun X hX => by rw [← hX.K]; exact pss_cons (ps_fld (pe_var (by rw [hX.N]; exact va_N hv) (hX.vis (va_V hv)) (va_d hv) (va_c hv)) (p X hX) (hs _)) (p2 X hX), fun a dx vs0 z G0 H0 σ G H D hm ok ho hl k => by
    obtain ⟨x, m1, m2⟩ := Option.bind_eq_some_iff.mp hm
    obtain ⟨y, m3, m4⟩ := Option.bind_eq_some_iff.mp m2
    cases m4
    refine ev_set F hf hd q m1 ok ho hl hnew hlen fun v G' H' ex ok' sg r hi => q2 a dx (vs0 ++ [v]) y G0 H0 σ G' H' D m3 ok' hi (by simp [hl]) fun σ' G2 H2 us ex2 sg2 hi2 hz rb => ?_
    exact k σ' G2 H2 (v :: us) ex2 (sg.trans sg2) (by rw [← List.append_cons, ← List.append_cons] at hi2; exact hi2) (by simp [hz]) ⟨v, us, rfl, T.st sg2 r, rb⟩⟩
theorem XInit.can {m : Option β} (h : XInit c cls sts Γ done names B m) : ∀ a dx vs0 z G0 H0 σ G H (D : Ends), m = some z → EnvB [a] G0 H0 Γ σ G H → H a = some (.ins cls dx (done.zip vs0)) → vs0.length = done.length →
    (∀ σ' G' H' us, Ext [a] G0 H0 G' H' → Same G G' → H' a = some (.ins cls dx ((done ++ names).zip (vs0 ++ us))) → us.length = names.length → B.r G' us z → D.nx σ' H') → WS c sts D σ H :=
  let ⟨t, p, q⟩ := h; fun a dx vs0 z G0 H0 σ G H D hm ok ho hl k X hX pins s I => (p X hX).run pins s σ H D I (q a dx vs0 z G0 H0 σ G H D hm ok ho hl k)
/-- `if test: raise ..`, where the test is False whenever the mirror is defined -/
theorem i_guard {b m : Option Bool} {mr : Option β} {A : List Stmt} (ht : XT pureMd c te Γ m) (hr : XInit c cls sts Γ done names B mr) : XInit c cls (.If te A [] pos :: sts) Γ done names B (m.bind fun x => if x = true then none else mr) :=
  let ⟨t, p, q⟩ := ht; let ⟨t2, p2, q2⟩ := hr; ⟨tSeq (tIfS t (WS c A) tNext) t2, fun X hX => pss_cons (ps_if (p X hX) (pss_can X hX) pss_nil) (p2 X hX), fun a dx vs0 z G0 H0 σ G H D hm ok ho hl k => by
    obtain ⟨x, m1, m2⟩ := Option.bind_eq_some_iff.mp hm
    cases x with
    | true => rw [if_pos rfl] at m2; cases m2
    | false =>
      rw [if_neg Bool.false_ne_true] at m2
      refine q [a] H0 () false () σ G H _ m1 ok.ok trivial fun G1 H1 e1 _ => ?_
      rw [if_neg Bool.false_ne_true]
      exact q2 a dx vs0 z G0 H0 σ G1 H1 D m2 (ok.ext (𝓜 := pureMd) e1) (e1.h a _ (by simp) ho) hl fun σ' G' H' us ex sg hi hz rb => k σ' G' H' us ex (e1.g.trans sg) hi hz rb⟩
end
/-- an __init__ keeps its promise -/
theorem fn_init {α β : Type} {g : Glb} {qual : Str} {st : Stmt} {f : Addr} {fd : FuncData} {N ps names : List Str} {k : Nat} {cls : Addr} {A : Rps α} {B : Rps β} {Γ : α → List Slot} {fm : α → Option β} (Fu : L2.Fun g.K "__init__" qual st f fd) (Sc : FnScope N ps (defScope st)) (len : ∀ H vs x, A.r H vs x → vs.length + 1 = ps.length)
    (h0 : ∀ C a r B G H vs x, C = a :: r → A.r G vs x → Slots C B G H (Γ x) (start N (.ref a :: vs))) (hno : ∀ (x : α) (i : Nat) (s : Slot), (Γ x)[i]? = some s → s.isOwn = false) (body : ∀ x, XInit (cx g N (defScope st) k Sc.nd) cls (defBody st) (Γ x) [] names B (fm x)) : FnG g (k + 1) f fd ps (spInit cls names A B fm) := by
  refine fnG_fun Fu Sc (fun vs H Q E ⟨G, x, z, a, dx, ws, _, ev, _, _, _, ha, _⟩ => by rw [ev, List.length_cons]; exact len _ _ _ ha) ⟨WS _ _, pss_can, fun vs H Q E ⟨G, x, z, a, dx, ws, e, ev, ho, ga, sub, ha, kk⟩ => ?_⟩
  subst ev
  obtain ⟨l1, l2⟩ := (h0 [a] a [] H G H ws x rfl ha).ix
  refine (body x).can a dx [] z G H _ G H _ e ⟨⟨sub, l1, l2, fun i j p ⟨⟨s, q1, q2⟩, _⟩ _ => ?_, fun b hb => by rw [List.mem_singleton.mp hb]; exact ga, fun b hb => by rw [List.mem_singleton.mp hb, ho]; exact fun z => by cases z⟩, Ext.refl sub⟩ ho rfl fun σ' G' H' us ex sg hi hz rb => kk G' H' us ex hi hz rb
  rw [hno x i s q1] at q2; cases q2
end Ty
set_option Elab.async false
set_option linter.all false
set_option maxRecDepth 100000
set_option maxHeartbeats 4000000
/-! all of a list of bools; comparisons of texts. -/
namespace Ty
open PySem PySem.Spec PyProof.Rows L2 StX

abbrev rAll (K : PySem.W.Frag) : List V → Hp → VK → Prop := fun xs H Q => ∃ (p : Addr) (bs : List Bool), xs = [.ref p] ∧ SqL K H p (bs.map .bl) ∧ Q (.bl (bs.all fun b => b)) H
theorem dpAll_bools {K : PySem.W.Frag} {H : Hp} : ∀ bs : List Bool, DpAll K H (bs.map V.bl) (bs.map PyData.bool)
  | [] => .nil
  | b :: bs => .cons (.bl b) (dpAll_bools bs)
theorem allB {c : Ctx} (X : Cx) (h : InC c X) : CallR X (.builtin "all") (rAll c.g.K) := by
  rw [← h.K]
  intro pins s σ H xs us Q I r hh
  obtain ⟨p, bs, rfl, hq, q⟩ := hh
  obtain ⟨u, rfl, ru⟩ := vals1 r
  cases ru
  obtain ⟨its, rv, pl, hz⟩ := I.list hq
  obtain ⟨as, rd⟩ := Dp.readsAll I _ _ _ (dpAll_bools bs) rv
  have ht : (bs.map PyData.bool).all PyData.truthy = bs.all fun b => b := by
    rw [List.all_map]
    rfl
  refine PySem.W.all_list_data (xs := bs.map PyData.bool) (vs := its.toArray) (I.ok.hd h.calm) pl.isList (by simpa using rd) ?_ ?_ fun h' tk hk => ⟨.bl _, H, I.kept (t' := tk) hk, rfl, by rw [ht]; exact q⟩
  · clear hq q rd rv ht hz
    induction bs with
    | nil => rfl
    | cons b bs ih => simp [PyData.plainAll, PyData.plain, ih]
  · intro x hx
    obtain ⟨b, _, rfl⟩ := List.mem_map.mp hx
    simp [PyData.fits63]
theorem bools_are {G : Hp} : ∀ {vs : List V} {xs : List Bool}, Paired (rB.r G) vs xs → vs = xs.map .bl
  | _, _, .nil => rfl
  | _, _, .cons h t => by rw [List.map_cons, bools_are t]; cases h; rfl
theorem rc_all {K : PySem.W.Frag} : RC (rAll K) (sOne (rL rB)) rB (fun bs => bs.all fun b => b) := fun G H vs bs Q s ⟨v, ev, a, ws, e, h, z, pr⟩ k => by
  have ew := bools_are pr
  subst ew
  exact ⟨a, bs, by rw [ev, e], SqL.of (s _ _ h), k _ G H (Ext.refl s) rfl⟩

/-! ### x op y by a method of the class of x -/
/-- both instances of one class, whose def for op is at f -/
def rOwnI (cls : Addr) (sp : Sp) : R2 := fun x y H Q => ∃ a b dx dy fs gs, x = .ref a ∧ y = .ref b ∧ H a = some (.ins cls dx fs) ∧ H b = some (.ins cls dy gs) ∧ sp [x, y] H Q E0
theorem op_ownI {X : Cx} {op : CmpOp} {cls f : Addr} {fd : FuncData} {ps : List Str} {n : Nat} {sp : Sp} (F : FnOk X.prog X.w X.K X.mg X.base CX0 n f fd ps sp) (hop : ∀ a b, compareOp op a b = richCompare op a b) (hs : PySem.W.findIn X.K (.ref cls) (cmpInfo op).2.1 = some (some (.ref f))) (hf : PySem.W.isFn X.K (.ref f) = true)
    (hb : Binds X.K fd ps []) (hr : Room n X.A) (hn : PySem.W.notFirst X.K cls (.ref cls) = true := by simp [PySem.W.notFirst]) : OpR X (compareOp op) (rOwnI cls sp) := by
  intro pins s σ H x y v u Q I rx ry h
  obtain ⟨a, b, dx, dy, fs, gs, rfl, rfl, ha, hb', q⟩ := h
  cases (show v = Value.ref a from rx)
  cases (show u = Value.ref b from ry)
  obtain ⟨mA, J, _⟩ := ins_get I.hok ha
  obtain ⟨mB, J', _⟩ := ins_get I.hok hb'
  obtain ⟨od, J, _⟩ := J.look
  obtain ⟨od', J', _⟩ := J'.look
  obtain ⟨m, hF⟩ := I.fr
  rw [hop]
  refine PySem.W.cmp_K (op := op) (tb := .ref cls) hr.units0 hF I.ok.mod.kin J J'.type hn hs hf ?_
  refine wpAny_mono (run_fn (ds := []) (dvs := []) (us := [.ref a, .ref b]) (vs := [.ref a, .ref b]) F hr hb .nil pass0 I (.cons rfl (.cons rfl .nil)) q) (fun w s' z => ?_) fun _ _ x => x
  obtain ⟨z', H', I', rz, qz⟩ := z
  exact SlX.cmpback rz ⟨z', H', I', rz, qz⟩
end Ty
set_option Elab.async false
set_option linter.all false
set_option maxRecDepth 100000
set_option maxHeartbeats 4000000
/-! zip of two things of which one is a tuple and one a list: the two iterators within, told by what their next step does. -/
namespace Ty
open PySem PySem.Spec PyProof.Rows L2 StX RZ

/-- an iterator at i over the items of the object at l; St: the heaps in which it stands ahead of the k-th -/
structure Inn (i l : Addr) (items : Array Value) (St : Heap → Nat → Prop) : Prop where
  lt : ∀ h k, St h k → i < h.objs.size
  keep : ∀ {h h' : Heap} {k : Nat}, St h k → (∀ c o, c = i ∨ c = l → h.get? c = some o → h'.get? c = some o) → St h' k
  step : ∀ {P : Program} {w : World} {A : Around} {E : Value → Shared → Prop} {s : Shared} {k : Nat} {x : Value} {Q : Value → Shared → Prop}, items[k]? = some x → St s.heap k → (∀ h', St h' (k + 1) → Heap.SameBut i s.heap h' → Q x { s with heap := h' }) → wpAny (model P w) A (Builtin.SmallTypes.nextOf (.ref i)) Q E s
  stop : ∀ {P : Program} {w : World} {A : Around} {E : Value → Shared → Prop} {s : Shared} {k : Nat} {Q : Value → Shared → Prop}, A.handled = none → items[k]? = none → St s.heap k → (∀ h' e, Heap.ExtBut i s.heap h' → (∃ o, h'.get? e = some o ∧ o.cls = .type "StopIteration") → E (.ref e) { s with heap := h' }) → wpAny (model P w) A (Builtin.SmallTypes.nextOf (.ref i)) Q E s
theorem inn_tup {i l : Addr} {items : Array Value} (ne : l ≠ i) : Inn i l items (fun h k => h.IsTupleIter i l k ∧ h.IsTuple l items) where
  lt := fun h k ⟨⟨o, e, _⟩, _⟩ => Heap.lt_size e
  keep := fun {h h' k} ⟨a, b⟩ kp => ⟨a.at fun o e => kp i o (.inl rfl) e, b.at fun o e => kp l o (.inr rfl) e⟩
  step := fun {P w A E s k x Q} hx ⟨a, b⟩ q => nextOf_tuple_item a b hx fun h' a' sb => q h' ⟨a', b.extBut sb.extBut ne⟩ sb
  stop := fun {P w A E s k Q} hh hx ⟨a, b⟩ q => nextOf_tuple_end hh a b hx q
theorem inn_lst {i l : Addr} {items : Array Value} (ne : l ≠ i) : Inn i l items (fun h k => h.IsListIter i l k ∧ h.IsList l items) where
  lt := fun h k ⟨⟨o, e, _⟩, _⟩ => Heap.lt_size e
  keep := fun {h h' k} ⟨a, b⟩ kp => ⟨a.at fun o e => kp i o (.inl rfl) e, b.at fun o e => kp l o (.inr rfl) e⟩
  step := fun {P w A E s k x Q} hx ⟨a, b⟩ q => wpAny_nextOf_list_item a b hx fun h' a' sb => q h' ⟨a', b.extBut sb.extBut ne⟩ sb
  stop := fun {P w A E s k Q} hh hx ⟨a, b⟩ q => wpAny_nextOf_list_end hh a b hx q
section
variable {P : Program} {w : World} {A : Around} {E : Value → Shared → Prop} {s : Shared} {zp TI TO i1 i2 l1 l2 : Addr} {k : Nat} {xs ys : Array Value} {S1 S2 : Heap → Nat → Prop} {x y a b : Value}
/-- what stays where only some cells change -/
theorem Inn.but {i l c : Addr} {items : Array Value} {St : Heap → Nat → Prop} (N : Inn i l items St) {h h' : Heap} {k : Nat} (st : St h k) (e : Heap.ExtBut c h h') (n1 : i ≠ c) (n2 : l ≠ c) : St h' k :=
  N.keep st fun d o z q => e d o (by rcases z with z | z <;> rw [z] <;> assumption) q
theorem zipI_item {Q : Value → Shared → Prop} (D : ZipApart zp TI TO i1 i2 l1 l2) (N1 : Inn i1 l1 xs S1) (N2 : Inn i2 l2 ys S2) (zz : IsZip s.heap zp TI TO .none) (pI : IsPair s.heap TI (.ref i1) (.ref i2)) (pO : IsPair s.heap TO a b) (st1 : S1 s.heap k) (st2 : S2 s.heap k) (hx : xs[k]? = some x) (hy : ys[k]? = some y)
    (q : ∀ h', IsZip h' zp TI TO (rawInt s.heap.objs.size) → IsPair h' TO x y → S1 h' (k + 1) → S2 h' (k + 1) → IsPair h' s.heap.objs.size x y →
      (∀ c o, c ≠ zp → c ≠ TO → c ≠ i1 → c ≠ i2 → s.heap.get? c = some o → h'.get? c = some o) → Q (.ref s.heap.objs.size) { s with heap := h' }) :
    wpAny (model P w) A (Builtin.«zip.__next__» ⟨[.ref zp], []⟩) (fun fin t => ∃ v, fin = .done (.ret v) ∧ Q v t) E s := by
  show wpAny _ _ (field (.ref zp) 2 >>= _) _ _ _
  refine wpAny_bind (wpAny_field zz rfl (x := .bool false) rfl ?_)
  show wpAny _ _ (field (.ref zp) 3 >>= _) _ _ _
  refine wpAny_bind (wpAny_field zz rfl (x := .ref TI) rfl ?_)
  refine wpAny_bind (wpAny_seqItems pI rfl ?_)
  show wpAny _ _ (Builtin.SmallTypes.ownedTupleIsFree (.ref zp) >>= _) _ _ _
  refine wpAny_bind ?_; unfold Builtin.SmallTypes.ownedTupleIsFree
  refine wpAny_bind (wpAny_field zz rfl (x := .none) rfl (wpAny_pure ?_))
  simp only [if_true]
  refine wpAny_bind (wpAny_rule (wpAny_bind (wpAny_field zz rfl (x := .ref TO) rfl (wpAny_bind (wpAny_setField_rec zz (by simp) fun h1 z1 s1 => ?_)))))
  replace z1 : IsZip h1 zp TI TO .ellipsis := z1
  have e1 := s1.extBut
  refine wpAny_bind ?_; simp only [List.forIn_cons, List.forIn_nil, List.zipIdx_cons, List.zipIdx_nil]
  -- the first
  refine wpAny_bind (wpAny_bind (wpAny_onRaise (show wpAny _ _ (Builtin.SmallTypes.nextOf (.ref i1) >>= _) _ _ _ from ?_)))
  refine wpAny_bind (N1.step hx (N1.but st1 e1 D.i1z D.l1z) fun h2 st12 s2 => wpAny_pure ?_)
  have e2 := s2.extBut
  have pO2 : IsPair h2 TO a b := e2 _ _ D.TOi1 (e1 _ _ D.TOz pO)
  refine wpAny_bind (wpAny_seqItems pO2 rfl (wpAny_bind (wpAny_updateSeq_pair pO2 fun h3 pO3 s3 => wpAny_bind (wpAny_letGo (wpAny_pure ?_)))))
  replace pO3 : IsPair h3 TO x b := pO3
  have e3 := s3.extBut
  -- the second
  refine wpAny_bind (wpAny_bind (wpAny_onRaise (show wpAny _ _ (Builtin.SmallTypes.nextOf (.ref i2) >>= _) _ _ _ from ?_)))
  refine wpAny_bind (N2.step hy (N2.but (N2.but (N2.but st2 e1 D.i2z D.l2z) e2 D.i12.symm D.l2i1) e3 D.TOi2.symm D.l2TO) fun h4 st24 s4 => wpAny_pure ?_)
  have e4 := s4.extBut
  have pO4 : IsPair h4 TO x b := e4 _ _ D.TOi2 pO3
  refine wpAny_bind (wpAny_seqItems pO4 rfl (wpAny_bind (wpAny_updateSeq_pair pO4 fun h5 pO5 s5 => wpAny_bind (wpAny_letGo (wpAny_pure (wpAny_pure ?_))))))
  replace pO5 : IsPair h5 TO x y := pO5
  have e5 := s5.extBut
  refine wpAny_bind (wpAny_seqItems pO5 rfl (wpAny_bind (wpAny_newTuple ?_)))
  have size5 : h5.objs.size = s.heap.objs.size := by rw [s5.1, s4.1, s3.1, s2.1, s1.1]
  have z5 : IsZip h5 zp TI TO .ellipsis := e5 _ _ D.TOz.symm (e4 _ _ D.i2z.symm (e3 _ _ D.TOz.symm (e2 _ _ D.i1z.symm z1)))
  have old5 : ∀ c o, c ≠ zp → c ≠ TO → c ≠ i1 → c ≠ i2 → s.heap.get? c = some o → h5.get? c = some o := fun c o n1 n2 n3 n4 z => e5 _ _ n2 (e4 _ _ n4 (e3 _ _ n2 (e2 _ _ n3 (e1 _ _ n1 z))))
  have st15 : S1 h5 (k + 1) := N1.but (N1.but (N1.but st12 e3 D.TOi1.symm D.l1TO) e4 D.i12 D.l1i2) e5 D.TOi1.symm D.l1TO
  have st25 : S2 h5 (k + 1) := N2.but st24 e5 D.TOi2.symm D.l2TO
  have zlt : zp < h5.objs.size := Heap.lt_size z5
  show wpAny _ _ (Builtin.SmallTypes.ownedTupleHandOut (.ref zp) (.ref h5.objs.size) >>= _) _ _ _
  refine wpAny_bind ?_; unfold Builtin.SmallTypes.ownedTupleHandOut
  have z6 : IsZip (h5.push { cls := .type "tuple", data := .seq #[x, y] }) zp TI TO .ellipsis := Heap.get?_push_of_some _ z5
  refine wpAny_bind (wpAny_setField_rec z6 (by simp) fun h7 z7 s7 => ?_)
  replace z7 : IsZip h7 zp TI TO (rawInt h5.objs.size) := z7
  refine wpAny_setField_rec z7 (by simp) fun h8 z8 s8 => ?_
  replace z8 : IsZip h8 zp TI TO (rawInt h5.objs.size) := z8
  have up : ∀ c o, c ≠ zp → h5.get? c = some o → h8.get? c = some o := fun c o n z => s8.extBut _ _ n (s7.extBut _ _ n (Heap.get?_push_of_some _ z))
  have pair8 : IsPair h8 h5.objs.size x y := s8.extBut _ _ (Nat.ne_of_gt zlt) (s7.extBut _ _ (Nat.ne_of_gt zlt) (Heap.get?_push_size _ rfl))
  rw [size5] at z8 pair8
  refine wpAny_pure ⟨_, rfl, ?_⟩
  show Q (.ref h5.objs.size) _
  rw [size5]
  refine q h8 z8 (up _ _ D.TOz pO5) (N1.keep st15 fun c o w z => up c o (w.elim (fun w => by rw [w]; exact D.i1z) fun w => by rw [w]; exact D.l1z) z) (N2.keep st25 fun c o w z => up c o (w.elim (fun w => by rw [w]; exact D.i2z) fun w => by rw [w]; exact D.l2z) z) pair8 fun c o n1 n2 n3 n4 z => up c o n1 (old5 c o n1 n2 n3 n4 z)
theorem zipI_end {Q : Fin → Shared → Prop} (hh : A.handled = none) (D : ZipApart zp TI TO i1 i2 l1 l2) (N1 : Inn i1 l1 xs S1) (N2 : Inn i2 l2 ys S2) (zz : IsZip s.heap zp TI TO .none) (pI : IsPair s.heap TI (.ref i1) (.ref i2)) (pO : IsPair s.heap TO a b) (st1 : S1 s.heap k) (st2 : S2 s.heap k) (stop : xs[k]? = none ∨ ys[k]? = none)
    (q : ∀ h' e, (∀ c o, c ≠ zp → c ≠ TO → c ≠ i1 → c ≠ i2 → s.heap.get? c = some o → h'.get? c = some o) → (∃ o, h'.get? e = some o ∧ o.cls = .type "StopIteration") → E (.ref e) { s with heap := h' }) :
    wpAny (model P w) A (Builtin.«zip.__next__» ⟨[.ref zp], []⟩) Q E s := by
  show wpAny _ _ (field (.ref zp) 2 >>= _) _ _ _
  refine wpAny_bind (wpAny_field zz rfl (x := .bool false) rfl ?_)
  show wpAny _ _ (field (.ref zp) 3 >>= _) _ _ _
  refine wpAny_bind (wpAny_field zz rfl (x := .ref TI) rfl ?_)
  refine wpAny_bind (wpAny_seqItems pI rfl ?_)
  show wpAny _ _ (Builtin.SmallTypes.ownedTupleIsFree (.ref zp) >>= _) _ _ _
  refine wpAny_bind ?_; unfold Builtin.SmallTypes.ownedTupleIsFree
  refine wpAny_bind (wpAny_field zz rfl (x := .none) rfl (wpAny_pure ?_))
  simp only [if_true]
  refine wpAny_bind (wpAny_rule (wpAny_bind (wpAny_field zz rfl (x := .ref TO) rfl (wpAny_bind (wpAny_setField_rec zz (by simp) fun h1 z1 s1 => ?_)))))
  replace z1 : IsZip h1 zp TI TO .ellipsis := z1
  have e1 := s1.extBut
  refine wpAny_bind ?_; simp only [List.forIn_cons, List.forIn_nil, List.zipIdx_cons, List.zipIdx_nil]
  refine wpAny_bind (wpAny_bind (wpAny_onRaise (show wpAny _ _ (Builtin.SmallTypes.nextOf (.ref i1) >>= _) _ _ _ from ?_)))
  rcases hx : xs[k]? with _ | x
  · refine wpAny_bind (N1.stop hh hx (N1.but st1 e1 D.i1z D.l1z) fun h2 e e2 ⟨oe, g1, g2⟩ => ?_)
    have z2 : IsZip h2 zp TI TO .ellipsis := e2 _ _ D.i1z.symm z1
    have ne : e ≠ zp := fun z => by subst z; rw [z2] at g1; cases g1; simp at g2
    refine wpAny_setField_rec z2 (by simp) fun h3 _ s3 => q h3 e (fun c o n1 _ n3 _ z => s3.extBut _ _ n1 (e2 _ _ n3 (e1 _ _ n1 z))) ⟨oe, s3.extBut _ _ ne g1, g2⟩
  · have hy : ys[k]? = none := stop.resolve_left fun z => by rw [hx] at z; cases z
    refine wpAny_bind (N1.step hx (N1.but st1 e1 D.i1z D.l1z) fun h2 st12 s2 => wpAny_pure ?_)
    have e2 := s2.extBut
    have pO2 : IsPair h2 TO a b := e2 _ _ D.TOi1 (e1 _ _ D.TOz pO)
    refine wpAny_bind (wpAny_seqItems pO2 rfl (wpAny_bind (wpAny_updateSeq_pair pO2 fun h3 pO3 s3 => wpAny_bind (wpAny_letGo (wpAny_pure ?_)))))
    have e3 := s3.extBut
    refine wpAny_bind (wpAny_bind (wpAny_onRaise (show wpAny _ _ (Builtin.SmallTypes.nextOf (.ref i2) >>= _) _ _ _ from ?_)))
    refine wpAny_bind (N2.stop hh hy (N2.but (N2.but (N2.but st2 e1 D.i2z D.l2z) e2 D.i12.symm D.l2i1) e3 D.TOi2.symm D.l2TO) fun h4 e e4 ⟨oe, g1, g2⟩ => ?_)
    have z4 : IsZip h4 zp TI TO .ellipsis := e4 _ _ D.i2z.symm (e3 _ _ D.TOz.symm (e2 _ _ D.i1z.symm z1))
    have ne : e ≠ zp := fun z => by subst z; rw [z4] at g1; cases g1; simp at g2
    refine wpAny_setField_rec z4 (by simp) fun h5 _ s5 => q h5 e (fun c o n1 n2 n3 n4 z => s5.extBut _ _ n1 (e4 _ _ n4 (e3 _ _ n2 (e2 _ _ n3 (e1 _ _ n1 z))))) ⟨oe, s5.extBut _ _ ne g1, g2⟩
theorem nextI_item {Q : Option Value → Shared → Prop} (D : ZipApart zp TI TO i1 i2 l1 l2) (N1 : Inn i1 l1 xs S1) (N2 : Inn i2 l2 ys S2) (zz : IsZip s.heap zp TI TO .none) (pI : IsPair s.heap TI (.ref i1) (.ref i2)) (pO : IsPair s.heap TO a b) (st1 : S1 s.heap k) (st2 : S2 s.heap k) (hx : xs[k]? = some x) (hy : ys[k]? = some y)
    (q : ∀ h', IsZip h' zp TI TO (rawInt s.heap.objs.size) → IsPair h' TO x y → S1 h' (k + 1) → S2 h' (k + 1) → IsPair h' s.heap.objs.size x y →
      (∀ c o, c ≠ zp → c ≠ TO → c ≠ i1 → c ≠ i2 → s.heap.get? c = some o → h'.get? c = some o) → Q (some (.ref s.heap.objs.size)) { s with heap := h' }) : wpAny (model P w) A (pyNext (.ref zp)) Q E s := by
  have ty : s.TypeIs (.ref zp) "zip" := ⟨_, zz, rfl⟩
  unfold pyNext
  exact wpAny_bind (wpAny_attempt (wpAny_callSpecial?_slot (name := Str.ofString "__next__") ty F.slot_zip_next (wpAny_call_entry F.slot_zip_next ty F.entry_zip_next (zipI_item D N1 N2 zz pI pO st1 st2 hx hy fun h' r1 r2 r3 r4 r5 r6 => wpAny_pure (q h' r1 r2 r3 r4 r5 r6)) (F.args_zip_next_1 _))))
theorem nextI_end {Q : Option Value → Shared → Prop} (hh : A.handled = none) (D : ZipApart zp TI TO i1 i2 l1 l2) (N1 : Inn i1 l1 xs S1) (N2 : Inn i2 l2 ys S2) (zz : IsZip s.heap zp TI TO .none) (pI : IsPair s.heap TI (.ref i1) (.ref i2)) (pO : IsPair s.heap TO a b) (st1 : S1 s.heap k) (st2 : S2 s.heap k) (stop : xs[k]? = none ∨ ys[k]? = none)
    (q : ∀ h', (∀ c o, c ≠ zp → c ≠ TO → c ≠ i1 → c ≠ i2 → s.heap.get? c = some o → h'.get? c = some o) → Q none { s with heap := h' }) : wpAny (model P w) A (pyNext (.ref zp)) Q E s := by
  have ty : s.TypeIs (.ref zp) "zip" := ⟨_, zz, rfl⟩
  unfold pyNext
  refine wpAny_bind (wpAny_attempt (wpAny_callSpecial?_slot (name := Str.ofString "__next__") ty F.slot_zip_next (wpAny_call_entry F.slot_zip_next ty F.entry_zip_next (zipI_end hh D N1 N2 zz pI pO st1 st2 stop fun h' e old ⟨oe, g1, g2⟩ => ?_) (F.args_zip_next_1 _))))
  exact wpAny_bind (wpAny_isInstance (T := "StopIteration") (b := true) ⟨oe, g1, g2⟩ isSubtype_stop (wpAny_pure (q _ old)))
end

/-! ### zip(tuple, list) -/
abbrev zipTLH1 (h : Heap) (l1 : Addr) : Heap := h.push { cls := .type "tuple_iterator", data := .fields #[.ref l1, .int 0 0] }
abbrev zipTLH2 (h : Heap) (l1 l2 : Addr) : Heap := (zipTLH1 h l1).push { cls := .type "list_iterator", data := .fields #[.ref l2, .int 0 0] }
abbrev zipTLH3 (h : Heap) (l1 l2 : Addr) : Heap := (zipTLH2 h l1 l2).push { cls := .type "tuple", data := .seq #[.ref h.objs.size, .ref (zipTLH1 h l1).objs.size] }
abbrev zipTLH4 (h : Heap) (l1 l2 : Addr) : Heap := (zipTLH3 h l1 l2).push { cls := .type "tuple", data := .seq #[.none, .none] }
abbrev zipTLH5 (h : Heap) (l1 l2 : Addr) : Heap := (zipTLH4 h l1 l2).push { cls := .type "zip", data := .fields #[.none, .bool false, .bool false, .ref (zipTLH2 h l1 l2).objs.size, .ref (zipTLH3 h l1 l2).objs.size] }
theorem meets_zipTL_new (l1 l2 : Addr) (xs ys : Array Value) :
    Meets (Builtin.«zip.__new__» ⟨[.type "zip", .ref l1, .ref l2], []⟩) (fun _ R s => s.heap.IsTuple l1 xs ∧ s.heap.IsList l2 ys ∧ R (.ok (.ret (.ref (zipTLH4 s.heap l1 l2).objs.size))) { s with heap := zipTLH5 s.heap l1 l2 }) :=
  .of_wp fun prog w A R s h => by
    obtain ⟨hp, g, d, tk, os⟩ := s; obtain ⟨hl1, hl2, h⟩ := h
    have hsub := sub_zip
    have hL1 : Heap.IsTuple (Shared.heap ⟨hp, g, d, tk, os⟩) l1 xs := hl1
    have hL2 : Heap.IsList (Shared.heap ⟨hp.push { cls := .type "tuple_iterator", data := .fields #[.ref l1, .int 0 0] }, g, d, tk, os⟩) l2 ys := Heap.IsList.push hl2 _
    wp_walk using wpAny_pyIter_tuple hL1, wpAny_pyIter_list hL2
    exact ⟨_, rfl, h⟩
theorem call_zipTL {prog : Program} {w : World} {A : Around} {E : Value → Shared → Prop} {s : Shared} {l1 l2 : Addr} {xs ys : Array Value} {Q : Value → Shared → Prop} (hl1 : s.heap.IsTuple l1 xs) (hl2 : s.heap.IsList l2 ys)
    (h : ∀ h', IsZip h' (s.heap.objs.size + 4) (s.heap.objs.size + 2) (s.heap.objs.size + 3) .none → IsPair h' (s.heap.objs.size + 2) (.ref s.heap.objs.size) (.ref (s.heap.objs.size + 1)) →
      IsPair h' (s.heap.objs.size + 3) .none .none → h'.IsTupleIter s.heap.objs.size l1 0 → h'.IsListIter (s.heap.objs.size + 1) l2 0 → (∀ c o, s.heap.get? c = some o → h'.get? c = some o) → Q (.ref (s.heap.objs.size + 4)) { s with heap := h' }) :
    wpAny (model prog w) A (call (.type "zip") [.ref l1, .ref l2]) Q E s := by
  refine callType_new F.called_zip (by decide) (F.typeCall_zip_2 _ _) (F.newCall_zip_2 _ _) (fun obj => F.args_object_init_3 obj _ _) F.entry_zip_new (meets_zipTL_new l1 l2 xs ys) ⟨hl1, hl2, ?_⟩
  have z1 : (zipTLH1 s.heap l1).objs.size = s.heap.objs.size + 1 := Heap.size_push ..
  have z2 : (zipTLH2 s.heap l1 l2).objs.size = s.heap.objs.size + 2 := by rw [Heap.size_push, z1]
  have z3 : (zipTLH3 s.heap l1 l2).objs.size = s.heap.objs.size + 3 := by rw [Heap.size_push, z2]
  have z4 : (zipTLH4 s.heap l1 l2).objs.size = s.heap.objs.size + 4 := by rw [Heap.size_push, z3]
  have g5 : (zipTLH5 s.heap l1 l2).get? (zipTLH4 s.heap l1 l2).objs.size = some _ := Heap.get?_push_size _ rfl
  have g4 : (zipTLH5 s.heap l1 l2).get? (zipTLH3 s.heap l1 l2).objs.size = some _ := Heap.get?_push_of_some _ (Heap.get?_push_size _ rfl)
  have g3 : (zipTLH5 s.heap l1 l2).get? (zipTLH2 s.heap l1 l2).objs.size = some _ := Heap.get?_push_of_some _ (Heap.get?_push_of_some _ (Heap.get?_push_size _ rfl))
  have g2 : (zipTLH5 s.heap l1 l2).get? (zipTLH1 s.heap l1).objs.size = some _ := Heap.get?_push_of_some _ (Heap.get?_push_of_some _ (Heap.get?_push_of_some _ (Heap.get?_push_size _ rfl)))
  have g1 : (zipTLH5 s.heap l1 l2).get? s.heap.objs.size = some _ := Heap.get?_push_of_some _ (Heap.get?_push_of_some _ (Heap.get?_push_of_some _ (Heap.get?_push_of_some _ (Heap.get?_push_size _ rfl))))
  show _ ∧ _
  rw [z2, z3, z4] at g5
  rw [z1, z2] at g3
  rw [z3] at g4
  rw [z1] at g2
  rw [z4]
  exact ⟨⟨_, g5, rfl⟩, h _ g5 g3 g4 ⟨_, g1, rfl, rfl⟩ ⟨_, g2, rfl, rfl⟩ fun c o x => Heap.get?_push_of_some _ (Heap.get?_push_of_some _ (Heap.get?_push_of_some _ (Heap.get?_push_of_some _ (Heap.get?_push_of_some _ x))))⟩
def ItzTL (K : PySem.W.Frag) (a b : Addr) : It :=
  ⟨fun i H => ∃ (xs ys : List V) (x y : V), SqT K H a xs ∧ SqL K H b ys ∧ xs[i]? = some x ∧ ys[i]? = some y,
    fun i H v H' => ∃ T x y, v = .ref T ∧ H T = none ∧ H' = upd H T (.tup [x, y]) ∧ (∀ xs, SqT K H a xs → xs[i]? = some x) ∧ ∀ ys, SqL K H b ys → ys[i]? = some y,
    fun i H => ∃ xs ys : List V, SqT K H a xs ∧ SqL K H b ys ∧ (xs.length ≤ i ∨ ys.length ≤ i)⟩
theorem turn_zipTL {P : Program} {w : World} {K : PySem.W.Frag} {elts : List Expr} {kk : Nat} {tpos : Pos} {a b z TI TO i1 i2 : Addr} (D : ZipApart z TI TO i1 i2 a b) :
    Turn P w K (.Tuple elts kk tpos) (ItzTL K a b) [z, TI, TO, i1, i2] z (fun i h => IsZip h z TI TO .none ∧ IsPair h TI (.ref i1) (.ref i2) ∧ (∃ x y, IsPair h TO x y) ∧ h.IsTupleIter i1 a i ∧ h.IsListIter i2 b i) where
  mem := by simp
  obj := fun i h st c hc => by
    obtain ⟨hz, hTI, ⟨x, y, hTO⟩, ⟨o1, e1, _, d1⟩, ⟨o2, e2, _, d2⟩⟩ := st
    have e' : c = z ∨ c = TI ∨ c = TO ∨ c = i1 ∨ c = i2 := by simpa using hc
    rcases e' with q | q | q | q | q
    · rw [q]; exact ⟨_, hz, fun v q => nomatch q⟩
    · rw [q]; exact ⟨_, hTI, fun v q => nomatch q⟩
    · rw [q]; exact ⟨_, hTO, fun v q => nomatch q⟩
    · rw [q]; exact ⟨o1, e1, fun v q => by rw [d1] at q; cases q⟩
    · rw [q]; exact ⟨o2, e2, fun v q => by rw [d2] at q; cases q⟩
  keep := fun i h h' st k => by
    obtain ⟨hz, hTI, ⟨x, y, hTO⟩, h1, h2⟩ := st
    exact ⟨k z (by simp) _ hz, k TI (by simp) _ hTI, ⟨x, y, k TO (by simp) _ hTO⟩, h1.at fun o q => k i1 (by simp) o q, h2.at fun o q => k i2 (by simp) o q⟩
  item := by
    intro X hP hw hK hc i pins s σ H E I hf st hg
    subst hP hw hK
    obtain ⟨hz, hTI, ⟨x0, y0, hTO⟩, h1, h2⟩ := st
    obtain ⟨xs, ys, x, y, hqx, hqy, hx, hy⟩ := hg
    obtain ⟨its, rv, p, _⟩ := I.tuple hqx
    obtain ⟨its2, rv2, p2, _⟩ := I.list hqy
    obtain ⟨u, hu, ru⟩ := rv.get hx
    obtain ⟨u2, hu2, ru2⟩ := rv2.get hy
    have hzl : z < s.heap.objs.size := Heap.lt_size hz
    refine nextI_item D (inn_tup (items := its.toArray) D.l1i1) (inn_lst (items := its2.toArray) D.l2i2) hz hTI hTO ⟨h1, (show _ from p)⟩ ⟨h2, p2.isList⟩ (x := u) (y := u2) (by simpa using hu) (by simpa using hu2) fun h' z' TO' ⟨h1', _⟩ ⟨h2', _⟩ hT hk => ?_
    refine ⟨_, rfl, wpAny_letOwnedTupleGo_zip (s := { s with heap := h' }) z' fun h'' z'' sb => ?_⟩
    have hT2 : h''.get? s.heap.objs.size = some { cls := .type "tuple", data := .seq #[u, u2] } := (sb.2 _ (Nat.ne_of_gt hzl)).trans hT
    have new : ObjOk X.prog X.w (upd H s.heap.objs.size (.tup [x, y])) h'' s.heap.objs.size (.tup [x, y]) :=
      ⟨by show 2 ≤ sizeLine; decide, [u, u2], .cons ru (.cons ru2 .nil), ⟨_, hT2, rfl, _, rfl⟩⟩
    have I1 : Inv X pins σ (upd H s.heap.objs.size (.tup [x, y])) { s with heap := h'' } :=
      I.turnedNew (t' := s.toks) (ch := [z, TI, TO, i1, i2]) (fun c o hb q => (sb.2 c (fun q' => hb (by simp [q']))).trans (hk c o (fun q' => hb (by simp [q'])) (fun q' => hb (by simp [q'])) (fun q' => hb (by simp [q'])) (fun q' => hb (by simp [q'])) q)) hf (Nat.le_refl _) new
    refine ⟨.ref s.heap.objs.size, _, I1, rfl, ⟨_, x, y, rfl, I.hok.fresh (Nat.le_refl _), rfl, fun l hl => by rw [I.tuple_inj hl hqx]; exact hx, fun l hl => by rw [I.list_inj hl hqy]; exact hy⟩, ⟨z'', ?_, ⟨u, u2, ?_⟩, ?_, ?_⟩, fun c hcm => ?_⟩
    · exact (sb.2 _ D.TIz).trans (hk _ _ D.TIz D.TITO D.TIi1 D.TIi2 hTI)
    · exact (sb.2 _ D.TOz).trans TO'
    · exact h1'.at fun o q => (sb.2 _ D.i1z).trans q
    · exact h2'.at fun o q => (sb.2 _ D.i2z).trans q
    · have hlt : c < s.heap.objs.size := by
        have e' : c = z ∨ c = TI ∨ c = TO ∨ c = i1 ∨ c = i2 := by simpa using hcm
        rcases e' with q | q | q | q | q
        · rw [q]; exact hzl
        · rw [q]; exact Heap.lt_size hTI
        · rw [q]; exact Heap.lt_size hTO
        · rw [q]; obtain ⟨_, e1, _⟩ := h1; exact Heap.lt_size e1
        · rw [q]; obtain ⟨_, e2, _⟩ := h2; exact Heap.lt_size e2
      rw [upd_ne (Nat.ne_of_lt hlt)]
      exact (hf c hcm).1
  done := by
    intro X hP hw hK hc i pins s σ H E I hf st hg
    subst hP hw hK
    obtain ⟨hz, hTI, ⟨x0, y0, hTO⟩, h1, h2⟩ := st
    obtain ⟨xs, ys, hqx, hqy, hend⟩ := hg
    obtain ⟨its, rv, p, _⟩ := I.tuple hqx
    obtain ⟨its2, rv2, p2, _⟩ := I.list hqy
    have l1 := rv.length
    have l2 := rv2.length
    have he : its.toArray[i]? = none ∨ its2.toArray[i]? = none := by
      rcases hend with q | q
      · exact .inl (by simp; omega)
      · exact .inr (by simp; omega)
    exact nextI_end (I.ok.hd hc) D (inn_tup (items := its.toArray) D.l1i1) (inn_lst (items := its2.toArray) D.l2i2) hz hTI hTO ⟨h1, (show _ from p)⟩ ⟨h2, p2.isList⟩ he fun h' hk => ⟨rfl, I.turnedL (t' := s.toks) (ch := [z, TI, TO, i1, i2]) (fun c o hb q =>
      hk c o (fun q' => hb (by simp [q'])) (fun q' => hb (by simp [q'])) (fun q' => hb (by simp [q'])) (fun q' => hb (by simp [q'])) q) hf⟩
  self := fun A i s Q E st h => wpAny_pyIter_zip st.1 h
def iZipTL (K : PySem.W.Frag) (ta : TA) : TI := fun σ H R => ta σ H fun vs H1 => ∃ a b xs ys, vs = [.ref a, .ref b] ∧ SqT K H1 a xs ∧ SqL K H1 b ys ∧ R (ItzTL K a b) H1
theorem pi_zipTL {X : Cx} {e e2 : Expr} {ta : TA} {p pos tpos : Pos} {elts : List Expr} {kk : Nat} (hg : Gl X "zip") (hm : X.mg "zip" = none) (ha : PA X [e, e2] ta)
    (hs : starEach [e, e2] X.env = (false, eval e X.env) :: starEach [e2] X.env := by rfl) (hpl : (backTo pos (starEach [e2] X.env)).any (·.1) = false := by rfl) :
    PI X (.Tuple elts kk tpos) (.Call (.Name "zip" p) [e, e2] [] pos) (iZipTL X.K ta) := by
  refine ⟨fun pins s σ H R I h => ?_⟩
  refine Call_ (ld_blt I hg hm PyProof.Rows.boot_zip (PyProof.Rows.callWith_type1 (thn (ha.run pos pins s σ H _ I h) fun us s1 ⟨vs, H1, I1, r1, q1⟩ => ?_) hs hpl))
  obtain ⟨a, b, xs, ys, ex, hqx, hqy, q⟩ := q1
  subst ex
  cases r1 with
  | cons r rr =>
    cases rr with
    | cons r' rr =>
      cases rr
      cases r
      cases r'
      have fresh5 : ∀ c, c ∈ [s1.heap.objs.size + 4, s1.heap.objs.size + 2, s1.heap.objs.size + 3, s1.heap.objs.size, s1.heap.objs.size + 1] → FpOk X pins H1 c := fun c hcm => by
        have e' : c = s1.heap.objs.size + 4 ∨ c = s1.heap.objs.size + 2 ∨ c = s1.heap.objs.size + 3 ∨ c = s1.heap.objs.size ∨ c = s1.heap.objs.size + 1 := by simpa using hcm
        have hle : s1.heap.objs.size ≤ c := by
          rcases e' with z | z | z | z | z
          · rw [z]; exact Nat.le_add_right _ _
          · rw [z]; exact Nat.le_add_right _ _
          · rw [z]; exact Nat.le_add_right _ _
          · rw [z]; exact Nat.le_refl _
          · rw [z]; exact Nat.le_add_right _ _
        exact I1.fpOk hle (I1.hok.fresh hle)
      obtain ⟨its, rv, p1, _⟩ := I1.tuple hqx
      obtain ⟨its2, rv2, p2, _⟩ := I1.list hqy
      have q1 : s1.heap.IsTuple a its.toArray := p1
      have q2 : s1.heap.IsList b its2.toArray := p2.isList
      obtain ⟨o1, ho1, _⟩ := id q1
      obtain ⟨o2, ho2, _⟩ := id q2
      refine call_zipTL q1 q2 fun h' hz hTI hTO h1 h2 hk => wpAny_pyIter_zip hz ?_
      have I2 : Inv X pins σ H1 { s1 with heap := h' } := I1.kept (t' := s1.toks) hk
      exact ⟨s1.heap.objs.size + 4, [s1.heap.objs.size + 4, s1.heap.objs.size + 2, s1.heap.objs.size + 3, s1.heap.objs.size, s1.heap.objs.size + 1], _, _, H1, rfl, I2, turn_zipTL (PySem.W.ktu_apart s1.heap.objs.size a b (Heap.lt_size ho1) (Heap.lt_size ho2)), ⟨hz, hTI, ⟨_, _, hTO⟩, h1, h2⟩, fresh5, q⟩
theorem walk_zipTL {K : PySem.W.Frag} {a b : Addr} {xs ys : List V} {n : Nat} (hn : n = min xs.length ys.length) : Walk (ItzTL K a b) n (fun H => SqT K H a xs ∧ SqL K H b ys) (YPair (fun i => xs[i]?) (fun i => ys[i]?)) := by
  subst hn
  refine ⟨fun i _ hi q => ?_, fun _ q => ⟨xs, ys, q.1, q.2, by omega⟩, fun i H v H' _ q y => ?_⟩
  · have h1 : i < xs.length := by omega
    have h2 : i < ys.length := by omega
    exact ⟨xs, ys, xs[i], ys[i], q.1, q.2, by simp [h1], by simp [h2]⟩
  · obtain ⟨T, x, z, h1, h2, h3, h4, h5⟩ := y
    exact ⟨T, x, z, h1, h2, h3, h4 xs q.1, h5 ys q.2⟩
section
variable {𝓜 : Md} {α β : Type} {c : Ctx} {e e1 : Expr} {Γ : List Slot} {T : Rp α} {U : Rp β} {pos p : Pos} {kk : Nat}
theorem i_zpTL {ms : 𝓜.M (List α)} {ns : 𝓜.M (List β)} {elts : List Expr} {tpos : Pos} (hm : c.g.mg "zip" = none) (h : XM 𝓜 c e Γ (rT c.g.K (sAll T)) ms) (h2 : XM 𝓜 c e1 Γ (rL U) ns) (hg : okGlob c.sc "zip" = true := by kernel_rfl)
    (hs : ∀ env, starEach [e, e1] env = (false, eval e env) :: starEach [e1] env := by intro _; rfl) (hs1 : ∀ env, starEach [e1] env = (false, eval e1 env) :: starEach [] env := by intro _; rfl) (hpl : ∀ env, (backTo pos (starEach [e1] env)).any (·.1) = false := by intro _; rfl) :
    XI 𝓜 c (.Tuple elts kk tpos) (.Call (.Name "zip" p) [e, e1] [] pos) Γ (rT c.g.K (sCons T (sOne U))) (𝓜.bnd ms fun l => 𝓜.bnd ns fun r => 𝓜.ret (l.zip r)) :=
  let ⟨t, pa, ea⟩ := h; let ⟨t2, pb, eb⟩ := h2; ⟨iZipTL c.g.K (tCons t (tCons t2 tNil)), fun X hX => by rw [← hX.K]; exact pi_zipTL (hX.gl (gl_l hg)) (by rw [hX.mg]; exact hm) (pa_cons (pa X hX) (pa_cons (pb X hX) pa_nil (hs1 _)) (hs _)) (hs _) (hpl _), fun C B d l d' σ G H Q rr ok at0 k => by
    obtain ⟨x, d1, r1, rr⟩ := 𝓜.run_bnd rr
    obtain ⟨z, d2, r2, rr⟩ := 𝓜.run_bnd rr
    obtain ⟨z1, z2⟩ := 𝓜.run_ret rr
    subst z1; subst z2
    refine ea C B d x d1 σ G H _ r1 ok at0 fun v G1 H1 e1 a1 ⟨a, vs, ev, hv, hz, pr⟩ => eb C B d1 z d' σ G1 H1 _ r2 (ok.ext e1.up) a1 fun w G2 H2 e2 a2 ⟨b, ws, ew, hw, hzw, prw⟩ => ?_
    have hA : SqT c.g.K H2 a vs := same_t e2.sub (same_t e2.g hv)
    have hB : SqL c.g.K H2 b ws := SqL.of (e2.sub _ _ hw)
    refine ⟨a, b, vs, ws, by rw [ev, ew], hA, hB, k _ G2 H2 (e1.trans e2) a2 ⟨_, _, _, walk_zipTL rfl, by rw [List.length_zip, Paired.length pr, Paired.length prw], by rw [List.length_zip, ← Paired.length pr]; exact Nat.le_trans (Nat.min_le_left _ _) hz, fun G3 H3 s1 s2 => ⟨same_t s2 (same_t s1 (same_t e2.g hv)), SqL.of (s2 _ _ (s1 _ _ hw))⟩, fun i a' x' G3 H3 H4 hl s1 s2 yy => ?_⟩⟩
    obtain ⟨bb, v1, v2, ebb, nb, e3, g1, g2⟩ := yy
    obtain ⟨q1, q2⟩ := zip_get _ _ _ _ hl
    obtain ⟨v', h3, h4⟩ := paired_get pr q1
    obtain ⟨w', h5, h6⟩ := paired_get prw q2
    have g1 : vs[i]? = some v1 := g1
    have g2 : ws[i]? = some v2 := g2
    rw [h3] at g1
    cases g1
    rw [h5] at g2
    cases g2
    subst e3
    have sE := (Ext.new (C := []) (o := .tup [v1, v2]) s2 nb).g
    exact ⟨upd G3 bb (.tup [v1, v2]), Ext.new s2 nb, bb, _, ebb, SqT.of upd_same, by show 2 ≤ cap; decide, _, _, rfl, T.st (e2.g.trans (s1.trans sE)) h4, v2, rfl, U.st (s1.trans sE) h6⟩⟩
end

/-! ### zip(list, tuple) -/
abbrev zipLTH1 (h : Heap) (l1 : Addr) : Heap := h.push { cls := .type "list_iterator", data := .fields #[.ref l1, .int 0 0] }
abbrev zipLTH2 (h : Heap) (l1 l2 : Addr) : Heap := (zipLTH1 h l1).push { cls := .type "tuple_iterator", data := .fields #[.ref l2, .int 0 0] }
abbrev zipLTH3 (h : Heap) (l1 l2 : Addr) : Heap := (zipLTH2 h l1 l2).push { cls := .type "tuple", data := .seq #[.ref h.objs.size, .ref (zipLTH1 h l1).objs.size] }
abbrev zipLTH4 (h : Heap) (l1 l2 : Addr) : Heap := (zipLTH3 h l1 l2).push { cls := .type "tuple", data := .seq #[.none, .none] }
abbrev zipLTH5 (h : Heap) (l1 l2 : Addr) : Heap := (zipLTH4 h l1 l2).push { cls := .type "zip", data := .fields #[.none, .bool false, .bool false, .ref (zipLTH2 h l1 l2).objs.size, .ref (zipLTH3 h l1 l2).objs.size] }
theorem meets_zipLT_new (l1 l2 : Addr) (xs ys : Array Value) :
    Meets (Builtin.«zip.__new__» ⟨[.type "zip", .ref l1, .ref l2], []⟩) (fun _ R s => s.heap.IsList l1 xs ∧ s.heap.IsTuple l2 ys ∧ R (.ok (.ret (.ref (zipLTH4 s.heap l1 l2).objs.size))) { s with heap := zipLTH5 s.heap l1 l2 }) :=
  .of_wp fun prog w A R s h => by
    obtain ⟨hp, g, d, tk, os⟩ := s; obtain ⟨hl1, hl2, h⟩ := h
    have hsub := sub_zip
    have hL1 : Heap.IsList (Shared.heap ⟨hp, g, d, tk, os⟩) l1 xs := hl1
    have hL2 : Heap.IsTuple (Shared.heap ⟨hp.push { cls := .type "list_iterator", data := .fields #[.ref l1, .int 0 0] }, g, d, tk, os⟩) l2 ys := Heap.IsTuple.push hl2 _
    wp_walk using wpAny_pyIter_list hL1, wpAny_pyIter_tuple hL2
    exact ⟨_, rfl, h⟩
theorem call_zipLT {prog : Program} {w : World} {A : Around} {E : Value → Shared → Prop} {s : Shared} {l1 l2 : Addr} {xs ys : Array Value} {Q : Value → Shared → Prop} (hl1 : s.heap.IsList l1 xs) (hl2 : s.heap.IsTuple l2 ys)
    (h : ∀ h', IsZip h' (s.heap.objs.size + 4) (s.heap.objs.size + 2) (s.heap.objs.size + 3) .none → IsPair h' (s.heap.objs.size + 2) (.ref s.heap.objs.size) (.ref (s.heap.objs.size + 1)) →
      IsPair h' (s.heap.objs.size + 3) .none .none → h'.IsListIter s.heap.objs.size l1 0 → h'.IsTupleIter (s.heap.objs.size + 1) l2 0 → (∀ c o, s.heap.get? c = some o → h'.get? c = some o) → Q (.ref (s.heap.objs.size + 4)) { s with heap := h' }) :
    wpAny (model prog w) A (call (.type "zip") [.ref l1, .ref l2]) Q E s := by
  refine callType_new F.called_zip (by decide) (F.typeCall_zip_2 _ _) (F.newCall_zip_2 _ _) (fun obj => F.args_object_init_3 obj _ _) F.entry_zip_new (meets_zipLT_new l1 l2 xs ys) ⟨hl1, hl2, ?_⟩
  have z1 : (zipLTH1 s.heap l1).objs.size = s.heap.objs.size + 1 := Heap.size_push ..
  have z2 : (zipLTH2 s.heap l1 l2).objs.size = s.heap.objs.size + 2 := by rw [Heap.size_push, z1]
  have z3 : (zipLTH3 s.heap l1 l2).objs.size = s.heap.objs.size + 3 := by rw [Heap.size_push, z2]
  have z4 : (zipLTH4 s.heap l1 l2).objs.size = s.heap.objs.size + 4 := by rw [Heap.size_push, z3]
  have g5 : (zipLTH5 s.heap l1 l2).get? (zipLTH4 s.heap l1 l2).objs.size = some _ := Heap.get?_push_size _ rfl
  have g4 : (zipLTH5 s.heap l1 l2).get? (zipLTH3 s.heap l1 l2).objs.size = some _ := Heap.get?_push_of_some _ (Heap.get?_push_size _ rfl)
  have g3 : (zipLTH5 s.heap l1 l2).get? (zipLTH2 s.heap l1 l2).objs.size = some _ := Heap.get?_push_of_some _ (Heap.get?_push_of_some _ (Heap.get?_push_size _ rfl))
  have g2 : (zipLTH5 s.heap l1 l2).get? (zipLTH1 s.heap l1).objs.size = some _ := Heap.get?_push_of_some _ (Heap.get?_push_of_some _ (Heap.get?_push_of_some _ (Heap.get?_push_size _ rfl)))
  have g1 : (zipLTH5 s.heap l1 l2).get? s.heap.objs.size = some _ := Heap.get?_push_of_some _ (Heap.get?_push_of_some _ (Heap.get?_push_of_some _ (Heap.get?_push_of_some _ (Heap.get?_push_size _ rfl))))
  show _ ∧ _
  rw [z2, z3, z4] at g5
  rw [z1, z2] at g3
  rw [z3] at g4
  rw [z1] at g2
  rw [z4]
  exact ⟨⟨_, g5, rfl⟩, h _ g5 g3 g4 ⟨_, g1, rfl, rfl⟩ ⟨_, g2, rfl, rfl⟩ fun c o x => Heap.get?_push_of_some _ (Heap.get?_push_of_some _ (Heap.get?_push_of_some _ (Heap.get?_push_of_some _ (Heap.get?_push_of_some _ x))))⟩
def ItzLT (K : PySem.W.Frag) (a b : Addr) : It :=
  ⟨fun i H => ∃ (xs ys : List V) (x y : V), SqL K H a xs ∧ SqT K H b ys ∧ xs[i]? = some x ∧ ys[i]? = some y,
    fun i H v H' => ∃ T x y, v = .ref T ∧ H T = none ∧ H' = upd H T (.tup [x, y]) ∧ (∀ xs, SqL K H a xs → xs[i]? = some x) ∧ ∀ ys, SqT K H b ys → ys[i]? = some y,
    fun i H => ∃ xs ys : List V, SqL K H a xs ∧ SqT K H b ys ∧ (xs.length ≤ i ∨ ys.length ≤ i)⟩
theorem turn_zipLT {P : Program} {w : World} {K : PySem.W.Frag} {elts : List Expr} {kk : Nat} {tpos : Pos} {a b z TI TO i1 i2 : Addr} (D : ZipApart z TI TO i1 i2 a b) :
    Turn P w K (.Tuple elts kk tpos) (ItzLT K a b) [z, TI, TO, i1, i2] z (fun i h => IsZip h z TI TO .none ∧ IsPair h TI (.ref i1) (.ref i2) ∧ (∃ x y, IsPair h TO x y) ∧ h.IsListIter i1 a i ∧ h.IsTupleIter i2 b i) where
  mem := by simp
  obj := fun i h st c hc => by
    obtain ⟨hz, hTI, ⟨x, y, hTO⟩, ⟨o1, e1, _, d1⟩, ⟨o2, e2, _, d2⟩⟩ := st
    have e' : c = z ∨ c = TI ∨ c = TO ∨ c = i1 ∨ c = i2 := by simpa using hc
    rcases e' with q | q | q | q | q
    · rw [q]; exact ⟨_, hz, fun v q => nomatch q⟩
    · rw [q]; exact ⟨_, hTI, fun v q => nomatch q⟩
    · rw [q]; exact ⟨_, hTO, fun v q => nomatch q⟩
    · rw [q]; exact ⟨o1, e1, fun v q => by rw [d1] at q; cases q⟩
    · rw [q]; exact ⟨o2, e2, fun v q => by rw [d2] at q; cases q⟩
  keep := fun i h h' st k => by
    obtain ⟨hz, hTI, ⟨x, y, hTO⟩, h1, h2⟩ := st
    exact ⟨k z (by simp) _ hz, k TI (by simp) _ hTI, ⟨x, y, k TO (by simp) _ hTO⟩, h1.at fun o q => k i1 (by simp) o q, h2.at fun o q => k i2 (by simp) o q⟩
  item := by
    intro X hP hw hK hc i pins s σ H E I hf st hg
    subst hP hw hK
    obtain ⟨hz, hTI, ⟨x0, y0, hTO⟩, h1, h2⟩ := st
    obtain ⟨xs, ys, x, y, hqx, hqy, hx, hy⟩ := hg
    obtain ⟨its, rv, p, _⟩ := I.list hqx
    obtain ⟨its2, rv2, p2, _⟩ := I.tuple hqy
    obtain ⟨u, hu, ru⟩ := rv.get hx
    obtain ⟨u2, hu2, ru2⟩ := rv2.get hy
    have hzl : z < s.heap.objs.size := Heap.lt_size hz
    refine nextI_item D (inn_lst (items := its.toArray) D.l1i1) (inn_tup (items := its2.toArray) D.l2i2) hz hTI hTO ⟨h1, p.isList⟩ ⟨h2, (show _ from p2)⟩ (x := u) (y := u2) (by simpa using hu) (by simpa using hu2) fun h' z' TO' ⟨h1', _⟩ ⟨h2', _⟩ hT hk => ?_
    refine ⟨_, rfl, wpAny_letOwnedTupleGo_zip (s := { s with heap := h' }) z' fun h'' z'' sb => ?_⟩
    have hT2 : h''.get? s.heap.objs.size = some { cls := .type "tuple", data := .seq #[u, u2] } := (sb.2 _ (Nat.ne_of_gt hzl)).trans hT
    have new : ObjOk X.prog X.w (upd H s.heap.objs.size (.tup [x, y])) h'' s.heap.objs.size (.tup [x, y]) :=
      ⟨by show 2 ≤ sizeLine; decide, [u, u2], .cons ru (.cons ru2 .nil), ⟨_, hT2, rfl, _, rfl⟩⟩
    have I1 : Inv X pins σ (upd H s.heap.objs.size (.tup [x, y])) { s with heap := h'' } :=
      I.turnedNew (t' := s.toks) (ch := [z, TI, TO, i1, i2]) (fun c o hb q => (sb.2 c (fun q' => hb (by simp [q']))).trans (hk c o (fun q' => hb (by simp [q'])) (fun q' => hb (by simp [q'])) (fun q' => hb (by simp [q'])) (fun q' => hb (by simp [q'])) q)) hf (Nat.le_refl _) new
    refine ⟨.ref s.heap.objs.size, _, I1, rfl, ⟨_, x, y, rfl, I.hok.fresh (Nat.le_refl _), rfl, fun l hl => by rw [I.list_inj hl hqx]; exact hx, fun l hl => by rw [I.tuple_inj hl hqy]; exact hy⟩, ⟨z'', ?_, ⟨u, u2, ?_⟩, ?_, ?_⟩, fun c hcm => ?_⟩
    · exact (sb.2 _ D.TIz).trans (hk _ _ D.TIz D.TITO D.TIi1 D.TIi2 hTI)
    · exact (sb.2 _ D.TOz).trans TO'
    · exact h1'.at fun o q => (sb.2 _ D.i1z).trans q
    · exact h2'.at fun o q => (sb.2 _ D.i2z).trans q
    · have hlt : c < s.heap.objs.size := by
        have e' : c = z ∨ c = TI ∨ c = TO ∨ c = i1 ∨ c = i2 := by simpa using hcm
        rcases e' with q | q | q | q | q
        · rw [q]; exact hzl
        · rw [q]; exact Heap.lt_size hTI
        · rw [q]; exact Heap.lt_size hTO
        · rw [q]; obtain ⟨_, e1, _⟩ := h1; exact Heap.lt_size e1
        · rw [q]; obtain ⟨_, e2, _⟩ := h2; exact Heap.lt_size e2
      rw [upd_ne (Nat.ne_of_lt hlt)]
      exact (hf c hcm).1
  done := by
    intro X hP hw hK hc i pins s σ H E I hf st hg
    subst hP hw hK
    obtain ⟨hz, hTI, ⟨x0, y0, hTO⟩, h1, h2⟩ := st
    obtain ⟨xs, ys, hqx, hqy, hend⟩ := hg
    obtain ⟨its, rv, p, _⟩ := I.list hqx
    obtain ⟨its2, rv2, p2, _⟩ := I.tuple hqy
    have l1 := rv.length
    have l2 := rv2.length
    have he : its.toArray[i]? = none ∨ its2.toArray[i]? = none := by
      rcases hend with q | q
      · exact .inl (by simp; omega)
      · exact .inr (by simp; omega)
    exact nextI_end (I.ok.hd hc) D (inn_lst (items := its.toArray) D.l1i1) (inn_tup (items := its2.toArray) D.l2i2) hz hTI hTO ⟨h1, p.isList⟩ ⟨h2, (show _ from p2)⟩ he fun h' hk => ⟨rfl, I.turnedL (t' := s.toks) (ch := [z, TI, TO, i1, i2]) (fun c o hb q =>
      hk c o (fun q' => hb (by simp [q'])) (fun q' => hb (by simp [q'])) (fun q' => hb (by simp [q'])) (fun q' => hb (by simp [q'])) q) hf⟩
  self := fun A i s Q E st h => wpAny_pyIter_zip st.1 h
def iZipLT (K : PySem.W.Frag) (ta : TA) : TI := fun σ H R => ta σ H fun vs H1 => ∃ a b xs ys, vs = [.ref a, .ref b] ∧ SqL K H1 a xs ∧ SqT K H1 b ys ∧ R (ItzLT K a b) H1
theorem pi_zipLT {X : Cx} {e e2 : Expr} {ta : TA} {p pos tpos : Pos} {elts : List Expr} {kk : Nat} (hg : Gl X "zip") (hm : X.mg "zip" = none) (ha : PA X [e, e2] ta)
    (hs : starEach [e, e2] X.env = (false, eval e X.env) :: starEach [e2] X.env := by rfl) (hpl : (backTo pos (starEach [e2] X.env)).any (·.1) = false := by rfl) :
    PI X (.Tuple elts kk tpos) (.Call (.Name "zip" p) [e, e2] [] pos) (iZipLT X.K ta) := by
  refine ⟨fun pins s σ H R I h => ?_⟩
  refine Call_ (ld_blt I hg hm PyProof.Rows.boot_zip (PyProof.Rows.callWith_type1 (thn (ha.run pos pins s σ H _ I h) fun us s1 ⟨vs, H1, I1, r1, q1⟩ => ?_) hs hpl))
  obtain ⟨a, b, xs, ys, ex, hqx, hqy, q⟩ := q1
  subst ex
  cases r1 with
  | cons r rr =>
    cases rr with
    | cons r' rr =>
      cases rr
      cases r
      cases r'
      have fresh5 : ∀ c, c ∈ [s1.heap.objs.size + 4, s1.heap.objs.size + 2, s1.heap.objs.size + 3, s1.heap.objs.size, s1.heap.objs.size + 1] → FpOk X pins H1 c := fun c hcm => by
        have e' : c = s1.heap.objs.size + 4 ∨ c = s1.heap.objs.size + 2 ∨ c = s1.heap.objs.size + 3 ∨ c = s1.heap.objs.size ∨ c = s1.heap.objs.size + 1 := by simpa using hcm
        have hle : s1.heap.objs.size ≤ c := by
          rcases e' with z | z | z | z | z
          · rw [z]; exact Nat.le_add_right _ _
          · rw [z]; exact Nat.le_add_right _ _
          · rw [z]; exact Nat.le_add_right _ _
          · rw [z]; exact Nat.le_refl _
          · rw [z]; exact Nat.le_add_right _ _
        exact I1.fpOk hle (I1.hok.fresh hle)
      obtain ⟨its, rv, p1, _⟩ := I1.list hqx
      obtain ⟨its2, rv2, p2, _⟩ := I1.tuple hqy
      have q1 : s1.heap.IsList a its.toArray := p1.isList
      have q2 : s1.heap.IsTuple b its2.toArray := p2
      obtain ⟨o1, ho1, _⟩ := id q1
      obtain ⟨o2, ho2, _⟩ := id q2
      refine call_zipLT q1 q2 fun h' hz hTI hTO h1 h2 hk => wpAny_pyIter_zip hz ?_
      have I2 : Inv X pins σ H1 { s1 with heap := h' } := I1.kept (t' := s1.toks) hk
      exact ⟨s1.heap.objs.size + 4, [s1.heap.objs.size + 4, s1.heap.objs.size + 2, s1.heap.objs.size + 3, s1.heap.objs.size, s1.heap.objs.size + 1], _, _, H1, rfl, I2, turn_zipLT (PySem.W.ktu_apart s1.heap.objs.size a b (Heap.lt_size ho1) (Heap.lt_size ho2)), ⟨hz, hTI, ⟨_, _, hTO⟩, h1, h2⟩, fresh5, q⟩
theorem walk_zipLT {K : PySem.W.Frag} {a b : Addr} {xs ys : List V} {n : Nat} (hn : n = min xs.length ys.length) : Walk (ItzLT K a b) n (fun H => SqL K H a xs ∧ SqT K H b ys) (YPair (fun i => xs[i]?) (fun i => ys[i]?)) := by
  subst hn
  refine ⟨fun i _ hi q => ?_, fun _ q => ⟨xs, ys, q.1, q.2, by omega⟩, fun i H v H' _ q y => ?_⟩
  · have h1 : i < xs.length := by omega
    have h2 : i < ys.length := by omega
    exact ⟨xs, ys, xs[i], ys[i], q.1, q.2, by simp [h1], by simp [h2]⟩
  · obtain ⟨T, x, z, h1, h2, h3, h4, h5⟩ := y
    exact ⟨T, x, z, h1, h2, h3, h4 xs q.1, h5 ys q.2⟩
section
variable {𝓜 : Md} {α β : Type} {c : Ctx} {e e1 : Expr} {Γ : List Slot} {T : Rp α} {U : Rp β} {pos p : Pos} {kk : Nat}
theorem i_zpLT {ms : 𝓜.M (List α)} {ns : 𝓜.M (List β)} {elts : List Expr} {tpos : Pos} (hm : c.g.mg "zip" = none) (h : XM 𝓜 c e Γ (rL T) ms) (h2 : XM 𝓜 c e1 Γ (rT c.g.K (sAll U)) ns) (hg : okGlob c.sc "zip" = true := by kernel_rfl)
    (hs : ∀ env, starEach [e, e1] env = (false, eval e env) :: starEach [e1] env := by intro _; rfl) (hs1 : ∀ env, starEach [e1] env = (false, eval e1 env) :: starEach [] env := by intro _; rfl) (hpl : ∀ env, (backTo pos (starEach [e1] env)).any (·.1) = false := by intro _; rfl) :
    XI 𝓜 c (.Tuple elts kk tpos) (.Call (.Name "zip" p) [e, e1] [] pos) Γ (rT c.g.K (sCons T (sOne U))) (𝓜.bnd ms fun l => 𝓜.bnd ns fun r => 𝓜.ret (l.zip r)) :=
  let ⟨t, pa, ea⟩ := h; let ⟨t2, pb, eb⟩ := h2; ⟨iZipLT c.g.K (tCons t (tCons t2 tNil)), fun X hX => by rw [← hX.K]; exact pi_zipLT (hX.gl (gl_l hg)) (by rw [hX.mg]; exact hm) (pa_cons (pa X hX) (pa_cons (pb X hX) pa_nil (hs1 _)) (hs _)) (hs _) (hpl _), fun C B d l d' σ G H Q rr ok at0 k => by
    obtain ⟨x, d1, r1, rr⟩ := 𝓜.run_bnd rr
    obtain ⟨z, d2, r2, rr⟩ := 𝓜.run_bnd rr
    obtain ⟨z1, z2⟩ := 𝓜.run_ret rr
    subst z1; subst z2
    refine ea C B d x d1 σ G H _ r1 ok at0 fun v G1 H1 e1 a1 ⟨a, vs, ev, hv, hz, pr⟩ => eb C B d1 z d' σ G1 H1 _ r2 (ok.ext e1.up) a1 fun w G2 H2 e2 a2 ⟨b, ws, ew, hw, hzw, prw⟩ => ?_
    have hA : SqL c.g.K H2 a vs := SqL.of (e2.sub _ _ (e2.g _ _ hv))
    have hB : SqT c.g.K H2 b ws := same_t e2.sub hw
    refine ⟨a, b, vs, ws, by rw [ev, ew], hA, hB, k _ G2 H2 (e1.trans e2) a2 ⟨_, _, _, walk_zipLT rfl, by rw [List.length_zip, Paired.length pr, Paired.length prw], by rw [List.length_zip, ← Paired.length pr]; exact Nat.le_trans (Nat.min_le_left _ _) hz, fun G3 H3 s1 s2 => ⟨SqL.of (s2 _ _ (s1 _ _ (e2.g _ _ hv))), same_t s2 (same_t s1 hw)⟩, fun i a' x' G3 H3 H4 hl s1 s2 yy => ?_⟩⟩
    obtain ⟨bb, v1, v2, ebb, nb, e3, g1, g2⟩ := yy
    obtain ⟨q1, q2⟩ := zip_get _ _ _ _ hl
    obtain ⟨v', h3, h4⟩ := paired_get pr q1
    obtain ⟨w', h5, h6⟩ := paired_get prw q2
    have g1 : vs[i]? = some v1 := g1
    have g2 : ws[i]? = some v2 := g2
    rw [h3] at g1
    cases g1
    rw [h5] at g2
    cases g2
    subst e3
    have sE := (Ext.new (C := []) (o := .tup [v1, v2]) s2 nb).g
    exact ⟨upd G3 bb (.tup [v1, v2]), Ext.new s2 nb, bb, _, ebb, SqT.of upd_same, by show 2 ≤ cap; decide, _, _, rfl, T.st (e2.g.trans (s1.trans sE)) h4, v2, rfl, U.st (s1.trans sE) h6⟩⟩
end
theorem walk_zipTT {K : PySem.W.Frag} {a b : Addr} {xs ys : List V} {n : Nat} (hn : n = min xs.length ys.length) : Walk (ItzT K a b) n (fun H => SqT K H a xs ∧ SqT K H b ys) (YPair (fun i => xs[i]?) (fun i => ys[i]?)) := by
  subst hn
  refine ⟨fun i _ hi q => ?_, fun _ q => ⟨xs, ys, q.1, q.2, by omega⟩, fun i H v H' _ q y => ?_⟩
  · have h1 : i < xs.length := by omega
    have h2 : i < ys.length := by omega
    exact ⟨xs, ys, xs[i], ys[i], q.1, q.2, by simp [h1], by simp [h2]⟩
  · obtain ⟨T, x, z, h1, h2, h3, h4, h5⟩ := y
    exact ⟨T, x, z, h1, h2, h3, h4 xs q.1, h5 ys q.2⟩
section
variable {𝓜 : Md} {α β : Type} {c : Ctx} {e e1 : Expr} {Γ : List Slot} {T : Rp α} {U : Rp β} {pos p : Pos} {kk : Nat}
theorem i_zpTT {ms : 𝓜.M (List α)} {ns : 𝓜.M (List β)} {elts : List Expr} {tpos : Pos} (hm : c.g.mg "zip" = none) (h : XM 𝓜 c e Γ (rT c.g.K (sAll T)) ms) (h2 : XM 𝓜 c e1 Γ (rT c.g.K (sAll U)) ns) (hg : okGlob c.sc "zip" = true := by kernel_rfl)
    (hs : ∀ env, starEach [e, e1] env = (false, eval e env) :: starEach [e1] env := by intro _; rfl) (hs1 : ∀ env, starEach [e1] env = (false, eval e1 env) :: starEach [] env := by intro _; rfl) (hpl : ∀ env, (backTo pos (starEach [e1] env)).any (·.1) = false := by intro _; rfl) :
    XI 𝓜 c (.Tuple elts kk tpos) (.Call (.Name "zip" p) [e, e1] [] pos) Γ (rT c.g.K (sCons T (sOne U))) (𝓜.bnd ms fun l => 𝓜.bnd ns fun r => 𝓜.ret (l.zip r)) :=
  let ⟨t, pa, ea⟩ := h; let ⟨t2, pb, eb⟩ := h2; ⟨iZipA c.g.K (tCons t (tCons t2 tNil)), fun X hX => by rw [← hX.K]; exact pi_zipA (hX.gl (gl_l hg)) (by rw [hX.mg]; exact hm) (pa_cons (pa X hX) (pa_cons (pb X hX) pa_nil (hs1 _)) (hs _)) (hs _) (hpl _), fun C B d l d' σ G H Q rr ok at0 k => by
    obtain ⟨x, d1, r1, rr⟩ := 𝓜.run_bnd rr
    obtain ⟨z, d2, r2, rr⟩ := 𝓜.run_bnd rr
    obtain ⟨z1, z2⟩ := 𝓜.run_ret rr
    subst z1; subst z2
    refine ea C B d x d1 σ G H _ r1 ok at0 fun v G1 H1 e1 a1 ⟨a, vs, ev, hv, hz, pr⟩ => eb C B d1 z d' σ G1 H1 _ r2 (ok.ext e1.up) a1 fun w G2 H2 e2 a2 ⟨b, ws, ew, hw, hzw, prw⟩ => ?_
    have hA : SqT c.g.K H2 a vs := same_t e2.sub (same_t e2.g hv)
    have hB : SqT c.g.K H2 b ws := same_t e2.sub hw
    refine ⟨a, b, vs, ws, by rw [ev, ew], .inr ⟨hA, hB, k _ G2 H2 (e1.trans e2) a2 ⟨_, _, _, walk_zipTT rfl, by rw [List.length_zip, Paired.length pr, Paired.length prw], by rw [List.length_zip, ← Paired.length pr]; exact Nat.le_trans (Nat.min_le_left _ _) hz, fun G3 H3 s1 s2 => ⟨same_t s2 (same_t s1 (same_t e2.g hv)), same_t s2 (same_t s1 hw)⟩, fun i a' x' G3 H3 H4 hl s1 s2 yy => ?_⟩⟩⟩
    obtain ⟨bb, v1, v2, ebb, nb, e3, g1, g2⟩ := yy
    obtain ⟨q1, q2⟩ := zip_get _ _ _ _ hl
    obtain ⟨v', h3, h4⟩ := paired_get pr q1
    obtain ⟨w', h5, h6⟩ := paired_get prw q2
    have g1 : vs[i]? = some v1 := g1
    have g2 : ws[i]? = some v2 := g2
    rw [h3] at g1
    cases g1
    rw [h5] at g2
    cases g2
    subst e3
    have sE := (Ext.new (C := []) (o := .tup [v1, v2]) s2 nb).g
    exact ⟨upd G3 bb (.tup [v1, v2]), Ext.new s2 nb, bb, _, ebb, SqT.of upd_same, by show 2 ≤ cap; decide, _, _, rfl, T.st (e2.g.trans (s1.trans sE)) h4, v2, rfl, U.st (s1.trans sE) h6⟩⟩
end
end Ty
set_option Elab.async false
set_option linter.all false
set_option maxRecDepth 100000
set_option maxHeartbeats 4000000
/-! A for over our own list, which may change behind it; len of a tuple of known length; x in a list, is None. -/
namespace Ty
open PySem PySem.Spec PyProof.Rows L2 StX

section
variable {𝓜 : Md} {S S' L ρ α β γ : Type} {c : Ctx} {e e1 e2 tg : Expr} {sts body : List Stmt} {es : List Expr} {Γ Γ' : List Slot} {Γn : S → List Slot} {Γl : L → List Slot} {R : Rp ρ} {T : Rp α} {U : Rp β} {x : α} {m : 𝓜.M α} {pos p p1 p2 : Pos} {i : Nat} {y s : Str} {A : Rps β} {K : PySem.W.Frag}
theorem toOwnP {C : List Addr} {B G H : Hp} {σ : L2.St} {xs : List α} {Γp : Addr → List V → List Slot} (ok : EnvOk C B Γ σ G H) (h : Has Γ i (.own T xs)) (q : ∀ p vs, Put Γ i (.ownP p vs T xs) (Γp p vs)) : ∃ p vs, EnvOk C B (Γp p vs) σ G H ∧ σ[i]? = some (some (.ref p)) ∧ H p = some (.lst vs) ∧ vs.length ≤ cap ∧ Paired (T.r G) vs xs := by
  obtain ⟨o, ho, p, vs, e, hp, gp, nc, bp, hz, pr⟩ := ok.has h
  refine ⟨p, vs, ⟨ok.sub, (q p vs).length.trans ok.len, fun j t w => ?_, fun a b r x1 x2 => ?_, ok.dkg, ok.dkh⟩, by rw [ho, e], hp, hz, pr⟩
  · rw [(q p vs).get] at w
    by_cases zj : j = i
    · rw [if_pos zj] at w
      cases w
      subst zj
      exact ⟨o, ho, e, hp, gp, nc, bp, hz, pr⟩
    · rw [if_neg zj] at w
      exact ok.sl j t w
  · have back : ∀ k, OwnAt (Γp p vs) σ k r → OwnAt Γ σ k r := fun k hk => by
      obtain ⟨⟨t, h1, h2⟩, h3⟩ := hk
      rw [(q p vs).get] at h1
      by_cases zk : k = i
      · subst zk
        exact ⟨⟨_, h.get, rfl⟩, h3⟩
      · rw [if_neg zk] at h1; exact ⟨⟨t, h1, h2⟩, h3⟩
    exact ok.dst a b r (back a x1) (back b x2)
theorem ofOwnP {C : List Addr} {B G H : Hp} {σ : L2.St} {xs : List α} {p : Addr} {vs : List V} (ok : EnvOk C B Γ σ G H) (h : Has Γ i (.ownP p vs T xs)) (q : Put Γ i (.own T xs) Γ') : EnvOk C B Γ' σ G H := by
  obtain ⟨o, ho, e, hp, gp, nc, bp, hz, pr⟩ := ok.has h
  refine ⟨ok.sub, q.length.trans ok.len, fun j t w => ?_, fun a b r x1 x2 => ?_, ok.dkg, ok.dkh⟩
  · rw [q.get] at w
    by_cases zj : j = i
    · rw [if_pos zj] at w
      cases w
      subst zj
      exact ⟨o, ho, p, vs, e, hp, gp, nc, bp, hz, pr⟩
    · rw [if_neg zj] at w
      exact ok.sl j t w
  · have back : ∀ k, OwnAt Γ' σ k r → OwnAt Γ σ k r := fun k hk => by
      obtain ⟨⟨t, h1, h2⟩, h3⟩ := hk
      rw [q.get] at h1
      by_cases zk : k = i
      · subst zk
        exact ⟨⟨_, h.get, rfl⟩, h3⟩
      · rw [if_neg zk] at h1; exact ⟨⟨t, h1, h2⟩, h3⟩
    exact ok.dst a b r (back a x1) (back b x2)
/-- for tg in y: .., y our own list, which the body leaves as it is -/
theorem xs_forOwn {xs : List α} {f : α → S' → 𝓜.M (Fl S' S' ρ)} {Γp : Addr → List V → List Slot} {Γs : Addr → List V → S' → List Slot} {Γb : Addr → List V → α → S' → List Slot} {Γr : S' → List Slot} {s0 : S'} {k : S' → 𝓜.M (Fl S L ρ)} {ws : List Nat}
    (h : Has Γ i (.own T xs)) (q : ∀ p vs, Put Γ i (.ownP p vs T xs) (Γp p vs)) (hg : ∀ p vs a s, XG c tg (Γs p vs s) T a (Γb p vs a s) ws) (hb : ∀ p vs a s, XS 𝓜 c body (Γb p vs a s) (Γs p vs) (Γs p vs) R (f a s)) (h0 : ∀ p vs, Le (Γs p vs s0) (Γp p vs))
    (hh : ∀ p vs s, Has (Γs p vs s) i (.ownP p vs T xs)) (hp : ∀ p vs s, Put (Γs p vs s) i (.own T xs) (Γr s)) (hr : ∀ s, XS 𝓜 c sts (Γr s) Γn Γl R (k s)) (hv : okVar c.N c.sc i y = true := by kernel_rfl) (hs : ∀ env x, foldedSetIterable (.Name y p1) env x = pure x := by intro _ _; rfl) :
    XS 𝓜 c (.For tg (.Name y p1) body [] pos :: sts) Γ Γn Γl R (bndF 𝓜 (forL 𝓜 f xs s0) k) :=
  have pi : ∀ X, InC c X → PI X tg (.Name y p1) (iList c.g.K (tVar i)) := fun X hX => by rw [← hX.K]; exact pi_list (pe_var (by rw [hX.N]; exact va_N hv) (hX.vis (va_V hv)) (va_d hv) (va_c hv))
  ⟨_, fun X hX => pss_cons (ps_for (by rw [hX.xe]; exact PassesOwn.never) hX.calm (pi X hX) (pg_can X hX) (pss_can X hX) (hs _)) (pss_can X hX), fun C d ff d' G0 H0 σ G H D rr ok at0 kk => by
    obtain ⟨fS, d1, r1, rr⟩ := 𝓜.run_bnd rr
    have kS := post_seq (C := C) (D := D) hr rr kk
    obtain ⟨pa, vs, okp, hσ, hpa, hz, pr⟩ := toOwnP ok.ok h q
    refine ⟨.ref pa, hσ, pa, rfl, ⟨vs, SqL.of hpa⟩, ?_⟩
    let Pv : Nat → L2.St → Hp → Prop := fun i σ H => (∃ s d G', EnvB C G0 H0 (Γs pa vs s) σ G' H ∧ 𝓜.at_ H C d ∧ Same G G' ∧ 𝓜.run (forL (L := L) 𝓜 f (xs.drop i) s) d fS d1)
    have hn : vs.length = xs.length := Paired.length pr
    have at_p : ∀ {s : S'} {σ G' H'}, EnvB C G0 H0 (Γs pa vs s) σ G' H' → H' pa = some (.lst vs) ∧ Paired (T.r G') vs xs := fun o => by
      obtain ⟨_, _, _, h2, _, _, _, _, h7⟩ := o.ok.has (hh pa vs _)
      exact ⟨h2, h7⟩
    refine for_it (walk_list (K := c.g.K) (a := pa) (xs := vs)) (D := { D with nx := WS c sts D }) Pv ⟨s0, d, G, ⟨okp.le (h0 pa vs), ok.ex⟩, at0, Same.refl _, r1⟩ (fun i σ H _ ⟨s, d, G, o, _, sg, _⟩ => SqL.of (at_p o).1) (fun i x σ' H' H'' hlt ⟨s, d, G2, o, at1, sg, run⟩ yy => ?_) (fun σ' H' ⟨s, d, G2, o, at1, sg, run⟩ => ?_)
    · have hl : i < xs.length := by rw [← hn]; exact hlt
      rw [List.drop_eq_getElem_cons hl] at run
      obtain ⟨fb, d3, r3, r4⟩ := 𝓜.run_bnd run
      obtain ⟨e3, hx⟩ := yy
      obtain ⟨v', h3, h4⟩ := paired_get (at_p o).2 (List.getElem?_eq_getElem hl)
      rw [h3] at hx
      have hx := Option.some.inj hx
      subst hx
      subst e3
      refine (hg pa vs xs[i] s).can C H0 σ' G2 _ v' _ o.ok h4 fun σ2 ok2 _ => ?_
      refine (hb pa vs xs[i] s).can C d fb d3 G0 H0 σ2 G2 _ _ r3 ⟨ok2, o.ex⟩ at1 ?_
      cases fb with
      | nx s' => exact fun σ4 G4 H4 s4 o4 a4 => ⟨s', d3, G4, o4, a4, sg.trans s4, r4⟩
      | ct s' => exact fun σ4 G4 H4 s4 o4 a4 => ⟨s', d3, G4, o4, a4, sg.trans s4, r4⟩
      | bk s' =>
        obtain ⟨z1, z2⟩ := 𝓜.run_ret r4
        subst z1; subst z2
        exact fun σ4 G4 H4 s4 o4 a4 => kS σ4 G4 H4 (sg.trans s4) ⟨ofOwnP o4.ok (hh pa vs s') (hp pa vs s'), o4.ex⟩ a4
      | rt r =>
        obtain ⟨z1, z2⟩ := 𝓜.run_ret r4
        subst z1; subst z2
        exact kS
    · have hdr : xs.drop vs.length = [] := List.drop_eq_nil_of_le (by omega)
      rw [hdr] at run
      obtain ⟨z1, z2⟩ := 𝓜.run_ret run
      subst z1; subst z2
      exact kS σ' G2 H' sg ⟨ofOwnP o.ok (hh pa vs _) (hp pa vs _), o.ex⟩ at1⟩
/-- len of a tuple of so many items -/
theorem rc_lenTk {n : Nat} (hlen : ∀ H vs y, A.r H vs y → vs.length = n) : RC (rLenSq K) (sOne (rT K A)) rI (fun _ => (n : Int)) := fun G H vs xs Q s ⟨v, ev, a, ws, e, h, z, pr⟩ k => ⟨a, ws, by rw [ev, e], .inr (same_t s h), by rw [hlen _ _ _ pr]; exact k _ G H (Ext.refl s) rfl⟩
/-! ### several targets at once, some of them our own new lists -/
theorem EnvOk.putS {C : List Addr} {B G H : Hp} {σ : L2.St} {s : Slot} {v : V} (h : EnvOk C B Γ σ G H) (q : Put Γ i s Γ') (ok : SlotOk C B G H s (some v)) (other : ∀ p j, s.isOwn = true → v = .ref p → OwnAt Γ σ j p → j = i) : EnvOk C B Γ' (σ.set i (some v)) G H := by
  have key : ∀ j p', OwnAt Γ' (σ.set i (some v)) j p' → (j = i ∧ s.isOwn = true ∧ v = .ref p') ∨ (j ≠ i ∧ OwnAt Γ σ j p') := fun j p' hj => by
    obtain ⟨⟨t, h1, h2⟩, h3⟩ := hj
    by_cases e : j = i
    · subst e
      rw [List.getElem?_set_self (by rw [← h.len]; exact q.lt)] at h3
      rw [q.get, if_pos rfl] at h1
      cases h1
      cases h3
      exact .inl ⟨rfl, h2, rfl⟩
    · rw [q.get, if_neg e] at h1
      rw [List.getElem?_set_ne (Ne.symm e)] at h3
      exact .inr ⟨e, ⟨t, h1, h2⟩, h3⟩
  refine ⟨h.sub, by rw [q.length, List.length_set, h.len], fun j t e => ?_, fun a b p' x y => ?_, h.dkg, h.dkh⟩
  · rw [q.get] at e
    by_cases z' : j = i
    · rw [if_pos z'] at e
      cases e
      subst z'
      exact ⟨some v, List.getElem?_set_self (by rw [← h.len]; exact q.lt), ok⟩
    · rw [if_neg z'] at e
      rw [List.getElem?_set_ne (Ne.symm z')]
      exact h.sl j t e
  · rcases key a p' x with ⟨a1, a2, a3⟩ | ⟨a1, a2⟩
    · rcases key b p' y with ⟨b1, _, _⟩ | ⟨b1, b2⟩
      · rw [a1, b1]
      · exact absurd (other p' b a2 a3 b2) b1
    · rcases key b p' y with ⟨b1, b2, b3⟩ | ⟨b1, b2⟩
      · exact absurd (other p' a b2 b3 a2) a1
      · exact h.dst a b p' a2 b2
def EvE {α : Type} (𝓜 : Md) (t : TE) (Γ : List Slot) (sl : α → Slot) (m : 𝓜.M α) : Prop := ∀ C B d x d' σ G H (Q : VK), 𝓜.run m d x d' → EnvOk C B Γ σ G H → 𝓜.at_ H C d →
  (∀ v G' H', Ext (𝓜.cells C) G H G' H' → 𝓜.at_ H' C d' → (∀ B', (∀ q, H q = none → B' q = none) → SlotOk C B' G' H' (sl x) (some v)) → ((sl x).isOwn = true → ∃ p, v = .ref p ∧ H p = none ∧ H' p ≠ none) → Q v H') → t σ H Q
def XE {α : Type} (𝓜 : Md) (c : Ctx) (e : Expr) (Γ : List Slot) (sl : α → Slot) (m : 𝓜.M α) : Prop := ∃ t, (∀ X, InC c X → PE X e t) ∧ EvE 𝓜 t Γ sl m
theorem XE.val (h : XM 𝓜 c e Γ T m) : XE 𝓜 c e Γ (fun a => .val T a) m := let ⟨t, p, q⟩ := h; ⟨t, p, fun C B d x d' σ G H Q rr ok at0 k =>
  q C B d x d' σ G H Q rr ok at0 fun v G' H' e a r => k v G' H' e a (fun _ _ => ⟨v, rfl, r⟩) fun z => by cases z⟩
theorem XE.own {ms : 𝓜.M (List α)} (h : XF 𝓜 c e Γ T ms) : XE 𝓜 c e Γ (fun a => .own T a) ms := let ⟨t, p, q⟩ := h; ⟨t, p, fun C B d x d' σ G H Q rr ok at0 k =>
  q C B d x d' σ G H Q rr ok at0 fun p vs G' H' n e a hp gp hz pr => k (.ref p) G' H' e a (fun B' hB => ⟨p, vs, rfl, hp, gp, fun z => ok.dkh p z n, hB p n, hz, pr⟩) fun _ => ⟨p, rfl, n, by rw [hp]; exact fun z => by cases z⟩⟩
theorem xs_prS {y2 : Str} {j : Nat} {px py pt : Pos} {kt k2 : Nat} {pt2 : Pos} {ma : 𝓜.M α} {mb : 𝓜.M β} {sa : α → Slot} {sb : β → Slot} {k : α → β → 𝓜.M (Fl S L ρ)} {Γ1 : α → List Slot} {Γ' : α → β → List Slot} (ha : XE 𝓜 c e1 Γ sa ma) (hb : XE 𝓜 c e2 Γ sb mb) (q1 : ∀ a, Put Γ i (sa a) (Γ1 a)) (q2 : ∀ a b, Put (Γ1 a) j (sb b) (Γ' a b)) (hr : ∀ a b, XS 𝓜 c sts (Γ' a b) Γn Γl R (k a b))
    (hij : i ≠ j := by decide) (h1 : okLocal c.N c.sc i y = true := by kernel_rfl) (h2 : okLocal c.N c.sc j y2 = true := by kernel_rfl) (hw : swappedStores [.Tuple [.Name y px, .Name y2 py] kt pt] (.Tuple [e1, e2] k2 pt2) (envS c.sc) = pure (some [y, y2]) := by kernel_rfl)
    (hs : ∀ env, swapsWithSole [.Tuple [.Name y px, .Name y2 py] kt pt] (.Tuple [e1, e2] k2 pt2) pos.line env = pure false := by intro _; rfl)
    (hs1 : ∀ env, starEach (e1 :: [e2]) env = (false, eval e1 env) :: starEach [e2] env := by intro _; rfl) (hs2 : ∀ env, starEach (e2 :: []) env = (false, eval e2 env) :: starEach [] env := by intro _; rfl) : XS 𝓜 c (.Assign [.Tuple [.Name y px, .Name y2 py] kt pt] (.Tuple [e1, e2] k2 pt2) pos :: sts) Γ Γn Γl R (𝓜.bnd ma fun a => 𝓜.bnd mb fun b => k a b) :=
  let ⟨t, p, ee⟩ := ha; let ⟨t2, p2, ee2⟩ := hb; ⟨_, fun X hX => pss_cons (ps_par hX.calm hX.nodup (by rw [hX.N]; exact ll_N h1) (by rw [hX.N]; exact ll_N h2) hij (by rw [hX.sc]; exact ll_l h1) (by rw [hX.sc]; exact ll_l h2) (pa_cons (p X hX) (pa_cons (p2 X hX) pa_nil (hs2 _)) (hs1 _)) (by rw [swap_of (env' := envS c.sc) hX.sc]; exact hw) (hs _)) (pss_can X hX), fun C d f d' G0 H0 σ G H D rr ok at0 kk => by
    obtain ⟨a, d1, r1, rr⟩ := 𝓜.run_bnd rr
    obtain ⟨b, d2, r2, rr⟩ := 𝓜.run_bnd rr
    refine ee C H0 d a d1 σ G H _ r1 ok.ok at0 fun v G1 H1 e1 a1 s1 n1 => ?_
    have ok1 := ok.ext e1
    refine ee2 C H0 d1 b d2 σ G1 H1 _ r2 ok1.ok a1 fun w G2 H2 e2 a2 s2 n2 => ⟨v, w, rfl, ?_⟩
    have ok2 := ok1.ext e2
    have S1 : SlotOk C H0 G2 H2 (sa a) (some v) := (s1 H0 fun q z => back_none ok.ex z).ext e2.up
    have S2 : SlotOk C H0 G2 H2 (sb b) (some w) := s2 H0 fun q z => back_none ok1.ex z
    have k1 := ok2.ok.putS (q1 a) S1 fun pp j' z1 z2 z3 => by
      obtain ⟨p', e', n', _⟩ := n1 z1
      rw [z2] at e'
      cases e'
      exact (own_new ok.ok n' (by
        obtain ⟨z4, z5⟩ := z3
        exact ⟨z4, z5⟩)).elim
    have k2 := k1.putS (q2 a b) S2 fun pp j' z1 z2 z3 => by
      obtain ⟨p', e', n', _⟩ := n2 z1
      rw [z2] at e'
      cases e'
      obtain ⟨⟨t', h1', h2'⟩, h3'⟩ := z3
      by_cases zz : j' = i
      · subst zz
        rw [(q1 a).get, if_pos rfl] at h1'
        cases h1'
        obtain ⟨p1, e1', _, m1⟩ := n1 h2'
        rw [List.getElem?_set_self (by rw [← ok2.ok.len]; exact (q1 a).lt), e1'] at h3'
        cases h3'
        exact absurd n' m1
      · rw [(q1 a).get, if_neg zz] at h1'
        rw [List.getElem?_set_ne (Ne.symm zz)] at h3'
        exact (own_new ok1.ok n' ⟨⟨t', h1', h2'⟩, h3'⟩).elim
    exact (hr a b).can C d2 f d' G0 H0 _ G2 H2 D rr ⟨k2, ok2.ex⟩ a2 (kk.mono (e1.g.trans e2.g))⟩
end
end Ty
set_option Elab.async false
set_option linter.all false
set_option maxRecDepth 100000
set_option maxHeartbeats 4000000
set_option exponentiation.threshold 100000
/-! repr of small data; more about the deck. -/
namespace Ty
open PySem

theorem dr_andM {a b : Nat} {t m : DkM Bool} {T P : Bool → Prop} (h : Dr a t T) (h1 : T true → Dr b m P) (h2 : T false → P false) : Dr (a + b) (andM dkL t m) P := dr_bndK h fun x hx => by
  cases x with
  | true => exact h1 hx
  | false => exact dr_le (dr_retK (h2 hx)) (Nat.zero_le _)
theorem dr_orM {a b : Nat} {t m : DkM Bool} {T P : Bool → Prop} (h : Dr a t T) (h1 : T false → Dr b m P) (h2 : T true → P true) : Dr (a + b) (orM dkL t m) P := dr_bndK h fun x hx => by
  cases x with
  | false => exact h1 hx
  | true => exact dr_le (dr_retK (h2 hx)) (Nat.zero_le _)
theorem int_text_len {z : Int} {k : Nat} (hk : 0 < k) (h : z.natAbs < 10 ^ k) : (Str.ofString (toString z)).length ≤ k + 1 := by
  have pos : ∀ n : Nat, n < 10 ^ k → (toString (n : Int)).toList.length ≤ k := fun n hn => by
    have := PyProof.Rows.toString_length_le (v := (n : Int)) (by omega) hk (by have : ((10 ^ k : Nat) : Int) = (10 : Int) ^ k := by rw [Int.natCast_pow]; rfl
                                                                               omega)
    rw [PyProof.Rows.ofString_length] at this
    exact this
  rw [PyProof.Rows.ofString_length]
  cases z with
  | ofNat n => exact Nat.le_succ_of_le (pos n h)
  | negSucc n =>
    have e : toString (Int.negSucc n) = "-" ++ toString (((n + 1 : Nat)) : Int) := rfl
    have := pos (n + 1) h
    rw [e, String.toList_append, List.length_append]
    show 1 + _ ≤ _
    omega
theorem int_text_len2 {z : Int} {k : Nat} (hk : 0 < k) (h : z.natAbs < 2 ^ k) : (Str.ofString (toString z)).length ≤ k + 1 :=
  int_text_len hk (Nat.lt_of_lt_of_le h (Nat.pow_le_pow_left (by decide) k))
theorem reprM_ok {d : PyData} (B : Nat) (hB : 8 ≤ B) (h1 : d.showable = true) (h2 : d.hasDict = false) (h3 : d.depth ≤ 40) (h4 : d.leavesShort B = true) (h5 : (B + 2) * d.weight + B ≤ cap) : ∃ s, reprM d = some s :=
  ⟨_, if_pos ⟨h1, h2, h3, Nat.le_trans (PyData.shown_le B hB d h4) h5⟩⟩
theorem showable_int {z : Int} {k : Nat} (h : z.natAbs < 2 ^ k) (hk : 0 < k) (hk2 : k ≤ 1920) : (PyData.int z).showable = true := by
  simp only [PyData.showable]
  have := log2_lt' h hk
  exact decide_eq_true (by omega)
theorem short_int {z : Int} {k B : Nat} (h : z.natAbs < 2 ^ k) (hk : 0 < k) (hB : k + 1 ≤ B) : (PyData.int z).leavesShort B = true := by
  simp only [PyData.leavesShort]
  exact decide_eq_true (Nat.le_trans (int_text_len2 hk h) hB)
theorem shownAll_len {n : Nat} : ∀ {xs : List PyData}, (∀ x ∈ xs, x.shown.length ≤ n) → ((PyData.shownAll xs).map (·.length)).sum + 2 * (PyData.shownAll xs).length ≤ xs.length * (n + 2)
  | [], _ => by simp [PyData.shownAll]
  | x :: xs, h => by
    have h1 := h x (by simp)
    have h2 := shownAll_len fun y hy => h y (List.mem_cons_of_mem _ hy)
    simp only [PyData.shownAll, List.map_cons, List.sum_cons, List.length_cons]
    rw [Nat.add_mul, Nat.one_mul]
    omega
theorem tuple_len {n : Nat} {xs : List PyData} (h : ∀ x ∈ xs, x.shown.length ≤ n) : (PyData.tuple xs).shown.length ≤ xs.length * (n + 2) + 3 := by
  have h1 := tupleText_len_le (PyData.shownAll xs)
  have h2 := shownAll_len h
  simp only [PyData.shown]
  omega
theorem list_len {n : Nat} {xs : List PyData} (h : ∀ x ∈ xs, x.shown.length ≤ n) : (PyData.list xs).shown.length ≤ xs.length * (n + 2) + 3 := by
  have h1 := listText_len_le (PyData.shownAll xs)
  have h2 := shownAll_len h
  simp only [PyData.shown]
  omega
theorem int_shown {z : Int} {k : Nat} (hk : 0 < k) (h : z.natAbs < 2 ^ k) : (PyData.int z).shown.length ≤ k + 1 := int_text_len2 hk h
theorem reprM_len {d : PyData} (h1 : d.showable = true) (h2 : d.hasDict = false) (h3 : d.depth ≤ 40) (h4 : d.shown.length ≤ cap) : ∃ s, reprM d = some s := ⟨_, if_pos ⟨h1, h2, h3, h4⟩⟩
end Ty
set_option Elab.async false
set_option linter.all false
set_option maxRecDepth 100000
set_option maxHeartbeats 4000000
namespace K17
open PySem L2 Ty
def topS (i : Nat) : Stmt := PySem.Challenge.pw_threeshown_k17_factors.main.body.getD i (.Pass ⟨0, 0, 0, 0⟩)
theorem bt_abs : bootBuiltins "abs" = some (.builtin "abs") := by decide +kernel
theorem bt_int : bootBuiltins "int" = some (.type "int") := by decide +kernel
theorem bt_tuple : bootBuiltins "tuple" = some (.type "tuple") := by decide +kernel
theorem bt_list : bootBuiltins "list" = some (.type "list") := by decide +kernel
theorem bt_bool : bootBuiltins "bool" = some (.type "bool") := by decide +kernel
theorem bt_isinstance : bootBuiltins "isinstance" = some (.builtin "isinstance") := by decide +kernel
theorem bt_len : bootBuiltins "len" = some (.builtin "len") := boot_len
theorem bt_ord : bootBuiltins "ord" = some (.builtin "ord") := PyProof.Rows.boot_ord
theorem bt_repr : bootBuiltins "repr" = some (.builtin "repr") := PyProof.Rows.boot_repr
def bigN : Nat := 1000000000

def lit0 : List Nat := []
theorem litE0 : (PySem.Str.ofString "") = ofL lit0 := by decide +kernel
def lit1 : List Nat := [120, 121, 126, 32, 123]
theorem litE1 : (PySem.Str.ofString "xy~ {") = ofL lit1 := by decide +kernel
def lit2 : List Nat := [97, 126, 98]
theorem litE2 : (PySem.Str.ofString "a~b") = ofL lit2 := by decide +kernel
def lit3 : List Nat := [32, 97]
theorem litE3 : (PySem.Str.ofString " a") = ofL lit3 := by decide +kernel
def lit4 : List Nat := [97, 98]
theorem litE4 : (PySem.Str.ofString "ab") = ofL lit4 := by decide +kernel
def lit5 : List Nat := [97, 126, 32]
theorem litE5 : (PySem.Str.ofString "a~ ") = ofL lit5 := by decide +kernel
def dd0 : (Int × Int × Int) → PyData := (fun x => PyData.tuple ((fun x => PyData.int x.1 :: (fun x => PyData.int x.1 :: (fun x => [PyData.int x]) x.2) x.2) x))
theorem dp0 {K : PySem.W.Frag} : Da K (rT K (sCons rI (sCons rI (sOne rI)))) dd0 := (da_T (das_cons da_I (das_cons da_I (das_one da_I))))
def dd1 : (List Int) → PyData := (fun xs => PyData.list (xs.map PyData.int))
theorem dp1 {K : PySem.W.Frag} : Da K (rL rI) dd1 := (da_L da_I)
def dd2 : (Option (List (Int × Int))) → PyData := (optD (fun x => PyData.tuple (x.map (fun x => PyData.tuple ((fun x => PyData.int x.1 :: (fun x => [PyData.int x]) x.2) x)))))
theorem dp2 {K : PySem.W.Frag} : Da K (rO (rT K (sAll (rT K (sCons rI (sOne rI)))))) dd2 := (da_O (da_T (das_all (da_T (das_cons da_I (das_one da_I))))))
def dd3 : (List (List Nat)) → PyData := (fun xs => PyData.list (xs.map (fun l => PyData.str (ofL l))))
theorem dp3 {K : PySem.W.Frag} : Da K (rL rS) dd3 := (da_L da_S)
def dd4 : (List (Int × Int)) → PyData := (fun x => PyData.tuple (x.map (fun x => PyData.tuple ((fun x => PyData.int x.1 :: (fun x => [PyData.int x]) x.2) x))))
theorem dp4 {K : PySem.W.Frag} : Da K (rT K (sAll (rT K (sCons rI (sOne rI))))) dd4 := (da_T (das_all (da_T (das_cons da_I (das_one da_I)))))
def code_m (x : (List Nat)) : pureMd.M (Int × Int) :=
  retM pureMd (S := Unit) (L := Unit) ((lt ((1 : Int), (0 : Int)) fun t1 => (bndF (S := Int × Int) pureMd (pureMd.bnd (pureMd.bnd (pureMd.ret x) fun l2 => pureMd.ret (signs l2)) fun l13 => forL pureMd (fun (charac4 : (List Nat)) (s3 : Int × Int) => (pureMd.bnd (pureMd.bnd (pureMd.ret (s3.1 * (128 : Int))) fun x8 => pureMd.bnd (pureMd.bnd (pureMd.ret (s3.2 * (128 : Int))) fun a6 => pureMd.bnd (pureMd.bnd (pureMd.ret charac4) fun u5 => pureMd.lft (ordM u5)) fun b7 => pureMd.lft (some (a6 + b7))) fun y9 => pureMd.ret (x8, y9)) (unc fun p11 v12 => (pureMd.ret (.nx (p11, v12)))))) l13 (t1.1, t1.2)) fun s3 => (pureMd.ret (.rt (s3.1, s3.2))))) : pureMd.M (Fl Unit Unit (Int × Int)))
abbrev s_code : Stmt := topS 2
theorem sc_code : FnScope ["text", "p", "v", "character"] ["text"] (defScope s_code) := ⟨rfl, rfl, rfl, by decide +kernel, rfl, by decide +kernel, by decide +kernel⟩
theorem ok_code {g : Glb} (D : Def g "code" s_code ["text"])  (b_ord : g.mg "ord" = none) {t_BASE : Tok} (c_BASE : g.mg "BASE" = some (.int 128 t_BASE)) : Fn g "code" ["text"] 1 (spP (sOne rS) (rT g.K (sCons rI (sOne rI))) code_m) :=
  fn_pure D sc_code (fun H vs x h => by obtain ⟨v0, e0, h0⟩ := h; subst e0; rfl) (Γ := fun x => [.val rS x, .un, .un, .un]) (Γn := fun (_ : Unit) => [.un, .un, .un, .un]) (Γl := fun (_ : Unit) => []) (fun B G H vs x h => by obtain ⟨v0, e0, h0⟩ := h; subst e0; exact ⟨⟨v0, rfl, h0⟩, trivial, trivial, trivial, trivial⟩) (by intro x i s h; exact noown_of (by rfl) h) (fun x => (xs_asg (Γ' := fun t1 => [.val rS x, .val rI t1.1, .val rI t1.2, .un]) (ws := [1, 2]) (x_tup (a_cons x_int (a_one x_int)) (z_of (zk_cons (zk_one (Nat.le_refl 1))))) (fun t1 => (g_tup (g_cons (g_n (i := 1) (.s .z)) (g_one (g_n (i := 2) (.s (.s .z))))) (n_cons n_one))) (fun t1 => (xs_for (Γs := fun (s3 : Int × Int) => [.val rS x, .val rI s3.1, .val rI s3.2, .un]) (Γb := fun charac4 s3 => [.val rS x, .val rI s3.1, .val rI s3.2, .val rS charac4]) (s0 := (t1.1, t1.2)) (ws := [3]) (i_str (XV.toM (𝓜 := pureMd) (x_v (i := 0) (.z)))) (fun charac4 s3 => (g_n (i := 3) (.s (.s (.s .z))))) (fun charac4 s3 => (xs_pr (i := 1) (j := 2) (Γ1 := fun p11 => [.val rS x, .val rI p11, .val rI s3.2, .val rS charac4]) (Γ' := fun p11 v12 => [.val rS x, .val rI p11, .val rI v12, .val rS charac4]) (am_cons (XV.toM (𝓜 := pureMd) (x_bin (f := fun (i : Int) (j : Int) => (i * j)) (fun _ _ => op_mul) (rv_mulB (by decide)) (x_v (i := 1) (.s .z)) (x_gk c_BASE))) (am_one (xm_bin (f := fun (i : Int) (j : Int) => (some (i + j))) (fun _ _ => op_add) rv_I0.p (XV.toM (𝓜 := pureMd) (x_bin (f := fun (i : Int) (j : Int) => (i * j)) (fun _ _ => op_mul) (rv_mulB (by decide)) (x_v (i := 2) (.s (.s .z))) (x_gk c_BASE))) (xm_cB (f := fun (i : (List Nat)) => (ordM i)) ordB rp_ord b_ord bt_ord (am_one (XV.toM (𝓜 := pureMd) (x_v (i := 3) (.s (.s (.s .z)))))))))) (fun p11 => (.s .z)) (fun p11 v12 => (.s (.s .z))) (fun p11 v12 => (xs_nil (.eq (.eq (.eq (.un (.nil))))))))) (.eq (.eq (.eq (.un (.nil))))) (fun s3 => (xs_ret (x_tup (a_cons (x_v (i := 1) (.s .z)) (a_one (x_v (i := 2) (.s (.s .z))))) (z_of (zk_cons (zk_one (Nat.le_refl 1))))))))) (hw := fun X hX => by rw [swap_of (env' := envS _) hX.sc]; kernel_rfl)))
def triple_of_m (x : (List Nat)) : pureMd.M (Int × Int × Int) :=
  retM pureMd (S := Unit) (L := Unit) ((pureMd.bnd (pureMd.bnd (pureMd.ret (1 : Int)) fun x2 => pureMd.bnd (pureMd.bnd (pureMd.ret x) fun q1 => pureMd.lft (code_m q1)) fun y3 => pureMd.ret (x2, y3)) fun r4 => pureMd.ret (.rt r4)) : pureMd.M (Fl Unit Unit (Int × Int × Int)))
abbrev s_triple_of : Stmt := topS 3
theorem sc_triple_of : FnScope ["text"] ["text"] (defScope s_triple_of) := ⟨rfl, rfl, rfl, by decide +kernel, rfl, by decide +kernel, by decide +kernel⟩
theorem ok_triple_of {g : Glb} (D : Def g "triple_of" s_triple_of ["text"]) (F_code : Fn g "code" ["text"] 1 (spP (sOne rS) (rT g.K (sCons rI (sOne rI))) code_m)) : Fn g "triple_of" ["text"] 2 (spP (sOne rS) (rT g.K (sCons rI (sCons rI (sOne rI)))) triple_of_m) :=
  fn_pure D sc_triple_of (fun H vs x h => by obtain ⟨v0, e0, h0⟩ := h; subst e0; rfl) (Γ := fun x => [.val rS x]) (Γn := fun (_ : Unit) => [.un]) (Γl := fun (_ : Unit) => []) (fun B G H vs x h => by obtain ⟨v0, e0, h0⟩ := h; subst e0; exact ⟨⟨v0, rfl, h0⟩, trivial⟩) (by intro x i s h; exact noown_of (by rfl) h) (fun x => (xs_retM (xm_tup (am_cons (XV.toM (𝓜 := pureMd) x_int) (am_star (xm_c F_code (Nat.le_of_ble_eq_true rfl) (XAV.toM (𝓜 := pureMd) (a_one (x_v (i := 0) (.z))))))) (z_of (zk_cons (zk_cons (zk_one (Nat.le_refl 1))))))))
def determinant_m (x : (Int × Int × Int) × (Int × Int × Int) × (Int × Int × Int)) : pureMd.M Int :=
  retM pureMd (S := Unit) (L := Unit) ((lt x.1 fun t1 => (lt x.2.1 fun t2 => (lt x.2.2 fun t3 => (pureMd.bnd (pureMd.bnd (pureMd.bnd (pureMd.bnd (pureMd.ret t1.1) fun a10 => pureMd.bnd (pureMd.bnd (pureMd.bnd (pureMd.ret t2.2.1) fun a4 => pureMd.bnd (pureMd.ret t3.2.2) fun b5 => pureMd.lft (mulM a4 b5)) fun a8 => pureMd.bnd (pureMd.bnd (pureMd.ret t2.2.2) fun a6 => pureMd.bnd (pureMd.ret t3.2.1) fun b7 => pureMd.lft (mulM a6 b7)) fun b9 => pureMd.lft (some (a8 - b9))) fun b11 => pureMd.lft (mulM a10 b11)) fun a20 => pureMd.bnd (pureMd.bnd (pureMd.ret t1.2.1) fun a18 => pureMd.bnd (pureMd.bnd (pureMd.bnd (pureMd.ret t2.1) fun a12 => pureMd.bnd (pureMd.ret t3.2.2) fun b13 => pureMd.lft (mulM a12 b13)) fun a16 => pureMd.bnd (pureMd.bnd (pureMd.ret t2.2.2) fun a14 => pureMd.bnd (pureMd.ret t3.1) fun b15 => pureMd.lft (mulM a14 b15)) fun b17 => pureMd.lft (some (a16 - b17))) fun b19 => pureMd.lft (mulM a18 b19)) fun b21 => pureMd.lft (some (a20 - b21))) fun a30 => pureMd.bnd (pureMd.bnd (pureMd.ret t1.2.2) fun a28 => pureMd.bnd (pureMd.bnd (pureMd.bnd (pureMd.ret t2.1) fun a22 => pureMd.bnd (pureMd.ret t3.2.1) fun b23 => pureMd.lft (mulM a22 b23)) fun a26 => pureMd.bnd (pureMd.bnd (pureMd.ret t2.2.1) fun a24 => pureMd.bnd (pureMd.ret t3.1) fun b25 => pureMd.lft (mulM a24 b25)) fun b27 => pureMd.lft (some (a26 - b27))) fun b29 => pureMd.lft (mulM a28 b29)) fun b31 => pureMd.lft (some (a30 + b31))) fun r32 => pureMd.ret (.rt r32))))) : pureMd.M (Fl Unit Unit Int))
abbrev s_determinant : Stmt := topS 4
theorem sc_determinant : FnScope ["one", "other", "last", "a", "b", "c", "d", "e", "f", "g", "h", "i"] ["one", "other", "last"] (defScope s_determinant) := ⟨rfl, rfl, rfl, by decide +kernel, rfl, by decide +kernel, by decide +kernel⟩
theorem ok_determinant {g : Glb} (D : Def g "determinant" s_determinant ["one", "other", "last"])  : Fn g "determinant" ["one", "other", "last"] 1 (spP (sCons (rT g.K (sCons rI (sCons rI (sOne rI)))) (sCons (rT g.K (sCons rI (sCons rI (sOne rI)))) (sOne (rT g.K (sCons rI (sCons rI (sOne rI))))))) rI determinant_m) :=
  fn_pure D sc_determinant (fun H vs x h => by obtain ⟨v0, w0, e0, h0, h⟩ := h; subst e0; obtain ⟨v1, w1, e1, h1, h⟩ := h; subst e1; obtain ⟨v2, e2, h2⟩ := h; subst e2; rfl) (Γ := fun x => [.val (rT g.K (sCons rI (sCons rI (sOne rI)))) x.1, .val (rT g.K (sCons rI (sCons rI (sOne rI)))) x.2.1, .val (rT g.K (sCons rI (sCons rI (sOne rI)))) x.2.2, .un, .un, .un, .un, .un, .un, .un, .un, .un]) (Γn := fun (_ : Unit) => [.un, .un, .un, .un, .un, .un, .un, .un, .un, .un, .un, .un]) (Γl := fun (_ : Unit) => []) (fun B G H vs x h => by obtain ⟨v0, w0, e0, h0, h⟩ := h; subst e0; obtain ⟨v1, w1, e1, h1, h⟩ := h; subst e1; obtain ⟨v2, e2, h2⟩ := h; subst e2; exact ⟨⟨v0, rfl, h0⟩, ⟨v1, rfl, h1⟩, ⟨v2, rfl, h2⟩, trivial, trivial, trivial, trivial, trivial, trivial, trivial, trivial, trivial, trivial⟩) (by intro x i s h; exact noown_of (by rfl) h) (fun x => (xs_asg (Γ' := fun t1 => [.val (rT g.K (sCons rI (sCons rI (sOne rI)))) x.1, .val (rT g.K (sCons rI (sCons rI (sOne rI)))) x.2.1, .val (rT g.K (sCons rI (sCons rI (sOne rI)))) x.2.2, .val rI t1.1, .val rI t1.2.1, .val rI t1.2.2, .un, .un, .un, .un, .un, .un]) (ws := [3, 4, 5]) (x_v (i := 0) (.z)) (fun t1 => (g_tup (g_cons (g_n (i := 3) (.s (.s (.s .z)))) (g_cons (g_n (i := 4) (.s (.s (.s (.s .z))))) (g_one (g_n (i := 5) (.s (.s (.s (.s (.s .z))))))))) (n_cons (n_cons n_one)))) (fun t1 => (xs_asg (Γ' := fun t2 => [.val (rT g.K (sCons rI (sCons rI (sOne rI)))) x.1, .val (rT g.K (sCons rI (sCons rI (sOne rI)))) x.2.1, .val (rT g.K (sCons rI (sCons rI (sOne rI)))) x.2.2, .val rI t1.1, .val rI t1.2.1, .val rI t1.2.2, .val rI t2.1, .val rI t2.2.1, .val rI t2.2.2, .un, .un, .un]) (ws := [6, 7, 8]) (x_v (i := 1) (.s .z)) (fun t2 => (g_tup (g_cons (g_n (i := 6) (.s (.s (.s (.s (.s (.s .z))))))) (g_cons (g_n (i := 7) (.s (.s (.s (.s (.s (.s (.s .z)))))))) (g_one (g_n (i := 8) (.s (.s (.s (.s (.s (.s (.s (.s .z)))))))))))) (n_cons (n_cons n_one)))) (fun t2 => (xs_asg (Γ' := fun t3 => [.val (rT g.K (sCons rI (sCons rI (sOne rI)))) x.1, .val (rT g.K (sCons rI (sCons rI (sOne rI)))) x.2.1, .val (rT g.K (sCons rI (sCons rI (sOne rI)))) x.2.2, .val rI t1.1, .val rI t1.2.1, .val rI t1.2.2, .val rI t2.1, .val rI t2.2.1, .val rI t2.2.2, .val rI t3.1, .val rI t3.2.1, .val rI t3.2.2]) (ws := [9, 10, 11]) (x_v (i := 2) (.s (.s .z))) (fun t3 => (g_tup (g_cons (g_n (i := 9) (.s (.s (.s (.s (.s (.s (.s (.s (.s .z)))))))))) (g_cons (g_n (i := 10) (.s (.s (.s (.s (.s (.s (.s (.s (.s (.s .z))))))))))) (g_one (g_n (i := 11) (.s (.s (.s (.s (.s (.s (.s (.s (.s (.s (.s .z))))))))))))))) (n_cons (n_cons n_one)))) (fun t3 => (xs_retM (xm_bin (f := fun (i : Int) (j : Int) => (some (i + j))) (fun _ _ => op_add) rv_I0.p (xm_bin (f := fun (i : Int) (j : Int) => (some (i - j))) (fun _ _ => op_sub) rv_I0.p (xm_bin (f := fun (i : Int) (j : Int) => (mulM i j)) (fun _ _ => op_mulW) rp_mul (XV.toM (𝓜 := pureMd) (x_v (i := 3) (.s (.s (.s .z))))) (xm_bin (f := fun (i : Int) (j : Int) => (some (i - j))) (fun _ _ => op_sub) rv_I0.p (xm_bin (f := fun (i : Int) (j : Int) => (mulM i j)) (fun _ _ => op_mulW) rp_mul (XV.toM (𝓜 := pureMd) (x_v (i := 7) (.s (.s (.s (.s (.s (.s (.s .z))))))))) (XV.toM (𝓜 := pureMd) (x_v (i := 11) (.s (.s (.s (.s (.s (.s (.s (.s (.s (.s (.s .z)))))))))))))) (xm_bin (f := fun (i : Int) (j : Int) => (mulM i j)) (fun _ _ => op_mulW) rp_mul (XV.toM (𝓜 := pureMd) (x_v (i := 8) (.s (.s (.s (.s (.s (.s (.s (.s .z)))))))))) (XV.toM (𝓜 := pureMd) (x_v (i := 10) (.s (.s (.s (.s (.s (.s (.s (.s (.s (.s .z))))))))))))))) (xm_bin (f := fun (i : Int) (j : Int) => (mulM i j)) (fun _ _ => op_mulW) rp_mul (XV.toM (𝓜 := pureMd) (x_v (i := 4) (.s (.s (.s (.s .z)))))) (xm_bin (f := fun (i : Int) (j : Int) => (some (i - j))) (fun _ _ => op_sub) rv_I0.p (xm_bin (f := fun (i : Int) (j : Int) => (mulM i j)) (fun _ _ => op_mulW) rp_mul (XV.toM (𝓜 := pureMd) (x_v (i := 6) (.s (.s (.s (.s (.s (.s .z)))))))) (XV.toM (𝓜 := pureMd) (x_v (i := 11) (.s (.s (.s (.s (.s (.s (.s (.s (.s (.s (.s .z)))))))))))))) (xm_bin (f := fun (i : Int) (j : Int) => (mulM i j)) (fun _ _ => op_mulW) rp_mul (XV.toM (𝓜 := pureMd) (x_v (i := 8) (.s (.s (.s (.s (.s (.s (.s (.s .z)))))))))) (XV.toM (𝓜 := pureMd) (x_v (i := 9) (.s (.s (.s (.s (.s (.s (.s (.s (.s .z))))))))))))))) (xm_bin (f := fun (i : Int) (j : Int) => (mulM i j)) (fun _ _ => op_mulW) rp_mul (XV.toM (𝓜 := pureMd) (x_v (i := 5) (.s (.s (.s (.s (.s .z))))))) (xm_bin (f := fun (i : Int) (j : Int) => (some (i - j))) (fun _ _ => op_sub) rv_I0.p (xm_bin (f := fun (i : Int) (j : Int) => (mulM i j)) (fun _ _ => op_mulW) rp_mul (XV.toM (𝓜 := pureMd) (x_v (i := 6) (.s (.s (.s (.s (.s (.s .z)))))))) (XV.toM (𝓜 := pureMd) (x_v (i := 10) (.s (.s (.s (.s (.s (.s (.s (.s (.s (.s .z))))))))))))) (xm_bin (f := fun (i : Int) (j : Int) => (mulM i j)) (fun _ _ => op_mulW) rp_mul (XV.toM (𝓜 := pureMd) (x_v (i := 7) (.s (.s (.s (.s (.s (.s (.s .z))))))))) (XV.toM (𝓜 := pureMd) (x_v (i := 9) (.s (.s (.s (.s (.s (.s (.s (.s (.s .z)))))))))))))))))))))))
def is_spanned_m (x : (List (Int × Int × Int)) × (Int × Int × Int)) : pureMd.M Bool :=
  retM pureMd (S := Unit) (L := Unit) ((bndF (S := Unit) pureMd (ifB (decide ((x.1.length : Int) = (0 : Int))) (pureMd.ret (.rt false)) (pureMd.ret (.nx ()))) fun s1 => (bndF (S := Unit) pureMd (ifB (decide ((x.1.length : Int) = (1 : Int))) (pureMd.bnd (pureMd.bnd (pureMd.bnd (pureMd.ret x.1) fun a3 => pureMd.bnd (pureMd.ret (0 : Int)) fun b4 => pureMd.lft (atI a3 b4)) fun a5 => pureMd.bnd (pureMd.ret x.2) fun b6 => pureMd.lft (eqD (dd0 a5) (dd0 b6))) fun r7 => pureMd.ret (.rt r7)) (pureMd.ret (.nx ()))) fun s2 => (pureMd.bnd (orM pureMd (pureMd.ret (decide ((2 : Int) < (x.1.length : Int)))) (pureMd.bnd (pureMd.bnd (pureMd.bnd (pureMd.bnd (pureMd.ret x.1) fun a8 => pureMd.bnd (pureMd.ret (0 : Int)) fun b9 => pureMd.lft (atI a8 b9)) fun x14 => pureMd.bnd (pureMd.bnd (pureMd.bnd (pureMd.ret x.1) fun a10 => pureMd.bnd (pureMd.ret (1 : Int)) fun b11 => pureMd.lft (atI a10 b11)) fun x12 => pureMd.bnd (pureMd.ret x.2) fun y13 => pureMd.ret (x12, y13)) fun y15 => pureMd.ret (x14, y15)) fun q16 => pureMd.lft (determinant_m q16)) fun a17 => pureMd.bnd (pureMd.ret (0 : Int)) fun b18 => pureMd.lft (some (decide (a17 = b18))))) fun r19 => pureMd.ret (.rt r19)))) : pureMd.M (Fl Unit Unit Bool))
abbrev s_is_spanned : Stmt := topS 5
theorem sc_is_spanned : FnScope ["triples", "triple"] ["triples", "triple"] (defScope s_is_spanned) := ⟨rfl, rfl, rfl, by decide +kernel, rfl, by decide +kernel, by decide +kernel⟩
theorem ok_is_spanned {g : Glb} (D : Def g "is_spanned" s_is_spanned ["triples", "triple"]) (F_determinant : Fn g "determinant" ["one", "other", "last"] 1 (spP (sCons (rT g.K (sCons rI (sCons rI (sOne rI)))) (sCons (rT g.K (sCons rI (sCons rI (sOne rI)))) (sOne (rT g.K (sCons rI (sCons rI (sOne rI))))))) rI determinant_m)) (b_len : g.mg "len" = none) : Fn g "is_spanned" ["triples", "triple"] 2 (spP (sCons (rL (rT g.K (sCons rI (sCons rI (sOne rI))))) (sOne (rT g.K (sCons rI (sCons rI (sOne rI)))))) rB is_spanned_m) :=
  fn_pure D sc_is_spanned (fun H vs x h => by obtain ⟨v0, w0, e0, h0, h⟩ := h; subst e0; obtain ⟨v1, e1, h1⟩ := h; subst e1; rfl) (Γ := fun x => [.val (rL (rT g.K (sCons rI (sCons rI (sOne rI))))) x.1, .val (rT g.K (sCons rI (sCons rI (sOne rI)))) x.2]) (Γn := fun (_ : Unit) => [.un, .un]) (Γl := fun (_ : Unit) => []) (fun B G H vs x h => by obtain ⟨v0, w0, e0, h0, h⟩ := h; subst e0; obtain ⟨v1, e1, h1⟩ := h; subst e1; exact ⟨⟨v0, rfl, h0⟩, ⟨v1, rfl, h1⟩, trivial⟩) (by intro x i s h; exact noown_of (by rfl) h) (fun x => (xs_if (Γm := fun (s1 : Unit) => [.val (rL (rT g.K (sCons rI (sCons rI (sOne rI))))) x.1, .val (rT g.K (sCons rI (sCons rI (sOne rI)))) x.2]) (t_cmp (f := fun (i : Int) (j : Int) => (decide (i = j))) (fun _ _ => op_eq) rv_eqI (x_cB (f := fun (i : (List (Int × Int × Int))) => (i.length : Int)) lenB rc_lenL b_len bt_len (a_one (x_v (i := 0) (.z)))) x_int (nomark _)) (xs_ret x_bl) (xs_nil (.eq (.eq (.nil)))) (fun s1 => (xs_if (Γm := fun (s2 : Unit) => [.val (rL (rT g.K (sCons rI (sCons rI (sOne rI))))) x.1, .val (rT g.K (sCons rI (sCons rI (sOne rI)))) x.2]) (t_cmp (f := fun (i : Int) (j : Int) => (decide (i = j))) (fun _ _ => op_eq) rv_eqI (x_cB (f := fun (i : (List (Int × Int × Int))) => (i.length : Int)) lenB rc_lenL b_len bt_len (a_one (x_v (i := 0) (.z)))) x_int (nomark _)) (xs_retM (xm_cmp (f := fun (i : (Int × Int × Int)) (j : (Int × Int × Int)) => (eqD (dd0 i) (dd0 j))) opEqD (rp_eqD dp0 dp0) (xm_ix (f := fun (i : (List (Int × Int × Int))) (j : Int) => (atI i j)) ixL rp_ixL (XV.toM (𝓜 := pureMd) (x_v (i := 0) (.z))) (XV.toM (𝓜 := pureMd) x_int)) (XV.toM (𝓜 := pureMd) (x_v (i := 1) (.s .z))) (nomark _))) (xs_nil (.eq (.eq (.nil)))) (fun s2 => (xs_retM (xm_or (XV.toM (𝓜 := pureMd) (x_cmp (f := fun (i : Int) (j : Int) => (decide (j < i))) (fun _ _ => op_gt) rv_B0 (x_cB (f := fun (i : (List (Int × Int × Int))) => (i.length : Int)) lenB rc_lenL b_len bt_len (a_one (x_v (i := 0) (.z)))) x_int (nomark _))) (xm_one (xm_cmp (f := fun (i : Int) (j : Int) => (some (decide (i = j)))) (fun _ _ => op_eq) rv_eqI.p (xm_c F_determinant (Nat.le_of_ble_eq_true rfl) (am_cons (xm_ix (f := fun (i : (List (Int × Int × Int))) (j : Int) => (atI i j)) ixL rp_ixL (XV.toM (𝓜 := pureMd) (x_v (i := 0) (.z))) (XV.toM (𝓜 := pureMd) x_int)) (am_cons (xm_ix (f := fun (i : (List (Int × Int × Int))) (j : Int) => (atI i j)) ixL rp_ixL (XV.toM (𝓜 := pureMd) (x_v (i := 0) (.z))) (XV.toM (𝓜 := pureMd) x_int)) (am_one (XV.toM (𝓜 := pureMd) (x_v (i := 1) (.s .z))))))) (XV.toM (𝓜 := pureMd) x_int) (nomark _))))))))))
def basis_of_m (x : (List (Int × Int × Int))) : pureMd.M (List (Int × Int × Int)) :=
  retM pureMd (S := Unit) (L := Unit) ((lt ([] : (List (Int × Int × Int))) fun found1 => (bndF (S := (List (Int × Int × Int))) pureMd (pureMd.bnd (pureMd.ret x) fun l7 => forL pureMd (fun (triple3 : (Int × Int × Int)) (s2 : (List (Int × Int × Int))) => (bndF (S := (List (Int × Int × Int))) pureMd (iteM pureMd (notM pureMd (pureMd.bnd (pureMd.ret (s2, triple3)) fun q4 => pureMd.lft (is_spanned_m q4))) (pureMd.bnd (pureMd.ret triple3) fun a6 => pureMd.bnd (pureMd.lft (okLen s2.length)) fun _ => (pureMd.ret (.nx (s2 ++ [a6])))) (pureMd.ret (.nx s2))) fun s5 => (pureMd.ret (.nx s5)))) l7 found1) fun s2 => (pureMd.ret (.rt s2)))) : pureMd.M (Fl Unit Unit (List (Int × Int × Int))))
abbrev s_basis_of : Stmt := topS 6
theorem sc_basis_of : FnScope ["triples", "found", "triple"] ["triples"] (defScope s_basis_of) := ⟨rfl, rfl, rfl, by decide +kernel, rfl, by decide +kernel, by decide +kernel⟩
theorem ok_basis_of {g : Glb} (D : Def g "basis_of" s_basis_of ["triples"]) (F_is_spanned : Fn g "is_spanned" ["triples", "triple"] 2 (spP (sCons (rL (rT g.K (sCons rI (sCons rI (sOne rI))))) (sOne (rT g.K (sCons rI (sCons rI (sOne rI)))))) rB is_spanned_m)) : Fn g "basis_of" ["triples"] 3 (spP (sOne (rL (rT g.K (sCons rI (sCons rI (sOne rI)))))) (rL (rT g.K (sCons rI (sCons rI (sOne rI))))) basis_of_m) :=
  fn_pure D sc_basis_of (fun H vs x h => by obtain ⟨v0, e0, h0⟩ := h; subst e0; rfl) (Γ := fun x => [.val (rL (rT g.K (sCons rI (sCons rI (sOne rI))))) x, .un, .un]) (Γn := fun (_ : Unit) => [.un, .un, .un]) (Γl := fun (_ : Unit) => []) (fun B G H vs x h => by obtain ⟨v0, e0, h0⟩ := h; subst e0; exact ⟨⟨v0, rfl, h0⟩, trivial, trivial, trivial⟩) (by intro x i s h; exact noown_of (by rfl) h) (fun x => (xs_ow (i := 1) (Γ' := fun found1 => [.val (rL (rT g.K (sCons rI (sCons rI (sOne rI))))) x, .own (rT g.K (sCons rI (sCons rI (sOne rI)))) found1, .un]) (xf_lst a_nilL (by decide)) (fun found1 => (.s .z)) (fun found1 => (xs_for (Γs := fun (s2 : (List (Int × Int × Int))) => [.val (rL (rT g.K (sCons rI (sCons rI (sOne rI))))) x, .own (rT g.K (sCons rI (sCons rI (sOne rI)))) s2, .un]) (Γb := fun triple3 s2 => [.val (rL (rT g.K (sCons rI (sCons rI (sOne rI))))) x, .own (rT g.K (sCons rI (sCons rI (sOne rI)))) s2, .val (rT g.K (sCons rI (sCons rI (sOne rI)))) triple3]) (s0 := found1) (ws := [2]) (i_list (XV.toM (𝓜 := pureMd) (x_v (i := 0) (.z)))) (fun triple3 s2 => (g_n (i := 2) (.s (.s .z)))) (fun triple3 s2 => (xs_ifM (Γm := fun (s5 : (List (Int × Int × Int))) => [.val (rL (rT g.K (sCons rI (sCons rI (sOne rI))))) x, .own (rT g.K (sCons rI (sCons rI (sOne rI)))) s5, .val (rT g.K (sCons rI (sCons rI (sOne rI)))) triple3]) (XT.borrow (.s .z) (.s .z) (tm_not (tm_val (xm_c F_is_spanned (Nat.le_of_ble_eq_true rfl) (XAV.toM (𝓜 := pureMd) (a_cons (x_v (i := 1) (.s .z)) (a_one (x_v (i := 2) (.s (.s .z)))))))))) (xs_ap (i := 1) (Γ' := fun a6 => [.val (rL (rT g.K (sCons rI (sCons rI (sOne rI))))) x, .own (rT g.K (sCons rI (sCons rI (sOne rI)))) (s2 ++ [a6]), .val (rT g.K (sCons rI (sCons rI (sOne rI)))) triple3]) (.s .z) (XV.toM (𝓜 := pureMd) (x_v (i := 2) (.s (.s .z)))) (fun a6 => (.s .z)) (fun a6 => (xs_nil (.eq (.eq (.eq (.nil))))))) (xs_nil (.eq (.eq (.eq (.nil))))) (fun s5 => (xs_nil (.eq (.eq (.un (.nil)))))))) (.eq (.eq (.un (.nil)))) (fun s2 => (xs_fix (.s .z) (.s .z) (xs_ret (x_v (i := 1) (.s .z)))))))))
def gcd_m (x : Int × Int) : pureMd.M Int :=
  retM pureMd (S := Unit) (L := Unit) ((pureMd.bnd (pureMd.ret ((if x.1 < 0 then -x.1 else x.1), (if x.2 < 0 then -x.2 else x.2))) (unc fun a2 b3 => (bndF (S := Int × Int) pureMd (whileN pureMd (fun (s4 : Int × Int) => (pureMd.ret (decide ((0 : Int) < s4.2)))) (fun (s4 : Int × Int) => (pureMd.bnd (pureMd.bnd (pureMd.ret s4.2) fun x7 => pureMd.bnd (pureMd.bnd (pureMd.ret s4.1) fun a5 => pureMd.bnd (pureMd.ret s4.2) fun b6 => pureMd.lft (modM a5 b6)) fun y8 => pureMd.ret (x7, y8)) (unc fun a10 b11 => (pureMd.ret (.nx (a10, b11)))))) bigN (a2, b3)) fun s4 => (pureMd.ret (.rt s4.1))))) : pureMd.M (Fl Unit Unit Int))
abbrev s_gcd : Stmt := topS 7
theorem sc_gcd : FnScope ["one", "other", "a", "b"] ["one", "other"] (defScope s_gcd) := ⟨rfl, rfl, rfl, by decide +kernel, rfl, by decide +kernel, by decide +kernel⟩
theorem ok_gcd {g : Glb} (D : Def g "gcd" s_gcd ["one", "other"])  (b_abs : g.mg "abs" = none) : Fn g "gcd" ["one", "other"] 1 (spP (sCons rI (sOne rI)) rI gcd_m) :=
  fn_pure D sc_gcd (fun H vs x h => by obtain ⟨v0, w0, e0, h0, h⟩ := h; subst e0; obtain ⟨v1, e1, h1⟩ := h; subst e1; rfl) (Γ := fun x => [.val rI x.1, .val rI x.2, .un, .un]) (Γn := fun (_ : Unit) => [.un, .un, .un, .un]) (Γl := fun (_ : Unit) => []) (fun B G H vs x h => by obtain ⟨v0, w0, e0, h0, h⟩ := h; subst e0; obtain ⟨v1, e1, h1⟩ := h; subst e1; exact ⟨⟨v0, rfl, h0⟩, ⟨v1, rfl, h1⟩, trivial, trivial, trivial⟩) (by intro x i s h; exact noown_of (by rfl) h) (fun x => (xs_pr (i := 2) (j := 3) (Γ1 := fun a2 => [.val rI x.1, .val rI x.2, .val rI a2, .un]) (Γ' := fun a2 b3 => [.val rI x.1, .val rI x.2, .val rI a2, .val rI b3]) (XAV.toM (𝓜 := pureMd) (a_cons (x_cB (f := fun (i : Int) => (if i < 0 then -i else i)) absB rc_abs b_abs bt_abs (a_one (x_v (i := 0) (.z)))) (a_one (x_cB (f := fun (i : Int) => (if i < 0 then -i else i)) absB rc_abs b_abs bt_abs (a_one (x_v (i := 1) (.s .z))))))) (fun a2 => (.s (.s .z))) (fun a2 b3 => (.s (.s (.s .z)))) (fun a2 b3 => (xs_while (Γs := fun (s4 : Int × Int) => [.val rI x.1, .val rI x.2, .val rI s4.1, .val rI s4.2]) (s0 := (a2, b3)) bigN (fun s4 => (XTV.toM (𝓜 := pureMd) (t_cmp (f := fun (i : Int) (j : Int) => (decide (j < i))) (fun _ _ => op_gt) rv_B0 (x_v (i := 3) (.s (.s (.s .z)))) x_int (nomark _)))) (fun s4 => (xs_pr (i := 2) (j := 3) (Γ1 := fun a10 => [.val rI x.1, .val rI x.2, .val rI a10, .val rI s4.2]) (Γ' := fun a10 b11 => [.val rI x.1, .val rI x.2, .val rI a10, .val rI b11]) (am_cons (XV.toM (𝓜 := pureMd) (x_v (i := 3) (.s (.s (.s .z))))) (am_one (xm_bin (f := fun (i : Int) (j : Int) => (modM i j)) (fun _ _ => op_mod) rp_mod (XV.toM (𝓜 := pureMd) (x_v (i := 2) (.s (.s .z)))) (XV.toM (𝓜 := pureMd) (x_v (i := 3) (.s (.s (.s .z)))))))) (fun a10 => (.s (.s .z))) (fun a10 b11 => (.s (.s (.s .z)))) (fun a10 b11 => (xs_nil (.eq (.eq (.eq (.eq (.nil))))))))) (.eq (.eq (.eq (.eq (.nil))))) (fun s4 => (xs_ret (x_v (i := 2) (.s (.s .z)))))))))
def lowest_m (x : Int × Int) : pureMd.M (Int × Int) :=
  retM pureMd (S := Unit) (L := Unit) ((pureMd.bnd (iteM pureMd (pureMd.ret (decide ((0 : Int) < x.2))) (pureMd.bnd (pureMd.ret (x.1, x.2)) fun q1 => pureMd.lft (gcd_m q1)) (pureMd.bnd (pureMd.bnd (pureMd.ret (x.1, x.2)) fun q2 => pureMd.lft (gcd_m q2)) fun a3 => pureMd.ret (-a3))) fun shared4 => (pureMd.bnd (pureMd.bnd (pureMd.bnd (pureMd.ret x.1) fun a5 => pureMd.bnd (pureMd.ret shared4) fun b6 => pureMd.lft (divNW a5 b6)) fun x9 => pureMd.bnd (pureMd.bnd (pureMd.ret x.2) fun a7 => pureMd.bnd (pureMd.ret shared4) fun b8 => pureMd.lft (divNW a7 b8)) fun y10 => pureMd.ret (x9, y10)) fun r11 => pureMd.ret (.rt r11))) : pureMd.M (Fl Unit Unit (Int × Int)))
abbrev s_lowest : Stmt := topS 8
theorem sc_lowest : FnScope ["top", "low", "shared"] ["top", "low"] (defScope s_lowest) := ⟨rfl, rfl, rfl, by decide +kernel, rfl, by decide +kernel, by decide +kernel⟩
theorem ok_lowest {g : Glb} (D : Def g "lowest" s_lowest ["top", "low"]) (F_gcd : Fn g "gcd" ["one", "other"] 1 (spP (sCons rI (sOne rI)) rI gcd_m)) : Fn g "lowest" ["top", "low"] 2 (spP (sCons rI (sOne rI)) (rT g.K (sCons rI (sOne rI))) lowest_m) :=
  fn_pure D sc_lowest (fun H vs x h => by obtain ⟨v0, w0, e0, h0, h⟩ := h; subst e0; obtain ⟨v1, e1, h1⟩ := h; subst e1; rfl) (Γ := fun x => [.val rI x.1, .val rI x.2, .un]) (Γn := fun (_ : Unit) => [.un, .un, .un]) (Γl := fun (_ : Unit) => []) (fun B G H vs x h => by obtain ⟨v0, w0, e0, h0, h⟩ := h; subst e0; obtain ⟨v1, e1, h1⟩ := h; subst e1; exact ⟨⟨v0, rfl, h0⟩, ⟨v1, rfl, h1⟩, trivial, trivial⟩) (by intro x i s h; exact noown_of (by rfl) h) (fun x => (xs_stM (i := 2) (Γ' := fun shared4 => [.val rI x.1, .val rI x.2, .val rI shared4]) (xm_if (XTV.toM (𝓜 := pureMd) (t_cmp (f := fun (i : Int) (j : Int) => (decide (j < i))) (fun _ _ => op_gt) rv_B0 (x_v (i := 1) (.s .z)) x_int (nomark _))) (xm_c F_gcd (Nat.le_of_ble_eq_true rfl) (XAV.toM (𝓜 := pureMd) (a_cons (x_v (i := 0) (.z)) (a_one (x_v (i := 1) (.s .z)))))) (xm_un (fun _ _ => un_neg) ru_neg (xm_c F_gcd (Nat.le_of_ble_eq_true rfl) (XAV.toM (𝓜 := pureMd) (a_cons (x_v (i := 0) (.z)) (a_one (x_v (i := 1) (.s .z)))))))) (fun shared4 => (.s (.s .z))) (fun shared4 => (xs_retM (xm_tup (am_cons (xm_bin (f := fun (i : Int) (j : Int) => (divNW i j)) (fun _ _ => op_fdivNW) rp_divNW (XV.toM (𝓜 := pureMd) (x_v (i := 0) (.z))) (XV.toM (𝓜 := pureMd) (x_v (i := 2) (.s (.s .z))))) (am_one (xm_bin (f := fun (i : Int) (j : Int) => (divNW i j)) (fun _ _ => op_fdivNW) rp_divNW (XV.toM (𝓜 := pureMd) (x_v (i := 1) (.s .z))) (XV.toM (𝓜 := pureMd) (x_v (i := 2) (.s (.s .z))))))) (z_of (zk_cons (zk_one (Nat.le_refl 1)))))))))
def shares_m (x : (Int × Int × Int) × (Int × Int × Int) × (Int × Int × Int)) : pureMd.M (List (Int × Int)) :=
  retM pureMd (S := Unit) (L := Unit) ((lt (ifB (!decide (x.1.2.1 = x.2.1.2.1)) (1 : Int) (2 : Int)) fun at1 => (pureMd.bnd (pureMd.bnd (pureMd.bnd (pureMd.ret x.2.1) fun a2 => pureMd.bnd (pureMd.ret at1) fun b3 => pureMd.lft (atT3 a2 b3)) fun a6 => pureMd.bnd (pureMd.bnd (pureMd.ret x.1) fun a4 => pureMd.bnd (pureMd.ret at1) fun b5 => pureMd.lft (atT3 a4 b5)) fun b7 => pureMd.lft (some (a6 - b7))) fun low8 => (pureMd.bnd (lenM pureMd (pureMd.bnd (pureMd.bnd (pureMd.bnd (pureMd.bnd (pureMd.bnd (pureMd.ret x.2.1) fun a22 => pureMd.bnd (pureMd.ret at1) fun b23 => pureMd.lft (atT3 a22 b23)) fun a26 => pureMd.bnd (pureMd.bnd (pureMd.ret x.2.2) fun a24 => pureMd.bnd (pureMd.ret at1) fun b25 => pureMd.lft (atT3 a24 b25)) fun b27 => pureMd.lft (some (a26 - b27))) fun x28 => pureMd.bnd (pureMd.ret low8) fun y29 => pureMd.ret (x28, y29)) fun q30 => pureMd.lft (lowest_m q30)) fun x20 => pureMd.bnd (pureMd.bnd (pureMd.bnd (pureMd.bnd (pureMd.bnd (pureMd.bnd (pureMd.ret x.2.2) fun a11 => pureMd.bnd (pureMd.ret at1) fun b12 => pureMd.lft (atT3 a11 b12)) fun a15 => pureMd.bnd (pureMd.bnd (pureMd.ret x.1) fun a13 => pureMd.bnd (pureMd.ret at1) fun b14 => pureMd.lft (atT3 a13 b14)) fun b16 => pureMd.lft (some (a15 - b16))) fun x17 => pureMd.bnd (pureMd.ret low8) fun y18 => pureMd.ret (x17, y18)) fun q19 => pureMd.lft (lowest_m q19)) fun x9 => pureMd.bnd (pureMd.ret ([] : List (Int × Int))) fun l10 => pureMd.ret (x9 :: l10)) fun l21 => pureMd.ret (x20 :: l21))) fun r31 => pureMd.ret (.rt r31)))) : pureMd.M (Fl Unit Unit (List (Int × Int))))
abbrev s_shares : Stmt := topS 9
theorem sc_shares : FnScope ["one", "other", "triple", "at", "low"] ["one", "other", "triple"] (defScope s_shares) := ⟨rfl, rfl, rfl, by decide +kernel, rfl, by decide +kernel, by decide +kernel⟩
theorem ok_shares {g : Glb} (D : Def g "shares" s_shares ["one", "other", "triple"]) (F_lowest : Fn g "lowest" ["top", "low"] 2 (spP (sCons rI (sOne rI)) (rT g.K (sCons rI (sOne rI))) lowest_m)) : Fn g "shares" ["one", "other", "triple"] 3 (spP (sCons (rT g.K (sCons rI (sCons rI (sOne rI)))) (sCons (rT g.K (sCons rI (sCons rI (sOne rI)))) (sOne (rT g.K (sCons rI (sCons rI (sOne rI))))))) (rT g.K (sAll (rT g.K (sCons rI (sOne rI))))) shares_m) :=
  fn_pure D sc_shares (fun H vs x h => by obtain ⟨v0, w0, e0, h0, h⟩ := h; subst e0; obtain ⟨v1, w1, e1, h1, h⟩ := h; subst e1; obtain ⟨v2, e2, h2⟩ := h; subst e2; rfl) (Γ := fun x => [.val (rT g.K (sCons rI (sCons rI (sOne rI)))) x.1, .val (rT g.K (sCons rI (sCons rI (sOne rI)))) x.2.1, .val (rT g.K (sCons rI (sCons rI (sOne rI)))) x.2.2, .un, .un]) (Γn := fun (_ : Unit) => [.un, .un, .un, .un, .un]) (Γl := fun (_ : Unit) => []) (fun B G H vs x h => by obtain ⟨v0, w0, e0, h0, h⟩ := h; subst e0; obtain ⟨v1, w1, e1, h1, h⟩ := h; subst e1; obtain ⟨v2, e2, h2⟩ := h; subst e2; exact ⟨⟨v0, rfl, h0⟩, ⟨v1, rfl, h1⟩, ⟨v2, rfl, h2⟩, trivial, trivial, trivial⟩) (by intro x i s h; exact noown_of (by rfl) h) (fun x => (xs_st (i := 3) (Γ' := fun at1 => [.val (rT g.K (sCons rI (sCons rI (sOne rI)))) x.1, .val (rT g.K (sCons rI (sCons rI (sOne rI)))) x.2.1, .val (rT g.K (sCons rI (sCons rI (sOne rI)))) x.2.2, .val rI at1, .un]) (x_if (t_cmp (f := fun (i : Int) (j : Int) => (!decide (i = j))) (fun _ _ => op_ne) rv_neI (x_ix (f := fun (i : (Int × Int × Int)) (j : Int) => i.2.1) ixT (rv_item (j := 1) (.s .z)) (x_v (i := 0) (.z)) x_intk) (x_ix (f := fun (i : (Int × Int × Int)) (j : Int) => i.2.1) ixT (rv_item (j := 1) (.s .z)) (x_v (i := 1) (.s .z)) x_intk) (nomark _)) x_int x_int) (fun at1 => (.s (.s (.s .z)))) (fun at1 => (xs_stM (i := 4) (Γ' := fun low8 => [.val (rT g.K (sCons rI (sCons rI (sOne rI)))) x.1, .val (rT g.K (sCons rI (sCons rI (sOne rI)))) x.2.1, .val (rT g.K (sCons rI (sCons rI (sOne rI)))) x.2.2, .val rI at1, .val rI low8]) (xm_bin (f := fun (i : Int) (j : Int) => (some (i - j))) (fun _ _ => op_sub) rv_I0.p (xm_ix (f := fun (i : (Int × Int × Int)) (j : Int) => (atT3 i j)) ixT rp_ixT3 (XV.toM (𝓜 := pureMd) (x_v (i := 1) (.s .z))) (XV.toM (𝓜 := pureMd) (x_v (i := 3) (.s (.s (.s .z)))))) (xm_ix (f := fun (i : (Int × Int × Int)) (j : Int) => (atT3 i j)) ixT rp_ixT3 (XV.toM (𝓜 := pureMd) (x_v (i := 0) (.z))) (XV.toM (𝓜 := pureMd) (x_v (i := 3) (.s (.s (.s .z))))))) (fun low8 => (.s (.s (.s (.s .z))))) (fun low8 => (xs_retM (xm_tupL (am_consL (xm_c F_lowest (Nat.le_of_ble_eq_true rfl) (am_cons (xm_bin (f := fun (i : Int) (j : Int) => (some (i - j))) (fun _ _ => op_sub) rv_I0.p (xm_ix (f := fun (i : (Int × Int × Int)) (j : Int) => (atT3 i j)) ixT rp_ixT3 (XV.toM (𝓜 := pureMd) (x_v (i := 1) (.s .z))) (XV.toM (𝓜 := pureMd) (x_v (i := 3) (.s (.s (.s .z)))))) (xm_ix (f := fun (i : (Int × Int × Int)) (j : Int) => (atT3 i j)) ixT rp_ixT3 (XV.toM (𝓜 := pureMd) (x_v (i := 2) (.s (.s .z)))) (XV.toM (𝓜 := pureMd) (x_v (i := 3) (.s (.s (.s .z))))))) (am_one (XV.toM (𝓜 := pureMd) (x_v (i := 4) (.s (.s (.s (.s .z))))))))) (am_consL (xm_c F_lowest (Nat.le_of_ble_eq_true rfl) (am_cons (xm_bin (f := fun (i : Int) (j : Int) => (some (i - j))) (fun _ _ => op_sub) rv_I0.p (xm_ix (f := fun (i : (Int × Int × Int)) (j : Int) => (atT3 i j)) ixT rp_ixT3 (XV.toM (𝓜 := pureMd) (x_v (i := 2) (.s (.s .z)))) (XV.toM (𝓜 := pureMd) (x_v (i := 3) (.s (.s (.s .z)))))) (xm_ix (f := fun (i : (Int × Int × Int)) (j : Int) => (atT3 i j)) ixT rp_ixT3 (XV.toM (𝓜 := pureMd) (x_v (i := 0) (.z))) (XV.toM (𝓜 := pureMd) (x_v (i := 3) (.s (.s (.s .z))))))) (am_one (XV.toM (𝓜 := pureMd) (x_v (i := 4) (.s (.s (.s (.s .z))))))))) (XAV.toM (𝓜 := pureMd) a_nilL))))))))))
def factors_m (x : (List Nat) × (List (List Nat))) : pureMd.M (Option (List (Int × Int))) :=
  retM pureMd (S := Unit) (L := Unit) ((pureMd.bnd (pureMd.bnd (pureMd.bnd (pureMd.ret x.1) fun q1 => pureMd.lft (triple_of_m q1)) fun x5 => pureMd.bnd (pureMd.bnd (pureMd.ret x.2) fun l4 => lcM pureMd (fun (_ : (List Nat)) => pureMd.ret true) (fun (other2 : (List Nat)) => (pureMd.bnd (pureMd.ret other2) fun q3 => pureMd.lft (triple_of_m q3))) l4) fun y6 => pureMd.ret (x5, y6)) (unc fun triple8 triple9 => (bndF (S := Unit) pureMd (iteM pureMd (orM pureMd (pureMd.bnd (pureMd.bnd (pureMd.bnd (pureMd.ret triple9) fun q10 => pureMd.lft (basis_of_m q10)) fun u11 => pureMd.lft (some (u11.length : Int))) fun a12 => pureMd.bnd (pureMd.ret (triple9.length : Int)) fun b13 => pureMd.lft (some (decide (a12 < b13)))) (notM pureMd (pureMd.bnd (pureMd.ret (triple9, triple8)) fun q14 => pureMd.lft (is_spanned_m q14)))) (pureMd.ret (.rt none)) (pureMd.ret (.nx ()))) fun s15 => (bndF (S := Unit) pureMd (ifB (decide ((triple9.length : Int) = (1 : Int))) (pureMd.bnd (pureMd.bnd (lenM pureMd (pureMd.bnd (pureMd.ret ((1 : Int), (1 : Int))) fun x17 => pureMd.bnd (pureMd.ret ([] : List (Int × Int))) fun l18 => pureMd.ret (x17 :: l18))) fun o19 => pureMd.ret (some o19)) fun r20 => pureMd.ret (.rt r20)) (pureMd.ret (.nx ()))) fun s16 => (bndF (S := Unit) pureMd (ifB (decide ((triple9.length : Int) = (2 : Int))) (pureMd.bnd (pureMd.bnd (pureMd.bnd (pureMd.bnd (pureMd.bnd (pureMd.ret triple9) fun a22 => pureMd.bnd (pureMd.ret (0 : Int)) fun b23 => pureMd.lft (atI a22 b23)) fun x28 => pureMd.bnd (pureMd.bnd (pureMd.bnd (pureMd.ret triple9) fun a24 => pureMd.bnd (pureMd.ret (1 : Int)) fun b25 => pureMd.lft (atI a24 b25)) fun x26 => pureMd.bnd (pureMd.ret triple8) fun y27 => pureMd.ret (x26, y27)) fun y29 => pureMd.ret (x28, y29)) fun q30 => pureMd.lft (shares_m q30)) fun o31 => pureMd.ret (some o31)) fun r32 => pureMd.ret (.rt r32)) (pureMd.ret (.nx ()))) fun s21 => (pureMd.bnd (pureMd.ret triple9) fun u52 => pureMd.bnd (pureMd.lft (toT3 u52)) fun t33 => (pureMd.bnd (pureMd.bnd (pureMd.ret (t33.1, t33.2.1, t33.2.2)) fun q34 => pureMd.lft (determinant_m q34)) fun low35 => (pureMd.bnd (lenM pureMd (pureMd.bnd (pureMd.bnd (pureMd.ret (triple8, t33.2.1, t33.2.2)) fun q44 => pureMd.lft (determinant_m q44)) fun x42 => pureMd.bnd (pureMd.bnd (pureMd.bnd (pureMd.ret (t33.1, triple8, t33.2.2)) fun q41 => pureMd.lft (determinant_m q41)) fun x39 => pureMd.bnd (pureMd.bnd (pureMd.bnd (pureMd.ret (t33.1, t33.2.1, triple8)) fun q38 => pureMd.lft (determinant_m q38)) fun x36 => pureMd.bnd (pureMd.ret ([] : List Int)) fun l37 => pureMd.ret (x36 :: l37)) fun l40 => pureMd.ret (x39 :: l40)) fun l43 => pureMd.ret (x42 :: l43))) fun tops45 => (pureMd.bnd (pureMd.bnd (pureMd.bnd (pureMd.bnd (pureMd.ret tops45) fun l48 => lcM pureMd (fun (_ : Int) => pureMd.ret true) (fun (top46 : Int) => (pureMd.bnd (pureMd.ret (top46, low35)) fun q47 => pureMd.lft (lowest_m q47))) l48) fun u49 => pureMd.lft (some u49)) fun o50 => pureMd.ret (some o50)) fun r51 => pureMd.ret (.rt r51)))))))))) : pureMd.M (Fl Unit Unit (Option (List (Int × Int)))))
abbrev s_factors : Stmt := topS 10
theorem sc_factors : FnScope ["text", "texts", "triple", "triples", "one", "other", "last", "low", "tops", "top"] ["text", "texts"] (defScope s_factors) := ⟨rfl, rfl, rfl, by decide +kernel, rfl, by decide +kernel, by decide +kernel⟩
theorem ok_factors {g : Glb} (D : Def g "factors" s_factors ["text", "texts"]) (F_triple_of : Fn g "triple_of" ["text"] 2 (spP (sOne rS) (rT g.K (sCons rI (sCons rI (sOne rI)))) triple_of_m)) (F_basis_of : Fn g "basis_of" ["triples"] 3 (spP (sOne (rL (rT g.K (sCons rI (sCons rI (sOne rI)))))) (rL (rT g.K (sCons rI (sCons rI (sOne rI))))) basis_of_m)) (F_is_spanned : Fn g "is_spanned" ["triples", "triple"] 2 (spP (sCons (rL (rT g.K (sCons rI (sCons rI (sOne rI))))) (sOne (rT g.K (sCons rI (sCons rI (sOne rI)))))) rB is_spanned_m)) (F_shares : Fn g "shares" ["one", "other", "triple"] 3 (spP (sCons (rT g.K (sCons rI (sCons rI (sOne rI)))) (sCons (rT g.K (sCons rI (sCons rI (sOne rI)))) (sOne (rT g.K (sCons rI (sCons rI (sOne rI))))))) (rT g.K (sAll (rT g.K (sCons rI (sOne rI))))) shares_m)) (F_determinant : Fn g "determinant" ["one", "other", "last"] 1 (spP (sCons (rT g.K (sCons rI (sCons rI (sOne rI)))) (sCons (rT g.K (sCons rI (sCons rI (sOne rI)))) (sOne (rT g.K (sCons rI (sCons rI (sOne rI))))))) rI determinant_m)) (F_lowest : Fn g "lowest" ["top", "low"] 2 (spP (sCons rI (sOne rI)) (rT g.K (sCons rI (sOne rI))) lowest_m)) (b_len : g.mg "len" = none) (b_tuple : g.mg "tuple" = none) : Fn g "factors" ["text", "texts"] 4 (spP (sCons rS (sOne (rT g.K (sAll rS)))) (rO (rT g.K (sAll (rT g.K (sCons rI (sOne rI)))))) factors_m) :=
  fn_pure D sc_factors (fun H vs x h => by obtain ⟨v0, w0, e0, h0, h⟩ := h; subst e0; obtain ⟨v1, e1, h1⟩ := h; subst e1; rfl) (Γ := fun x => [.val rS x.1, .val (rT g.K (sAll rS)) x.2, .un, .un, .un, .un, .un, .un, .un, .un]) (Γn := fun (_ : Unit) => [.un, .un, .un, .un, .un, .un, .un, .un, .un, .un]) (Γl := fun (_ : Unit) => []) (fun B G H vs x h => by obtain ⟨v0, w0, e0, h0, h⟩ := h; subst e0; obtain ⟨v1, e1, h1⟩ := h; subst e1; exact ⟨⟨v0, rfl, h0⟩, ⟨v1, rfl, h1⟩, trivial, trivial, trivial, trivial, trivial, trivial, trivial, trivial, trivial⟩) (by intro x i s h; exact noown_of (by rfl) h) (fun x => (xs_pr (i := 2) (j := 3) (Γ1 := fun triple8 => [.val rS x.1, .val (rT g.K (sAll rS)) x.2, .val (rT g.K (sCons rI (sCons rI (sOne rI)))) triple8, .un, .un, .un, .un, .un, .un, .un]) (Γ' := fun triple8 triple9 => [.val rS x.1, .val (rT g.K (sAll rS)) x.2, .val (rT g.K (sCons rI (sCons rI (sOne rI)))) triple8, .val (rL (rT g.K (sCons rI (sCons rI (sOne rI))))) triple9, .un, .un, .un, .un, .un, .un]) (am_cons (xm_c F_triple_of (Nat.le_of_ble_eq_true rfl) (XAV.toM (𝓜 := pureMd) (a_one (x_v (i := 0) (.z))))) (am_one (XF.v (xf_c (own := [("other", 5)]) (ws := [5]) (Γ0 := [.val rS x.1, .val (rT g.K (sAll rS)) x.2, .un, .un, .un, .un, .un, .un, .un, .un]) (Γb := fun other2 => [.val rS x.1, .val (rT g.K (sAll rS)) x.2, .un, .un, .un, .val rS other2, .un, .un, .un, .un]) (i_tup (XV.toM (𝓜 := pureMd) (x_v (i := 1) (.s .z)))) (.eq (.eq (.un (.un (.un (.un (.un (.un (.un (.un (.nil))))))))))) (uns_cons (.s (.s (.s (.s (.s .z))))) uns_nil) (fun other2 => (g_b (i := 5) (.s (.s (.s (.s (.s .z))))))) (fun other2 => (xm_c F_triple_of (Nat.le_of_ble_eq_true rfl) (XAV.toM (𝓜 := pureMd) (a_one (x_v (i := 5) (.s (.s (.s (.s (.s .z)))))))))))))) (fun triple8 => (.s (.s .z))) (fun triple8 triple9 => (.s (.s (.s .z)))) (fun triple8 triple9 => (xs_ifM (Γm := fun (s15 : Unit) => [.val rS x.1, .val (rT g.K (sAll rS)) x.2, .val (rT g.K (sCons rI (sCons rI (sOne rI)))) triple8, .val (rL (rT g.K (sCons rI (sCons rI (sOne rI))))) triple9, .un, .un, .un, .un, .un, .un]) (tm_w (wm_or (tm_cmp (f := fun (i : Int) (j : Int) => (some (decide (i < j)))) (fun _ _ => op_lt) rv_B0.p (xm_cB (f := fun (i : (List (Int × Int × Int))) => some ((i.length : Int))) lenB (RC.pp rc_lenL) b_len bt_len (am_one (xm_c F_basis_of (Nat.le_of_ble_eq_true rfl) (XAV.toM (𝓜 := pureMd) (a_one (x_v (i := 3) (.s (.s (.s .z))))))))) (XV.toM (𝓜 := pureMd) (x_cB (f := fun (i : (List (Int × Int × Int))) => (i.length : Int)) lenB rc_lenL b_len bt_len (a_one (x_v (i := 3) (.s (.s (.s .z))))))) (nomark _)) (wm_or1 (tm_not (tm_val (xm_c F_is_spanned (Nat.le_of_ble_eq_true rfl) (XAV.toM (𝓜 := pureMd) (a_cons (x_v (i := 3) (.s (.s (.s .z)))) (a_one (x_v (i := 2) (.s (.s .z)))))))))))) (xs_ret x_noneO) (xs_nil (.eq (.eq (.eq (.eq (.un (.un (.un (.un (.un (.un (.nil)))))))))))) (fun s15 => (xs_if (Γm := fun (s16 : Unit) => [.val rS x.1, .val (rT g.K (sAll rS)) x.2, .val (rT g.K (sCons rI (sCons rI (sOne rI)))) triple8, .val (rL (rT g.K (sCons rI (sCons rI (sOne rI))))) triple9, .un, .un, .un, .un, .un, .un]) (t_cmp (f := fun (i : Int) (j : Int) => (decide (i = j))) (fun _ _ => op_eq) rv_eqI (x_cB (f := fun (i : (List (Int × Int × Int))) => (i.length : Int)) lenB rc_lenL b_len bt_len (a_one (x_v (i := 3) (.s (.s (.s .z)))))) x_int (nomark _)) (xs_retM (XM.mapM (xm_tupL (am_consL (XV.toM (𝓜 := pureMd) (x_tup (a_cons x_int (a_one x_int)) (z_of (zk_cons (zk_one (Nat.le_refl 1)))))) (XAV.toM (𝓜 := pureMd) a_nilL))))) (xs_nil (.eq (.eq (.eq (.eq (.un (.un (.un (.un (.un (.un (.nil)))))))))))) (fun s16 => (xs_if (Γm := fun (s21 : Unit) => [.val rS x.1, .val (rT g.K (sAll rS)) x.2, .val (rT g.K (sCons rI (sCons rI (sOne rI)))) triple8, .val (rL (rT g.K (sCons rI (sCons rI (sOne rI))))) triple9, .un, .un, .un, .un, .un, .un]) (t_cmp (f := fun (i : Int) (j : Int) => (decide (i = j))) (fun _ _ => op_eq) rv_eqI (x_cB (f := fun (i : (List (Int × Int × Int))) => (i.length : Int)) lenB rc_lenL b_len bt_len (a_one (x_v (i := 3) (.s (.s (.s .z)))))) x_int (nomark _)) (xs_retM (XM.mapM (xm_c F_shares (Nat.le_of_ble_eq_true rfl) (am_cons (xm_ix (f := fun (i : (List (Int × Int × Int))) (j : Int) => (atI i j)) ixL rp_ixL (XV.toM (𝓜 := pureMd) (x_v (i := 3) (.s (.s (.s .z))))) (XV.toM (𝓜 := pureMd) x_int)) (am_cons (xm_ix (f := fun (i : (List (Int × Int × Int))) (j : Int) => (atI i j)) ixL rp_ixL (XV.toM (𝓜 := pureMd) (x_v (i := 3) (.s (.s (.s .z))))) (XV.toM (𝓜 := pureMd) x_int)) (am_one (XV.toM (𝓜 := pureMd) (x_v (i := 2) (.s (.s .z)))))))))) (xs_nil (.eq (.eq (.eq (.eq (.un (.un (.un (.un (.un (.un (.nil)))))))))))) (fun s21 => (xs_unl (Γ' := fun (t33 : ((Int × Int × Int) × (Int × Int × Int) × (Int × Int × Int))) => [.val rS x.1, .val (rT g.K (sAll rS)) x.2, .val (rT g.K (sCons rI (sCons rI (sOne rI)))) triple8, .val (rL (rT g.K (sCons rI (sCons rI (sOne rI))))) triple9, .val (rT g.K (sCons rI (sCons rI (sOne rI)))) t33.1, .val (rT g.K (sCons rI (sCons rI (sOne rI)))) t33.2.1, .val (rT g.K (sCons rI (sCons rI (sOne rI)))) t33.2.2, .un, .un, .un]) (conv := toT3) (XV.toM (𝓜 := pureMd) (x_v (i := 3) (.s (.s (.s .z))))) c_toT3 (n_cons (n_cons n_one)) (gs_cons (i := 4) (Γ1 := fun (t33 : ((Int × Int × Int) × (Int × Int × Int) × (Int × Int × Int))) => [.val rS x.1, .val (rT g.K (sAll rS)) x.2, .val (rT g.K (sCons rI (sCons rI (sOne rI)))) triple8, .val (rL (rT g.K (sCons rI (sCons rI (sOne rI))))) triple9, .val (rT g.K (sCons rI (sCons rI (sOne rI)))) t33.1, .un, .un, .un, .un, .un]) (fun t33 => (.s (.s (.s (.s .z))))) (gs_cons (i := 5) (Γ1 := fun (t33 : ((Int × Int × Int) × (Int × Int × Int) × (Int × Int × Int))) => [.val rS x.1, .val (rT g.K (sAll rS)) x.2, .val (rT g.K (sCons rI (sCons rI (sOne rI)))) triple8, .val (rL (rT g.K (sCons rI (sCons rI (sOne rI))))) triple9, .val (rT g.K (sCons rI (sCons rI (sOne rI)))) t33.1, .val (rT g.K (sCons rI (sCons rI (sOne rI)))) t33.2.1, .un, .un, .un, .un]) (fun t33 => (.s (.s (.s (.s (.s .z)))))) (gs_one (i := 6) (fun t33 => (.s (.s (.s (.s (.s (.s .z)))))))))) (fun t33 => (xs_stM (i := 7) (Γ' := fun low35 => [.val rS x.1, .val (rT g.K (sAll rS)) x.2, .val (rT g.K (sCons rI (sCons rI (sOne rI)))) triple8, .val (rL (rT g.K (sCons rI (sCons rI (sOne rI))))) triple9, .val (rT g.K (sCons rI (sCons rI (sOne rI)))) t33.1, .val (rT g.K (sCons rI (sCons rI (sOne rI)))) t33.2.1, .val (rT g.K (sCons rI (sCons rI (sOne rI)))) t33.2.2, .val rI low35, .un, .un]) (xm_c F_determinant (Nat.le_of_ble_eq_true rfl) (XAV.toM (𝓜 := pureMd) (a_cons (x_v (i := 4) (.s (.s (.s (.s .z))))) (a_cons (x_v (i := 5) (.s (.s (.s (.s (.s .z)))))) (a_one (x_v (i := 6) (.s (.s (.s (.s (.s (.s .z)))))))))))) (fun low35 => (.s (.s (.s (.s (.s (.s (.s .z)))))))) (fun low35 => (xs_stM (i := 8) (Γ' := fun tops45 => [.val rS x.1, .val (rT g.K (sAll rS)) x.2, .val (rT g.K (sCons rI (sCons rI (sOne rI)))) triple8, .val (rL (rT g.K (sCons rI (sCons rI (sOne rI))))) triple9, .val (rT g.K (sCons rI (sCons rI (sOne rI)))) t33.1, .val (rT g.K (sCons rI (sCons rI (sOne rI)))) t33.2.1, .val (rT g.K (sCons rI (sCons rI (sOne rI)))) t33.2.2, .val rI low35, .val (rT g.K (sAll rI)) tops45, .un]) (xm_tupL (am_consL (xm_c F_determinant (Nat.le_of_ble_eq_true rfl) (XAV.toM (𝓜 := pureMd) (a_cons (x_v (i := 2) (.s (.s .z))) (a_cons (x_v (i := 5) (.s (.s (.s (.s (.s .z)))))) (a_one (x_v (i := 6) (.s (.s (.s (.s (.s (.s .z)))))))))))) (am_consL (xm_c F_determinant (Nat.le_of_ble_eq_true rfl) (XAV.toM (𝓜 := pureMd) (a_cons (x_v (i := 4) (.s (.s (.s (.s .z))))) (a_cons (x_v (i := 2) (.s (.s .z))) (a_one (x_v (i := 6) (.s (.s (.s (.s (.s (.s .z)))))))))))) (am_consL (xm_c F_determinant (Nat.le_of_ble_eq_true rfl) (XAV.toM (𝓜 := pureMd) (a_cons (x_v (i := 4) (.s (.s (.s (.s .z))))) (a_cons (x_v (i := 5) (.s (.s (.s (.s (.s .z)))))) (a_one (x_v (i := 2) (.s (.s .z)))))))) (XAV.toM (𝓜 := pureMd) a_nilL))))) (fun tops45 => (.s (.s (.s (.s (.s (.s (.s (.s .z))))))))) (fun tops45 => (xs_retM (XM.mapM (xm_cTy (f := fun (i : (List (Int × Int))) => some (i)) tupTy (RC.pp rc_tupL) b_tuple bt_tuple (am_one (XF.v (xf_c (own := [("top", 9)]) (ws := [9]) (Γ0 := [.val rS x.1, .val (rT g.K (sAll rS)) x.2, .val (rT g.K (sCons rI (sCons rI (sOne rI)))) triple8, .val (rL (rT g.K (sCons rI (sCons rI (sOne rI))))) triple9, .val (rT g.K (sCons rI (sCons rI (sOne rI)))) t33.1, .val (rT g.K (sCons rI (sCons rI (sOne rI)))) t33.2.1, .val (rT g.K (sCons rI (sCons rI (sOne rI)))) t33.2.2, .val rI low35, .val (rT g.K (sAll rI)) tops45, .un]) (Γb := fun top46 => [.val rS x.1, .val (rT g.K (sAll rS)) x.2, .val (rT g.K (sCons rI (sCons rI (sOne rI)))) triple8, .val (rL (rT g.K (sCons rI (sCons rI (sOne rI))))) triple9, .val (rT g.K (sCons rI (sCons rI (sOne rI)))) t33.1, .val (rT g.K (sCons rI (sCons rI (sOne rI)))) t33.2.1, .val (rT g.K (sCons rI (sCons rI (sOne rI)))) t33.2.2, .val rI low35, .val (rT g.K (sAll rI)) tops45, .val rI top46]) (i_tup (XV.toM (𝓜 := pureMd) (x_v (i := 8) (.s (.s (.s (.s (.s (.s (.s (.s .z))))))))))) (.eq (.eq (.eq (.eq (.eq (.eq (.eq (.eq (.eq (.un (.nil))))))))))) (uns_cons (.s (.s (.s (.s (.s (.s (.s (.s (.s .z))))))))) uns_nil) (fun top46 => (g_b (i := 9) (.s (.s (.s (.s (.s (.s (.s (.s (.s .z))))))))))) (fun top46 => (xm_c F_lowest (Nat.le_of_ble_eq_true rfl) (XAV.toM (𝓜 := pureMd) (a_cons (x_v (i := 9) (.s (.s (.s (.s (.s (.s (.s (.s (.s .z)))))))))) (a_one (x_v (i := 7) (.s (.s (.s (.s (.s (.s (.s .z))))))))))))))))))))))))))))))))))
def _law_triple_m (x : (List Nat)) : pureMd.M (List Int) :=
  retM pureMd (S := Unit) (L := Unit) ((lt ((1 : Int), (0 : Int)) fun t1 => (bndF (S := Int × Int) pureMd (pureMd.bnd (pureMd.bnd (pureMd.ret x) fun l2 => pureMd.ret (signs l2)) fun l13 => forL pureMd (fun (sign4 : (List Nat)) (s3 : Int × Int) => (pureMd.bnd (pureMd.bnd (pureMd.ret (s3.1 * (128 : Int))) fun x8 => pureMd.bnd (pureMd.bnd (pureMd.ret (s3.2 * (128 : Int))) fun a6 => pureMd.bnd (pureMd.bnd (pureMd.ret sign4) fun u5 => pureMd.lft (ordM u5)) fun b7 => pureMd.lft (some (a6 + b7))) fun y9 => pureMd.ret (x8, y9)) (unc fun power11 number12 => (pureMd.ret (.nx (power11, number12)))))) l13 (t1.1, t1.2)) fun s3 => (pureMd.ret (.rt [(1 : Int), s3.1, s3.2])))) : pureMd.M (Fl Unit Unit (List Int)))
abbrev s__law_triple : Stmt := topS 18
theorem sc__law_triple : FnScope ["_law_phrase", "_law_power", "_law_number", "_law_sign"] ["_law_phrase"] (defScope s__law_triple) := ⟨rfl, rfl, rfl, by decide +kernel, rfl, by decide +kernel, by decide +kernel⟩
theorem ok__law_triple {g : Glb} (D : Def g "_law_triple" s__law_triple ["_law_phrase"])  (b_ord : g.mg "ord" = none) : Fn g "_law_triple" ["_law_phrase"] 1 (spP (sOne rS) (rL rI) _law_triple_m) :=
  fn_pure D sc__law_triple (fun H vs x h => by obtain ⟨v0, e0, h0⟩ := h; subst e0; rfl) (Γ := fun x => [.val rS x, .un, .un, .un]) (Γn := fun (_ : Unit) => [.un, .un, .un, .un]) (Γl := fun (_ : Unit) => []) (fun B G H vs x h => by obtain ⟨v0, e0, h0⟩ := h; subst e0; exact ⟨⟨v0, rfl, h0⟩, trivial, trivial, trivial, trivial⟩) (by intro x i s h; exact noown_of (by rfl) h) (fun x => (xs_asg (Γ' := fun t1 => [.val rS x, .val rI t1.1, .val rI t1.2, .un]) (ws := [1, 2]) (x_tup (a_cons x_int (a_one x_int)) (z_of (zk_cons (zk_one (Nat.le_refl 1))))) (fun t1 => (g_tup (g_cons (g_n (i := 1) (.s .z)) (g_one (g_n (i := 2) (.s (.s .z))))) (n_cons n_one))) (fun t1 => (xs_for (Γs := fun (s3 : Int × Int) => [.val rS x, .val rI s3.1, .val rI s3.2, .un]) (Γb := fun sign4 s3 => [.val rS x, .val rI s3.1, .val rI s3.2, .val rS sign4]) (s0 := (t1.1, t1.2)) (ws := [3]) (i_str (XV.toM (𝓜 := pureMd) (x_v (i := 0) (.z)))) (fun sign4 s3 => (g_n (i := 3) (.s (.s (.s .z))))) (fun sign4 s3 => (xs_pr (i := 1) (j := 2) (Γ1 := fun power11 => [.val rS x, .val rI power11, .val rI s3.2, .val rS sign4]) (Γ' := fun power11 number12 => [.val rS x, .val rI power11, .val rI number12, .val rS sign4]) (am_cons (XV.toM (𝓜 := pureMd) (x_bin (f := fun (i : Int) (j : Int) => (i * j)) (fun _ _ => op_mul) (rv_mulB (by decide)) (x_v (i := 1) (.s .z)) x_intk)) (am_one (xm_bin (f := fun (i : Int) (j : Int) => (some (i + j))) (fun _ _ => op_add) rv_I0.p (XV.toM (𝓜 := pureMd) (x_bin (f := fun (i : Int) (j : Int) => (i * j)) (fun _ _ => op_mul) (rv_mulB (by decide)) (x_v (i := 2) (.s (.s .z))) x_intk)) (xm_cB (f := fun (i : (List Nat)) => (ordM i)) ordB rp_ord b_ord bt_ord (am_one (XV.toM (𝓜 := pureMd) (x_v (i := 3) (.s (.s (.s .z)))))))))) (fun power11 => (.s .z)) (fun power11 number12 => (.s (.s .z))) (fun power11 number12 => (xs_nil (.eq (.eq (.eq (.un (.nil))))))))) (.eq (.eq (.eq (.un (.nil))))) (fun s3 => (xs_ret (XFV.v (xf_lst (a_consL x_int (a_consL (x_v (i := 1) (.s .z)) (a_consL (x_v (i := 2) (.s (.s .z))) a_nilL))) (Nat.le_of_ble_eq_true rfl))))))) (hw := fun X hX => by rw [swap_of (env' := envS _) hX.sc]; kernel_rfl)))
def _law_spare_m (x : (List (List Int))) : pureMd.M (List Int) :=
  retM pureMd (S := Unit) (L := Unit) ((pureMd.bnd (pureMd.ret ([] : (List (Int × (List Int))))) fun left1 => pureMd.bnd (pureMd.ret ([] : (List Int))) fun found2 => (bndF (S := (List (Int × (List Int))) × (List Int)) pureMd (pureMd.bnd (pureMd.bnd (pureMd.ret x) fun l3 => pureMd.ret (enumL l3)) fun l46 => forL pureMd (fun (at5 : (Int × (List Int))) (s4 : (List (Int × (List Int))) × (List Int)) => (lt at5.2 fun own6 => (bndF (S := (List Int)) pureMd (forL pureMd (fun (column8 : (Int × (List Int))) (s7 : (List Int)) => (pureMd.bnd (pureMd.bnd (pureMd.bnd (pureMd.ret (3 : Int)) fun n11 => pureMd.lft (rangeM n11)) fun l27 => lcM pureMd (fun (_ : Int) => pureMd.ret true) (fun (k12 : Int) => (pureMd.bnd (pureMd.bnd (pureMd.bnd (pureMd.ret s7) fun a13 => pureMd.bnd (pureMd.ret k12) fun b14 => pureMd.lft (atI a13 b14)) fun a17 => pureMd.bnd (pureMd.bnd (pureMd.ret column8.2) fun a15 => pureMd.bnd (pureMd.ret column8.1) fun b16 => pureMd.lft (atI a15 b16)) fun b18 => pureMd.lft (mulM a17 b18)) fun a25 => pureMd.bnd (pureMd.bnd (pureMd.bnd (pureMd.ret column8.2) fun a19 => pureMd.bnd (pureMd.ret k12) fun b20 => pureMd.lft (atI a19 b20)) fun a23 => pureMd.bnd (pureMd.bnd (pureMd.ret s7) fun a21 => pureMd.bnd (pureMd.ret column8.1) fun b22 => pureMd.lft (atI a21 b22)) fun b24 => pureMd.lft (mulM a23 b24)) fun b26 => pureMd.lft (some (a25 - b26)))) l27) fun own28 => (pureMd.ret (.nx own28)))) s4.1 own6) fun s7 => (pureMd.bnd (pureMd.bnd (pureMd.bnd (pureMd.ret (3 : Int)) fun n29 => pureMd.lft (rangeM n29)) fun l35 => lcM pureMd (fun (k30 : Int) => (pureMd.bnd (pureMd.bnd (pureMd.ret s7) fun a31 => pureMd.bnd (pureMd.ret k30) fun b32 => pureMd.lft (atI a31 b32)) fun a33 => pureMd.bnd (pureMd.ret (0 : Int)) fun b34 => pureMd.lft (some (!decide (a33 = b34))))) (fun (k30 : Int) => (pureMd.ret k30)) l35) fun column36 => (bndF (S := (List (Int × (List Int))) × (List Int)) pureMd (iteM pureMd (pureMd.bnd (pureMd.ret column36) fun a37 => pureMd.bnd (pureMd.ret ([] : (List Int))) fun b38 => pureMd.lft (eqD (dd1 a37) (dd1 b38))) (pureMd.bnd (pureMd.ret at5.1) fun a40 => pureMd.bnd (pureMd.lft (okLen s4.2.length)) fun _ => (pureMd.ret (.nx (s4.1, (s4.2 ++ [a40]))))) (pureMd.bnd (pureMd.bnd (pureMd.bnd (pureMd.ret column36) fun a41 => pureMd.bnd (pureMd.ret (0 : Int)) fun b42 => pureMd.lft (atI a41 b42)) fun x43 => pureMd.bnd (pureMd.ret s7) fun y44 => pureMd.ret (x43, y44)) fun a45 => pureMd.bnd (pureMd.lft (okLen s4.1.length)) fun _ => (pureMd.ret (.nx ((s4.1 ++ [a45]), s4.2))))) fun s39 => (pureMd.ret (.nx (s39.1, s39.2)))))))) l46 (left1, found2)) fun s4 => (pureMd.ret (.rt s4.2)))) : pureMd.M (Fl Unit Unit (List Int)))
abbrev s__law_spare : Stmt := topS 19
theorem sc__law_spare : FnScope ["_law_rows", "_law_left", "_law_found", "_law_at", "_law_row", "_law_own", "_law_column", "_law_head", "_law_columns", "_law_k"] ["_law_rows"] (defScope s__law_spare) := ⟨rfl, rfl, rfl, by decide +kernel, rfl, by decide +kernel, by decide +kernel⟩
theorem ok__law_spare {g : Glb} (D : Def g "_law_spare" s__law_spare ["_law_rows"])  (b_enumerate : g.mg "enumerate" = none) (b_list : g.mg "list" = none) (b_range : g.mg "range" = none) : Fn g "_law_spare" ["_law_rows"] 1 (spP (sOne (rL (rL rI))) (rL rI) _law_spare_m) :=
  fn_pure D sc__law_spare (fun H vs x h => by obtain ⟨v0, e0, h0⟩ := h; subst e0; rfl) (Γ := fun x => [.val (rL (rL rI)) x, .un, .un, .un, .un, .un, .un, .un, .un, .un]) (Γn := fun (_ : Unit) => [.un, .un, .un, .un, .un, .un, .un, .un, .un, .un]) (Γl := fun (_ : Unit) => []) (fun B G H vs x h => by obtain ⟨v0, e0, h0⟩ := h; subst e0; exact ⟨⟨v0, rfl, h0⟩, trivial, trivial, trivial, trivial, trivial, trivial, trivial, trivial, trivial, trivial⟩) (by intro x i s h; exact noown_of (by rfl) h) (fun x => (xs_prS (i := 1) (j := 2) (Γ1 := fun left1 => [.val (rL (rL rI)) x, .own (rT g.K (sCons rI (sOne (rL rI)))) left1, .un, .un, .un, .un, .un, .un, .un, .un]) (Γ' := fun left1 found2 => [.val (rL (rL rI)) x, .own (rT g.K (sCons rI (sOne (rL rI)))) left1, .own rI found2, .un, .un, .un, .un, .un, .un, .un]) (XE.own (XFV.toM (𝓜 := pureMd) (xf_lst a_nilL (by decide)))) (XE.own (XFV.toM (𝓜 := pureMd) (xf_lst a_nilL (by decide)))) (fun left1 => (.s .z)) (fun left1 found2 => (.s (.s .z))) (fun left1 found2 => (xs_for (Γs := fun (s4 : (List (Int × (List Int))) × (List Int)) => [.val (rL (rL rI)) x, .own (rT g.K (sCons rI (sOne (rL rI)))) s4.1, .own rI s4.2, .un, .un, .un, .un, .un, .un, .un]) (Γb := fun at5 s4 => [.val (rL (rL rI)) x, .own (rT g.K (sCons rI (sOne (rL rI)))) s4.1, .own rI s4.2, .val rI at5.1, .val (rL rI) at5.2, .un, .un, .un, .un, .un]) (s0 := (left1, found2)) (ws := [3, 4]) (i_enu b_enumerate (XV.toM (𝓜 := pureMd) (x_v (i := 0) (.z)))) (fun at5 s4 => (g_tup (g_cons (g_n (i := 3) (.s (.s (.s .z)))) (g_one (g_n (i := 4) (.s (.s (.s (.s .z))))))) (n_cons n_one))) (fun at5 s4 => (xs_st (i := 5) (Γ' := fun own6 => [.val (rL (rL rI)) x, .own (rT g.K (sCons rI (sOne (rL rI)))) s4.1, .own rI s4.2, .val rI at5.1, .val (rL rI) at5.2, .val (rL rI) own6, .un, .un, .un, .un]) (XFV.v (xf_cTy (f := fun (i : (List Int)) => i) lstTy rc_lstL b_list bt_list (a_one (x_v (i := 4) (.s (.s (.s (.s .z)))))))) (fun own6 => (.s (.s (.s (.s (.s .z)))))) (fun own6 => (xs_forOwn (i := 1) (Γp := fun p9 w10 => [.val (rL (rL rI)) x, .ownP p9 w10 (rT g.K (sCons rI (sOne (rL rI)))) s4.1, .own rI s4.2, .val rI at5.1, .val (rL rI) at5.2, .val (rL rI) own6, .un, .un, .un, .un]) (Γs := fun p9 w10 (s7 : (List Int)) => [.val (rL (rL rI)) x, .ownP p9 w10 (rT g.K (sCons rI (sOne (rL rI)))) s4.1, .own rI s4.2, .val rI at5.1, .val (rL rI) at5.2, .val (rL rI) s7, .un, .un, .un, .un]) (Γb := fun p9 w10 column8 s7 => [.val (rL (rL rI)) x, .ownP p9 w10 (rT g.K (sCons rI (sOne (rL rI)))) s4.1, .own rI s4.2, .val rI at5.1, .val (rL rI) at5.2, .val (rL rI) s7, .val rI column8.1, .val (rL rI) column8.2, .un, .un]) (Γr := fun (s7 : (List Int)) => [.val (rL (rL rI)) x, .own (rT g.K (sCons rI (sOne (rL rI)))) s4.1, .own rI s4.2, .val rI at5.1, .val (rL rI) at5.2, .val (rL rI) s7, .un, .un, .un, .un]) (s0 := own6) (ws := [6, 7]) (.s .z) (fun _ _ => (.s .z)) (fun p9 w10 column8 s7 => (g_tup (g_cons (g_n (i := 6) (.s (.s (.s (.s (.s (.s .z))))))) (g_one (g_n (i := 7) (.s (.s (.s (.s (.s (.s (.s .z)))))))))) (n_cons n_one))) (fun p9 w10 column8 s7 => (xs_owM (i := 5) (Γ' := fun own28 => [.val (rL (rL rI)) x, .ownP p9 w10 (rT g.K (sCons rI (sOne (rL rI)))) s4.1, .own rI s4.2, .val rI at5.1, .val (rL rI) at5.2, .own rI own28, .val rI column8.1, .val (rL rI) column8.2, .un, .un]) (xf_c (own := [("_law_k", 9)]) (ws := [9]) (Γ0 := [.val (rL (rL rI)) x, .ownP p9 w10 (rT g.K (sCons rI (sOne (rL rI)))) s4.1, .own rI s4.2, .val rI at5.1, .val (rL rI) at5.2, .val (rL rI) s7, .val rI column8.1, .val (rL rI) column8.2, .un, .un]) (Γb := fun k12 => [.val (rL (rL rI)) x, .ownP p9 w10 (rT g.K (sCons rI (sOne (rL rI)))) s4.1, .own rI s4.2, .val rI at5.1, .val (rL rI) at5.2, .val (rL rI) s7, .val rI column8.1, .val (rL rI) column8.2, .un, .val rI k12]) (i_rng1 b_range (XV.toM (𝓜 := pureMd) x_int)) (.eq (.eq (.eq (.eq (.eq (.eq (.eq (.eq (.un (.un (.nil))))))))))) (uns_cons (.s (.s (.s (.s (.s (.s (.s (.s (.s .z))))))))) uns_nil) (fun k12 => (g_b (i := 9) (.s (.s (.s (.s (.s (.s (.s (.s (.s .z))))))))))) (fun k12 => (xm_bin (f := fun (i : Int) (j : Int) => (some (i - j))) (fun _ _ => op_sub) rv_I0.p (xm_bin (f := fun (i : Int) (j : Int) => (mulM i j)) (fun _ _ => op_mulW) rp_mul (xm_ix (f := fun (i : (List Int)) (j : Int) => (atI i j)) ixL rp_ixL (XV.toM (𝓜 := pureMd) (x_v (i := 5) (.s (.s (.s (.s (.s .z))))))) (XV.toM (𝓜 := pureMd) (x_v (i := 9) (.s (.s (.s (.s (.s (.s (.s (.s (.s .z)))))))))))) (xm_ix (f := fun (i : (List Int)) (j : Int) => (atI i j)) ixL rp_ixL (XV.toM (𝓜 := pureMd) (x_v (i := 7) (.s (.s (.s (.s (.s (.s (.s .z))))))))) (XV.toM (𝓜 := pureMd) (x_v (i := 6) (.s (.s (.s (.s (.s (.s .z)))))))))) (xm_bin (f := fun (i : Int) (j : Int) => (mulM i j)) (fun _ _ => op_mulW) rp_mul (xm_ix (f := fun (i : (List Int)) (j : Int) => (atI i j)) ixL rp_ixL (XV.toM (𝓜 := pureMd) (x_v (i := 7) (.s (.s (.s (.s (.s (.s (.s .z))))))))) (XV.toM (𝓜 := pureMd) (x_v (i := 9) (.s (.s (.s (.s (.s (.s (.s (.s (.s .z)))))))))))) (xm_ix (f := fun (i : (List Int)) (j : Int) => (atI i j)) ixL rp_ixL (XV.toM (𝓜 := pureMd) (x_v (i := 5) (.s (.s (.s (.s (.s .z))))))) (XV.toM (𝓜 := pureMd) (x_v (i := 6) (.s (.s (.s (.s (.s (.s .z))))))))))))) (fun own28 => (.s (.s (.s (.s (.s .z)))))) (fun own28 => (xs_fix (.s (.s (.s (.s (.s .z))))) (.s (.s (.s (.s (.s .z))))) (xs_nil (.eq (.eq (.eq (.eq (.eq (.eq (.un (.un (.un (.un (.nil)))))))))))))) (hs := sw_c))) (fun p9 w10 => (.eq (.eq (.eq (.eq (.eq (.eq (.un (.un (.un (.un (.nil)))))))))))) (fun _ _ _ => (.s .z)) (fun _ _ _ => (.s .z)) (fun s7 => (xs_oLcIf (i := 8) (Γ' := fun column36 => [.val (rL (rL rI)) x, .own (rT g.K (sCons rI (sOne (rL rI)))) s4.1, .own rI s4.2, .val rI at5.1, .val (rL rI) at5.2, .val (rL rI) s7, .un, .un, .own rI column36, .un]) (own := [("_law_k", 9)]) (ws := [9]) (Γ0 := [.val (rL (rL rI)) x, .own (rT g.K (sCons rI (sOne (rL rI)))) s4.1, .own rI s4.2, .val rI at5.1, .val (rL rI) at5.2, .val (rL rI) s7, .un, .un, .un, .un]) (Γb := fun k30 => [.val (rL (rL rI)) x, .own (rT g.K (sCons rI (sOne (rL rI)))) s4.1, .own rI s4.2, .val rI at5.1, .val (rL rI) at5.2, .val (rL rI) s7, .un, .un, .un, .val rI k30]) (i_rng1 b_range (XV.toM (𝓜 := pureMd) x_int)) (.eq (.eq (.eq (.eq (.eq (.eq (.un (.un (.un (.un (.nil))))))))))) (uns_cons (.s (.s (.s (.s (.s (.s (.s (.s (.s .z))))))))) uns_nil) (fun k30 => (g_b (i := 9) (.s (.s (.s (.s (.s (.s (.s (.s (.s .z))))))))))) (fun k30 => (tm_cmp (f := fun (i : Int) (j : Int) => (some (!decide (i = j)))) (fun _ _ => op_ne) rv_neI.p (xm_ix (f := fun (i : (List Int)) (j : Int) => (atI i j)) ixL rp_ixL (XV.toM (𝓜 := pureMd) (x_v (i := 5) (.s (.s (.s (.s (.s .z))))))) (XV.toM (𝓜 := pureMd) (x_v (i := 9) (.s (.s (.s (.s (.s (.s (.s (.s (.s .z)))))))))))) (XV.toM (𝓜 := pureMd) x_int) (nomark _))) (fun k30 => (XV.toM (𝓜 := pureMd) (x_v (i := 9) (.s (.s (.s (.s (.s (.s (.s (.s (.s .z)))))))))))) (fun column36 => (.s (.s (.s (.s (.s (.s (.s (.s .z))))))))) (fun column36 => (xs_fix (.s (.s (.s (.s (.s (.s (.s (.s .z)))))))) (.s (.s (.s (.s (.s (.s (.s (.s .z)))))))) (xs_ifM (Γm := fun (s39 : (List (Int × (List Int))) × (List Int)) => [.val (rL (rL rI)) x, .own (rT g.K (sCons rI (sOne (rL rI)))) s39.1, .own rI s39.2, .val rI at5.1, .val (rL rI) at5.2, .val (rL rI) s7, .un, .un, .val (rL rI) column36, .un]) (tm_cmp (f := fun (i : (List Int)) (j : (List Int)) => (eqD (dd1 i) (dd1 j))) opEqD (rp_eqD dp1 dp1) (XV.toM (𝓜 := pureMd) (x_v (i := 8) (.s (.s (.s (.s (.s (.s (.s (.s .z)))))))))) (XV.toM (𝓜 := pureMd) (XFV.v (xf_lst a_nilL (by decide)))) (nomark _)) (xs_ap (i := 2) (Γ' := fun a40 => [.val (rL (rL rI)) x, .own (rT g.K (sCons rI (sOne (rL rI)))) s4.1, .own rI (s4.2 ++ [a40]), .val rI at5.1, .val (rL rI) at5.2, .val (rL rI) s7, .un, .un, .val (rL rI) column36, .un]) (.s (.s .z)) (XV.toM (𝓜 := pureMd) (x_v (i := 3) (.s (.s (.s .z))))) (fun a40 => (.s (.s .z))) (fun a40 => (xs_nil (.eq (.eq (.eq (.eq (.eq (.eq (.un (.un (.eq (.un (.nil)))))))))))))) (xs_ap (i := 1) (Γ' := fun a45 => [.val (rL (rL rI)) x, .own (rT g.K (sCons rI (sOne (rL rI)))) (s4.1 ++ [a45]), .own rI s4.2, .val rI at5.1, .val (rL rI) at5.2, .val (rL rI) s7, .un, .un, .val (rL rI) column36, .un]) (.s .z) (xm_tup (am_cons (xm_ix (f := fun (i : (List Int)) (j : Int) => (atI i j)) ixL rp_ixL (XV.toM (𝓜 := pureMd) (x_v (i := 8) (.s (.s (.s (.s (.s (.s (.s (.s .z)))))))))) (XV.toM (𝓜 := pureMd) x_int)) (am_one (XV.toM (𝓜 := pureMd) (x_v (i := 5) (.s (.s (.s (.s (.s .z))))))))) (z_of (zk_cons (zk_one (Nat.le_refl 1))))) (fun a45 => (.s .z)) (fun a45 => (xs_nil (.eq (.eq (.eq (.eq (.eq (.eq (.un (.un (.eq (.un (.nil)))))))))))))) (fun s39 => (xs_nil (.eq (.eq (.eq (.un (.un (.un (.un (.un (.un (.un (.nil)))))))))))))))))))))) (.eq (.eq (.eq (.un (.un (.un (.un (.un (.un (.un (.nil))))))))))) (fun s4 => (xs_fix (.s (.s .z)) (.s (.s .z)) (xs_ret (x_v (i := 2) (.s (.s .z))))))))))
def _law_is_lowest_m (x : Int × Int) : pureMd.M Bool :=
  retM pureMd (S := Unit) (L := Unit) ((pureMd.bnd (pureMd.bnd (lenM pureMd (pureMd.bnd (pureMd.ret x.1) fun x3 => pureMd.bnd (pureMd.bnd (pureMd.ret x.2) fun x1 => pureMd.bnd (pureMd.ret ([] : List Int)) fun l2 => pureMd.ret (x1 :: l2)) fun l4 => pureMd.ret (x3 :: l4))) fun l6 => lcM pureMd (fun (part5 : Int) => (pureMd.ret (false || (!true)))) (fun (part5 : Int) => (pureMd.ret part5)) l6) fun odd7 => (bndF (S := Unit) pureMd (iteM pureMd (orM pureMd (pureMd.bnd (pureMd.ret odd7) fun a8 => pureMd.bnd (pureMd.ret ([] : (List Int))) fun b9 => pureMd.lft ((eqD (dd1 a8) (dd1 b9)).map (!·))) (pureMd.ret (decide (x.2 < (1 : Int))))) (pureMd.ret (.rt false)) (pureMd.ret (.nx ()))) fun s10 => (pureMd.bnd (pureMd.ret ((if x.1 < 0 then -x.1 else x.1), x.2)) (unc fun one12 other13 => (bndF (S := Int × Int) pureMd (whileN pureMd (fun (s14 : Int × Int) => (pureMd.ret (decide ((0 : Int) < s14.2)))) (fun (s14 : Int × Int) => (pureMd.bnd (pureMd.bnd (pureMd.ret s14.2) fun x17 => pureMd.bnd (pureMd.bnd (pureMd.ret s14.1) fun a15 => pureMd.bnd (pureMd.ret s14.2) fun b16 => pureMd.lft (modM a15 b16)) fun y18 => pureMd.ret (x17, y18)) (unc fun one20 other21 => (pureMd.ret (.nx (one20, other21)))))) bigN (one12, other13)) fun s14 => (pureMd.ret (.rt (decide (s14.1 = (1 : Int)))))))))) : pureMd.M (Fl Unit Unit Bool))
abbrev s__law_is_lowest : Stmt := topS 20
theorem sc__law_is_lowest : FnScope ["_law_top", "_law_low", "_law_odd", "_law_one", "_law_other", "_law_part"] ["_law_top", "_law_low"] (defScope s__law_is_lowest) := ⟨rfl, rfl, rfl, by decide +kernel, rfl, by decide +kernel, by decide +kernel⟩
theorem ok__law_is_lowest {g : Glb} (D : Def g "_law_is_lowest" s__law_is_lowest ["_law_top", "_law_low"])  (b_abs : g.mg "abs" = none) (b_bool : g.mg "bool" = none) (b_int : g.mg "int" = none) (b_isinstance : g.mg "isinstance" = none) : Fn g "_law_is_lowest" ["_law_top", "_law_low"] 1 (spP (sCons rI (sOne rI)) rB _law_is_lowest_m) :=
  fn_pure D sc__law_is_lowest (fun H vs x h => by obtain ⟨v0, w0, e0, h0, h⟩ := h; subst e0; obtain ⟨v1, e1, h1⟩ := h; subst e1; rfl) (Γ := fun x => [.val rI x.1, .val rI x.2, .un, .un, .un, .un]) (Γn := fun (_ : Unit) => [.un, .un, .un, .un, .un, .un]) (Γl := fun (_ : Unit) => []) (fun B G H vs x h => by obtain ⟨v0, w0, e0, h0, h⟩ := h; subst e0; obtain ⟨v1, e1, h1⟩ := h; subst e1; exact ⟨⟨v0, rfl, h0⟩, ⟨v1, rfl, h1⟩, trivial, trivial, trivial, trivial, trivial⟩) (by intro x i s h; exact noown_of (by rfl) h) (fun x => (xs_oLcIf (i := 2) (Γ' := fun odd7 => [.val rI x.1, .val rI x.2, .own rI odd7, .un, .un, .un]) (own := [("_law_part", 5)]) (ws := [5]) (Γ0 := [.val rI x.1, .val rI x.2, .un, .un, .un, .un]) (Γb := fun part5 => [.val rI x.1, .val rI x.2, .un, .un, .un, .val rI part5]) (i_tup (xm_tupL (am_consL (XV.toM (𝓜 := pureMd) (x_v (i := 0) (.z))) (am_consL (XV.toM (𝓜 := pureMd) (x_v (i := 1) (.s .z))) (XAV.toM (𝓜 := pureMd) a_nilL))))) (.eq (.eq (.un (.un (.un (.un (.nil))))))) (uns_cons (.s (.s (.s (.s (.s .z))))) uns_nil) (fun part5 => (g_b (i := 5) (.s (.s (.s (.s (.s .z))))))) (fun part5 => (XTV.toM (𝓜 := pureMd) (t_w (w_or (t_val (x_isi (f := (fun _ => false)) (x_v (i := 5) (.s (.s (.s (.s (.s .z)))))) ty_I (fun _ => by decide) b_isinstance b_bool bt_isinstance bt_bool)) (w_or1 (t_not (t_val (x_isi (f := (fun _ => true)) (x_v (i := 5) (.s (.s (.s (.s (.s .z)))))) ty_I (fun _ => by decide) b_isinstance b_int bt_isinstance bt_int)))))))) (fun part5 => (XV.toM (𝓜 := pureMd) (x_v (i := 5) (.s (.s (.s (.s (.s .z)))))))) (fun odd7 => (.s (.s .z))) (fun odd7 => (xs_fix (.s (.s .z)) (.s (.s .z)) (xs_ifM (Γm := fun (s10 : Unit) => [.val rI x.1, .val rI x.2, .val (rL rI) odd7, .un, .un, .un]) (tm_w (wm_or (tm_cmp (f := fun (i : (List Int)) (j : (List Int)) => ((eqD (dd1 i) (dd1 j)).map (!·))) opNeD (rp_neD dp1 dp1) (XV.toM (𝓜 := pureMd) (x_v (i := 2) (.s (.s .z)))) (XV.toM (𝓜 := pureMd) (XFV.v (xf_lst a_nilL (by decide)))) (nomark _)) (wm_or1 (XTV.toM (𝓜 := pureMd) (t_cmp (f := fun (i : Int) (j : Int) => (decide (i < j))) (fun _ _ => op_lt) rv_B0 (x_v (i := 1) (.s .z)) x_int (nomark _)))))) (xs_ret x_bl) (xs_nil (.eq (.eq (.eq (.un (.un (.un (.nil)))))))) (fun s10 => (xs_pr (i := 3) (j := 4) (Γ1 := fun one12 => [.val rI x.1, .val rI x.2, .val (rL rI) odd7, .val rI one12, .un, .un]) (Γ' := fun one12 other13 => [.val rI x.1, .val rI x.2, .val (rL rI) odd7, .val rI one12, .val rI other13, .un]) (XAV.toM (𝓜 := pureMd) (a_cons (x_cB (f := fun (i : Int) => (if i < 0 then -i else i)) absB rc_abs b_abs bt_abs (a_one (x_v (i := 0) (.z)))) (a_one (x_v (i := 1) (.s .z))))) (fun one12 => (.s (.s (.s .z)))) (fun one12 other13 => (.s (.s (.s (.s .z))))) (fun one12 other13 => (xs_while (Γs := fun (s14 : Int × Int) => [.val rI x.1, .val rI x.2, .val (rL rI) odd7, .val rI s14.1, .val rI s14.2, .un]) (s0 := (one12, other13)) bigN (fun s14 => (XTV.toM (𝓜 := pureMd) (t_cmp (f := fun (i : Int) (j : Int) => (decide (j < i))) (fun _ _ => op_gt) rv_B0 (x_v (i := 4) (.s (.s (.s (.s .z))))) x_int (nomark _)))) (fun s14 => (xs_pr (i := 3) (j := 4) (Γ1 := fun one20 => [.val rI x.1, .val rI x.2, .val (rL rI) odd7, .val rI one20, .val rI s14.2, .un]) (Γ' := fun one20 other21 => [.val rI x.1, .val rI x.2, .val (rL rI) odd7, .val rI one20, .val rI other21, .un]) (am_cons (XV.toM (𝓜 := pureMd) (x_v (i := 4) (.s (.s (.s (.s .z)))))) (am_one (xm_bin (f := fun (i : Int) (j : Int) => (modM i j)) (fun _ _ => op_mod) rp_mod (XV.toM (𝓜 := pureMd) (x_v (i := 3) (.s (.s (.s .z))))) (XV.toM (𝓜 := pureMd) (x_v (i := 4) (.s (.s (.s (.s .z))))))))) (fun one20 => (.s (.s (.s .z)))) (fun one20 other21 => (.s (.s (.s (.s .z))))) (fun one20 other21 => (xs_nil (.eq (.eq (.eq (.eq (.eq (.un (.nil))))))))))) (.eq (.eq (.eq (.eq (.eq (.un (.nil))))))) (fun s14 => (xs_ret (x_cmp (f := fun (i : Int) (j : Int) => (decide (i = j))) (fun _ _ => op_eq) rv_eqI (x_v (i := 3) (.s (.s (.s .z)))) x_int (nomark _)))))))))))))
def _law_gives_m (x : (List (Int × Int)) × (List (List Int)) × (List Int)) : pureMd.M Bool :=
  retM pureMd (S := Unit) (L := Unit) ((lt (1 : Int) fun whole1 => (bndF (S := Int) pureMd (pureMd.bnd (pureMd.ret x.1) fun l35 => forL pureMd (fun (top3 : (Int × Int)) (s2 : Int) => (pureMd.bnd (pureMd.bnd (pureMd.ret s2) fun a4 => pureMd.bnd (pureMd.ret top3.2) fun b5 => pureMd.lft (mulM a4 b5)) fun whole6 => (pureMd.ret (.nx whole6)))) l35 whole1) fun s2 => (bndF (S := Unit) pureMd (pureMd.bnd (pureMd.bnd (pureMd.ret (3 : Int)) fun n7 => pureMd.lft (rangeM n7)) fun l34 => forL pureMd (fun (column9 : Int) (s8 : Unit) => (lt (0 : Int) fun total10 => (bndF (S := Int) pureMd (pureMd.bnd (pureMd.bnd (pureMd.ret x.1) fun l11 => pureMd.bnd (pureMd.ret x.2.1) fun l12 => pureMd.ret (l11.zip l12)) fun l33 => forL pureMd (fun (row14 : ((Int × Int) × (List Int))) (s13 : Int) => (pureMd.bnd (pureMd.bnd (pureMd.ret s13) fun a23 => pureMd.bnd (pureMd.bnd (pureMd.bnd (pureMd.ret row14.1.1) fun a17 => pureMd.bnd (pureMd.bnd (pureMd.ret s2) fun a15 => pureMd.bnd (pureMd.ret row14.1.2) fun b16 => pureMd.lft (divW a15 b16)) fun b18 => pureMd.lft (mulM a17 b18)) fun a21 => pureMd.bnd (pureMd.bnd (pureMd.ret row14.2) fun a19 => pureMd.bnd (pureMd.ret column9) fun b20 => pureMd.lft (atI a19 b20)) fun b22 => pureMd.lft (mulM a21 b22)) fun b24 => pureMd.lft (some (a23 + b24))) fun total25 => (pureMd.ret (.nx total25)))) l33 total10) fun s13 => (bndF (S := Unit) pureMd (iteM pureMd (pureMd.bnd (pureMd.ret s13) fun a30 => pureMd.bnd (pureMd.bnd (pureMd.ret s2) fun a28 => pureMd.bnd (pureMd.bnd (pureMd.ret x.2.2) fun a26 => pureMd.bnd (pureMd.ret column9) fun b27 => pureMd.lft (atI a26 b27)) fun b29 => pureMd.lft (mulM a28 b29)) fun b31 => pureMd.lft (some (!decide (a30 = b31)))) (pureMd.ret (.rt false)) (pureMd.ret (.nx ()))) fun s32 => (pureMd.ret (.nx ())))))) l34 ()) fun s8 => (pureMd.ret (.rt true))))) : pureMd.M (Fl Unit Unit Bool))
abbrev s__law_gives : Stmt := topS 21
theorem sc__law_gives : FnScope ["_law_told", "_law_rows", "_law_triple_here", "_law_whole", "_law_top", "_law_low", "_law_column", "_law_total", "_law_row"] ["_law_told", "_law_rows", "_law_triple_here"] (defScope s__law_gives) := ⟨rfl, rfl, rfl, by decide +kernel, rfl, by decide +kernel, by decide +kernel⟩
theorem ok__law_gives {g : Glb} (D : Def g "_law_gives" s__law_gives ["_law_told", "_law_rows", "_law_triple_here"])  (b_range : g.mg "range" = none) (b_zip : g.mg "zip" = none) : Fn g "_law_gives" ["_law_told", "_law_rows", "_law_triple_here"] 1 (spP (sCons (rT g.K (sAll (rT g.K (sCons rI (sOne rI))))) (sCons (rL (rL rI)) (sOne (rL rI)))) rB _law_gives_m) :=
  fn_pure D sc__law_gives (fun H vs x h => by obtain ⟨v0, w0, e0, h0, h⟩ := h; subst e0; obtain ⟨v1, w1, e1, h1, h⟩ := h; subst e1; obtain ⟨v2, e2, h2⟩ := h; subst e2; rfl) (Γ := fun x => [.val (rT g.K (sAll (rT g.K (sCons rI (sOne rI))))) x.1, .val (rL (rL rI)) x.2.1, .val (rL rI) x.2.2, .un, .un, .un, .un, .un, .un]) (Γn := fun (_ : Unit) => [.un, .un, .un, .un, .un, .un, .un, .un, .un]) (Γl := fun (_ : Unit) => []) (fun B G H vs x h => by obtain ⟨v0, w0, e0, h0, h⟩ := h; subst e0; obtain ⟨v1, w1, e1, h1, h⟩ := h; subst e1; obtain ⟨v2, e2, h2⟩ := h; subst e2; exact ⟨⟨v0, rfl, h0⟩, ⟨v1, rfl, h1⟩, ⟨v2, rfl, h2⟩, trivial, trivial, trivial, trivial, trivial, trivial, trivial⟩) (by intro x i s h; exact noown_of (by rfl) h) (fun x => (xs_st (i := 3) (Γ' := fun whole1 => [.val (rT g.K (sAll (rT g.K (sCons rI (sOne rI))))) x.1, .val (rL (rL rI)) x.2.1, .val (rL rI) x.2.2, .val rI whole1, .un, .un, .un, .un, .un]) x_int (fun whole1 => (.s (.s (.s .z)))) (fun whole1 => (xs_for (Γs := fun (s2 : Int) => [.val (rT g.K (sAll (rT g.K (sCons rI (sOne rI))))) x.1, .val (rL (rL rI)) x.2.1, .val (rL rI) x.2.2, .val rI s2, .un, .un, .un, .un, .un]) (Γb := fun top3 s2 => [.val (rT g.K (sAll (rT g.K (sCons rI (sOne rI))))) x.1, .val (rL (rL rI)) x.2.1, .val (rL rI) x.2.2, .val rI s2, .val rI top3.1, .val rI top3.2, .un, .un, .un]) (s0 := whole1) (ws := [4, 5]) (i_tup (XV.toM (𝓜 := pureMd) (x_v (i := 0) (.z)))) (fun top3 s2 => (g_tup (g_cons (g_n (i := 4) (.s (.s (.s (.s .z))))) (g_one (g_n (i := 5) (.s (.s (.s (.s (.s .z)))))))) (n_cons n_one))) (fun top3 s2 => (xs_stM (i := 3) (Γ' := fun whole6 => [.val (rT g.K (sAll (rT g.K (sCons rI (sOne rI))))) x.1, .val (rL (rL rI)) x.2.1, .val (rL rI) x.2.2, .val rI whole6, .val rI top3.1, .val rI top3.2, .un, .un, .un]) (xm_bin (f := fun (i : Int) (j : Int) => (mulM i j)) (fun _ _ => op_mulW) rp_mul (XV.toM (𝓜 := pureMd) (x_v (i := 3) (.s (.s (.s .z))))) (XV.toM (𝓜 := pureMd) (x_v (i := 5) (.s (.s (.s (.s (.s .z)))))))) (fun whole6 => (.s (.s (.s .z)))) (fun whole6 => (xs_nil (.eq (.eq (.eq (.eq (.un (.un (.un (.un (.un (.nil)))))))))))))) (.eq (.eq (.eq (.eq (.un (.un (.un (.un (.un (.nil)))))))))) (fun s2 => (xs_for (Γs := fun (s8 : Unit) => [.val (rT g.K (sAll (rT g.K (sCons rI (sOne rI))))) x.1, .val (rL (rL rI)) x.2.1, .val (rL rI) x.2.2, .val rI s2, .un, .un, .un, .un, .un]) (Γb := fun column9 s8 => [.val (rT g.K (sAll (rT g.K (sCons rI (sOne rI))))) x.1, .val (rL (rL rI)) x.2.1, .val (rL rI) x.2.2, .val rI s2, .un, .un, .val rI column9, .un, .un]) (s0 := ()) (ws := [6]) (i_rng1 b_range (XV.toM (𝓜 := pureMd) x_int)) (fun column9 s8 => (g_n (i := 6) (.s (.s (.s (.s (.s (.s .z)))))))) (fun column9 s8 => (xs_st (i := 7) (Γ' := fun total10 => [.val (rT g.K (sAll (rT g.K (sCons rI (sOne rI))))) x.1, .val (rL (rL rI)) x.2.1, .val (rL rI) x.2.2, .val rI s2, .un, .un, .val rI column9, .val rI total10, .un]) x_int (fun total10 => (.s (.s (.s (.s (.s (.s (.s .z)))))))) (fun total10 => (xs_for (Γs := fun (s13 : Int) => [.val (rT g.K (sAll (rT g.K (sCons rI (sOne rI))))) x.1, .val (rL (rL rI)) x.2.1, .val (rL rI) x.2.2, .val rI s2, .un, .un, .val rI column9, .val rI s13, .un]) (Γb := fun row14 s13 => [.val (rT g.K (sAll (rT g.K (sCons rI (sOne rI))))) x.1, .val (rL (rL rI)) x.2.1, .val (rL rI) x.2.2, .val rI s2, .val rI row14.1.1, .val rI row14.1.2, .val rI column9, .val rI s13, .val (rL rI) row14.2]) (s0 := total10) (ws := [4, 5, 8]) (i_zpTL b_zip (XV.toM (𝓜 := pureMd) (x_v (i := 0) (.z))) (XV.toM (𝓜 := pureMd) (x_v (i := 1) (.s .z)))) (fun row14 s13 => (g_tup (g_cons (g_tup (g_cons (g_n (i := 4) (.s (.s (.s (.s .z))))) (g_one (g_n (i := 5) (.s (.s (.s (.s (.s .z)))))))) (n_cons n_one)) (g_one (g_n (i := 8) (.s (.s (.s (.s (.s (.s (.s (.s .z))))))))))) (n_cons n_one))) (fun row14 s13 => (xs_stM (i := 7) (Γ' := fun total25 => [.val (rT g.K (sAll (rT g.K (sCons rI (sOne rI))))) x.1, .val (rL (rL rI)) x.2.1, .val (rL rI) x.2.2, .val rI s2, .val rI row14.1.1, .val rI row14.1.2, .val rI column9, .val rI total25, .val (rL rI) row14.2]) (xm_bin (f := fun (i : Int) (j : Int) => (some (i + j))) (fun _ _ => op_add) rv_I0.p (XV.toM (𝓜 := pureMd) (x_v (i := 7) (.s (.s (.s (.s (.s (.s (.s .z))))))))) (xm_bin (f := fun (i : Int) (j : Int) => (mulM i j)) (fun _ _ => op_mulW) rp_mul (xm_bin (f := fun (i : Int) (j : Int) => (mulM i j)) (fun _ _ => op_mulW) rp_mul (XV.toM (𝓜 := pureMd) (x_v (i := 4) (.s (.s (.s (.s .z)))))) (xm_bin (f := fun (i : Int) (j : Int) => (divW i j)) (fun _ _ => op_fdivW) rp_divW (XV.toM (𝓜 := pureMd) (x_v (i := 3) (.s (.s (.s .z))))) (XV.toM (𝓜 := pureMd) (x_v (i := 5) (.s (.s (.s (.s (.s .z))))))))) (xm_ix (f := fun (i : (List Int)) (j : Int) => (atI i j)) ixL rp_ixL (XV.toM (𝓜 := pureMd) (x_v (i := 8) (.s (.s (.s (.s (.s (.s (.s (.s .z)))))))))) (XV.toM (𝓜 := pureMd) (x_v (i := 6) (.s (.s (.s (.s (.s (.s .z))))))))))) (fun total25 => (.s (.s (.s (.s (.s (.s (.s .z)))))))) (fun total25 => (xs_nil (.eq (.eq (.eq (.eq (.un (.un (.eq (.eq (.un (.nil)))))))))))))) (.eq (.eq (.eq (.eq (.un (.un (.eq (.eq (.un (.nil)))))))))) (fun s13 => (xs_ifM (Γm := fun (s32 : Unit) => [.val (rT g.K (sAll (rT g.K (sCons rI (sOne rI))))) x.1, .val (rL (rL rI)) x.2.1, .val (rL rI) x.2.2, .val rI s2, .un, .un, .val rI column9, .val rI s13, .un]) (tm_cmp (f := fun (i : Int) (j : Int) => (some (!decide (i = j)))) (fun _ _ => op_ne) rv_neI.p (XV.toM (𝓜 := pureMd) (x_v (i := 7) (.s (.s (.s (.s (.s (.s (.s .z))))))))) (xm_bin (f := fun (i : Int) (j : Int) => (mulM i j)) (fun _ _ => op_mulW) rp_mul (XV.toM (𝓜 := pureMd) (x_v (i := 3) (.s (.s (.s .z))))) (xm_ix (f := fun (i : (List Int)) (j : Int) => (atI i j)) ixL rp_ixL (XV.toM (𝓜 := pureMd) (x_v (i := 2) (.s (.s .z)))) (XV.toM (𝓜 := pureMd) (x_v (i := 6) (.s (.s (.s (.s (.s (.s .z)))))))))) (nomark _)) (xs_ret x_bl) (xs_nil (.eq (.eq (.eq (.eq (.un (.un (.eq (.eq (.un (.nil))))))))))) (fun s32 => (xs_nil (.eq (.eq (.eq (.eq (.un (.un (.un (.un (.un (.nil)))))))))))))))))) (.eq (.eq (.eq (.eq (.un (.un (.un (.un (.un (.nil)))))))))) (fun s8 => (xs_ret x_bl))))))))
theorem hp_K_factors_texts_text {g : Glb} : ∀ (H : Hp) (vs : List V) (x : (List (List Nat)) × (List Nat)), ((sCons (rT g.K (sAll rS)) (sOne rS)) : Rps ((List (List Nat)) × (List Nat))).r H vs x → vs.length = ["texts", "text"].length ∧ ((sCons rS (sOne (rT g.K (sAll rS)))) : Rps ((List Nat) × (List (List Nat)))).r H ((fun zs : List V => [zs.getD 1 .non, zs.getD 0 .non]) vs) (x.2, x.1) := fun H vs x h => by obtain ⟨v0, w0, e0, h0, h⟩ := h; subst e0; obtain ⟨v1, e1, h1⟩ := h; subst e1; exact ⟨rfl, ⟨v1, _, rfl, h1, ⟨v0, rfl, h0⟩⟩⟩
theorem kw_K_factors_texts_text {g : Glb} (D : Def g "factors" s_factors ["text", "texts"]) (F : Fn g "factors" ["text", "texts"] 4 (spP (sCons rS (sOne (rT g.K (sAll rS)))) (rO (rT g.K (sAll (rT g.K (sCons rI (sOne rI)))))) factors_m)) : KwB g "factors" ["text", "texts"] ["texts", "text"] 4 (spP (sCons rS (sOne (rT g.K (sAll rS)))) (rO (rT g.K (sAll (rT g.K (sCons rI (sOne rI)))))) factors_m) (fun zs : List V => [zs.getD 1 .non, zs.getD 0 .non]) :=
  kw_of (fun zs : List Value => [zs.getD 1 .none, zs.getD 0 .none]) D F (fun kV doc pm an cdv ct ws hl => match ws, hl with | [_, _], _ => rfl) (fun zs ws r l => match zs, ws, r, l with | [_, _], [_, _], .cons a0 (.cons a1 (.nil)), _ => .cons a1 (.cons a0 (.nil)))
def _law_right_m (x : (List Nat) × (List (List Nat))) : pureMd.M Bool :=
  retM pureMd (S := Unit) (L := Unit) ((pureMd.bnd (pureMd.bnd (pureMd.bnd (pureMd.ret x.2) fun l3 => lcM pureMd (fun (_ : (List Nat)) => pureMd.ret true) (fun (one1 : (List Nat)) => (pureMd.bnd (pureMd.ret one1) fun q2 => pureMd.lft (_law_triple_m q2))) l3) fun x5 => pureMd.bnd (pureMd.bnd (pureMd.ret x.1) fun q4 => pureMd.lft (_law_triple_m q4)) fun y6 => pureMd.ret (x5, y6)) (unc fun rows8 triple9 => (pureMd.bnd (pureMd.bnd (pureMd.bnd (pureMd.ret (x.1, x.2)) fun q10 => pureMd.lft (factors_m q10)) fun x15 => pureMd.bnd (pureMd.bnd (pureMd.bnd (pureMd.ret x.2) fun x11 => pureMd.bnd (pureMd.ret x.1) fun y12 => pureMd.ret (x11, y12)) fun k13 => pureMd.lft (factors_m (k13.2, k13.1))) fun y16 => pureMd.ret (x15, y16)) (unc fun told18 again19 => (bndF (S := Unit) pureMd (iteM pureMd (pureMd.bnd (pureMd.bnd (pureMd.ret told18) fun u20 => pureMd.lft (reprM (dd2 u20))) fun a22 => pureMd.bnd (pureMd.bnd (pureMd.ret again19) fun u21 => pureMd.lft (reprM (dd2 u21))) fun b23 => pureMd.lft (some (!decide (a22 = b23)))) (pureMd.ret (.rt false)) (pureMd.ret (.nx ()))) fun s24 => (bndF (S := Unit) pureMd (iteM pureMd (orM pureMd (pureMd.bnd (pureMd.ret x.2) fun a25 => pureMd.bnd (pureMd.ret ([] : (List (List Nat)))) fun b26 => pureMd.lft (eqD (dd3 a25) (dd3 b26))) (orM pureMd (pureMd.bnd (pureMd.bnd (pureMd.ret rows8) fun q27 => pureMd.lft (_law_spare_m q27)) fun a28 => pureMd.bnd (pureMd.ret ([] : (List Int))) fun b29 => pureMd.lft ((eqD (dd1 a28) (dd1 b29)).map (!·))) (pureMd.bnd (pureMd.bnd (pureMd.bnd (pureMd.ret rows8) fun a30 => pureMd.bnd (pureMd.ret [triple9]) fun b31 => pureMd.lft (catL a30 b31)) fun q32 => pureMd.lft (_law_spare_m q32)) fun a33 => pureMd.bnd (pureMd.ret [(rows8.length : Int)]) fun b34 => pureMd.lft ((eqD (dd1 a33) (dd1 b34)).map (!·))))) (pureMd.ret (.rt (told18.isNone))) (pureMd.ret (.nx ()))) fun s35 => (bndF (S := Unit) pureMd (iteM pureMd (orM pureMd (pureMd.ret (!((fun o : (Option (List (Int × Int))) => o.isSome) told18))) (pureMd.bnd (pureMd.bnd (pureMd.lft told18) fun u36 => pureMd.lft (some (u36.length : Int))) fun a37 => pureMd.bnd (pureMd.ret (x.2.length : Int)) fun b38 => pureMd.lft (some (!decide (a37 = b38))))) (pureMd.ret (.rt false)) (pureMd.ret (.nx ()))) fun s39 => (bndF (S := Unit) pureMd (pureMd.bnd (pureMd.lft told18) fun l50 => forL pureMd (fun (fracti41 : (Int × Int)) (s40 : Unit) => (bndF (S := Unit) pureMd (iteM pureMd (orM pureMd (pureMd.ret (!true)) (orM pureMd (pureMd.ret (!decide (((2 : Nat) : Int) = (2 : Int)))) (notM pureMd (pureMd.bnd (pureMd.ret (fracti41.1, fracti41.2)) fun q42 => pureMd.lft (_law_is_lowest_m q42))))) (pureMd.ret (.rt false)) (pureMd.ret (.nx ()))) fun s43 => (pureMd.ret (.nx ())))) l50 ()) fun s40 => (pureMd.bnd (pureMd.bnd (pureMd.bnd (pureMd.lft told18) fun x46 => pureMd.bnd (pureMd.bnd (pureMd.ret rows8) fun x44 => pureMd.bnd (pureMd.ret triple9) fun y45 => pureMd.ret (x44, y45)) fun y47 => pureMd.ret (x46, y47)) fun q48 => pureMd.lft (_law_gives_m q48)) fun r49 => pureMd.ret (.rt r49)))))))))) : pureMd.M (Fl Unit Unit Bool))
abbrev s__law_right : Stmt := topS 22
theorem sc__law_right : FnScope ["_law_phrase", "_law_some", "_law_rows", "_law_triple_here", "_law_told", "_law_again", "_law_fraction", "_law_one"] ["_law_phrase", "_law_some"] (defScope s__law_right) := ⟨rfl, rfl, rfl, by decide +kernel, rfl, by decide +kernel, by decide +kernel⟩
theorem ok__law_right {g : Glb} (D : Def g "_law_right" s__law_right ["_law_phrase", "_law_some"]) (F__law_triple : Fn g "_law_triple" ["_law_phrase"] 1 (spP (sOne rS) (rL rI) _law_triple_m)) (F_factors : Fn g "factors" ["text", "texts"] 4 (spP (sCons rS (sOne (rT g.K (sAll rS)))) (rO (rT g.K (sAll (rT g.K (sCons rI (sOne rI)))))) factors_m)) (F__law_spare : Fn g "_law_spare" ["_law_rows"] 1 (spP (sOne (rL (rL rI))) (rL rI) _law_spare_m)) (F__law_is_lowest : Fn g "_law_is_lowest" ["_law_top", "_law_low"] 1 (spP (sCons rI (sOne rI)) rB _law_is_lowest_m)) (F__law_gives : Fn g "_law_gives" ["_law_told", "_law_rows", "_law_triple_here"] 1 (spP (sCons (rT g.K (sAll (rT g.K (sCons rI (sOne rI))))) (sCons (rL (rL rI)) (sOne (rL rI)))) rB _law_gives_m)) (K_factors_texts_text : KwB g "factors" ["text", "texts"] ["texts", "text"] 4 (spP (sCons rS (sOne (rT g.K (sAll rS)))) (rO (rT g.K (sAll (rT g.K (sCons rI (sOne rI)))))) factors_m) (fun zs : List V => [zs.getD 1 .non, zs.getD 0 .non])) (b_isinstance : g.mg "isinstance" = none) (b_len : g.mg "len" = none) (b_repr : g.mg "repr" = none) (b_tuple : g.mg "tuple" = none) (hgd : g.gd = true) : Fn g "_law_right" ["_law_phrase", "_law_some"] 5 (spP (sCons rS (sOne (rL rS))) rB _law_right_m) :=
  fn_pure D sc__law_right (fun H vs x h => by obtain ⟨v0, w0, e0, h0, h⟩ := h; subst e0; obtain ⟨v1, e1, h1⟩ := h; subst e1; rfl) (Γ := fun x => [.val rS x.1, .val (rL rS) x.2, .un, .un, .un, .un, .un, .un]) (Γn := fun (_ : Unit) => [.un, .un, .un, .un, .un, .un, .un, .un]) (Γl := fun (_ : Unit) => []) (fun B G H vs x h => by obtain ⟨v0, w0, e0, h0, h⟩ := h; subst e0; obtain ⟨v1, e1, h1⟩ := h; subst e1; exact ⟨⟨v0, rfl, h0⟩, ⟨v1, rfl, h1⟩, trivial, trivial, trivial, trivial, trivial, trivial, trivial⟩) (by intro x i s h; exact noown_of (by rfl) h) (fun x => (xs_pr (i := 2) (j := 3) (Γ1 := fun rows8 => [.val rS x.1, .val (rL rS) x.2, .val (rL (rL rI)) rows8, .un, .un, .un, .un, .un]) (Γ' := fun rows8 triple9 => [.val rS x.1, .val (rL rS) x.2, .val (rL (rL rI)) rows8, .val (rL rI) triple9, .un, .un, .un, .un]) (am_cons (XF.v (xf_c (own := [("_law_one", 7)]) (ws := [7]) (Γ0 := [.val rS x.1, .val (rL rS) x.2, .un, .un, .un, .un, .un, .un]) (Γb := fun one1 => [.val rS x.1, .val (rL rS) x.2, .un, .un, .un, .un, .un, .val rS one1]) (i_list (XV.toM (𝓜 := pureMd) (x_v (i := 1) (.s .z)))) (.eq (.eq (.un (.un (.un (.un (.un (.un (.nil))))))))) (uns_cons (.s (.s (.s (.s (.s (.s (.s .z))))))) uns_nil) (fun one1 => (g_b (i := 7) (.s (.s (.s (.s (.s (.s (.s .z))))))))) (fun one1 => (xm_c F__law_triple (Nat.le_of_ble_eq_true rfl) (XAV.toM (𝓜 := pureMd) (a_one (x_v (i := 7) (.s (.s (.s (.s (.s (.s (.s .z)))))))))))))) (am_one (xm_c F__law_triple (Nat.le_of_ble_eq_true rfl) (XAV.toM (𝓜 := pureMd) (a_one (x_v (i := 0) (.z))))))) (fun rows8 => (.s (.s .z))) (fun rows8 triple9 => (.s (.s (.s .z)))) (fun rows8 triple9 => (xs_pr (i := 4) (j := 5) (Γ1 := fun told18 => [.val rS x.1, .val (rL rS) x.2, .val (rL (rL rI)) rows8, .val (rL rI) triple9, .val (rO (rT g.K (sAll (rT g.K (sCons rI (sOne rI)))))) told18, .un, .un, .un]) (Γ' := fun told18 again19 => [.val rS x.1, .val (rL rS) x.2, .val (rL (rL rI)) rows8, .val (rL rI) triple9, .val (rO (rT g.K (sAll (rT g.K (sCons rI (sOne rI)))))) told18, .val (rO (rT g.K (sAll (rT g.K (sCons rI (sOne rI)))))) again19, .un, .un]) (am_cons (xm_c F_factors (Nat.le_of_ble_eq_true rfl) (XAV.toM (𝓜 := pureMd) (a_cons (x_v (i := 0) (.z)) (a_one (x_cTy (f := fun (i : (List (List Nat))) => i) tupTy rc_tupL b_tuple bt_tuple (a_one (x_v (i := 1) (.s .z)))))))) (am_one (xm_cKw (perm := fun k14 => (k14.2, k14.1)) K_factors_texts_text (Nat.le_of_ble_eq_true rfl) (k_cons (XV.toM (𝓜 := pureMd) (x_cTy (f := fun (i : (List (List Nat))) => i) tupTy rc_tupL b_tuple bt_tuple (a_one (x_v (i := 1) (.s .z))))) (k_one (XV.toM (𝓜 := pureMd) (x_v (i := 0) (.z))))) (hp_K_factors_texts_text (g := g))))) (fun told18 => (.s (.s (.s (.s .z))))) (fun told18 again19 => (.s (.s (.s (.s (.s .z)))))) (fun told18 again19 => (xs_ifM (Γm := fun (s24 : Unit) => [.val rS x.1, .val (rL rS) x.2, .val (rL (rL rI)) rows8, .val (rL rI) triple9, .val (rO (rT g.K (sAll (rT g.K (sCons rI (sOne rI)))))) told18, .val (rO (rT g.K (sAll (rT g.K (sCons rI (sOne rI)))))) again19, .un, .un]) (tm_cmp (f := fun (i : (List Nat)) (j : (List Nat)) => (some (!decide (i = j)))) (fun _ _ => op_ne) rv_neS.p (xm_cB (f := fun (i : (Option (List (Int × Int)))) => (reprM (dd2 i))) (reprB hgd) (rp_repr dp2) b_repr bt_repr (am_one (XV.toM (𝓜 := pureMd) (x_v (i := 4) (.s (.s (.s (.s .z)))))))) (xm_cB (f := fun (i : (Option (List (Int × Int)))) => (reprM (dd2 i))) (reprB hgd) (rp_repr dp2) b_repr bt_repr (am_one (XV.toM (𝓜 := pureMd) (x_v (i := 5) (.s (.s (.s (.s (.s .z))))))))) (nomark _)) (xs_ret x_bl) (xs_nil (.eq (.eq (.eq (.eq (.eq (.eq (.un (.un (.nil)))))))))) (fun s24 => (xs_ifM (Γm := fun (s35 : Unit) => [.val rS x.1, .val (rL rS) x.2, .val (rL (rL rI)) rows8, .val (rL rI) triple9, .val (rO (rT g.K (sAll (rT g.K (sCons rI (sOne rI)))))) told18, .val (rO (rT g.K (sAll (rT g.K (sCons rI (sOne rI)))))) again19, .un, .un]) (tm_w (wm_or (tm_cmp (f := fun (i : (List (List Nat))) (j : (List (List Nat))) => (eqD (dd3 i) (dd3 j))) opEqD (rp_eqD dp3 dp3) (XV.toM (𝓜 := pureMd) (x_v (i := 1) (.s .z))) (XV.toM (𝓜 := pureMd) (XFV.v (xf_lst a_nilL (by decide)))) (nomark _)) (wm_or (tm_cmp (f := fun (i : (List Int)) (j : (List Int)) => ((eqD (dd1 i) (dd1 j)).map (!·))) opNeD (rp_neD dp1 dp1) (xm_c F__law_spare (Nat.le_of_ble_eq_true rfl) (XAV.toM (𝓜 := pureMd) (a_one (x_v (i := 2) (.s (.s .z)))))) (XV.toM (𝓜 := pureMd) (XFV.v (xf_lst a_nilL (by decide)))) (nomark _)) (wm_or1 (tm_cmp (f := fun (i : (List Int)) (j : (List Int)) => ((eqD (dd1 i) (dd1 j)).map (!·))) opNeD (rp_neD dp1 dp1) (xm_c F__law_spare (Nat.le_of_ble_eq_true rfl) (am_one (XF.v (xf_bin (fun _ _ => op_cat) rf_cat (XV.toM (𝓜 := pureMd) (x_v (i := 2) (.s (.s .z)))) (XV.toM (𝓜 := pureMd) (XFV.v (xf_lst (a_consL (x_v (i := 3) (.s (.s (.s .z)))) a_nilL) (Nat.le_of_ble_eq_true rfl)))))))) (XV.toM (𝓜 := pureMd) (XFV.v (xf_lst (a_consL (x_cB (f := fun (i : (List (List Int))) => (i.length : Int)) lenB rc_lenL b_len bt_len (a_one (x_v (i := 2) (.s (.s .z))))) a_nilL) (Nat.le_of_ble_eq_true rfl)))) (nomark _)))))) (xs_ret (x_cmp (f := fun (i : (Option (List (Int × Int)))) (j : Unit) => (i.isNone)) (fun _ _ => op_isN) (rv_isNone nn_T) (x_v (i := 4) (.s (.s (.s (.s .z))))) x_non (nomark _))) (xs_nil (.eq (.eq (.eq (.eq (.eq (.eq (.un (.un (.nil)))))))))) (fun s35 => (xs_ifM (Γm := fun (s39 : Unit) => [.val rS x.1, .val (rL rS) x.2, .val (rL (rL rI)) rows8, .val (rL rI) triple9, .val (rO (rT g.K (sAll (rT g.K (sCons rI (sOne rI)))))) told18, .val (rO (rT g.K (sAll (rT g.K (sCons rI (sOne rI)))))) again19, .un, .un]) (tm_w (wm_or (XTV.toM (𝓜 := pureMd) (t_not (t_val (x_isi (f := (fun o : (Option (List (Int × Int))) => o.isSome)) (x_v (i := 4) (.s (.s (.s (.s .z))))) (ty_O ty_T) (fun x => match x with | none => (by decide : kitB "NoneType" "tuple" = some false) | some _ => (by decide : kitB "tuple" "tuple" = some true)) b_isinstance b_tuple bt_isinstance bt_tuple)))) (wm_or1 (tm_cmp (f := fun (i : Int) (j : Int) => (some (!decide (i = j)))) (fun _ _ => op_ne) rv_neI.p (xm_cB (f := fun (i : (List (Int × Int))) => some ((i.length : Int))) lenB (RC.pp rc_lenT) b_len bt_len (am_one (XV.the (𝓜 := pureMd) (x_v (i := 4) (.s (.s (.s (.s .z)))))))) (XV.toM (𝓜 := pureMd) (x_cB (f := fun (i : (List (List Nat))) => (i.length : Int)) lenB rc_lenL b_len bt_len (a_one (x_v (i := 1) (.s .z))))) (nomark _))))) (xs_ret x_bl) (xs_nil (.eq (.eq (.eq (.eq (.eq (.eq (.un (.un (.nil)))))))))) (fun s39 => (xs_for (Γs := fun (s40 : Unit) => [.val rS x.1, .val (rL rS) x.2, .val (rL (rL rI)) rows8, .val (rL rI) triple9, .val (rO (rT g.K (sAll (rT g.K (sCons rI (sOne rI)))))) told18, .val (rO (rT g.K (sAll (rT g.K (sCons rI (sOne rI)))))) again19, .un, .un]) (Γb := fun fracti41 s40 => [.val rS x.1, .val (rL rS) x.2, .val (rL (rL rI)) rows8, .val (rL rI) triple9, .val (rO (rT g.K (sAll (rT g.K (sCons rI (sOne rI)))))) told18, .val (rO (rT g.K (sAll (rT g.K (sCons rI (sOne rI)))))) again19, .val (rT g.K (sCons rI (sOne rI))) fracti41, .un]) (s0 := ()) (ws := [6]) (i_tup (XV.the (𝓜 := pureMd) (x_v (i := 4) (.s (.s (.s (.s .z))))))) (fun fracti41 s40 => (g_n (i := 6) (.s (.s (.s (.s (.s (.s .z)))))))) (fun fracti41 s40 => (xs_ifM (Γm := fun (s43 : Unit) => [.val rS x.1, .val (rL rS) x.2, .val (rL (rL rI)) rows8, .val (rL rI) triple9, .val (rO (rT g.K (sAll (rT g.K (sCons rI (sOne rI)))))) told18, .val (rO (rT g.K (sAll (rT g.K (sCons rI (sOne rI)))))) again19, .val (rT g.K (sCons rI (sOne rI))) fracti41, .un]) (tm_w (wm_or (XTV.toM (𝓜 := pureMd) (t_not (t_val (x_isi (f := (fun _ => true)) (x_v (i := 6) (.s (.s (.s (.s (.s (.s .z))))))) ty_T (fun _ => by decide) b_isinstance b_tuple bt_isinstance bt_tuple)))) (wm_or (XTV.toM (𝓜 := pureMd) (t_cmp (f := fun (i : Int) (j : Int) => (!decide (i = j))) (fun _ _ => op_ne) rv_neI (x_cB (f := fun (i : (Int × Int)) => ((2 : Nat) : Int)) lenB (rc_lenTk (n_cons n_one)) b_len bt_len (a_one (x_v (i := 6) (.s (.s (.s (.s (.s (.s .z))))))))) x_int (nomark _))) (wm_or1 (tm_not (tm_val (xm_c F__law_is_lowest (Nat.le_of_ble_eq_true rfl) (XAV.toM (𝓜 := pureMd) (a_cons (x_ix (f := fun (i : (Int × Int)) (j : Int) => i.1) ixT (rv_item (j := 0) .z) (x_v (i := 6) (.s (.s (.s (.s (.s (.s .z))))))) x_intk) (a_one (x_ix (f := fun (i : (Int × Int)) (j : Int) => i.2) ixT (rv_item (j := 1) (.s .one)) (x_v (i := 6) (.s (.s (.s (.s (.s (.s .z))))))) x_intk))))))))))) (xs_ret x_bl) (xs_nil (.eq (.eq (.eq (.eq (.eq (.eq (.eq (.un (.nil)))))))))) (fun s43 => (xs_nil (.eq (.eq (.eq (.eq (.eq (.eq (.un (.un (.nil))))))))))))) (.eq (.eq (.eq (.eq (.eq (.eq (.un (.un (.nil))))))))) (fun s40 => (xs_retM (xm_c F__law_gives (Nat.le_of_ble_eq_true rfl) (am_cons (XV.the (𝓜 := pureMd) (x_v (i := 4) (.s (.s (.s (.s .z)))))) (am_cons (XV.toM (𝓜 := pureMd) (x_v (i := 2) (.s (.s .z)))) (am_one (XV.toM (𝓜 := pureMd) (x_v (i := 3) (.s (.s (.s .z)))))))))))))))))))))))
def _law_own_right_m (x : (List (List Nat))) : pureMd.M Bool :=
  retM pureMd (S := Unit) (L := Unit) ((bndF (S := Unit) pureMd (pureMd.bnd (pureMd.bnd (pureMd.ret (x.length : Int)) fun n1 => pureMd.lft (rangeM n1)) fun l19 => forL pureMd (fun (at3 : Int) (s2 : Unit) => (pureMd.bnd (pureMd.bnd (pureMd.bnd (pureMd.bnd (pureMd.ret (x.length : Int)) fun n4 => pureMd.lft (rangeM n4)) fun l6 => lcM pureMd (fun (_ : Int) => pureMd.ret true) (fun (k5 : Int) => (pureMd.ret ((if (decide (k5 = at3)) = true then 1 else 0), (1 : Int)))) l6) fun u7 => pureMd.lft (some u7)) fun due8 => (bndF (S := Unit) pureMd (iteM pureMd (pureMd.bnd (pureMd.bnd (pureMd.bnd (pureMd.bnd (pureMd.bnd (pureMd.ret x) fun a9 => pureMd.bnd (pureMd.ret at3) fun b10 => pureMd.lft (atI a9 b10)) fun x11 => pureMd.bnd (pureMd.ret x) fun y12 => pureMd.ret (x11, y12)) fun q13 => pureMd.lft (factors_m q13)) fun u14 => pureMd.lft (reprM (dd2 u14))) fun a16 => pureMd.bnd (pureMd.bnd (pureMd.ret due8) fun u15 => pureMd.lft (reprM (dd4 u15))) fun b17 => pureMd.lft (some (!decide (a16 = b17)))) (pureMd.ret (.rt false)) (pureMd.ret (.nx ()))) fun s18 => (pureMd.ret (.nx ()))))) l19 ()) fun s2 => (pureMd.ret (.rt true))) : pureMd.M (Fl Unit Unit Bool))
abbrev s__law_own_right : Stmt := topS 23
theorem sc__law_own_right : FnScope ["_law_some", "_law_at", "_law_due", "_law_k"] ["_law_some"] (defScope s__law_own_right) := ⟨rfl, rfl, rfl, by decide +kernel, rfl, by decide +kernel, by decide +kernel⟩
theorem ok__law_own_right {g : Glb} (D : Def g "_law_own_right" s__law_own_right ["_law_some"]) (F_factors : Fn g "factors" ["text", "texts"] 4 (spP (sCons rS (sOne (rT g.K (sAll rS)))) (rO (rT g.K (sAll (rT g.K (sCons rI (sOne rI)))))) factors_m)) (b_int : g.mg "int" = none) (b_len : g.mg "len" = none) (b_range : g.mg "range" = none) (b_repr : g.mg "repr" = none) (b_tuple : g.mg "tuple" = none) (hgd : g.gd = true) : Fn g "_law_own_right" ["_law_some"] 5 (spP (sOne (rL rS)) rB _law_own_right_m) :=
  fn_pure D sc__law_own_right (fun H vs x h => by obtain ⟨v0, e0, h0⟩ := h; subst e0; rfl) (Γ := fun x => [.val (rL rS) x, .un, .un, .un]) (Γn := fun (_ : Unit) => [.un, .un, .un, .un]) (Γl := fun (_ : Unit) => []) (fun B G H vs x h => by obtain ⟨v0, e0, h0⟩ := h; subst e0; exact ⟨⟨v0, rfl, h0⟩, trivial, trivial, trivial, trivial⟩) (by intro x i s h; exact noown_of (by rfl) h) (fun x => (xs_for (Γs := fun (s2 : Unit) => [.val (rL rS) x, .un, .un, .un]) (Γb := fun at3 s2 => [.val (rL rS) x, .val rI at3, .un, .un]) (s0 := ()) (ws := [1]) (i_rng1 b_range (XV.toM (𝓜 := pureMd) (x_cB (f := fun (i : (List (List Nat))) => (i.length : Int)) lenB rc_lenL b_len bt_len (a_one (x_v (i := 0) (.z)))))) (fun at3 s2 => (g_n (i := 1) (.s .z))) (fun at3 s2 => (xs_stM (i := 2) (Γ' := fun due8 => [.val (rL rS) x, .val rI at3, .val (rT g.K (sAll (rT g.K (sCons rI (sOne rI))))) due8, .un]) (xm_cTy (f := fun (i : (List (Int × Int))) => some (i)) tupTy (RC.pp rc_tupL) b_tuple bt_tuple (am_one (XF.v (xf_c (own := [("_law_k", 3)]) (ws := [3]) (Γ0 := [.val (rL rS) x, .val rI at3, .un, .un]) (Γb := fun k5 => [.val (rL rS) x, .val rI at3, .un, .val rI k5]) (i_rng1 b_range (XV.toM (𝓜 := pureMd) (x_cB (f := fun (i : (List (List Nat))) => (i.length : Int)) lenB rc_lenL b_len bt_len (a_one (x_v (i := 0) (.z)))))) (.eq (.eq (.un (.un (.nil))))) (uns_cons (.s (.s (.s .z))) uns_nil) (fun k5 => (g_b (i := 3) (.s (.s (.s .z))))) (fun k5 => (XV.toM (𝓜 := pureMd) (x_tup (a_cons (x_cTy (f := fun (i : Bool) => (if i = true then 1 else 0)) intTy rc_intB b_int bt_int (a_one (x_cmp (f := fun (i : Int) (j : Int) => (decide (i = j))) (fun _ _ => op_eq) rv_eqI (x_v (i := 3) (.s (.s (.s .z)))) (x_v (i := 1) (.s .z)) (nomark _)))) (a_one x_int)) (z_of (zk_cons (zk_one (Nat.le_refl 1))))))))))) (fun due8 => (.s (.s .z))) (fun due8 => (xs_ifM (Γm := fun (s18 : Unit) => [.val (rL rS) x, .val rI at3, .val (rT g.K (sAll (rT g.K (sCons rI (sOne rI))))) due8, .un]) (tm_cmp (f := fun (i : (List Nat)) (j : (List Nat)) => (some (!decide (i = j)))) (fun _ _ => op_ne) rv_neS.p (xm_cB (f := fun (i : (Option (List (Int × Int)))) => (reprM (dd2 i))) (reprB hgd) (rp_repr dp2) b_repr bt_repr (am_one (xm_c F_factors (Nat.le_of_ble_eq_true rfl) (am_cons (xm_ix (f := fun (i : (List (List Nat))) (j : Int) => (atI i j)) ixL rp_ixL (XV.toM (𝓜 := pureMd) (x_v (i := 0) (.z))) (XV.toM (𝓜 := pureMd) (x_v (i := 1) (.s .z)))) (am_one (XV.toM (𝓜 := pureMd) (x_cTy (f := fun (i : (List (List Nat))) => i) tupTy rc_tupL b_tuple bt_tuple (a_one (x_v (i := 0) (.z)))))))))) (xm_cB (f := fun (i : (List (Int × Int))) => (reprM (dd4 i))) (reprB hgd) (rp_repr dp4) b_repr bt_repr (am_one (XV.toM (𝓜 := pureMd) (x_v (i := 2) (.s (.s .z)))))) (nomark _)) (xs_ret x_bl) (xs_nil (.eq (.eq (.eq (.un (.nil)))))) (fun s18 => (xs_nil (.eq (.un (.un (.un (.nil))))))))))) (.eq (.un (.un (.un (.nil))))) (fun s2 => (xs_ret x_bl))))
def _law_bag_m (x : (List Int)) : pureMd.M Dk :=
  retM pureMd (S := Unit) (L := Unit) ((lt (40093 : Int) fun mixed1 => (bndF (S := Int) pureMd (pureMd.bnd (pureMd.ret (cut x none (some (63 : Int)))) fun l10 => forL pureMd (fun (cell3 : Int) (s2 : Int) => (lt ((((s2 * (69621 : Int)) + (cell3 % (2147483629 : Int))) + (47 : Int)) % (2147483587 : Int)) fun mixed4 => (pureMd.ret (.nx mixed4)))) l10 mixed1) fun s2 => (pureMd.bnd (pureMd.bnd (pureMd.bnd (pureMd.ret (cut x none (some (63 : Int)))) fun l6 => lcM pureMd (fun (cell5 : Int) => (pureMd.ret (decide (((10 : Int) ^ ((18 : Int)).toNat) ≤ cell5)))) (fun (cell5 : Int) => (pureMd.ret cell5)) l6) fun z => pureMd.ret z.reverse) fun c7 => pureMd.bnd (pureMd.ret s2) fun m8 => pureMd.bnd (pureMd.ret (0 : Int)) fun n9 => pureMd.ret (.rt ⟨c7, m8, n9⟩)))) : pureMd.M (Fl Unit Unit Dk))
abbrev s__law_bag : Stmt := topS 12
theorem sc__law_bag : FnScope ["_law_script", "_law_mixed", "_law_cell", "."] ["_law_script"] (defScope s__law_bag) := ⟨rfl, rfl, rfl, by decide +kernel, rfl, by decide +kernel, by decide +kernel⟩
theorem ok__law_bag {g : Glb} (D : Def g "_law_bag" s__law_bag ["_law_script"])  (b_int : g.mg "int" = none) : Fn g "_law_bag" ["_law_script"] 1 (spMk (sOne (rLK g.K rI)) _law_bag_m) :=
  fn_mk D sc__law_bag (fun H vs x h => by obtain ⟨v0, e0, h0⟩ := h; subst e0; rfl) (Γ := fun B0 x => [.val (rLK g.K rI) x, .un, .un, .base B0]) (Γn := fun (_ : Unit) => [.un, .un, .un, .un]) (Γl := fun (_ : Unit) => []) (fun G H vs x h => by obtain ⟨v0, e0, h0⟩ := h; subst e0; exact ⟨⟨v0, rfl, h0⟩, trivial, trivial, rfl, trivial⟩) (by intro B0 x i s h; exact noown_of (by rfl) h) (fun B0 x => (xs_st (i := 1) (Γ' := fun mixed1 => [.val (rLK g.K rI) x, .val rI mixed1, .un, .base B0]) x_int (fun mixed1 => (.s .z)) (fun mixed1 => (xs_for (Γs := fun (s2 : Int) => [.val (rLK g.K rI) x, .val rI s2, .un, .base B0]) (Γb := fun cell3 s2 => [.val (rLK g.K rI) x, .val rI s2, .val rI cell3, .base B0]) (s0 := mixed1) (ws := [2]) (i_list (XV.toM (𝓜 := pureMd) (XFV.v (xf_slLK (x_v (i := 0) (.z)) o_none (o_some x_int))))) (fun cell3 s2 => (g_n (i := 2) (.s (.s .z)))) (fun cell3 s2 => (xs_st (i := 1) (Γ' := fun mixed4 => [.val (rLK g.K rI) x, .val rI mixed4, .val rI cell3, .base B0]) (x_bin (f := fun (i : Int) (j : Int) => (i % j)) (fun _ _ => op_mod) (rv_modB (by decide)) (x_cTy (f := fun (i : Int) => i) intTy rc_int b_int bt_int (a_one (x_bin (f := fun (i : Int) (j : Int) => (i + j)) (fun _ _ => op_add) rv_I0 (x_bin (f := fun (i : Int) (j : Int) => (i + j)) (fun _ _ => op_add) rv_I0 (x_bin (f := fun (i : Int) (j : Int) => (i * j)) (fun _ _ => op_mul) (rv_mulB (by decide)) (x_v (i := 1) (.s .z)) x_intk) (x_bin (f := fun (i : Int) (j : Int) => (i % j)) (fun _ _ => op_mod) (rv_modB (by decide)) (x_cTy (f := fun (i : Int) => i) intTy rc_int b_int bt_int (a_one (x_v (i := 2) (.s (.s .z))))) x_intk)) x_int))) x_intk) (fun mixed4 => (.s .z)) (fun mixed4 => (xs_nil (.eq (.eq (.un (.eq (.nil))))))))) (.eq (.eq (.un (.eq (.nil))))) (fun s2 => (xs_retDk (.s (.s (.s .z))) (xfm_rev (XF.v (xf_cIf (own := [("_law_cell", 2)]) (ws := [2]) (Γ0 := [.val (rLK g.K rI) x, .val rI s2, .un, .base B0]) (Γb := fun cell5 => [.val (rLK g.K rI) x, .val rI s2, .val rI cell5, .base B0]) (i_list (XV.toM (𝓜 := pureMd) (XFV.v (xf_slLK (x_v (i := 0) (.z)) o_none (o_some x_int))))) (.eq (.eq (.un (.eq (.nil))))) (uns_cons (.s (.s .z)) uns_nil) (fun cell5 => (g_b (i := 2) (.s (.s .z)))) (fun cell5 => (XTV.toM (𝓜 := pureMd) (t_cmp (f := fun (i : Int) (j : Int) => (decide (j ≤ i))) (fun _ _ => op_ge) rv_B0 (x_v (i := 2) (.s (.s .z))) (x_bin (f := fun (i : Int) (j : Int) => i ^ j.toNat) (fun _ _ => op_pow) (rv_powK (a := 10) (b := 18) (by decide)) x_intk x_intk) (nomark _)))) (fun cell5 => (XV.toM (𝓜 := pureMd) (x_v (i := 2) (.s (.s .z)))))))) (XV.toM (𝓜 := pureMd) (x_v (i := 1) (.s .z))) (XV.toM (𝓜 := pureMd) x_int)))))))
def _law_out_m (x : Int) : dkL.M Int :=
  retM dkL (S := Unit) (L := Unit) ((bndF (S := Unit) dkL (iteM dkL dAny (dkL.bnd dPop fun cell2 => (bndF (S := Unit) dkL (ifB (decide (x ≤ cell2)) (dkL.bnd (dkL.bnd (dkL.ret cell2) fun a4 => dkL.bnd (dkL.ret x) fun b5 => dkL.lft (divW a4 b5)) fun a6 => dkL.bnd (dPush a6) fun _ => (dkL.ret (.nx ()))) (dkL.ret (.nx ()))) fun s3 => (dkL.bnd (dkL.bnd (dkL.ret cell2) fun a7 => dkL.bnd (dkL.ret x) fun b8 => dkL.lft (modM a7 b8)) fun r9 => dkL.ret (.rt r9)))) (dkL.ret (.nx ()))) fun s1 => (dkL.bnd (dkL.bnd dNum fun a10 => dkL.bnd (dkL.ret (1 : Int)) fun b11 => dkL.lft (some (a10 + b11))) fun a39 => dkL.bnd (dSetNum a39) fun _ => (dkL.bnd (dkL.bnd (dkL.bnd (dkL.bnd (dkL.bnd dMix fun a16 => dkL.bnd (dkL.bnd (dkL.bnd (dkL.ret (50021 : Int)) fun a12 => dkL.bnd dNum fun b13 => dkL.lft (some (a12 * b13))) fun a14 => dkL.bnd dNum fun b15 => dkL.lft (mulM a14 b15)) fun b17 => dkL.lft (some (a16 + b17))) fun a18 => dkL.bnd (dkL.ret (40692 : Int)) fun b19 => dkL.lft (some (a18 * b19))) fun u20 => dkL.lft (some u20)) fun a21 => dkL.bnd (dkL.ret (2147483399 : Int)) fun b22 => dkL.lft (some (a21 % b22))) fun mixed23 => (dkL.bnd (dkL.bnd (dkL.bnd (dkL.bnd (dkL.bnd (dkL.bnd (dkL.ret mixed23) fun a24 => dkL.bnd (dkL.ret mixed23) fun b25 => dkL.lft (mulM a24 b25)) fun a28 => dkL.bnd (dkL.bnd (dkL.ret (39373 : Int)) fun a26 => dkL.bnd dNum fun b27 => dkL.lft (some (a26 * b27))) fun b29 => dkL.lft (some (a28 + b29))) fun a30 => dkL.bnd (dkL.ret (47 : Int)) fun b31 => dkL.lft (some (a30 + b31))) fun u32 => dkL.lft (some u32)) fun a33 => dkL.bnd (dkL.ret (2147483647 : Int)) fun b34 => dkL.lft (some (a33 % b34))) fun mixed35 => (dkL.bnd (dkL.bnd (dkL.ret (mixed35 / (64 : Int))) fun a36 => dkL.bnd (dkL.ret x) fun b37 => dkL.lft (modM a36 b37)) fun r38 => dkL.ret (.rt r38)))))) : dkL.M (Fl Unit Unit Int))
abbrev s__law_out : Stmt := topS 13
theorem sc__law_out : FnScope ["_law_bag_here", "_law_many", "_law_cell", "_law_mixed"] ["_law_bag_here", "_law_many"] (defScope s__law_out) := ⟨rfl, rfl, rfl, by decide +kernel, rfl, by decide +kernel, by decide +kernel⟩
theorem ok__law_out {g : Glb} (D : Def g "_law_out" s__law_out ["_law_bag_here", "_law_many"])  (b_int : g.mg "int" = none) : Fn g "_law_out" ["_law_bag_here", "_law_many"] 1 (spD dkL (sOne rI) rI _law_out_m) :=
  fn_cells (𝓜 := dkL) D sc__law_out (fun H vs x h => by obtain ⟨v0, e0, h0⟩ := h; subst e0; rfl) (Γ := fun x => [.dk, .val rI x, .un, .un]) (Γn := fun (_ : Unit) => [.un, .un, .un, .un]) (Γl := fun (_ : Unit) => []) (fun C a r B G H vs x eC h => by obtain ⟨v0, e0, h0⟩ := h; subst e0; exact ⟨⟨a, r, eC, rfl⟩, ⟨v0, rfl, h0⟩, trivial, trivial, trivial⟩) (fun _ => rfl) (by intro x i s h; exact noown_of (by rfl) h) (fun x => (xs_ifM (Γm := fun (s1 : Unit) => [.dk, .val rI x, .un, .un]) (t_dAny (i := 0) (.z)) (xs_stM (i := 2) (Γ' := fun cell2 => [.dk, .val rI x, .val rI cell2, .un]) (x_dPop (i := 0) (.z)) (fun cell2 => (.s (.s .z))) (fun cell2 => (xs_if (Γm := fun (s3 : Unit) => [.dk, .val rI x, .val rI cell2, .un]) (t_cmp (f := fun (i : Int) (j : Int) => (decide (j ≤ i))) (fun _ _ => op_ge) rv_B0 (x_v (i := 2) (.s (.s .z))) (x_v (i := 1) (.s .z)) (nomark _)) (xs_dPush (i := 0) (.z) (xm_bin (f := fun (i : Int) (j : Int) => (divW i j)) (fun _ _ => op_fdivW) rp_divW (XV.toM (𝓜 := dkL) (x_v (i := 2) (.s (.s .z)))) (XV.toM (𝓜 := dkL) (x_v (i := 1) (.s .z)))) (xs_nil (.eq (.eq (.eq (.un (.nil))))))) (xs_nil (.eq (.eq (.eq (.un (.nil)))))) (fun s3 => (xs_retM (xm_bin (f := fun (i : Int) (j : Int) => (modM i j)) (fun _ _ => op_mod) rp_mod (XV.toM (𝓜 := dkL) (x_cTy (f := fun (i : Int) => i) intTy rc_int b_int bt_int (a_one (x_v (i := 2) (.s (.s .z)))))) (XV.toM (𝓜 := dkL) (x_v (i := 1) (.s .z))))))))) (xs_nil (.eq (.eq (.un (.un (.nil)))))) (fun s1 => (xs_dSetNum (i := 0) (.z) (xm_bin (f := fun (i : Int) (j : Int) => (some (i + j))) (fun _ _ => op_add) rv_I0.p (x_dNum (i := 0) (.z)) (XV.toM (𝓜 := dkL) x_int)) (xs_stM (i := 3) (Γ' := fun mixed23 => [.dk, .val rI x, .un, .val rI mixed23]) (xm_bin (f := fun (i : Int) (j : Int) => (some (i % j))) (fun _ _ => op_mod) (rv_modB (by decide)).p (xm_cTy (f := fun (i : Int) => some (i)) intTy (RC.pp rc_int) b_int bt_int (am_one (xm_bin (f := fun (i : Int) (j : Int) => (some (i * j))) (fun _ _ => op_mul) (rp_mulB (by decide)) (xm_bin (f := fun (i : Int) (j : Int) => (some (i + j))) (fun _ _ => op_add) rv_I0.p (x_dMix (i := 0) (.z)) (xm_bin (f := fun (i : Int) (j : Int) => (mulM i j)) (fun _ _ => op_mulW) rp_mul (xm_bin (f := fun (i : Int) (j : Int) => (some (i * j))) (fun _ _ => op_mul) (rp_mulA (by decide)) (XV.toM (𝓜 := dkL) x_intk) (x_dNum (i := 0) (.z))) (x_dNum (i := 0) (.z)))) (XV.toM (𝓜 := dkL) x_intk)))) (XV.toM (𝓜 := dkL) x_intk)) (fun mixed23 => (.s (.s (.s .z)))) (fun mixed23 => (xs_stM (i := 3) (Γ' := fun mixed35 => [.dk, .val rI x, .un, .val rI mixed35]) (xm_bin (f := fun (i : Int) (j : Int) => (some (i % j))) (fun _ _ => op_mod) (rv_modB (by decide)).p (xm_cTy (f := fun (i : Int) => some (i)) intTy (RC.pp rc_int) b_int bt_int (am_one (xm_bin (f := fun (i : Int) (j : Int) => (some (i + j))) (fun _ _ => op_add) rv_I0.p (xm_bin (f := fun (i : Int) (j : Int) => (some (i + j))) (fun _ _ => op_add) rv_I0.p (xm_bin (f := fun (i : Int) (j : Int) => (mulM i j)) (fun _ _ => op_mulW) rp_mul (XV.toM (𝓜 := dkL) (x_v (i := 3) (.s (.s (.s .z))))) (XV.toM (𝓜 := dkL) (x_v (i := 3) (.s (.s (.s .z)))))) (xm_bin (f := fun (i : Int) (j : Int) => (some (i * j))) (fun _ _ => op_mul) (rp_mulA (by decide)) (XV.toM (𝓜 := dkL) x_intk) (x_dNum (i := 0) (.z)))) (XV.toM (𝓜 := dkL) x_int)))) (XV.toM (𝓜 := dkL) x_intk)) (fun mixed35 => (.s (.s (.s .z)))) (fun mixed35 => (xs_retM (xm_bin (f := fun (i : Int) (j : Int) => (modM i j)) (fun _ _ => op_mod) rp_mod (XV.toM (𝓜 := dkL) (x_cTy (f := fun (i : Int) => i) intTy rc_int b_int bt_int (a_one (x_bin (f := fun (i : Int) (j : Int) => (i / j)) (fun _ _ => op_fdiv) (rv_divB (by decide)) (x_v (i := 3) (.s (.s (.s .z)))) x_intk)))) (XV.toM (𝓜 := dkL) (x_v (i := 1) (.s .z)))))))))))))
def _law_of_m (x : (List Int)) : dkL.M Int :=
  retM dkL (S := Unit) (L := Unit) ((dkL.bnd (dkL.bnd (dkL.ret x) fun a2 => dkL.bnd (dkL.bnd (dkL.ret (x.length : Int)) _law_out_m) fun b3 => dkL.lft (atI a2 b3)) fun r4 => dkL.ret (.rt r4)) : dkL.M (Fl Unit Unit Int))
abbrev s__law_of : Stmt := topS 14
theorem sc__law_of : FnScope ["_law_bag_here", "_law_some"] ["_law_bag_here", "_law_some"] (defScope s__law_of) := ⟨rfl, rfl, rfl, by decide +kernel, rfl, by decide +kernel, by decide +kernel⟩
theorem ok__law_of {g : Glb} (D : Def g "_law_of" s__law_of ["_law_bag_here", "_law_some"]) (F__law_out : Fn g "_law_out" ["_law_bag_here", "_law_many"] 1 (spD dkL (sOne rI) rI _law_out_m)) (b_len : g.mg "len" = none) : Fn g "_law_of" ["_law_bag_here", "_law_some"] 2 (spD dkL (sOne (rL rI)) rI _law_of_m) :=
  fn_cells (𝓜 := dkL) D sc__law_of (fun H vs x h => by obtain ⟨v0, e0, h0⟩ := h; subst e0; rfl) (Γ := fun x => [.dk, .val (rL rI) x]) (Γn := fun (_ : Unit) => [.un, .un]) (Γl := fun (_ : Unit) => []) (fun C a r B G H vs x eC h => by obtain ⟨v0, e0, h0⟩ := h; subst e0; exact ⟨⟨a, r, eC, rfl⟩, ⟨v0, rfl, h0⟩, trivial⟩) (fun _ => rfl) (by intro x i s h; exact noown_of (by rfl) h) (fun x => (xs_retM (xm_ix (f := fun (i : (List Int)) (j : Int) => (atI i j)) ixL rp_ixL (XV.toM (𝓜 := dkL) (x_v (i := 1) (.s .z))) (xm_cD (i := 0) F__law_out (Nat.le_of_ble_eq_true rfl) (.z) (XAV.toM (𝓜 := dkL) (a_one (x_cB (f := fun (i : (List Int)) => (i.length : Int)) lenB rc_lenL b_len bt_len (a_one (x_v (i := 1) (.s .z))))))))))
def _law_of__1_m (x : (List Nat)) : dkL.M (List Nat) :=
  retM dkL (S := Unit) (L := Unit) ((dkL.bnd (dkL.bnd (dkL.ret x) fun a2 => dkL.bnd (dkL.bnd (dkL.ret (x.length : Int)) _law_out_m) fun b3 => dkL.lft (ixS a2 b3)) fun r4 => dkL.ret (.rt r4)) : dkL.M (Fl Unit Unit (List Nat)))
theorem ok__law_of__1 {g : Glb} (D : Def g "_law_of" s__law_of ["_law_bag_here", "_law_some"]) (F__law_out : Fn g "_law_out" ["_law_bag_here", "_law_many"] 1 (spD dkL (sOne rI) rI _law_out_m)) (b_len : g.mg "len" = none) : Fn g "_law_of" ["_law_bag_here", "_law_some"] 2 (spD dkL (sOne rS) rS _law_of__1_m) :=
  fn_cells (𝓜 := dkL) D sc__law_of (fun H vs x h => by obtain ⟨v0, e0, h0⟩ := h; subst e0; rfl) (Γ := fun x => [.dk, .val rS x]) (Γn := fun (_ : Unit) => [.un, .un]) (Γl := fun (_ : Unit) => []) (fun C a r B G H vs x eC h => by obtain ⟨v0, e0, h0⟩ := h; subst e0; exact ⟨⟨a, r, eC, rfl⟩, ⟨v0, rfl, h0⟩, trivial⟩) (fun _ => rfl) (by intro x i s h; exact noown_of (by rfl) h) (fun x => (xs_retM (xm_ix (f := fun (i : (List Nat)) (j : Int) => (ixS i j)) ixSt rp_ixS (XV.toM (𝓜 := dkL) (x_v (i := 1) (.s .z))) (xm_cD (i := 0) F__law_out (Nat.le_of_ble_eq_true rfl) (.z) (XAV.toM (𝓜 := dkL) (a_one (x_cB (f := fun (i : (List Nat)) => (i.length : Int)) lenBS rc_lenS b_len bt_len (a_one (x_v (i := 1) (.s .z))))))))))
def _law_text_m (x : (List Nat) × Int) : dkL.M (List Nat) :=
  retM dkL (S := Unit) (L := Unit) ((lt lit0 fun found1 => (bndF (S := (List Nat)) dkL (dkL.bnd (dkL.bnd (dkL.ret x.2) fun n2 => dkL.lft (rangeM n2)) fun l9 => forL dkL (fun (k4 : Int) (s3 : (List Nat)) => (dkL.bnd (dkL.bnd (dkL.ret s3) fun a6 => dkL.bnd (dkL.bnd (dkL.ret x.1) _law_of__1_m) fun b7 => dkL.lft (catS a6 b7)) fun found8 => (dkL.ret (.nx found8)))) l9 found1) fun s3 => (dkL.ret (.rt s3)))) : dkL.M (Fl Unit Unit (List Nat)))
abbrev s__law_text : Stmt := topS 15
theorem sc__law_text : FnScope ["_law_bag_here", "_law_signs", "_law_many", "_law_found", "_law_k"] ["_law_bag_here", "_law_signs", "_law_many"] (defScope s__law_text) := ⟨rfl, rfl, rfl, by decide +kernel, rfl, by decide +kernel, by decide +kernel⟩
theorem ok__law_text {g : Glb} (D : Def g "_law_text" s__law_text ["_law_bag_here", "_law_signs", "_law_many"]) (F__law_of__1 : Fn g "_law_of" ["_law_bag_here", "_law_some"] 2 (spD dkL (sOne rS) rS _law_of__1_m)) (b_range : g.mg "range" = none) : Fn g "_law_text" ["_law_bag_here", "_law_signs", "_law_many"] 3 (spD dkL (sCons rS (sOne rI)) rS _law_text_m) :=
  fn_cells (𝓜 := dkL) D sc__law_text (fun H vs x h => by obtain ⟨v0, w0, e0, h0, h⟩ := h; subst e0; obtain ⟨v1, e1, h1⟩ := h; subst e1; rfl) (Γ := fun x => [.dk, .val rS x.1, .val rI x.2, .un, .un]) (Γn := fun (_ : Unit) => [.un, .un, .un, .un, .un]) (Γl := fun (_ : Unit) => []) (fun C a r B G H vs x eC h => by obtain ⟨v0, w0, e0, h0, h⟩ := h; subst e0; obtain ⟨v1, e1, h1⟩ := h; subst e1; exact ⟨⟨a, r, eC, rfl⟩, ⟨v0, rfl, h0⟩, ⟨v1, rfl, h1⟩, trivial, trivial, trivial⟩) (fun _ => rfl) (by intro x i s h; exact noown_of (by rfl) h) (fun x => (xs_st (i := 3) (Γ' := fun found1 => [.dk, .val rS x.1, .val rI x.2, .val rS found1, .un]) (x_str litE0 (by decide)) (fun found1 => (.s (.s (.s .z)))) (fun found1 => (xs_for (Γs := fun (s3 : (List Nat)) => [.dk, .val rS x.1, .val rI x.2, .val rS s3, .un]) (Γb := fun k4 s3 => [.dk, .val rS x.1, .val rI x.2, .val rS s3, .val rI k4]) (s0 := found1) (ws := [4]) (i_rng1 b_range (XV.toM (𝓜 := dkL) (x_v (i := 2) (.s (.s .z))))) (fun k4 s3 => (g_n (i := 4) (.s (.s (.s (.s .z)))))) (fun k4 s3 => (xs_stM (i := 3) (Γ' := fun found8 => [.dk, .val rS x.1, .val rI x.2, .val rS found8, .val rI k4]) (xm_bin (f := fun (i : (List Nat)) (j : (List Nat)) => (catS i j)) (fun _ _ => op_add_str) rp_addS (XV.toM (𝓜 := dkL) (x_v (i := 3) (.s (.s (.s .z))))) (xm_cD (i := 0) F__law_of__1 (Nat.le_of_ble_eq_true rfl) (.z) (XAV.toM (𝓜 := dkL) (a_one (x_v (i := 1) (.s .z)))))) (fun found8 => (.s (.s (.s .z)))) (fun found8 => (xs_nil (.eq (.eq (.eq (.eq (.un (.nil)))))))))) (.eq (.eq (.eq (.eq (.un (.nil)))))) (fun s3 => (xs_ret (x_v (i := 3) (.s (.s (.s .z))))))))))
def _law_family_m (x : Unit) : dkL.M (Int × (List Nat) × (List Nat) × (List Nat) × Int) :=
  retM dkL (S := Unit) (L := Unit) ((dkL.bnd (dkL.bnd (dkL.bnd (dkL.ret (3 : Int)) fun n1 => dkL.lft (rangeM n1)) fun l7 => lcM dkL (fun (_ : Int) => dkL.ret true) (fun (k2 : Int) => (dkL.bnd (dkL.bnd (dkL.ret lit1) fun x4 => dkL.bnd (dkL.bnd (dkL.ret (4 : Int)) _law_out_m) fun y5 => dkL.ret (x4, y5)) _law_text_m)) l7) fun parts8 => (dkL.bnd (dkL.bnd (dkL.bnd (dkL.ret (4 : Int)) _law_out_m) fun x23 => dkL.bnd (dkL.bnd (dkL.bnd (dkL.ret parts8) fun a10 => dkL.bnd (dkL.ret (0 : Int)) fun b11 => dkL.lft (atI a10 b11)) fun x21 => dkL.bnd (dkL.bnd (dkL.bnd (dkL.ret parts8) fun a12 => dkL.bnd (dkL.ret (1 : Int)) fun b13 => dkL.lft (atI a12 b13)) fun x19 => dkL.bnd (dkL.bnd (dkL.bnd (dkL.ret parts8) fun a14 => dkL.bnd (dkL.ret (2 : Int)) fun b15 => dkL.lft (atI a14 b15)) fun x17 => dkL.bnd (dkL.bnd (dkL.ret (5 : Int)) _law_out_m) fun y18 => dkL.ret (x17, y18)) fun y20 => dkL.ret (x19, y20)) fun y22 => dkL.ret (x21, y22)) fun y24 => dkL.ret (x23, y24)) fun r25 => dkL.ret (.rt r25))) : dkL.M (Fl Unit Unit (Int × (List Nat) × (List Nat) × (List Nat) × Int)))
abbrev s__law_family : Stmt := topS 16
theorem sc__law_family : FnScope ["_law_bag_here", "_law_parts", "_law_k"] ["_law_bag_here"] (defScope s__law_family) := ⟨rfl, rfl, rfl, by decide +kernel, rfl, by decide +kernel, by decide +kernel⟩
theorem ok__law_family {g : Glb} (D : Def g "_law_family" s__law_family ["_law_bag_here"]) (F__law_text : Fn g "_law_text" ["_law_bag_here", "_law_signs", "_law_many"] 3 (spD dkL (sCons rS (sOne rI)) rS _law_text_m)) (F__law_out : Fn g "_law_out" ["_law_bag_here", "_law_many"] 1 (spD dkL (sOne rI) rI _law_out_m)) (b_range : g.mg "range" = none) : Fn g "_law_family" ["_law_bag_here"] 4 (spD dkL sNil (rT g.K (sCons rI (sCons rS (sCons rS (sCons rS (sOne rI)))))) _law_family_m) :=
  fn_cells (𝓜 := dkL) D sc__law_family (fun H vs x h => by cases h; rfl) (Γ := fun x => [.dk, .un, .un]) (Γn := fun (_ : Unit) => [.un, .un, .un]) (Γl := fun (_ : Unit) => []) (fun C a r B G H vs x eC h => by cases h; exact ⟨⟨a, r, eC, rfl⟩, trivial, trivial, trivial⟩) (fun _ => rfl) (by intro x i s h; exact noown_of (by rfl) h) (fun x => (xs_oLc (i := 1) (Γ' := fun parts8 => [.dk, .own rS parts8, .un]) (own := [("_law_k", 2)]) (ws := [2]) (Γ0 := [.dk, .un, .un]) (Γb := fun k2 => [.dk, .un, .val rI k2]) (i_rng1 b_range (XV.toM (𝓜 := dkL) x_int)) (.eq (.un (.un (.nil)))) (uns_cons (.s (.s .z)) uns_nil) (fun k2 => (g_b (i := 2) (.s (.s .z)))) (fun k2 => (xm_cD (i := 0) F__law_text (Nat.le_of_ble_eq_true rfl) (.z) (am_cons (XV.toM (𝓜 := dkL) (x_str litE1 (by decide))) (am_one (xm_cD (i := 0) F__law_out (Nat.le_of_ble_eq_true rfl) (.z) (XAV.toM (𝓜 := dkL) (a_one x_int))))))) (fun parts8 => (.s .z)) (fun parts8 => (xs_fix (.s .z) (.s .z) (xs_retM (xm_tup (am_cons (xm_cD (i := 0) F__law_out (Nat.le_of_ble_eq_true rfl) (.z) (XAV.toM (𝓜 := dkL) (a_one x_int))) (am_cons (xm_ix (f := fun (i : (List (List Nat))) (j : Int) => (atI i j)) ixL rp_ixL (XV.toM (𝓜 := dkL) (x_v (i := 1) (.s .z))) (XV.toM (𝓜 := dkL) x_int)) (am_cons (xm_ix (f := fun (i : (List (List Nat))) (j : Int) => (atI i j)) ixL rp_ixL (XV.toM (𝓜 := dkL) (x_v (i := 1) (.s .z))) (XV.toM (𝓜 := dkL) x_int)) (am_cons (xm_ix (f := fun (i : (List (List Nat))) (j : Int) => (atI i j)) ixL rp_ixL (XV.toM (𝓜 := dkL) (x_v (i := 1) (.s .z))) (XV.toM (𝓜 := dkL) x_int)) (am_one (xm_cD (i := 0) F__law_out (Nat.le_of_ble_eq_true rfl) (.z) (XAV.toM (𝓜 := dkL) (a_one x_int)))))))) (z_of (zk_cons (zk_cons (zk_cons (zk_cons (zk_one (Nat.le_refl 1)))))))))))))
def _law_member_m (x : (Int × (List Nat) × (List Nat) × (List Nat) × Int)) : dkL.M (List Nat) :=
  retM dkL (S := Unit) (L := Unit) ((lt x fun t1 => (bndF (S := Unit) dkL (ifB (decide (t1.1 < (2 : Int))) (dkL.bnd (dkL.bnd (dkL.bnd (dkL.bnd (dkL.ret t1.2.1) fun a3 => dkL.bnd (dkL.ret t1.1) fun b4 => dkL.lft (repS a3 b4)) fun a8 => dkL.bnd (dkL.bnd (dkL.ret t1.2.2.1) fun a6 => dkL.bnd (dkL.bnd (dkL.ret [(0 : Int), (1 : Int), (2 : Int), (3 : Int), (5 : Int), (40 : Int)]) _law_of_m) fun b7 => dkL.lft (repS a6 b7)) fun b9 => dkL.lft (catS a8 b9)) fun a12 => dkL.bnd (dkL.bnd (dkL.ret t1.2.2.2.1) fun a10 => dkL.bnd (dkL.ret t1.1) fun b11 => dkL.lft (repS a10 b11)) fun b13 => dkL.lft (catS a12 b13)) fun r14 => dkL.ret (.rt r14)) (dkL.ret (.nx ()))) fun s2 => (dkL.bnd (iteM dkL (dkL.ret (decide (t1.1 = (2 : Int)))) (dkL.bnd (dkL.ret (lit2, t1.2.2.2.2)) _law_text_m) (dkL.bnd (dkL.bnd (dkL.ret lit3) fun x17 => dkL.bnd (dkL.bnd (dkL.ret (7 : Int)) _law_out_m) fun y18 => dkL.ret (x17, y18)) _law_text_m)) fun r20 => dkL.ret (.rt r20)))) : dkL.M (Fl Unit Unit (List Nat)))
abbrev s__law_member : Stmt := topS 17
theorem sc__law_member : FnScope ["_law_bag_here", "_law_family_here", "_law_way", "_law_ahead", "_law_word", "_law_behind", "_law_length"] ["_law_bag_here", "_law_family_here"] (defScope s__law_member) := ⟨rfl, rfl, rfl, by decide +kernel, rfl, by decide +kernel, by decide +kernel⟩
theorem ok__law_member {g : Glb} (D : Def g "_law_member" s__law_member ["_law_bag_here", "_law_family_here"]) (F__law_of : Fn g "_law_of" ["_law_bag_here", "_law_some"] 2 (spD dkL (sOne (rL rI)) rI _law_of_m)) (F__law_text : Fn g "_law_text" ["_law_bag_here", "_law_signs", "_law_many"] 3 (spD dkL (sCons rS (sOne rI)) rS _law_text_m)) (F__law_out : Fn g "_law_out" ["_law_bag_here", "_law_many"] 1 (spD dkL (sOne rI) rI _law_out_m)) : Fn g "_law_member" ["_law_bag_here", "_law_family_here"] 4 (spD dkL (sOne (rT g.K (sCons rI (sCons rS (sCons rS (sCons rS (sOne rI))))))) rS _law_member_m) :=
  fn_cells (𝓜 := dkL) D sc__law_member (fun H vs x h => by obtain ⟨v0, e0, h0⟩ := h; subst e0; rfl) (Γ := fun x => [.dk, .val (rT g.K (sCons rI (sCons rS (sCons rS (sCons rS (sOne rI)))))) x, .un, .un, .un, .un, .un]) (Γn := fun (_ : Unit) => [.un, .un, .un, .un, .un, .un, .un]) (Γl := fun (_ : Unit) => []) (fun C a r B G H vs x eC h => by obtain ⟨v0, e0, h0⟩ := h; subst e0; exact ⟨⟨a, r, eC, rfl⟩, ⟨v0, rfl, h0⟩, trivial, trivial, trivial, trivial, trivial, trivial⟩) (fun _ => rfl) (by intro x i s h; exact noown_of (by rfl) h) (fun x => (xs_asg (Γ' := fun t1 => [.dk, .val (rT g.K (sCons rI (sCons rS (sCons rS (sCons rS (sOne rI)))))) x, .val rI t1.1, .val rS t1.2.1, .val rS t1.2.2.1, .val rS t1.2.2.2.1, .val rI t1.2.2.2.2]) (ws := [2, 3, 4, 5, 6]) (x_v (i := 1) (.s .z)) (fun t1 => (g_tup (g_cons (g_n (i := 2) (.s (.s .z))) (g_cons (g_n (i := 3) (.s (.s (.s .z)))) (g_cons (g_n (i := 4) (.s (.s (.s (.s .z))))) (g_cons (g_n (i := 5) (.s (.s (.s (.s (.s .z)))))) (g_one (g_n (i := 6) (.s (.s (.s (.s (.s (.s .z)))))))))))) (n_cons (n_cons (n_cons (n_cons n_one)))))) (fun t1 => (xs_if (Γm := fun (s2 : Unit) => [.dk, .val (rT g.K (sCons rI (sCons rS (sCons rS (sCons rS (sOne rI)))))) x, .val rI t1.1, .val rS t1.2.1, .val rS t1.2.2.1, .val rS t1.2.2.2.1, .val rI t1.2.2.2.2]) (t_cmp (f := fun (i : Int) (j : Int) => (decide (i < j))) (fun _ _ => op_lt) rv_B0 (x_v (i := 2) (.s (.s .z))) x_int (nomark _)) (xs_retM (xm_bin (f := fun (i : (List Nat)) (j : (List Nat)) => (catS i j)) (fun _ _ => op_add_str) rp_addS (xm_bin (f := fun (i : (List Nat)) (j : (List Nat)) => (catS i j)) (fun _ _ => op_add_str) rp_addS (xm_bin (f := fun (i : (List Nat)) (j : Int) => (repS i j)) (fun _ _ => op_mulS) rp_mulS (XV.toM (𝓜 := dkL) (x_v (i := 3) (.s (.s (.s .z))))) (XV.toM (𝓜 := dkL) (x_v (i := 2) (.s (.s .z))))) (xm_bin (f := fun (i : (List Nat)) (j : Int) => (repS i j)) (fun _ _ => op_mulS) rp_mulS (XV.toM (𝓜 := dkL) (x_v (i := 4) (.s (.s (.s (.s .z)))))) (xm_cD (i := 0) F__law_of (Nat.le_of_ble_eq_true rfl) (.z) (XAV.toM (𝓜 := dkL) (a_one (XFV.v (xf_lst (a_consL x_int (a_consL x_int (a_consL x_int (a_consL x_int (a_consL x_int (a_consL x_int a_nilL)))))) (Nat.le_of_ble_eq_true rfl)))))))) (xm_bin (f := fun (i : (List Nat)) (j : Int) => (repS i j)) (fun _ _ => op_mulS) rp_mulS (XV.toM (𝓜 := dkL) (x_v (i := 5) (.s (.s (.s (.s (.s .z))))))) (XV.toM (𝓜 := dkL) (x_v (i := 2) (.s (.s .z))))))) (xs_nil (.eq (.eq (.eq (.eq (.eq (.eq (.eq (.nil))))))))) (fun s2 => (xs_retM (xm_if (XTV.toM (𝓜 := dkL) (t_cmp (f := fun (i : Int) (j : Int) => (decide (i = j))) (fun _ _ => op_eq) rv_eqI (x_v (i := 2) (.s (.s .z))) x_int (nomark _))) (xm_cD (i := 0) F__law_text (Nat.le_of_ble_eq_true rfl) (.z) (XAV.toM (𝓜 := dkL) (a_cons (x_str litE2 (by decide)) (a_one (x_v (i := 6) (.s (.s (.s (.s (.s (.s .z))))))))))) (xm_cD (i := 0) F__law_text (Nat.le_of_ble_eq_true rfl) (.z) (am_cons (XV.toM (𝓜 := dkL) (x_str litE3 (by decide))) (am_one (xm_cD (i := 0) F__law_out (Nat.le_of_ble_eq_true rfl) (.z) (XAV.toM (𝓜 := dkL) (a_one x_int)))))))))))))
def law_m (x : (List Int)) : pureMd.M Bool :=
  retM pureMd (S := Unit) (L := Unit) ((pureMd.bnd (pureMd.ret x) fun x67 => pureMd.bnd (_law_bag_m x67) fun d68 => onlyRt (((bndF (S := Unit) dkL (iteM dkL (dkL.bnd (dkL.bnd (dkL.bnd (dkL.bnd (dkL.bnd (dkL.ret lit4) fun x2 => dkL.bnd (dkL.bnd (dkL.ret (3 : Int)) _law_out_m) fun y3 => dkL.ret (x2, y3)) _law_text_m) fun x5 => dkL.bnd (dkL.ret ([] : (List (List Nat)))) fun y6 => dkL.ret (x5, y6)) fun q7 => dkL.lft (factors_m q7)) fun a8 => dkL.bnd (dkL.ret ()) fun b9 => dkL.lft (some (a8.isSome))) (dkL.ret (.rt false)) (dkL.ret (.nx ()))) fun s10 => (bndF (S := Unit) dkL (dkL.bnd (dkL.bnd (dkL.ret (10 : Int)) fun n11 => dkL.lft (rangeM n11)) fun l66 => forL dkL (fun (turn13 : Int) (s12 : Unit) => (dkL.bnd (dkL.bnd (dkL.ret ()) _law_family_m) fun family15 => (dkL.bnd (dkL.bnd (dkL.bnd (dkL.bnd (dkL.ret [(0 : Int), (1 : Int), (2 : Int), (2 : Int), (3 : Int), (3 : Int), (4 : Int)]) _law_of_m) fun n17 => dkL.lft (rangeM n17)) fun l20 => lcM dkL (fun (_ : Int) => dkL.ret true) (fun (k18 : Int) => (dkL.bnd (dkL.ret family15) _law_member_m)) l20) fun some21 => (bndF (S := (List (List Nat))) dkL (iteM dkL (andM dkL (dkL.bnd (dkL.bnd (dkL.ret (3 : Int)) _law_out_m) fun a23 => dkL.bnd (dkL.ret (0 : Int)) fun b24 => dkL.lft (some (decide (a23 = b24)))) (dkL.bnd (dkL.ret some21) fun a25 => dkL.bnd (dkL.ret ([] : (List (List Nat)))) fun b26 => dkL.lft ((eqD (dd3 a25) (dd3 b26)).map (!·)))) (dkL.bnd (dkL.bnd (dkL.bnd (dkL.ret ()) _law_family_m) _law_member_m) fun a30 => dkL.bnd (dkL.ret (-(1 : Int))) fun j31 => dkL.bnd (dkL.lft (setI some21 j31 a30)) fun some32 => (dkL.ret (.nx some32))) (dkL.ret (.nx some21))) fun s27 => (bndF (S := (List (List Nat))) dkL (iteM dkL (andM dkL (dkL.bnd (dkL.bnd (dkL.ret (6 : Int)) _law_out_m) fun a34 => dkL.bnd (dkL.ret (0 : Int)) fun b35 => dkL.lft (some (decide (a34 = b35)))) (dkL.bnd (dkL.ret s27) fun a36 => dkL.bnd (dkL.ret ([] : (List (List Nat)))) fun b37 => dkL.lft ((eqD (dd3 a36) (dd3 b37)).map (!·)))) (dkL.bnd (dkL.bnd (dkL.ret s27) fun a39 => dkL.bnd (dkL.ret (0 : Int)) fun b40 => dkL.lft (atI a39 b40)) fun a41 => dkL.bnd (dkL.lft (okLen s27.length)) fun _ => (dkL.ret (.nx (s27 ++ [a41])))) (dkL.ret (.nx s27))) fun s38 => (dkL.bnd (iteM dkL (dkL.bnd (dkL.bnd (dkL.ret (3 : Int)) _law_out_m) fun a43 => dkL.bnd (dkL.ret (0 : Int)) fun b44 => dkL.lft (some (decide (b44 < a43)))) (dkL.bnd (dkL.ret family15) _law_member_m) (dkL.bnd (dkL.bnd (dkL.ret lit5) fun x47 => dkL.bnd (dkL.bnd (dkL.ret (9 : Int)) _law_out_m) fun y48 => dkL.ret (x47, y48)) _law_text_m)) fun phrase50 => (bndF (S := Unit) dkL (iteM dkL (notM dkL (dkL.bnd (dkL.ret (phrase50, s38)) fun q51 => dkL.lft (_law_right_m q51))) (dkL.ret (.rt false)) (dkL.ret (.nx ()))) fun s52 => (dkL.bnd (dkL.bnd (dkL.bnd (dkL.ret s38) fun l53 => dkL.ret (enumL l53)) fun l61 => lcM dkL (fun (at54 : (Int × (List Nat))) => (dkL.bnd (dkL.ret at54.1) fun a59 => dkL.bnd (dkL.bnd (dkL.bnd (dkL.ret s38) fun l57 => lcM dkL (fun (_ : (List Nat)) => dkL.ret true) (fun (two55 : (List Nat)) => (dkL.bnd (dkL.ret two55) fun q56 => dkL.lft (_law_triple_m q56))) l57) fun q58 => dkL.lft (_law_spare_m q58)) fun b60 => dkL.lft (some (!b60.contains a59)))) (fun (at54 : (Int × (List Nat))) => (dkL.ret at54.2)) l61) fun apart62 => (bndF (S := Unit) dkL (iteM dkL (orM dkL (notM dkL (dkL.bnd (dkL.ret (phrase50, apart62)) fun q63 => dkL.lft (_law_right_m q63))) (notM dkL (dkL.bnd (dkL.ret apart62) fun q64 => dkL.lft (_law_own_right_m q64)))) (dkL.ret (.rt false)) (dkL.ret (.nx ()))) fun s65 => (dkL.ret (.nx ()))))))))))) l66 ()) fun s12 => (dkL.ret (.rt true)))) : DkM (Fl Unit Unit Bool)) d68)) : pureMd.M (Fl Unit Unit Bool))
abbrev s_law : Stmt := topS 24
theorem sc_law : FnScope ["_law_script", "_law_bag_here", "_law_turn", "_law_family_here", "_law_some", "_law_phrase", "_law_apart", "_law_k", "_law_at", "_law_one", "_law_two"] ["_law_script"] (defScope s_law) := ⟨rfl, rfl, rfl, by decide +kernel, rfl, by decide +kernel, by decide +kernel⟩
theorem ok_law {g : Glb} (D : Def g "law" s_law ["_law_script"]) (F__law_bag : Fn g "_law_bag" ["_law_script"] 1 (spMk (sOne (rLK g.K rI)) _law_bag_m)) (F_factors : Fn g "factors" ["text", "texts"] 4 (spP (sCons rS (sOne (rT g.K (sAll rS)))) (rO (rT g.K (sAll (rT g.K (sCons rI (sOne rI)))))) factors_m)) (F__law_text : Fn g "_law_text" ["_law_bag_here", "_law_signs", "_law_many"] 3 (spD dkL (sCons rS (sOne rI)) rS _law_text_m)) (F__law_out : Fn g "_law_out" ["_law_bag_here", "_law_many"] 1 (spD dkL (sOne rI) rI _law_out_m)) (F__law_family : Fn g "_law_family" ["_law_bag_here"] 4 (spD dkL sNil (rT g.K (sCons rI (sCons rS (sCons rS (sCons rS (sOne rI)))))) _law_family_m)) (F__law_of : Fn g "_law_of" ["_law_bag_here", "_law_some"] 2 (spD dkL (sOne (rL rI)) rI _law_of_m)) (F__law_member : Fn g "_law_member" ["_law_bag_here", "_law_family_here"] 4 (spD dkL (sOne (rT g.K (sCons rI (sCons rS (sCons rS (sCons rS (sOne rI))))))) rS _law_member_m)) (F__law_right : Fn g "_law_right" ["_law_phrase", "_law_some"] 5 (spP (sCons rS (sOne (rL rS))) rB _law_right_m)) (F__law_spare : Fn g "_law_spare" ["_law_rows"] 1 (spP (sOne (rL (rL rI))) (rL rI) _law_spare_m)) (F__law_triple : Fn g "_law_triple" ["_law_phrase"] 1 (spP (sOne rS) (rL rI) _law_triple_m)) (F__law_own_right : Fn g "_law_own_right" ["_law_some"] 5 (spP (sOne (rL rS)) rB _law_own_right_m)) (b_enumerate : g.mg "enumerate" = none) (b_range : g.mg "range" = none) : Fn g "law" ["_law_script"] 6 (spP (sOne (rLK g.K rI)) rB law_m) :=
  fn_pure D sc_law (fun H vs x h => by obtain ⟨v0, e0, h0⟩ := h; subst e0; rfl) (Γ := fun x => [.val (rLK g.K rI) x, .un, .un, .un, .un, .un, .un, .un, .un, .un, .un]) (Γn := fun (_ : Unit) => [.un, .un, .un, .un, .un, .un, .un, .un, .un, .un, .un]) (Γl := fun (_ : Unit) => []) (fun B G H vs x h => by obtain ⟨v0, e0, h0⟩ := h; subst e0; exact ⟨⟨v0, rfl, h0⟩, trivial, trivial, trivial, trivial, trivial, trivial, trivial, trivial, trivial, trivial, trivial⟩) (by intro x i s h; exact noown_of (by rfl) h) (fun x => (xs_mk (i := 1) (Γn' := fun (_ : Unit) => [.un, .un, .un, .un, .un, .un, .un, .un, .un, .un, .un]) (Γl' := fun (_ : Unit) => []) F__law_bag (Nat.le_of_ble_eq_true rfl) (XAV.toM (𝓜 := pureMd) (a_one (x_v (i := 0) (.z)))) (.s .z) (xs_ifM (Γm := fun (s10 : Unit) => [.val (rLK g.K rI) x, .dk, .un, .un, .un, .un, .un, .un, .un, .un, .un]) (tm_cmp (f := fun (i : (Option (List (Int × Int)))) (j : Unit) => (some (i.isSome))) (fun _ _ => op_notN) (rv_notNone nn_T).p (xm_c F_factors (Nat.le_of_ble_eq_true rfl) (am_cons (xm_cD (i := 1) F__law_text (Nat.le_of_ble_eq_true rfl) (.s .z) (am_cons (XV.toM (𝓜 := dkL) (x_str litE4 (by decide))) (am_one (xm_cD (i := 1) F__law_out (Nat.le_of_ble_eq_true rfl) (.s .z) (XAV.toM (𝓜 := dkL) (a_one x_int)))))) (am_one (XV.toM (𝓜 := dkL) (x_tupL a_nilL (by decide)))))) (XV.toM (𝓜 := dkL) x_non) (nomark _)) (xs_ret x_bl) (xs_nil (.eq (.eq (.un (.un (.un (.un (.un (.un (.un (.un (.un (.nil))))))))))))) (fun s10 => (xs_for (Γs := fun (s12 : Unit) => [.val (rLK g.K rI) x, .dk, .un, .un, .un, .un, .un, .un, .un, .un, .un]) (Γb := fun turn13 s12 => [.val (rLK g.K rI) x, .dk, .val rI turn13, .un, .un, .un, .un, .un, .un, .un, .un]) (s0 := ()) (ws := [2]) (i_rng1 b_range (XV.toM (𝓜 := dkL) x_int)) (fun turn13 s12 => (g_n (i := 2) (.s (.s .z)))) (fun turn13 s12 => (xs_stM (i := 3) (Γ' := fun family15 => [.val (rLK g.K rI) x, .dk, .val rI turn13, .val (rT g.K (sCons rI (sCons rS (sCons rS (sCons rS (sOne rI)))))) family15, .un, .un, .un, .un, .un, .un, .un]) (xm_cD (i := 1) F__law_family (Nat.le_of_ble_eq_true rfl) (.s .z) (XAV.toM (𝓜 := dkL) a_nil)) (fun family15 => (.s (.s (.s .z)))) (fun family15 => (xs_owM (i := 4) (Γ' := fun some21 => [.val (rLK g.K rI) x, .dk, .val rI turn13, .val (rT g.K (sCons rI (sCons rS (sCons rS (sCons rS (sOne rI)))))) family15, .own rS some21, .un, .un, .un, .un, .un, .un]) (xf_c (own := [("_law_k", 7)]) (ws := [7]) (Γ0 := [.val (rLK g.K rI) x, .dk, .val rI turn13, .val (rT g.K (sCons rI (sCons rS (sCons rS (sCons rS (sOne rI)))))) family15, .un, .un, .un, .un, .un, .un, .un]) (Γb := fun k18 => [.val (rLK g.K rI) x, .dk, .val rI turn13, .val (rT g.K (sCons rI (sCons rS (sCons rS (sCons rS (sOne rI)))))) family15, .un, .un, .un, .val rI k18, .un, .un, .un]) (i_rng1 b_range (xm_cD (i := 1) F__law_of (Nat.le_of_ble_eq_true rfl) (.s .z) (XAV.toM (𝓜 := dkL) (a_one (XFV.v (xf_lst (a_consL x_int (a_consL x_int (a_consL x_int (a_consL x_int (a_consL x_int (a_consL x_int (a_consL x_int a_nilL))))))) (Nat.le_of_ble_eq_true rfl))))))) (.eq (.eq (.eq (.eq (.un (.un (.un (.un (.un (.un (.un (.nil)))))))))))) (uns_cons (.s (.s (.s (.s (.s (.s (.s .z))))))) uns_nil) (fun k18 => (g_b (i := 7) (.s (.s (.s (.s (.s (.s (.s .z))))))))) (fun k18 => (xm_cD (i := 1) F__law_member (Nat.le_of_ble_eq_true rfl) (.s .z) (XAV.toM (𝓜 := dkL) (a_one (x_v (i := 3) (.s (.s (.s .z))))))))) (fun some21 => (.s (.s (.s (.s .z))))) (fun some21 => (xs_ifM (Γm := fun (s27 : (List (List Nat))) => [.val (rLK g.K rI) x, .dk, .val rI turn13, .val (rT g.K (sCons rI (sCons rS (sCons rS (sCons rS (sOne rI)))))) family15, .own rS s27, .un, .un, .un, .un, .un, .un]) (XT.borrow (.s (.s (.s (.s .z)))) (.s (.s (.s (.s .z)))) (tm_w (wm_and (tm_cmp (f := fun (i : Int) (j : Int) => (some (decide (i = j)))) (fun _ _ => op_eq) rv_eqI.p (xm_cD (i := 1) F__law_out (Nat.le_of_ble_eq_true rfl) (.s .z) (XAV.toM (𝓜 := dkL) (a_one x_int))) (XV.toM (𝓜 := dkL) x_int) (nomark _)) (wm_and1 (tm_cmp (f := fun (i : (List (List Nat))) (j : (List (List Nat))) => ((eqD (dd3 i) (dd3 j)).map (!·))) opNeD (rp_neD dp3 dp3) (XV.toM (𝓜 := dkL) (x_v (i := 4) (.s (.s (.s (.s .z)))))) (XV.toM (𝓜 := dkL) (XFV.v (xf_lst a_nilL (by decide)))) (nomark _)))))) (xs_setIx (i := 4) (Γ' := fun some32 => [.val (rLK g.K rI) x, .dk, .val rI turn13, .val (rT g.K (sCons rI (sCons rS (sCons rS (sCons rS (sOne rI)))))) family15, .own rS some32, .un, .un, .un, .un, .un, .un]) (.s (.s (.s (.s .z)))) (xm_cD (i := 1) F__law_member (Nat.le_of_ble_eq_true rfl) (.s .z) (am_one (xm_cD (i := 1) F__law_family (Nat.le_of_ble_eq_true rfl) (.s .z) (XAV.toM (𝓜 := dkL) a_nil)))) (XV.toM (𝓜 := dkL) (x_un (fun _ _ => un_neg) ru_neg x_int)) (fun some32 => (.s (.s (.s (.s .z))))) (fun some32 => (xs_nil (.eq (.eq (.eq (.eq (.eq (.un (.un (.un (.un (.un (.un (.nil))))))))))))))) (xs_nil (.eq (.eq (.eq (.eq (.eq (.un (.un (.un (.un (.un (.un (.nil))))))))))))) (fun s27 => (xs_ifM (Γm := fun (s38 : (List (List Nat))) => [.val (rLK g.K rI) x, .dk, .val rI turn13, .val (rT g.K (sCons rI (sCons rS (sCons rS (sCons rS (sOne rI)))))) family15, .own rS s38, .un, .un, .un, .un, .un, .un]) (XT.borrow (.s (.s (.s (.s .z)))) (.s (.s (.s (.s .z)))) (tm_w (wm_and (tm_cmp (f := fun (i : Int) (j : Int) => (some (decide (i = j)))) (fun _ _ => op_eq) rv_eqI.p (xm_cD (i := 1) F__law_out (Nat.le_of_ble_eq_true rfl) (.s .z) (XAV.toM (𝓜 := dkL) (a_one x_int))) (XV.toM (𝓜 := dkL) x_int) (nomark _)) (wm_and1 (tm_cmp (f := fun (i : (List (List Nat))) (j : (List (List Nat))) => ((eqD (dd3 i) (dd3 j)).map (!·))) opNeD (rp_neD dp3 dp3) (XV.toM (𝓜 := dkL) (x_v (i := 4) (.s (.s (.s (.s .z)))))) (XV.toM (𝓜 := dkL) (XFV.v (xf_lst a_nilL (by decide)))) (nomark _)))))) (xs_ap (i := 4) (Γ' := fun a41 => [.val (rLK g.K rI) x, .dk, .val rI turn13, .val (rT g.K (sCons rI (sCons rS (sCons rS (sCons rS (sOne rI)))))) family15, .own rS (s27 ++ [a41]), .un, .un, .un, .un, .un, .un]) (.s (.s (.s (.s .z)))) (XM.borrow (.s (.s (.s (.s .z)))) (.s (.s (.s (.s .z)))) flat_S (xm_ix (f := fun (i : (List (List Nat))) (j : Int) => (atI i j)) ixL rp_ixL (XV.toM (𝓜 := dkL) (x_v (i := 4) (.s (.s (.s (.s .z)))))) (XV.toM (𝓜 := dkL) x_int))) (fun a41 => (.s (.s (.s (.s .z))))) (fun a41 => (xs_nil (.eq (.eq (.eq (.eq (.eq (.un (.un (.un (.un (.un (.un (.nil))))))))))))))) (xs_nil (.eq (.eq (.eq (.eq (.eq (.un (.un (.un (.un (.un (.un (.nil))))))))))))) (fun s38 => (xs_stM (i := 5) (Γ' := fun phrase50 => [.val (rLK g.K rI) x, .dk, .val rI turn13, .val (rT g.K (sCons rI (sCons rS (sCons rS (sCons rS (sOne rI)))))) family15, .own rS s38, .val rS phrase50, .un, .un, .un, .un, .un]) (xm_if (tm_cmp (f := fun (i : Int) (j : Int) => (some (decide (j < i)))) (fun _ _ => op_gt) rv_B0.p (xm_cD (i := 1) F__law_out (Nat.le_of_ble_eq_true rfl) (.s .z) (XAV.toM (𝓜 := dkL) (a_one x_int))) (XV.toM (𝓜 := dkL) x_int) (nomark _)) (xm_cD (i := 1) F__law_member (Nat.le_of_ble_eq_true rfl) (.s .z) (XAV.toM (𝓜 := dkL) (a_one (x_v (i := 3) (.s (.s (.s .z))))))) (xm_cD (i := 1) F__law_text (Nat.le_of_ble_eq_true rfl) (.s .z) (am_cons (XV.toM (𝓜 := dkL) (x_str litE5 (by decide))) (am_one (xm_cD (i := 1) F__law_out (Nat.le_of_ble_eq_true rfl) (.s .z) (XAV.toM (𝓜 := dkL) (a_one x_int))))))) (fun phrase50 => (.s (.s (.s (.s (.s .z)))))) (fun phrase50 => (xs_fix (.s (.s (.s (.s .z)))) (.s (.s (.s (.s .z)))) (xs_ifM (Γm := fun (s52 : Unit) => [.val (rLK g.K rI) x, .dk, .val rI turn13, .val (rT g.K (sCons rI (sCons rS (sCons rS (sCons rS (sOne rI)))))) family15, .val (rL rS) s38, .val rS phrase50, .un, .un, .un, .un, .un]) (tm_not (tm_val (xm_c F__law_right (Nat.le_of_ble_eq_true rfl) (XAV.toM (𝓜 := dkL) (a_cons (x_v (i := 5) (.s (.s (.s (.s (.s .z)))))) (a_one (x_v (i := 4) (.s (.s (.s (.s .z))))))))))) (xs_ret x_bl) (xs_nil (.eq (.eq (.eq (.eq (.eq (.eq (.un (.un (.un (.un (.un (.nil))))))))))))) (fun s52 => (xs_oLcIf (i := 6) (Γ' := fun apart62 => [.val (rLK g.K rI) x, .dk, .val rI turn13, .val (rT g.K (sCons rI (sCons rS (sCons rS (sCons rS (sOne rI)))))) family15, .val (rL rS) s38, .val rS phrase50, .own rS apart62, .un, .un, .un, .un]) (own := [("_law_at", 8), ("_law_one", 9)]) (ws := [8, 9]) (Γ0 := [.val (rLK g.K rI) x, .dk, .val rI turn13, .val (rT g.K (sCons rI (sCons rS (sCons rS (sCons rS (sOne rI)))))) family15, .val (rL rS) s38, .val rS phrase50, .un, .un, .un, .un, .un]) (Γb := fun at54 => [.val (rLK g.K rI) x, .dk, .val rI turn13, .val (rT g.K (sCons rI (sCons rS (sCons rS (sCons rS (sOne rI)))))) family15, .val (rL rS) s38, .val rS phrase50, .un, .un, .val rI at54.1, .val rS at54.2, .un]) (i_enu b_enumerate (XV.toM (𝓜 := dkL) (x_v (i := 4) (.s (.s (.s (.s .z))))))) (.eq (.eq (.eq (.eq (.eq (.eq (.un (.un (.un (.un (.un (.nil)))))))))))) (uns_cons (.s (.s (.s (.s (.s (.s (.s (.s .z)))))))) (uns_cons (.s (.s (.s (.s (.s (.s (.s (.s (.s .z))))))))) uns_nil)) (fun at54 => (g_tup (g_cons (g_b (i := 8) (.s (.s (.s (.s (.s (.s (.s (.s .z))))))))) (g_one (g_b (i := 9) (.s (.s (.s (.s (.s (.s (.s (.s (.s .z)))))))))))) (n_cons n_one))) (fun at54 => (tm_cmp (f := fun (i : Int) (j : (List Int)) => (some (!j.contains i))) opNinS rv_ninI.p (XV.toM (𝓜 := dkL) (x_v (i := 8) (.s (.s (.s (.s (.s (.s (.s (.s .z)))))))))) (xm_c F__law_spare (Nat.le_of_ble_eq_true rfl) (am_one (XF.v (xf_c (own := [("_law_two", 10)]) (ws := [10]) (Γ0 := [.val (rLK g.K rI) x, .dk, .val rI turn13, .val (rT g.K (sCons rI (sCons rS (sCons rS (sCons rS (sOne rI)))))) family15, .val (rL rS) s38, .val rS phrase50, .un, .un, .val rI at54.1, .val rS at54.2, .un]) (Γb := fun two55 => [.val (rLK g.K rI) x, .dk, .val rI turn13, .val (rT g.K (sCons rI (sCons rS (sCons rS (sCons rS (sOne rI)))))) family15, .val (rL rS) s38, .val rS phrase50, .un, .un, .val rI at54.1, .val rS at54.2, .val rS two55]) (i_list (XV.toM (𝓜 := dkL) (x_v (i := 4) (.s (.s (.s (.s .z))))))) (.eq (.eq (.eq (.eq (.eq (.eq (.un (.un (.eq (.eq (.un (.nil)))))))))))) (uns_cons (.s (.s (.s (.s (.s (.s (.s (.s (.s (.s .z)))))))))) uns_nil) (fun two55 => (g_b (i := 10) (.s (.s (.s (.s (.s (.s (.s (.s (.s (.s .z)))))))))))) (fun two55 => (xm_c F__law_triple (Nat.le_of_ble_eq_true rfl) (XAV.toM (𝓜 := dkL) (a_one (x_v (i := 10) (.s (.s (.s (.s (.s (.s (.s (.s (.s (.s .z))))))))))))))))))) (by rfl))) (fun at54 => (XV.toM (𝓜 := dkL) (x_v (i := 9) (.s (.s (.s (.s (.s (.s (.s (.s (.s .z)))))))))))) (fun apart62 => (.s (.s (.s (.s (.s (.s .z))))))) (fun apart62 => (xs_fix (.s (.s (.s (.s (.s (.s .z)))))) (.s (.s (.s (.s (.s (.s .z)))))) (xs_ifM (Γm := fun (s65 : Unit) => [.val (rLK g.K rI) x, .dk, .val rI turn13, .val (rT g.K (sCons rI (sCons rS (sCons rS (sCons rS (sOne rI)))))) family15, .val (rL rS) s38, .val rS phrase50, .val (rL rS) apart62, .un, .un, .un, .un]) (tm_w (wm_or (tm_not (tm_val (xm_c F__law_right (Nat.le_of_ble_eq_true rfl) (XAV.toM (𝓜 := dkL) (a_cons (x_v (i := 5) (.s (.s (.s (.s (.s .z)))))) (a_one (x_v (i := 6) (.s (.s (.s (.s (.s (.s .z))))))))))))) (wm_or1 (tm_not (tm_val (xm_c F__law_own_right (Nat.le_of_ble_eq_true rfl) (XAV.toM (𝓜 := dkL) (a_one (x_v (i := 6) (.s (.s (.s (.s (.s (.s .z))))))))))))))) (xs_ret x_bl) (xs_nil (.eq (.eq (.eq (.eq (.eq (.eq (.eq (.un (.un (.un (.un (.nil))))))))))))) (fun s65 => (xs_nil (.eq (.eq (.un (.un (.un (.un (.un (.un (.un (.un (.un (.nil)))))))))))))))))))))))))))) (hs := sw_c))))) (.eq (.eq (.un (.un (.un (.un (.un (.un (.un (.un (.un (.nil)))))))))))) (fun s12 => (xs_ret x_bl)))))))
theorem all_law {g : Glb} (D_code : Def g "code" s_code ["text"]) (D_triple_of : Def g "triple_of" s_triple_of ["text"]) (D_determinant : Def g "determinant" s_determinant ["one", "other", "last"]) (D_is_spanned : Def g "is_spanned" s_is_spanned ["triples", "triple"]) (D_basis_of : Def g "basis_of" s_basis_of ["triples"]) (D_gcd : Def g "gcd" s_gcd ["one", "other"]) (D_lowest : Def g "lowest" s_lowest ["top", "low"]) (D_shares : Def g "shares" s_shares ["one", "other", "triple"]) (D_factors : Def g "factors" s_factors ["text", "texts"]) (D__law_triple : Def g "_law_triple" s__law_triple ["_law_phrase"]) (D__law_spare : Def g "_law_spare" s__law_spare ["_law_rows"]) (D__law_is_lowest : Def g "_law_is_lowest" s__law_is_lowest ["_law_top", "_law_low"]) (D__law_gives : Def g "_law_gives" s__law_gives ["_law_told", "_law_rows", "_law_triple_here"]) (D__law_right : Def g "_law_right" s__law_right ["_law_phrase", "_law_some"]) (D__law_own_right : Def g "_law_own_right" s__law_own_right ["_law_some"]) (D__law_bag : Def g "_law_bag" s__law_bag ["_law_script"]) (D__law_out : Def g "_law_out" s__law_out ["_law_bag_here", "_law_many"]) (D__law_of : Def g "_law_of" s__law_of ["_law_bag_here", "_law_some"]) (D__law_text : Def g "_law_text" s__law_text ["_law_bag_here", "_law_signs", "_law_many"]) (D__law_family : Def g "_law_family" s__law_family ["_law_bag_here"]) (D__law_member : Def g "_law_member" s__law_member ["_law_bag_here", "_law_family_here"]) (D_law : Def g "law" s_law ["_law_script"]) (b_abs : g.mg "abs" = none) (b_bool : g.mg "bool" = none) (b_enumerate : g.mg "enumerate" = none) (b_int : g.mg "int" = none) (b_isinstance : g.mg "isinstance" = none) (b_len : g.mg "len" = none) (b_list : g.mg "list" = none) (b_ord : g.mg "ord" = none) (b_range : g.mg "range" = none) (b_repr : g.mg "repr" = none) (b_tuple : g.mg "tuple" = none) (b_zip : g.mg "zip" = none) (hgd : g.gd = true) {t_BASE : Tok} (c_BASE : g.mg "BASE" = some (.int 128 t_BASE)) : Fn g "law" ["_law_script"] 6 (spP (sOne (rLK g.K rI)) rB law_m) := by
  have F_code := ok_code D_code b_ord c_BASE
  have F_triple_of := ok_triple_of D_triple_of F_code
  have F_determinant := ok_determinant D_determinant
  have F_is_spanned := ok_is_spanned D_is_spanned F_determinant b_len
  have F_basis_of := ok_basis_of D_basis_of F_is_spanned
  have F_gcd := ok_gcd D_gcd b_abs
  have F_lowest := ok_lowest D_lowest F_gcd
  have F_shares := ok_shares D_shares F_lowest
  have F_factors := ok_factors D_factors F_triple_of F_basis_of F_is_spanned F_shares F_determinant F_lowest b_len b_tuple
  have F__law_triple := ok__law_triple D__law_triple b_ord
  have F__law_spare := ok__law_spare D__law_spare b_enumerate b_list b_range
  have F__law_is_lowest := ok__law_is_lowest D__law_is_lowest b_abs b_bool b_int b_isinstance
  have F__law_gives := ok__law_gives D__law_gives b_range b_zip
  have F__law_right := ok__law_right D__law_right F__law_triple F_factors F__law_spare F__law_is_lowest F__law_gives (kw_K_factors_texts_text D_factors F_factors) b_isinstance b_len b_repr b_tuple hgd
  have F__law_own_right := ok__law_own_right D__law_own_right F_factors b_int b_len b_range b_repr b_tuple hgd
  have F__law_bag := ok__law_bag D__law_bag b_int
  have F__law_out := ok__law_out D__law_out b_int
  have F__law_of := ok__law_of D__law_of F__law_out b_len
  have F__law_of__1 := ok__law_of__1 D__law_of F__law_out b_len
  have F__law_text := ok__law_text D__law_text F__law_of__1 b_range
  have F__law_family := ok__law_family D__law_family F__law_text F__law_out b_range
  have F__law_member := ok__law_member D__law_member F__law_of F__law_text F__law_out
  have F_law := ok_law D_law F__law_bag F_factors F__law_text F__law_out F__law_family F__law_of F__law_member F__law_right F__law_spare F__law_triple F__law_own_right b_enumerate b_range
  exact F_law
end K17
set_option Elab.async false
set_option linter.all false
set_option maxRecDepth 100000
set_option maxHeartbeats 4000000
/-! The draws of the law. -/
namespace K17
open PySem Ty

theorem natAbs_le {x : Int} {a : Nat} (h0 : 0 ≤ x) (h : x < (a : Int)) : x.natAbs < a := by omega
theorem dr_out {many : Int} (h0 : 0 < many) (h1 : many < 1000000) : Dr 1 (_law_out_m many) (fun r => 0 ≤ r ∧ r < many) := by
  intro d k i l
  have hm : ∀ x : Int, modM x many = some (x % many) := fun x => if_pos h0
  have hr : ∀ x : Int, 0 ≤ x % many ∧ x % many < many := fun x => ⟨Int.emod_nonneg _ (by omega), Int.emod_lt_of_pos _ h0⟩
  have hd : ∀ x : Int, divW x many = some (x / many) := fun x => if_pos ⟨h0, by
    have : many.natAbs.log2 < 20 := log2_lt' (by omega) (by decide)
    omega⟩
  obtain ⟨cells, mixed, n⟩ := d
  by_cases hc : cells = []
  · subst hc
    obtain ⟨m0, m1, n0, n1, len⟩ := i
    simp only at m0 m1 n0 n1
    have b1 : (50021 * (n + 1)).natAbs < 2 ^ 40 := by omega
    have b2 : (n + 1).natAbs < 2 ^ 20 := by omega
    have hmul1 : mulM (50021 * (n + 1)) (n + 1) = some (50021 * (n + 1) * (n + 1)) := mulM_ok b1 b2 (by decide) (by decide) (by decide)
    generalize hA : ((mixed + 50021 * (n + 1) * (n + 1)) * 40692) % 2147483399 = A
    have A0 : 0 ≤ A := by rw [← hA]; exact Int.emod_nonneg _ (by decide)
    have A1 : A < 2147483399 := by rw [← hA]; exact Int.emod_lt_of_pos _ (by decide)
    have bA : A.natAbs < 2 ^ 32 := by omega
    have hmul2 : mulM A A = some (A * A) := mulM_ok bA bA (by decide) (by decide) (by decide)
    generalize hB : (A * A + 39373 * (n + 1) + 47) % 2147483647 = B
    refine ⟨B / 64 % many, ⟨[], mixed, n + 1⟩, ?_, ⟨m0, m1, by show 0 ≤ n + 1; omega, by show n + 1 ≤ ((k + 1 : Nat) : Int); omega, by simp⟩, hr _⟩
    show (_law_out_m many) ⟨[], mixed, n⟩ = _
    unfold _law_out_m
    simp only [dB, dR, dLf, retM, bndF, iteM, dAny, dNum, dMix, dSetNum, List.isEmpty_nil, Bool.not_true, Option.bind_some, Option.map_some, Bool.false_eq_true, if_false, hmul1, hA, hmul2, hB, hm, retO]
  · obtain ⟨ys, y, rfl⟩ : ∃ ys y, cells = ys ++ [y] := ⟨cells.dropLast, cells.getLast hc, (List.dropLast_concat_getLast hc).symm⟩
    have len : (ys ++ [y]).length ≤ 1000 := i.len
    have e1 : (ys ++ [y]).isEmpty = false := by simp
    have e2 : (ys ++ [y]).getLast? = some y := by simp
    have e3 : (ys ++ [y]).dropLast = ys := by simp
    have ly : ys.length < cap := by rw [List.length_append] at len; unfold cap; simp at len; omega
    by_cases hy : many ≤ y
    · refine ⟨y % many, ⟨ys ++ [y / many], mixed, n⟩, ?_, ⟨i.m0, i.m1, i.n0, by have := i.n1; simp only at this ⊢; omega, by simpa using len⟩, hr _⟩
      unfold _law_out_m
      simp only [dB, dR, dLf, retM, bndF, iteM, ifB, dAny, dPop, dPush, e1, e2, e3, Bool.not_false, Option.bind_some, Option.map_some, if_true, decide_eq_true hy, hd, hm, if_pos ly, retO]
    · refine ⟨y % many, ⟨ys, mixed, n⟩, ?_, ⟨i.m0, i.m1, i.n0, by have := i.n1; simp only at this ⊢; omega, by simp at len ⊢; omega⟩, hr _⟩
      unfold _law_out_m
      simp only [dB, dR, dLf, retM, bndF, iteM, ifB, dAny, dPop, dPush, e1, e2, e3, Bool.not_false, Option.bind_some, Option.map_some, if_true, decide_eq_false hy, Bool.false_eq_true, if_false, hd, hm, retO]
/-- an item of a list -/
theorem at_in {α : Type} {xs : List α} {i : Int} (h0 : 0 ≤ i) (h : i < (xs.length : Int)) : ∃ x, L2.atI xs i = some x ∧ x ∈ xs := by
  obtain ⟨j, rfl⟩ := Int.eq_ofNat_of_zero_le h0
  have hj : j < xs.length := by omega
  exact ⟨xs[j], L2.atI_nat (List.getElem?_eq_getElem hj), List.getElem_mem hj⟩
theorem dr_of {xs : List Int} (h : xs ≠ []) (l : xs.length < 1000000) : Dr 1 (_law_of_m xs) (fun x => x ∈ xs) := by
  have h0 : 0 < xs.length := List.length_pos_iff.mpr h
  unfold _law_of_m
  simp only [lt_eq, unc_mk, d_bnd_ret, d_bnd_bnd, d_lft_some, d_bndF_nx, d_bndF_rt, d_bndF_bnd, d_retM_rt, d_retM_bnd, d_iteM, d_notM, d_orM, d_andM, ifB_true, ifB_false]
  refine dr_bnd (a := 1) (b := 0) (dr_out (many := (xs.length : Int)) (by omega) (by omega)) fun i hi => ?_
  obtain ⟨x, e, hx⟩ := at_in hi.1 hi.2
  rw [e]
  exact dr_ret hx
theorem dr_of1 {xs : List Nat} (h : xs ≠ []) (l : xs.length < 1000000) : Dr 1 (_law_of__1_m xs) (fun x => ∃ ch ∈ xs, x = [ch]) := by
  have h0 : 0 < xs.length := List.length_pos_iff.mpr h
  unfold _law_of__1_m
  simp only [lt_eq, unc_mk, d_bnd_ret, d_bnd_bnd, d_lft_some, d_bndF_nx, d_bndF_rt, d_bndF_bnd, d_retM_rt, d_retM_bnd, d_iteM, d_notM, d_orM, d_andM, ifB_true, ifB_false]
  refine dr_bnd (a := 1) (b := 0) (dr_out (many := (xs.length : Int)) (by omega) (by omega)) fun i hi => ?_
  obtain ⟨x, e, hx⟩ := at_in hi.1 hi.2
  unfold ixS
  rw [e]
  exact dr_ret ⟨x, hx, rfl⟩
/-- texts of signs from 1 to 127, of at most n of them -/
def Txt (n : Nat) (t : List Nat) : Prop := t.length ≤ n ∧ ∀ c ∈ t, 0 < c ∧ c < 128
theorem Txt.mono {n j : Nat} {t : List Nat} (h : Txt n t) (l : n ≤ j) : Txt j t := ⟨Nat.le_trans h.1 l, h.2⟩
theorem Txt.app {n j : Nat} {t u : List Nat} (h : Txt n t) (g : Txt j u) : Txt (n + j) (t ++ u) := ⟨by rw [List.length_append]; have := h.1; have := g.1; omega, fun c hc => by
  rcases List.mem_append.mp hc with z | z
  · exact h.2 c z
  · exact g.2 c z⟩
theorem catS_ok {n j : Nat} {t u : List Nat} (h : Txt n t) (g : Txt j u) (l : n + j ≤ 1000000) : catS t u = some (t ++ u) := by
  unfold catS
  rw [if_pos]
  have := h.1; have := g.1
  unfold cap; omega
theorem dr_signs {xs : List Nat} {many : Int} {j : Nat} (h : Txt j xs) (hne : xs ≠ []) (hj : j < 1000000) (h0 : 0 ≤ many) (h1 : many ≤ 1000) : Dr many.toNat (_law_text_m (xs, many)) (Txt many.toNat) := by
  unfold _law_text_m
  have hr : rangeM many = some (upto many) := if_pos ⟨by omega, by omega⟩
  have hl : (upto many).length = many.toNat := by unfold upto; simp
  simp only [lt_eq, unc_mk, d_bnd_ret, d_bnd_bnd, d_lft_some, d_bndF_nx, d_bndF_rt, d_bndF_bnd, d_retM_rt, d_retM_bnd, d_iteM, d_notM, d_orM, d_andM, ifB_true, ifB_false]
  simp only [hr]
  simp only [lt_eq, unc_mk, d_bnd_ret, d_bnd_bnd, d_lft_some, d_bndF_nx, d_bndF_rt, d_bndF_bnd, d_retM_rt, d_retM_bnd, d_iteM, d_notM, d_orM, d_andM, ifB_true, ifB_false]
  refine dr_retM ?_
  have hl0 : lit0 = [] := rfl
  have loop := dr_forN (c := 1) (L := Unit) (ρ := List Nat) (I := Txt) (J := fun _ => False) (R := fun _ => False) (f := fun (_ : Int) (s3 : List Nat) => dB (_law_of__1_m xs) fun b7 => dB (dLf (catS s3 b7)) fun found8 => dR (.nx found8)) (l := upto many) (s := lit0) (n := 0) (fun a _ i s hi hs => by
    refine dr_bnd (a := 1) (b := 0) (dr_of1 hne (by have := h.1; omega)) fun b ⟨ch, hc, eb⟩ => ?_
    have hb : Txt 1 b := by rw [eb]; exact ⟨Nat.le_refl _, fun c hc' => by rw [List.mem_singleton.mp hc']; exact h.2 ch hc⟩
    rw [catS_ok hs hb (by omega), d_lft_some, d_bnd_ret]
    exact dr_ret (hs.app hb)) ⟨Nat.le_refl _, fun c hc => by cases hc⟩
  rw [Nat.mul_one, hl, Nat.zero_add] at loop
  refine dr_bndF (b := 0) (I' := fun _ => False) (J := fun _ => False) (R := Txt many.toNat) (I := Txt many.toNat) (dr_imp loop fun r hr => ?_) fun s hs => dr_ret hs
  cases r with
  | nx s => exact hr
  | ct s => exact hr
  | bk s => exact hr
  | rt r => exact hr.elim
end K17
set_option Elab.async false
set_option linter.all false
set_option maxRecDepth 100000
set_option maxHeartbeats 4000000
/-! The texts of the law, and the law over what is shown of the pure defs. -/
namespace K17
open PySem Ty

theorem txt_lit {n : Nat} {l : List Nat} (h : (decide (l.length ≤ n) && l.all fun c => decide (0 < c) && decide (c < 128)) = true) : Txt n l := by
  rw [Bool.and_eq_true, List.all_eq_true] at h
  refine ⟨of_decide_eq_true h.1, fun c hc => ?_⟩
  have := h.2 c hc
  rw [Bool.and_eq_true] at this
  exact ⟨of_decide_eq_true this.1, of_decide_eq_true this.2⟩
theorem tl1 : Txt 60 lit1 := txt_lit (by decide +kernel)
theorem tl2 : Txt 60 lit2 := txt_lit (by decide +kernel)
theorem tl3 : Txt 60 lit3 := txt_lit (by decide +kernel)
theorem tl4 : Txt 60 lit4 := txt_lit (by decide +kernel)
theorem tl5 : Txt 60 lit5 := txt_lit (by decide +kernel)
def Fam (x : Int × List Nat × List Nat × List Nat × Int) : Prop := (0 ≤ x.1 ∧ x.1 < 4) ∧ Txt 3 x.2.1 ∧ Txt 3 x.2.2.1 ∧ Txt 3 x.2.2.2.1 ∧ 0 ≤ x.2.2.2.2 ∧ x.2.2.2.2 < 5
theorem dr_family : Dr 14 (_law_family_m ()) Fam := by
  unfold _law_family_m
  have hr : rangeM 3 = some (upto 3) := if_pos (by decide)
  simp only [lt_eq, unc_mk, d_bnd_ret, d_bnd_bnd, d_lft_some, d_bndF_nx, d_bndF_rt, d_bndF_bnd, d_retM_rt, d_retM_bnd, d_iteM, d_notM, d_orM, d_andM, ifB_true, ifB_false]
  rw [hr]
  simp only [lt_eq, unc_mk, d_bnd_ret, d_bnd_bnd, d_lft_some, d_bndF_nx, d_bndF_rt, d_bndF_bnd, d_retM_rt, d_retM_bnd, d_iteM, d_notM, d_orM, d_andM, ifB_true, ifB_false]
  refine dr_bnd (a := (upto 3).length * 4) (b := 2) (dr_lc (Q := Txt 3) fun _ _ => ?_) fun parts hp => ?_
  · refine dr_bnd (a := 1) (b := 3) (dr_out (by decide) (by decide)) fun n hn => ?_
    exact dr_mono (dr_signs tl1 (by decide) (by decide) hn.1 (by omega)) (by omega) fun t ht => ht.mono (by omega)
  · match parts, hp with
    | [a, b, e], hp =>
    simp only [show L2.atI [a, b, e] 0 = some a from rfl, show L2.atI [a, b, e] 1 = some b from rfl, show L2.atI [a, b, e] 2 = some e from rfl]
    simp only [lt_eq, unc_mk, d_bnd_ret, d_bnd_bnd, d_lft_some, d_bndF_nx, d_bndF_rt, d_bndF_bnd, d_retM_rt, d_retM_bnd, d_iteM, d_notM, d_orM, d_andM, ifB_true, ifB_false]
    refine dr_bnd (a := 1) (b := 1) (dr_out (by decide) (by decide)) fun way hw => ?_
    refine dr_bnd (a := 1) (b := 0) (dr_out (by decide) (by decide)) fun len hl => ?_
    exact dr_ret ⟨hw, hp.2 a (by simp), hp.2 b (by simp), hp.2 e (by simp), hl⟩
theorem repS_ok {t : List Nat} {j : Nat} {n : Int} (h : Txt j t) (h0 : 0 ≤ n) (h1 : n ≤ 100) (hj : j ≤ 100) : repS t n = some (List.replicate n.toNat t).flatten ∧ Txt (j * n.toNat) (List.replicate n.toNat t).flatten := by
  have hl : t.length * n.toNat ≤ j * n.toNat := Nat.mul_le_mul_right _ h.1
  have hc : j * n.toNat ≤ 100 * 100 := Nat.mul_le_mul hj (by omega)
  refine ⟨if_pos ⟨by omega, by omega, by unfold cap; omega⟩, ?_, fun c hc => ?_⟩
  · have : (List.replicate n.toNat t).flatten.length = t.length * n.toNat := by simp [Nat.mul_comm]
    omega
  · obtain ⟨u, hu, hcu⟩ := List.mem_flatten.mp hc
    rw [(List.mem_replicate.mp hu).2] at hcu
    exact h.2 c hcu
theorem dr_member {x : Int × List Nat × List Nat × List Nat × Int} (h : Fam x) : Dr 8 (_law_member_m x) (Txt 126) := by
  obtain ⟨way, a, w, e, len⟩ := x
  obtain ⟨⟨w0, w1⟩, ta, tb, te, l0, l1⟩ := h
  simp only at w0 w1 ta tb te l0 l1
  unfold _law_member_m
  simp only [lt_eq, unc_mk, d_bnd_ret, d_bnd_bnd, d_lft_some, d_bndF_nx, d_bndF_rt, d_bndF_bnd, d_retM_rt, d_retM_bnd, d_iteM, d_notM, d_orM, d_andM, ifB_true, ifB_false]
  by_cases h0 : way < 2
  · rw [decide_eq_true h0]
    simp only [lt_eq, unc_mk, d_bnd_ret, d_bnd_bnd, d_lft_some, d_bndF_nx, d_bndF_rt, d_bndF_bnd, d_retM_rt, d_retM_bnd, d_iteM, d_notM, d_orM, d_andM, ifB_true, ifB_false]
    obtain ⟨ea1, ea2⟩ := repS_ok ta w0 (by omega) (by decide)
    obtain ⟨ee1, ee2⟩ := repS_ok te w0 (by omega) (by decide)
    rw [ea1]
    simp only [lt_eq, unc_mk, d_bnd_ret, d_bnd_bnd, d_lft_some, d_bndF_nx, d_bndF_rt, d_bndF_bnd, d_retM_rt, d_retM_bnd, d_iteM, d_notM, d_orM, d_andM, ifB_true, ifB_false]
    refine dr_le (dr_bnd (a := 1) (b := 0) (dr_of (by simp) (by show 6 < 1000000; decide)) fun n hn => ?_) (by decide)
    have hn' : 0 ≤ n ∧ n ≤ 40 := by
      simp only [List.mem_cons, List.not_mem_nil, or_false] at hn
      omega
    obtain ⟨e1, e2⟩ := repS_ok tb hn'.1 (by omega) (by decide)
    rw [e1]
    simp only [lt_eq, unc_mk, d_bnd_ret, d_bnd_bnd, d_lft_some, d_bndF_nx, d_bndF_rt, d_bndF_bnd, d_retM_rt, d_retM_bnd, d_iteM, d_notM, d_orM, d_andM, ifB_true, ifB_false]
    have za := ea2.mono (j := 3) (by omega)
    have zw := e2.mono (j := 120) (by omega)
    have ze := ee2.mono (j := 3) (by omega)
    rw [catS_ok za zw (by decide)]
    simp only [lt_eq, unc_mk, d_bnd_ret, d_bnd_bnd, d_lft_some, d_bndF_nx, d_bndF_rt, d_bndF_bnd, d_retM_rt, d_retM_bnd, d_iteM, d_notM, d_orM, d_andM, ifB_true, ifB_false]
    rw [ee1]
    simp only [lt_eq, unc_mk, d_bnd_ret, d_bnd_bnd, d_lft_some, d_bndF_nx, d_bndF_rt, d_bndF_bnd, d_retM_rt, d_retM_bnd, d_iteM, d_notM, d_orM, d_andM, ifB_true, ifB_false]
    rw [catS_ok (za.app zw) ze (by decide)]
    exact dr_ret ((za.app zw).app ze)
  · rw [decide_eq_false h0]
    simp only [lt_eq, unc_mk, d_bnd_ret, d_bnd_bnd, d_lft_some, d_bndF_nx, d_bndF_rt, d_bndF_bnd, d_retM_rt, d_retM_bnd, d_iteM, d_notM, d_orM, d_andM, ifB_true, ifB_false]
    by_cases h2 : way = 2
    · rw [decide_eq_true h2]
      simp only [lt_eq, unc_mk, d_bnd_ret, d_bnd_bnd, d_lft_some, d_bndF_nx, d_bndF_rt, d_bndF_bnd, d_retM_rt, d_retM_bnd, d_iteM, d_notM, d_orM, d_andM, ifB_true, ifB_false]
      refine dr_bnd (a := 8) (b := 0) (dr_mono (dr_signs tl2 (by decide) (by decide) (by omega) (by omega)) (by omega) fun t ht => ht.mono (j := 126) (by omega)) fun t ht => dr_ret ht
    · rw [decide_eq_false h2]
      simp only [lt_eq, unc_mk, d_bnd_ret, d_bnd_bnd, d_lft_some, d_bndF_nx, d_bndF_rt, d_bndF_bnd, d_retM_rt, d_retM_bnd, d_iteM, d_notM, d_orM, d_andM, ifB_true, ifB_false]
      refine dr_bnd (a := 1) (b := 7) (dr_out (by decide) (by decide)) fun n hn => ?_
      refine dr_bnd (a := 7) (b := 0) (dr_mono (dr_signs tl3 (by decide) (by decide) (by omega) (by omega)) (by omega) fun t ht => ht.mono (j := 126) (by omega)) fun t ht => dr_ret ht
end K17
set_option Elab.async false
set_option linter.all false
set_option maxRecDepth 100000
set_option maxHeartbeats 4000000
/-! The pure defs: what they compute, as plain functions. -/
namespace K17
open PySem Ty

/-- the number that a text writes in base 128 -/
def stp (v : Int) (c : Nat) : Int := v * 128 + (c : Int)
def val (x : List Nat) : Int := x.foldl stp 0
def pw (n : Nat) : Int := 128 ^ n
theorem pw_succ (n : Nat) : pw (n + 1) = pw n * 128 := Int.pow_succ 128 n
theorem pw_add (a b : Nat) : pw (a + b) = pw a * pw b := Int.pow_add 128 a b
theorem pw_pos (n : Nat) : 0 < pw n := Int.pow_pos (by decide)
theorem val_from (x : List Nat) : ∀ a : Int, x.foldl stp a = a * pw x.length + val x := by
  induction x with
  | nil => intro a; simp [val, pw]
  | cons c x ih =>
    intro a
    have e1 : val (c :: x) = (0 * 128 + (c : Int)) * pw x.length + val x := by
      show List.foldl _ (0 * 128 + (c : Int)) x = _
      exact ih _
    rw [List.foldl_cons, ih, e1, List.length_cons, pw_succ]
    unfold stp
    simp only [Int.add_mul, Int.zero_mul, Int.zero_add, Int.mul_assoc, Int.add_assoc, Int.mul_comm (pw x.length) 128]
theorem val_app (x y : List Nat) : val (x ++ y) = val x * pw y.length + val y := by
  show List.foldl _ 0 (x ++ y) = _
  rw [List.foldl_append]
  exact val_from y _
theorem val_cons (c : Nat) (x : List Nat) : val (c :: x) = (c : Int) * pw x.length + val x := by
  have := val_app [c] x
  have e : val [c] = (c : Int) := by show 0 * 128 + (c : Int) = _; omega
  rw [e] at this
  exact this
theorem code_fold (x : List Nat) : ∀ p v : Int, (signs x).foldl (fun (s : Int × Int) (a : List Nat) => (s.1 * 128, s.2 * 128 + ((a.headD 0 : Nat) : Int))) (p, v) = (p * pw x.length, x.foldl stp v) := by
  induction x with
  | nil => intro p v; simp [signs, pw]
  | cons c x ih =>
    intro p v
    show List.foldl _ (p * 128, v * 128 + ((c : Nat) : Int)) (signs x) = _
    rw [ih, List.length_cons, pw_succ, List.foldl_cons, Int.mul_assoc, Int.mul_comm 128]
    rfl
theorem in_signs {x a : List Nat} (h : a ∈ signs x) : ∃ c ∈ x, a = [c] := by
  obtain ⟨c, h1, h2⟩ := List.mem_map.mp h
  exact ⟨c, h1, h2.symm⟩
theorem code_eq (x : List Nat) : code_m x = some (pw x.length, val x) := by
  unfold code_m
  simp only [lt_eq, unc_mk, p_bnd_some, p_bnd_bnd, id_eq, p_bndF_nx, p_bndF_rt, p_bndF_bnd, p_retM_rt, p_retM_bnd, p_iteM, p_notM, p_orM, p_andM, ifB_true, ifB_false]
  rw [(for_fold (g := fun (s : Int × Int) (a : List Nat) => (s.1 * 128, s.2 * 128 + ((a.headD 0 : Nat) : Int))) (I := fun _ => True) trivial fun a ha s _ => ⟨by
    obtain ⟨c, _, rfl⟩ := in_signs ha
    rfl, trivial⟩).1]
  simp only [lt_eq, unc_mk, p_bnd_some, p_bnd_bnd, id_eq, p_bndF_nx, p_bndF_rt, p_bndF_bnd, p_retM_rt, p_retM_bnd, p_iteM, p_notM, p_orM, p_andM, ifB_true, ifB_false]
  rw [code_fold, Int.one_mul]
  rfl
theorem triple_eq (x : List Nat) : triple_of_m x = some (1, pw x.length, val x) := by
  unfold triple_of_m
  simp only [lt_eq, unc_mk, p_bnd_some, p_bnd_bnd, id_eq, p_bndF_nx, p_bndF_rt, p_bndF_bnd, p_retM_rt, p_retM_bnd, p_iteM, p_notM, p_orM, p_andM, ifB_true, ifB_false]
  rw [code_eq]
  simp only [lt_eq, unc_mk, p_bnd_some, p_bnd_bnd, id_eq, p_bndF_nx, p_bndF_rt, p_bndF_bnd, p_retM_rt, p_retM_bnd, p_iteM, p_notM, p_orM, p_andM, ifB_true, ifB_false]
/-! ### the law's own triple -/
theorem pw_small {n : Nat} (h : n ≤ 130) : (pw n).natAbs < 2 ^ 911 := by
  have e : (pw n).natAbs = 2 ^ (7 * n) := by
    unfold pw
    rw [Int.natAbs_pow, Nat.pow_mul]; rfl
  rw [e]
  exact Nat.pow_lt_pow_right (by decide) (by omega)
theorem lawtriple_eq (x : List Nat) : _law_triple_m x = some [1, pw x.length, val x] := by
  unfold _law_triple_m
  simp only [lt_eq, unc_mk, p_bnd_some, p_bnd_bnd, id_eq, p_bndF_nx, p_bndF_rt, p_bndF_bnd, p_retM_rt, p_retM_bnd, p_iteM, p_notM, p_orM, p_andM, ifB_true, ifB_false]
  rw [(for_fold (g := fun (s : Int × Int) (a : List Nat) => (s.1 * 128, s.2 * 128 + ((a.headD 0 : Nat) : Int))) (I := fun _ => True) trivial fun a ha s _ => ⟨by
    obtain ⟨c, _, rfl⟩ := in_signs ha
    rfl, trivial⟩).1]
  simp only [lt_eq, unc_mk, p_bnd_some, p_bnd_bnd, id_eq, p_bndF_nx, p_bndF_rt, p_bndF_bnd, p_retM_rt, p_retM_bnd, p_iteM, p_notM, p_orM, p_andM, ifB_true, ifB_false]
  rw [code_fold, Int.one_mul]
  rfl
end K17
set_option Elab.async false
set_option linter.all false
set_option maxRecDepth 100000
set_option maxHeartbeats 4000000
set_option exponentiation.threshold 100000
/-! Combinations: what is_spanned, basis_of, is_combination compute. -/
namespace K17
open PySem Ty

abbrev T3 := Int × Int × Int
abbrev Pt := Int × Int
def tp (p : Pt) : T3 := (1, p.1, p.2)
theorem len_ok {n : Nat} (h : n < 1000000) : okLen n = some () := if_pos (by unfold cap; exact h)
def Sm (p : Pt) : Prop := p.1.natAbs < 2 ^ 911 ∧ p.2.natAbs < 2 ^ 911
def det3 (a b c : Pt) : Int := 1 * (b.1 * c.2 - b.2 * c.1) - a.1 * (1 * c.2 - b.2 * 1) + a.2 * (1 * c.1 - b.1 * 1)
theorem one_sm : (1 : Int).natAbs < 2 ^ 911 := Nat.one_lt_two_pow (by decide)
theorem det_eq {a b c : Pt} (ha : Sm a) (hb : Sm b) (hc : Sm c) : determinant_m (tp a, tp b, tp c) = some (det3 a b c) := by
  have m : ∀ x y : Int, x.natAbs < 2 ^ 911 → y.natAbs < 2 ^ 911 → mulM x y = some (x * y) := fun x y hx hy => mulM_ok hx hy (by decide) (by decide) (by decide)
  have m2 : ∀ x y : Int, x.natAbs < 2 ^ 911 → y.natAbs < 2 ^ 1823 → mulM x y = some (x * y) := fun x y hx hy => mulM_ok hx hy (by decide) (by decide) (by decide)
  have d : ∀ x y z w : Int, x.natAbs < 2 ^ 911 → y.natAbs < 2 ^ 911 → z.natAbs < 2 ^ 911 → w.natAbs < 2 ^ 911 → (x * y - z * w).natAbs < 2 ^ 1823 := fun x y z w hx hy hz hw => sub_lt' (mul_lt' hx hy) (mul_lt' hz hw)
  unfold determinant_m
  simp only [tp]
  simp only [lt_eq, unc_mk, p_bnd_some, p_bnd_bnd, id_eq, p_bndF_nx, p_bndF_rt, p_bndF_bnd, p_retM_rt, p_retM_bnd, p_iteM, p_notM, p_orM, p_andM, ifB_true, ifB_false]
  rw [m _ _ hb.1 hc.2, p_bnd_some, m _ _ hb.2 hc.1, p_bnd_some, m2 _ _ one_sm (d _ _ _ _ hb.1 hc.2 hb.2 hc.1), p_bnd_some]
  rw [m _ _ one_sm hc.2, p_bnd_some, m _ _ hb.2 one_sm, p_bnd_some, m2 _ _ ha.1 (d _ _ _ _ one_sm hc.2 hb.2 one_sm), p_bnd_some]
  rw [m _ _ one_sm hc.1, p_bnd_some, m _ _ hb.1 one_sm, p_bnd_some, m2 _ _ ha.2 (d _ _ _ _ one_sm hc.1 hb.1 one_sm), p_bnd_some]
  rfl
theorem eq_dd0 (a b : T3) : eqD (dd0 a) (dd0 b) = some (decide (a = b)) := by
  obtain ⟨a1, a2, a3⟩ := a
  obtain ⟨b1, b2, b3⟩ := b
  have s : ∀ x y z : Int, SeqAt.shaped (PyData.tuple [.int x, .int y, .int z]) = true := fun x y z => by
    unfold SeqAt.shaped
    simp [PyData.canLay0, PyData.canLayAll0, PyData.depth, PyData.depthAll]
  unfold eqD
  rw [if_pos ⟨s _ _ _, s _ _ _⟩]
  show some (PyData.eqv (.tuple [.int a1, .int a2, .int a3]) (.tuple [.int b1, .int b2, .int b3])) = _
  congr 1
  simp only [PyData.eqv, PyData.eqvAll, Bool.and_true, Prod.mk.injEq]
  by_cases h1 : a1 = b1 <;> by_cases h2 : a2 = b2 <;> by_cases h3 : a3 = b3 <;> simp [h1, h2, h3]
def spn (found : List Pt) (t : Pt) : Bool := match found with
  | [] => false
  | [a] => decide (a = t)
  | [a, b] => decide (det3 a b t = 0)
  | _ => true
theorem tp_inj (a b : Pt) : decide (tp a = tp b) = decide (a = b) := by
  by_cases h : a = b
  · subst h; simp
  · rw [decide_eq_false h, decide_eq_false]
    intro z
    apply h
    unfold tp at z
    simp only [Prod.mk.injEq] at z
    exact Prod.ext z.2.1 z.2.2
theorem spanned_eq {found : List Pt} {t : Pt} (hf : ∀ a ∈ found, Sm a) (ht : Sm t) : is_spanned_m (found.map tp, tp t) = some (spn found t) := by
  unfold is_spanned_m
  simp only []
  match found with
  | [] => rfl
  | [a] =>
    rw [show decide ((((List.map tp [a]).length : Nat) : Int) = 0) = false from rfl, show decide ((((List.map tp [a]).length : Nat) : Int) = 1) = true from rfl]
    simp only [lt_eq, unc_mk, p_bnd_some, p_bnd_bnd, id_eq, p_bndF_nx, p_bndF_rt, p_bndF_bnd, p_retM_rt, p_retM_bnd, p_iteM, p_notM, p_orM, p_andM, ifB_true, ifB_false]
    rw [show L2.atI (List.map tp [a]) 0 = some (tp a) from rfl, p_bnd_some, eq_dd0, p_bnd_some, tp_inj]
    rfl
  | [a, b] =>
    rw [show decide ((((List.map tp [a, b]).length : Nat) : Int) = 0) = false from rfl, show decide ((((List.map tp [a, b]).length : Nat) : Int) = 1) = false from rfl, show decide ((2 : Int) < (((List.map tp [a, b]).length : Nat) : Int)) = false from rfl]
    simp only [lt_eq, unc_mk, p_bnd_some, p_bnd_bnd, id_eq, p_bndF_nx, p_bndF_rt, p_bndF_bnd, p_retM_rt, p_retM_bnd, p_iteM, p_notM, p_orM, p_andM, ifB_true, ifB_false]
    rw [show L2.atI (List.map tp [a, b]) 0 = some (tp a) from rfl, p_bnd_some, show L2.atI (List.map tp [a, b]) 1 = some (tp b) from rfl, p_bnd_some]
    rw [det_eq (hf a (by simp)) (hf b (by simp)) ht]
    simp only [lt_eq, unc_mk, p_bnd_some, p_bnd_bnd, id_eq, p_bndF_nx, p_bndF_rt, p_bndF_bnd, p_retM_rt, p_retM_bnd, p_iteM, p_notM, p_orM, p_andM, ifB_true, ifB_false]
    rfl
  | a :: b :: c :: l =>
    have hl : (((List.map tp (a :: b :: c :: l)).length : Nat) : Int) = (l.length : Int) + 3 := by simp only [List.length_map, List.length_cons]; omega
    rw [hl, decide_eq_false (show ¬ ((l.length : Int) + 3 = 0) by omega), decide_eq_false (show ¬ ((l.length : Int) + 3 = 1) by omega), decide_eq_true (show (2 : Int) < (l.length : Int) + 3 by omega)]
    simp only [lt_eq, unc_mk, p_bnd_some, p_bnd_bnd, id_eq, p_bndF_nx, p_bndF_rt, p_bndF_bnd, p_retM_rt, p_retM_bnd, p_iteM, p_notM, p_orM, p_andM, ifB_true, ifB_false]
    rfl
def bstep (f : List Pt) (t : Pt) : List Pt := if spn f t = true then f else f ++ [t]
def bas (pts : List Pt) : List Pt := pts.foldl bstep []
theorem bstep_len {f : List Pt} {t : Pt} (h : f.length ≤ 3) : (bstep f t).length ≤ 3 := by
  unfold bstep
  split
  · exact h
  · rename_i hs
    match f, h, hs with
    | [], _, _ => simp
    | [a], _, _ => simp
    | [a, b], _, _ => simp
    | a :: b :: c :: l, _, hs => exact absurd rfl hs
theorem basis_eq {pts : List Pt} (h : ∀ a ∈ pts, Sm a) : basis_of_m (pts.map tp) = some ((bas pts).map tp) ∧ (∀ a ∈ bas pts, Sm a) := by
  have loop : ∀ (l f : List Pt), (∀ a ∈ l, Sm a) → (∀ a ∈ f, Sm a) → f.length ≤ 3 → ∀ (F : T3 → List T3 → Option (Fl (List T3) (List T3) (List T3))),
      (∀ t s, F t s = bndF pureMd (iteM pureMd (Ty.notM pureMd (is_spanned_m (s, t))) ((okLen s.length).bind fun _ => some (.nx (s ++ [t]))) (some (.nx s))) fun s5 => some (.nx s5)) →
      forL (L := Unit) pureMd F (l.map tp) (f.map tp) = some (.nx ((l.foldl bstep f).map tp)) ∧ ∀ a ∈ l.foldl bstep f, Sm a := by
    intro l
    induction l with
    | nil => intro f _ hf _ F _; exact ⟨rfl, hf⟩
    | cons t l ih =>
      intro f hl hf hlen F hF
      have ht := hl t (by simp)
      have hstep : F (tp t) (f.map tp) = some (.nx ((bstep f t).map tp)) := by
        rw [hF, spanned_eq hf ht, p_notM, p_iteM]
        unfold bstep
        cases hs : spn f t with
        | true => rfl
        | false =>
          rw [show ifB (!false) _ _ = _ from ifB_true _ _, len_ok (by rw [List.length_map]; omega), p_bnd_some, p_bndF_nx, if_neg Bool.false_ne_true, List.map_append]
          rfl
      have hf' : ∀ a ∈ bstep f t, Sm a := by
        unfold bstep
        split
        · exact hf
        · intro a ha
          rcases List.mem_append.mp ha with z | z
          · exact hf a z
          · rw [List.mem_singleton.mp z]; exact ht
      have := ih (bstep f t) (fun a ha => hl a (List.mem_cons_of_mem _ ha)) hf' (bstep_len hlen) F hF
      refine ⟨?_, this.2⟩
      rw [List.map_cons]
      show Option.bind (F (tp t) (f.map tp)) _ = _
      rw [hstep]
      exact this.1
  unfold basis_of_m
  simp only [lt_eq, unc_mk, p_bnd_some, p_bnd_bnd, id_eq, p_bndF_nx, p_bndF_rt, p_bndF_bnd, p_retM_rt, p_retM_bnd, p_iteM, p_notM, p_orM, p_andM, ifB_true, ifB_false]
  have key := loop pts [] h (fun a ha => by simp at ha) (by simp) (fun triple3 s2 => bndF pureMd (iteM pureMd (Ty.notM pureMd (is_spanned_m (s2, triple3))) ((okLen s2.length).bind fun x => some (.nx (s2 ++ [triple3]))) (some (.nx s2))) fun s5 => some (.nx s5)) fun t s => rfl
  refine ⟨?_, key.2⟩
  have e := key.1
  rw [List.map_nil] at e
  rw [e, p_bndF_nx, p_retM_rt]
  rfl
theorem txt_sm {n : Nat} {x : List Nat} (h : Txt n x) (hn : n ≤ 130) : Sm (pw x.length, val x) := by
  have hp := pw_small (n := x.length) (by have := h.1; omega)
  refine ⟨hp, ?_⟩
  have hv : ∀ x : List Nat, (∀ c ∈ x, 0 < c ∧ c < 128) → 0 ≤ val x ∧ val x < pw x.length := by
    intro x
    induction x with
    | nil => intro _; exact ⟨by decide, by decide⟩
    | cons c x ih =>
      intro hc
      have := ih fun d hd => hc d (List.mem_cons_of_mem _ hd)
      have h1 := hc c (by simp)
      have h2 := pw_pos x.length
      rw [val_cons, List.length_cons, pw_succ]
      have h3 : 0 ≤ (c : Int) * pw x.length := Int.mul_nonneg (by omega) (by omega)
      have h4 : (c : Int) * pw x.length ≤ 127 * pw x.length := Int.mul_le_mul_of_nonneg_right (by omega) (by omega)
      omega
  have := hv x h.2
  show (val x).natAbs < _
  omega
def pt (x : List Nat) : Pt := (pw x.length, val x)
end K17
set_option Elab.async false
set_option linter.all false
set_option maxRecDepth 100000
set_option maxHeartbeats 4000000
set_option exponentiation.threshold 100000
/-! Divisors and lowest terms. -/
namespace K17
open PySem Ty

/-- the loop of Euclid; test, step as the mirrors have them -/
theorem euclid {L ρ : Type} (f : Int × Int → Option (Fl (Int × Int) (Int × Int) ρ)) (hf : ∀ a b : Nat, 0 < b → f ((a : Int), (b : Int)) = some (.nx ((b : Int), ((a % b : Nat) : Int)))) :
    ∀ (k a b n : Nat), b < 2 ^ k → 2 * k + 1 ≤ n → whileN (L := L) pureMd (fun s : Int × Int => some (decide ((0 : Int) < s.2))) f n ((a : Int), (b : Int)) = some (.nx ((Nat.gcd a b : Int), 0)) := by
  have zero : ∀ a n : Nat, 1 ≤ n → whileN (L := L) pureMd (fun s : Int × Int => some (decide ((0 : Int) < s.2))) f n ((a : Int), ((0 : Nat) : Int)) = some (.nx ((Nat.gcd a 0 : Int), 0)) := fun a n hn => by
    obtain ⟨n, rfl⟩ := Nat.exists_eq_succ_of_ne_zero (by omega : n ≠ 0)
    rw [Nat.gcd_zero_right]
    rfl
  have step : ∀ a b n : Nat, 0 < b → whileN (L := L) pureMd (fun s : Int × Int => some (decide ((0 : Int) < s.2))) f (n + 1) ((a : Int), (b : Int)) = whileN (L := L) pureMd (fun s : Int × Int => some (decide ((0 : Int) < s.2))) f n ((b : Int), ((a % b : Nat) : Int)) := fun a b n hb => by
    rw [whileN]
    simp only [decide_eq_true (by omega : (0 : Int) < (b : Int)), p_bnd_some, if_true, hf a b hb]
  intro k
  induction k with
  | zero =>
    intro a b n hb hn
    have : b = 0 := by simpa using hb
    subst this
    exact zero a n (by omega)
  | succ k ih =>
    intro a b n hb hn
    by_cases h0 : b = 0
    · subst h0; exact zero a n (by omega)
    obtain ⟨n, rfl⟩ : ∃ m, n = m + 2 := ⟨n - 2, by omega⟩
    rw [step a b (n + 1) (by omega)]
    have g1 : Nat.gcd a b = Nat.gcd b (a % b) := by rw [Nat.gcd_comm a b, Nat.gcd_rec b a, Nat.gcd_comm]
    by_cases h1 : a % b = 0
    · rw [g1, h1]; exact zero b (n + 1) (by omega)
    · rw [step b (a % b) n (by omega)]
      have g2 : Nat.gcd b (a % b) = Nat.gcd (a % b) (b % (a % b)) := by rw [Nat.gcd_comm b, Nat.gcd_rec (a % b) b, Nat.gcd_comm]
      rw [g1, g2]
      have hr : a % b < b := Nat.mod_lt _ (by omega)
      have hm : b % (a % b) < a % b := Nat.mod_lt _ (by omega)
      have hd : b % (a % b) + a % b ≤ b := by
        have := Nat.mod_add_div b (a % b)
        have q : 1 ≤ b / (a % b) := (Nat.one_le_div_iff (by omega)).mpr (by omega)
        have : (a % b) * 1 ≤ (a % b) * (b / (a % b)) := Nat.mul_le_mul_left _ q
        omega
      have hp : 2 ^ (k + 1) = 2 * 2 ^ k := by rw [Nat.pow_succ, Nat.mul_comm]
      exact ih _ _ n (by omega) (by omega)
theorem mod_step {a b : Nat} (h : 0 < b) : modM (a : Int) (b : Int) = some ((a % b : Nat) : Int) := by
  unfold modM
  rw [if_pos (by omega)]
  rfl
theorem abs_if (x : Int) : (if x < 0 then -x else x) = (x.natAbs : Int) := by
  split <;> omega
theorem bigN_ge {k : Nat} (h : k ≤ 100000) : 2 * k + 1 ≤ bigN := by unfold bigN; omega
theorem gcd_eq {x y : Int} {k : Nat} (hy : y.natAbs < 2 ^ k) (hk : k ≤ 100000) : gcd_m (x, y) = some (Int.gcd x y : Int) := by
  unfold gcd_m
  simp only []
  simp only [lt_eq, unc_mk, p_bnd_some, p_bnd_bnd, id_eq, p_bndF_nx, p_bndF_rt, p_bndF_bnd, p_retM_rt, p_retM_bnd, p_iteM, p_notM, p_orM, p_andM, ifB_true, ifB_false]
  rw [abs_if, abs_if]
  have key := euclid (L := Unit) (ρ := Int) (fun s4 : Int × Int => Option.bind (Option.bind (some s4.2) fun x7 => Option.bind (Option.bind (Option.bind (some s4.1) fun a5 => Option.bind (some s4.2) fun b6 => id (modM a5 b6)) fun y8 => some (x7, y8)) fun p => some p) (unc fun a10 b11 => some (Fl.nx (L := Int × Int) (ρ := Int) (a10, b11)))) (fun a b hb => by
    show Option.bind (Option.bind (some (b : Int)) fun x7 => Option.bind (Option.bind (modM (a : Int) (b : Int)) _) _) _ = _
    rw [mod_step hb]
    rfl) k x.natAbs y.natAbs bigN hy (bigN_ge hk)
  refine Eq.trans (congrArg (fun m => Option.bind (bndF pureMd m _) _) (Eq.trans ?_ key)) ?_
  · congr 1
    funext s
    show _ = Option.bind (Option.bind (some s.2) fun x7 => Option.bind (Option.bind (modM s.1 s.2) fun y8 => some (x7, y8)) fun p => some p) _
    simp only [p_bnd_some, p_bnd_bnd]
    rfl
  · rfl
/-- n / l is N / D in lowest terms -/
def LowOk (N D : Int) (f : Int × Int) : Prop := 0 < f.2 ∧ f.1 * D = N * f.2 ∧ Int.gcd f.1 f.2 = 1 ∧ f.1.natAbs ≤ N.natAbs ∧ f.2.natAbs ≤ D.natAbs
theorem low_div {N D s : Int} (hs : s ≠ 0) (h1 : s ∣ N) (h2 : s ∣ D) (hd : 0 < D * s) (hg : Int.gcd N D = s.natAbs) : LowOk N D (N.fdiv s, D.fdiv s) := by
  obtain ⟨n, rfl⟩ := h1
  obtain ⟨l, rfl⟩ := h2
  have e : ∀ z : Int, (s * z).fdiv s = z := fun z => Int.mul_fdiv_cancel_left z hs
  have s0 : 0 < s.natAbs := Int.natAbs_pos.mpr hs
  have ab : ∀ z : Int, z.natAbs ≤ (s * z).natAbs := fun z => by
    rw [Int.natAbs_mul]
    exact Nat.le_mul_of_pos_left _ s0
  unfold LowOk
  rw [e, e]
  refine ⟨?_, ?_, ?_, ab n, ab l⟩
  · have h3 : s * l * s = l * (s * s) := by grind
    rw [h3] at hd
    have h4 : 0 < s * s := by
      rcases Int.lt_or_gt_of_ne hs with z | z
      · exact Int.mul_pos_of_neg_of_neg z z
      · exact Int.mul_pos z z
    show 0 < l
    by_cases z : 0 < l
    · exact z
    · have := Int.mul_le_mul_of_nonneg_right (show l ≤ 0 by omega) (Int.le_of_lt h4)
      rw [Int.zero_mul] at this
      omega
  · show n * (s * l) = s * n * l
    grind
  · have := Int.gcd_mul_left s n l
    rw [this] at hg
    have h5 : s.natAbs * Int.gcd n l = s.natAbs * 1 := by rw [hg, Nat.mul_one]
    exact Nat.eq_of_mul_eq_mul_left s0 h5
theorem divNW_ok {x y : Int} {k : Nat} (h0 : y ≠ 0) (h : y.natAbs < 2 ^ k) (hk : k ≤ 9000) (k0 : 0 < k) : divNW x y = some (x.fdiv y) := if_pos ⟨h0, by have := log2_lt' h k0; omega⟩
theorem lowest_eq {N D : Int} (hD : D ≠ 0) (bD : D.natAbs < 2 ^ 1830) : ∃ f, lowest_m (N, D) = some f ∧ LowOk N D f := by
  have g := gcd_eq (x := N) bD (by decide)
  have gpos : 0 < Int.gcd N D := Int.gcd_pos_of_ne_zero_right _ hD
  have gle : Int.gcd N D ≤ D.natAbs := by
    have := Nat.le_of_dvd (Int.natAbs_pos.mpr hD) (Nat.gcd_dvd_right N.natAbs D.natAbs)
    exact this
  unfold lowest_m
  simp only []
  by_cases hp : 0 < D
  · have hs : ((Int.gcd N D : Nat) : Int) ≠ 0 := by omega
    have hb : ((Int.gcd N D : Nat) : Int).natAbs < 2 ^ 1830 := by simp only [Int.natAbs_natCast]; omega
    rw [decide_eq_true hp]
    simp only [lt_eq, unc_mk, p_bnd_some, p_bnd_bnd, id_eq, p_bndF_nx, p_bndF_rt, p_bndF_bnd, p_retM_rt, p_retM_bnd, p_iteM, p_notM, p_orM, p_andM, ifB_true, ifB_false]
    rw [g, p_bnd_some, divNW_ok hs hb (by decide) (by decide), p_bnd_some, divNW_ok hs hb (by decide) (by decide), p_bnd_some]
    exact ⟨_, rfl, low_div hs (Int.gcd_dvd_left _ _) (Int.gcd_dvd_right _ _) (Int.mul_pos hp (by omega)) (by simp)⟩
  · have hs : -((Int.gcd N D : Nat) : Int) ≠ 0 := by omega
    have hb : (-((Int.gcd N D : Nat) : Int)).natAbs < 2 ^ 1830 := by simp only [Int.natAbs_neg, Int.natAbs_natCast]; omega
    rw [decide_eq_false hp]
    simp only [lt_eq, unc_mk, p_bnd_some, p_bnd_bnd, id_eq, p_bndF_nx, p_bndF_rt, p_bndF_bnd, p_retM_rt, p_retM_bnd, p_iteM, p_notM, p_orM, p_andM, ifB_true, ifB_false]
    rw [g, p_bnd_some, divNW_ok hs hb (by decide) (by decide), p_bnd_some, divNW_ok hs hb (by decide) (by decide), p_bnd_some]
    exact ⟨_, rfl, low_div hs ((Int.neg_dvd).mpr (Int.gcd_dvd_left _ _)) ((Int.neg_dvd).mpr (Int.gcd_dvd_right _ _)) (Int.mul_pos_of_neg_of_neg (by omega) (by omega)) (by simp)⟩
theorem low_one {D : Int} (hD : D ≠ 0) {f : Int × Int} (h : LowOk D D f) : f = (1, 1) := by
  obtain ⟨n, l⟩ := f
  obtain ⟨h1, h2, h3, _, _⟩ := h
  simp only at h1 h2 h3
  have e : n = l := Int.eq_of_mul_eq_mul_right hD (by rw [h2, Int.mul_comm])
  subst e
  rw [Int.gcd_self] at h3
  have : n = 1 := by omega
  rw [this]
theorem low_zero {D : Int} (hD : D ≠ 0) {f : Int × Int} (h : LowOk 0 D f) : f = (0, 1) := by
  obtain ⟨n, l⟩ := f
  obtain ⟨h1, h2, h3, _, _⟩ := h
  simp only [Int.zero_mul] at h1 h2 h3
  have e : n = 0 := (Int.mul_eq_zero.mp h2).resolve_right hD
  subst e
  rw [Int.gcd_zero_left] at h3
  have : l = 1 := by omega
  rw [this]
theorem islow_eq {N D : Int} {f : Int × Int} (h : LowOk N D f) (bD : D.natAbs < 2 ^ 1830) : _law_is_lowest_m f = some true := by
  obtain ⟨n, l⟩ := f
  obtain ⟨h1, h2, h3, _, h5⟩ := h
  simp only at h1 h2 h3 h5
  have e0 : (eqD (dd1 []) (dd1 [])) = some true := rfl
  unfold _law_is_lowest_m
  simp only []
  simp only [lt_eq, unc_mk, p_bnd_some, p_bnd_bnd, id_eq, p_bndF_nx, p_bndF_rt, p_bndF_bnd, p_retM_rt, p_retM_bnd, p_iteM, p_notM, p_orM, p_andM, ifB_true, ifB_false]
  have hlen : lenM pureMd (some [n, l]) = some [n, l] := rfl
  rw [hlen, p_bnd_some, show lcM pureMd (fun (_ : Int) => some (false || !true)) (fun (a : Int) => some a) [n, l] = some [] from rfl, p_bnd_some, e0]
  show Option.bind (bndF pureMd (iteM pureMd (orM pureMd (some false) (some (decide (l < 1)))) _ _) _) _ = _
  rw [decide_eq_false (by omega : ¬ l < 1)]
  simp only [lt_eq, unc_mk, p_bnd_some, p_bnd_bnd, id_eq, p_bndF_nx, p_bndF_rt, p_bndF_bnd, p_retM_rt, p_retM_bnd, p_iteM, p_notM, p_orM, p_andM, ifB_true, ifB_false]
  rw [abs_if]
  have key := euclid (L := Unit) (ρ := Bool) (fun s4 : Int × Int => Option.bind (Option.bind (some s4.2) fun x7 => Option.bind (Option.bind (Option.bind (some s4.1) fun a5 => Option.bind (some s4.2) fun b6 => id (modM a5 b6)) fun y8 => some (x7, y8)) fun p => some p) (unc fun a10 b11 => some (Fl.nx (L := Int × Int) (ρ := Bool) (a10, b11)))) (fun a b hb => by
    show Option.bind (Option.bind (some (b : Int)) fun x7 => Option.bind (Option.bind (modM (a : Int) (b : Int)) _) _) _ = _
    rw [mod_step hb]
    rfl) 1830 n.natAbs l.natAbs bigN (by omega) (bigN_ge (by decide))
  rw [show ((l.natAbs : Nat) : Int) = l by omega] at key
  refine Eq.trans (congrArg (fun m => Option.bind (bndF pureMd m _) _) (Eq.trans ?_ key)) ?_
  · congr 1
    funext s
    show _ = Option.bind (Option.bind (some s.2) fun x7 => Option.bind (Option.bind (modM s.1 s.2) fun y8 => some (x7, y8)) fun p => some p) _
    simp only [p_bnd_some, p_bnd_bnd]
    rfl
  · have : Nat.gcd n.natAbs l.natAbs = 1 := h3
    rw [this]
    rfl
end K17
set_option Elab.async false
set_option linter.all false
set_option maxRecDepth 100000
set_option maxHeartbeats 4000000
set_option exponentiation.threshold 100000
/-! Which rows are spare. -/
namespace K17
open PySem Ty

def row (r : T3) : List Int := [r.1, r.2.1, r.2.2]
def gt (c : Int) (r : T3) : Int := if c = 0 then r.1 else if c = 1 then r.2.1 else r.2.2
def IsCol (c : Int) : Prop := c = 0 ∨ c = 1 ∨ c = 2
theorem at_row {c : Int} (h : IsCol c) (r : T3) : L2.atI (row r) c = some (gt c r) := by
  rcases h with h | h | h <;> subst h <;> rfl
def comb (c : Int) (h r : T3) : T3 := (r.1 * gt c h - h.1 * gt c r, r.2.1 * gt c h - h.2.1 * gt c r, r.2.2 * gt c h - h.2.2 * gt c r)
def Bd (b : Nat) (r : T3) : Prop := r.1.natAbs < 2 ^ b ∧ r.2.1.natAbs < 2 ^ b ∧ r.2.2.natAbs < 2 ^ b
theorem Bd.gt {b : Nat} {r : T3} (h : Bd b r) (c : Int) : (gt c r).natAbs < 2 ^ b := by
  unfold K17.gt
  split
  · exact h.1
  · split
    · exact h.2.1
    · exact h.2.2
theorem Bd.mono {b j : Nat} {r : T3} (h : Bd b r) (l : b ≤ j) : Bd j r := ⟨pow_mono' h.1 l, pow_mono' h.2.1 l, pow_mono' h.2.2 l⟩
theorem Bd.comb {b : Nat} {h r : T3} (hh : Bd b h) (hr : Bd b r) (c : Int) : Bd (b + b + 1) (comb c h r) :=
  ⟨sub_lt' (mul_lt' hr.1 (hh.gt c)) (mul_lt' hh.1 (hr.gt c)), sub_lt' (mul_lt' hr.2.1 (hh.gt c)) (mul_lt' hh.2.1 (hr.gt c)), sub_lt' (mul_lt' hr.2.2 (hh.gt c)) (mul_lt' hh.2.2 (hr.gt c))⟩
/-- one turn of the inner loop -/
theorem comb_lc {c : Int} (hc : IsCol c) {b : Nat} {h r : T3} (hh : Bd b h) (hr : Bd b r) (hb : 0 < b) (hb2 : b + b ≤ 1000000) (f : Int → Option Int) (hf : ∀ k, f k = (L2.atI (row r) k).bind fun x => (L2.atI (row h) c).bind fun y => (mulM x y).bind fun u => (L2.atI (row h) k).bind fun z => (L2.atI (row r) c).bind fun w => (mulM z w).bind fun v => some (u - v)) :
    lcM pureMd (fun _ => some true) f [0, 1, 2] = some (row (comb c h r)) := by
  have e : ∀ k, IsCol k → f k = some (gt k r * gt c h - gt k h * gt c r) := fun k hk => by
    rw [hf, at_row hk, p_bnd_some, at_row hc, p_bnd_some, mulM_ok (hr.gt k) (hh.gt c) hb hb hb2, p_bnd_some, at_row hk, p_bnd_some, at_row hc, p_bnd_some, mulM_ok (hh.gt k) (hr.gt c) hb hb hb2, p_bnd_some]
  have := lc_all (f := f) (g := fun k => gt k r * gt c h - gt k h * gt c r) (l := [0, 1, 2]) fun k hk => e k (by simpa [IsCol] using hk)
  exact this
/-- what is left of a row -/
def elim (hs : List (Int × T3)) (r : T3) : T3 := hs.foldl (fun o q => comb q.1 q.2 o) r
def col1 (a b : Pt) : Int := if b.1 - a.1 ≠ 0 then 1 else 2
def col2 (a b : Pt) : Int := if b.1 - a.1 ≠ 0 then 2 else 1
def hd : List Pt → List (Int × T3)
  | [] => []
  | [a] => [(0, tp a)]
  | [a, b] => [(0, tp a), (col1 a b, comb 0 (tp a) (tp b))]
  | a :: b :: t :: _ => [(0, tp a), (col1 a b, comb 0 (tp a) (tp b)), (col2 a b, comb (col1 a b) (comb 0 (tp a) (tp b)) (comb 0 (tp a) (tp t)))]
def Good : List Pt → Prop
  | [] => True
  | [_] => True
  | [a, b] => a ≠ b
  | [a, b, t] => a ≠ b ∧ det3 a b t ≠ 0
  | _ => False
def firstC (r : T3) : Int := if r.1 ≠ 0 then 0 else if r.2.1 ≠ 0 then 1 else 2
theorem comb0 (a t : Pt) : comb 0 (tp a) (tp t) = (0, t.1 - a.1, t.2 - a.2) := by
  unfold comb gt tp
  simp
theorem comb1 (a b t : Pt) (h : b.1 - a.1 ≠ 0) : comb 1 (0, b.1 - a.1, b.2 - a.2) (0, t.1 - a.1, t.2 - a.2) = (0, 0, det3 a b t) := by
  unfold comb gt det3
  simp only [if_neg (by decide : ¬ (1 : Int) = 0), if_true]
  refine Prod.ext (by simp) (Prod.ext ?_ ?_)
  · show (t.1 - a.1) * (b.1 - a.1) - (b.1 - a.1) * (t.1 - a.1) = 0
    grind
  · show (t.2 - a.2) * (b.1 - a.1) - (b.2 - a.2) * (t.1 - a.1) = _
    grind
theorem comb2 (a b t : Pt) (h : b.1 - a.1 = 0) : comb 2 (0, b.1 - a.1, b.2 - a.2) (0, t.1 - a.1, t.2 - a.2) = (0, -det3 a b t, 0) := by
  unfold comb gt det3
  simp only [if_neg (by decide : ¬ (2 : Int) = 0), if_neg (by decide : ¬ (2 : Int) = 1)]
  have e : b.1 = a.1 := by omega
  refine Prod.ext (by simp) (Prod.ext ?_ ?_)
  · show (t.1 - a.1) * (b.2 - a.2) - (b.1 - a.1) * (t.2 - a.2) = _
    rw [e]
    grind
  · show (t.2 - a.2) * (b.2 - a.2) - (b.2 - a.2) * (t.2 - a.2) = _
    grind
def Z : T3 := (0, 0, 0)
theorem elim_spn {f : List Pt} (g : Good f) (t : Pt) : (spn f t = true ↔ elim (hd f) (tp t) = Z) ∧ (spn f t = false → hd (f ++ [t]) = hd f ++ [(firstC (elim (hd f) (tp t)), elim (hd f) (tp t))] ∧ Good (f ++ [t])) := by
  match f, g with
  | [], _ =>
    refine ⟨⟨fun h => (nomatch h), fun h => ?_⟩, fun _ => ⟨?_, trivial⟩⟩
    · have := congrArg Prod.fst h
      exact absurd (show (1 : Int) = 0 from this) (by decide)
    · show [((0 : Int), tp t)] = [(firstC (tp t), tp t)]
      rfl
  | [a], _ =>
    have e : elim (hd [a]) (tp t) = (0, t.1 - a.1, t.2 - a.2) := comb0 a t
    have k : a = t ↔ ((0, t.1 - a.1, t.2 - a.2) : T3) = Z := by
      constructor
      · intro h; subst h; simp [Z]
      · intro h
        unfold Z at h
        simp only [Prod.mk.injEq] at h
        exact Prod.ext (by omega) (by omega)
    rw [e]
    refine ⟨?_, fun h => ?_⟩
    · show decide (a = t) = true ↔ _
      rw [decide_eq_true_iff]
      exact k
    · have h : decide (a = t) = false := h
      have ne : a ≠ t := of_decide_eq_false h
      refine ⟨?_, ne⟩
      show [((0 : Int), tp a), (col1 a t, comb 0 (tp a) (tp t))] = [((0 : Int), tp a)] ++ [(firstC _, _)]
      rw [comb0]
      show _ = [((0 : Int), tp a), (firstC _, _)]
      unfold col1 firstC
      simp
  | [a, b], g =>
    have g : a ≠ b := g
    have hz : b.1 - a.1 = 0 → b.2 - a.2 ≠ 0 := fun h z => g (Prod.ext (by omega) (by omega))
    by_cases h1 : b.1 - a.1 ≠ 0
    · have c : col1 a b = 1 := if_pos h1
      have c2 : col2 a b = 2 := if_pos h1
      have e : elim (hd [a, b]) (tp t) = (0, 0, det3 a b t) := by
        show comb (col1 a b) (comb 0 (tp a) (tp b)) (comb 0 (tp a) (tp t)) = _
        rw [c, comb0, comb0, comb1 a b t h1]
      rw [e]
      refine ⟨?_, fun h => ?_⟩
      · show decide (det3 a b t = 0) = true ↔ _
        rw [decide_eq_true_iff]
        exact ⟨fun h => by rw [h]; rfl, fun h => by unfold Z at h; simp only [Prod.mk.injEq] at h; exact h.2.2⟩
      · have ne : det3 a b t ≠ 0 := of_decide_eq_false h
        refine ⟨?_, g, ne⟩
        show [((0 : Int), tp a), (col1 a b, comb 0 (tp a) (tp b)), (col2 a b, comb (col1 a b) (comb 0 (tp a) (tp b)) (comb 0 (tp a) (tp t)))] = [((0 : Int), tp a), (col1 a b, comb 0 (tp a) (tp b))] ++ [(firstC _, _)]
        rw [c, c2, comb0, comb0, comb1 a b t h1]
        rfl
    · have h1 : b.1 - a.1 = 0 := Classical.not_not.mp h1
      have c : col1 a b = 2 := if_neg (by omega)
      have c2 : col2 a b = 1 := if_neg (by omega)
      have e : elim (hd [a, b]) (tp t) = (0, -det3 a b t, 0) := by
        show comb (col1 a b) (comb 0 (tp a) (tp b)) (comb 0 (tp a) (tp t)) = _
        rw [c, comb0, comb0, comb2 a b t h1]
      rw [e]
      refine ⟨?_, fun h => ?_⟩
      · show decide (det3 a b t = 0) = true ↔ _
        rw [decide_eq_true_iff]
        exact ⟨fun h => by rw [h]; rfl, fun h => by unfold Z at h; simp only [Prod.mk.injEq] at h; omega⟩
      · have ne : det3 a b t ≠ 0 := of_decide_eq_false h
        refine ⟨?_, g, ne⟩
        show [((0 : Int), tp a), (col1 a b, comb 0 (tp a) (tp b)), (col2 a b, comb (col1 a b) (comb 0 (tp a) (tp b)) (comb 0 (tp a) (tp t)))] = [((0 : Int), tp a), (col1 a b, comb 0 (tp a) (tp b))] ++ [(firstC _, _)]
        rw [c, c2, comb0, comb0, comb2 a b t h1]
        unfold firstC
        simp [ne]
  | [a, b, d], g =>
    obtain ⟨g1, g2⟩ := g
    refine ⟨⟨fun _ => ?_, fun _ => rfl⟩, fun h => by cases h⟩
    by_cases h1 : b.1 - a.1 ≠ 0
    · have c : col1 a b = 1 := if_pos h1
      have c2 : col2 a b = 2 := if_pos h1
      show comb (col2 a b) (comb (col1 a b) (comb 0 (tp a) (tp b)) (comb 0 (tp a) (tp d))) (comb (col1 a b) (comb 0 (tp a) (tp b)) (comb 0 (tp a) (tp t))) = _
      rw [c, c2, comb0, comb0, comb0, comb1 a b d h1, comb1 a b t h1]
      unfold comb gt Z
      simp only [if_neg (by decide : ¬ (2 : Int) = 0), if_neg (by decide : ¬ (2 : Int) = 1)]
      refine Prod.ext (by simp) (Prod.ext (by simp) ?_)
      show det3 a b t * det3 a b d - det3 a b d * det3 a b t = 0
      grind
    · have h1 : b.1 - a.1 = 0 := Classical.not_not.mp h1
      have c : col1 a b = 2 := if_neg (by omega)
      have c2 : col2 a b = 1 := if_neg (by omega)
      show comb (col2 a b) (comb (col1 a b) (comb 0 (tp a) (tp b)) (comb 0 (tp a) (tp d))) (comb (col1 a b) (comb 0 (tp a) (tp b)) (comb 0 (tp a) (tp t))) = _
      rw [c, c2, comb0, comb0, comb0, comb2 a b d h1, comb2 a b t h1]
      unfold comb gt Z
      simp only [if_neg (by decide : ¬ (1 : Int) = 0), if_true]
      refine Prod.ext (by simp) (Prod.ext ?_ (by simp))
      show -det3 a b t * -det3 a b d - -det3 a b d * -det3 a b t = 0
      grind
/-- the places of the rows that are spanned by those ahead -/
def sp : List Pt → Int → List Pt → List Int
  | _, _, [] => []
  | f, i, t :: l => if spn f t = true then i :: sp f (i + 1) l else sp (f ++ [t]) (i + 1) l
theorem fold_len : ∀ (l f : List Pt) (i : Int), (l.foldl bstep f).length + (sp f i l).length = f.length + l.length
  | [], f, i => by simp [sp]
  | t :: l, f, i => by
    rw [List.foldl_cons, sp]
    unfold bstep
    by_cases h : spn f t = true
    · rw [if_pos h, if_pos h, List.length_cons, List.length_cons]
      have := fold_len l f (i + 1)
      unfold bstep at this
      omega
    · rw [if_neg h, if_neg h, List.length_cons]
      have := fold_len l (f ++ [t]) (i + 1)
      unfold bstep at this
      rw [List.length_append, List.length_singleton] at this
      omega
theorem fold_app : ∀ (l f : List Pt) (i : Int), sp f i l = [] → l.foldl bstep f = f ++ l
  | [], f, i, _ => by simp
  | t :: l, f, i, h => by
    rw [sp] at h
    by_cases h1 : spn f t = true
    · rw [if_pos h1] at h; cases h
    · rw [if_neg h1] at h
      rw [List.foldl_cons]
      have : bstep f t = f ++ [t] := if_neg h1
      rw [this, fold_app l (f ++ [t]) (i + 1) h]
      simp
theorem sp_app : ∀ (l m f : List Pt) (i : Int), sp f i (l ++ m) = sp f i l ++ sp (l.foldl bstep f) (i + l.length) m
  | [], m, f, i => by simp [sp]
  | t :: l, m, f, i => by
    rw [List.cons_append, sp, sp, List.foldl_cons]
    have e : i + 1 + (l.length : Int) = i + ((t :: l).length : Nat) := by rw [List.length_cons]; omega
    unfold bstep
    by_cases h : spn f t = true
    · rw [if_pos h, if_pos h, if_pos h, sp_app l m f (i + 1), e]
      rfl
    · rw [if_neg h, if_neg h, if_neg h, sp_app l m (f ++ [t]) (i + 1), e]
      rfl
end K17
set_option Elab.async false
set_option linter.all false
set_option maxRecDepth 100000
set_option maxHeartbeats 4000000
set_option exponentiation.threshold 100000
/-! The law's spare rows. -/
namespace K17
open PySem Ty

theorem tp_bd {p : Pt} (h : Sm p) : Bd 911 (tp p) := ⟨one_sm, h.1, h.2⟩
/-- the heads have columns and are small -/
def HdOk (hs : List (Int × T3)) : Prop := ∀ q ∈ hs, IsCol q.1 ∧ Bd 7300 q.2
theorem canLay_ints (xs : List Int) : PyData.canLayAll0 (xs.map PyData.int) = true := by
  induction xs with
  | nil => rfl
  | cons x xs ih => simp [PyData.canLayAll0, PyData.canLay0, ih]
theorem eqv_ints (xs ys : List Int) : PyData.eqvAll (xs.map PyData.int) (ys.map PyData.int) = decide (xs = ys) := by
  induction xs generalizing ys with
  | nil => cases ys <;> simp [PyData.eqvAll]
  | cons x xs ih =>
    cases ys with
    | nil => simp [PyData.eqvAll]
    | cons y ys =>
      simp only [List.map_cons, PyData.eqvAll, PyData.eqv, ih]
      by_cases h1 : x = y <;> by_cases h2 : xs = ys <;> simp [h1, h2]
theorem eq_dd1 (xs ys : List Int) : eqD (dd1 xs) (dd1 ys) = some (decide (xs = ys)) := by
  unfold eqD
  rw [if_pos ⟨shaped_ints xs, shaped_ints ys⟩]
  unfold dd1
  rw [PyData.eqv, eqv_ints]
theorem hd_len {f : List Pt} (g : Good f) : f.length ≤ 3 ∧ (hd f).length = f.length := by
  match f, g with
  | [], _ => exact ⟨by simp, rfl⟩
  | [_], _ => exact ⟨by simp, rfl⟩
  | [_, _], _ => exact ⟨by simp, rfl⟩
  | [_, _, _], _ => exact ⟨by simp, rfl⟩
/-- the bounds of what is left behind some heads -/
def bnd : Nat → Nat
  | 0 => 911
  | n + 1 => bnd n + bnd n + 1
/-- the heads grow in bounds -/
def HdB : Nat → List (Int × T3) → Prop
  | _, [] => True
  | n, q :: l => IsCol q.1 ∧ Bd (bnd n) q.2 ∧ HdB (n + 1) l
theorem HdB.app : ∀ {l : List (Int × T3)} {n : Nat} {q : Int × T3}, HdB n l → IsCol q.1 → Bd (bnd (n + l.length)) q.2 → HdB n (l ++ [q])
  | [], n, q, _, h1, h2 => ⟨h1, h2, trivial⟩
  | a :: l, n, q, h, h1, h2 => ⟨h.1, h.2.1, HdB.app h.2.2 h1 (by rw [List.length_cons] at h2; rw [show n + 1 + l.length = n + (l.length + 1) by omega]; exact h2)⟩
theorem elim_bd : ∀ {l : List (Int × T3)} {n : Nat} {r : T3}, HdB n l → Bd (bnd n) r → Bd (bnd (n + l.length)) (elim l r)
  | [], _, _, _, h => h
  | q :: l, n, r, h, hr => by
    have := elim_bd (l := l) (n := n + 1) (r := comb q.1 q.2 r) h.2.2 (h.2.1.comb hr q.1)
    rw [show n + 1 + l.length = n + (q :: l).length by rw [List.length_cons]; omega] at this
    exact this
theorem bnd_pos : ∀ n, 0 < bnd n
  | 0 => by decide
  | n + 1 => by unfold bnd; omega
theorem firstC_col (r : T3) : IsCol (firstC r) := by
  unfold firstC IsCol
  split
  · exact .inl rfl
  · split
    · exact .inr (.inl rfl)
    · exact .inr (.inr rfl)
theorem cols_eq (r : T3) (f : Int → Option Bool) (hf : ∀ k, f k = (L2.atI (row r) k).bind fun a => some (!decide (a = 0))) : ∃ cs, lcM pureMd f (fun k => some k) [0, 1, 2] = some cs ∧ (cs = [] ↔ r = Z) ∧ (r ≠ Z → L2.atI cs 0 = some (firstC r)) := by
  have e : ∀ k, IsCol k → f k = some (!decide (gt k r = 0)) := fun k hk => by rw [hf, at_row hk, p_bnd_some]
  refine ⟨_, lc_filter (q := fun k => !decide (gt k r = 0)) (g := fun k => k) (fun k hk => e k (by simpa [IsCol] using hk)) fun _ _ _ => rfl, ?_⟩
  obtain ⟨x, y, z⟩ := r
  have g0 : gt 0 (x, y, z) = x := rfl
  have g1 : gt 1 (x, y, z) = y := rfl
  have g2 : gt 2 (x, y, z) = z := rfl
  simp only [List.map_id', List.filter_cons, List.filter_nil, g0, g1, g2]
  unfold Z firstC
  by_cases hx : x = 0 <;> by_cases hy : y = 0 <;> by_cases hz : z = 0 <;> simp [hx, hy, hz] <;> rfl
theorem zero_bd {b : Nat} (hb : 0 < b) : Bd b Z := ⟨Nat.pow_pos (by decide), Nat.pow_pos (by decide), Nat.pow_pos (by decide)⟩
theorem spare_eq {pts : List Pt} (h : ∀ a ∈ pts, Sm a) (hl : pts.length < 1000) : _law_spare_m (pts.map fun p => row (tp p)) = some (sp [] 0 pts) := by
  have inner : ∀ (hs : List (Int × T3)) (n : Nat) (r : T3) (F : Int × List Int → List Int → Option (Fl (List Int) (List Int) (List Int))), HdB n hs → n + hs.length ≤ 3 → Bd (bnd n) r →
      (∀ q s, F q s = ((rangeM 3).bind fun l => lcM pureMd (fun _ => some true) (fun k => (L2.atI s k).bind fun x => (L2.atI q.2 q.1).bind fun y => (mulM x y).bind fun u => (L2.atI q.2 k).bind fun z => (L2.atI s q.1).bind fun w => (mulM z w).bind fun v => some (u - v)) l).bind fun o => some (.nx o)) →
      forL (L := List (Int × List Int) × List Int) pureMd F (hs.map fun q => (q.1, row q.2)) (row r) = some (.nx (row (elim hs r))) := by
    intro hs
    induction hs with
    | nil => intro n r F _ _ _ _; rfl
    | cons q hs ih =>
      intro n r F hb hn hr hF
      have hstep : F (q.1, row q.2) (row r) = some (.nx (row (comb q.1 q.2 r))) := by
        rw [hF, show rangeM 3 = some [0, 1, 2] from rfl, p_bnd_some]
        have b3 : bnd n + bnd n ≤ 1000000 := by
          have : ∀ m, m ≤ 3 → bnd m ≤ 10000 := fun m hm => by
            match m, hm with
            | 0, _ => decide
            | 1, _ => decide
            | 2, _ => decide
            | 3, _ => decide
          have := this n (by omega)
          omega
        rw [comb_lc hb.1 hb.2.1 hr (bnd_pos n) b3 _ fun k => rfl, p_bnd_some]
      show Option.bind (F (q.1, row q.2) (row r)) _ = _
      rw [hstep]
      exact ih (n + 1) (comb q.1 q.2 r) F hb.2.2 (by rw [List.length_cons] at hn; omega) (hb.2.1.comb hr q.1) hF
  have outer : ∀ (l f : List Pt) (i : Nat) (out : List Int) (F : Int × List Int → List (Int × List Int) × List Int → Option (Fl (List (Int × List Int) × List Int) (List (Int × List Int) × List Int) (List Int))), (∀ a ∈ l, Sm a) → Good f → HdB 0 (hd f) → out.length + l.length < 1000 →
      (∀ a s, F a s = bndF pureMd (forL pureMd (fun (q : Int × List Int) (o : List Int) => ((rangeM 3).bind fun l => lcM pureMd (fun _ => some true) (fun k => (L2.atI o k).bind fun x => (L2.atI q.2 q.1).bind fun y => (mulM x y).bind fun u => (L2.atI q.2 k).bind fun z => (L2.atI o q.1).bind fun w => (mulM z w).bind fun v => some (u - v)) l).bind fun o => some (.nx o)) s.1 a.2) fun s7 =>
        ((rangeM 3).bind fun l => lcM pureMd (fun k => (L2.atI s7 k).bind fun a => some (!decide (a = 0))) (fun k => some k) l).bind fun cs => bndF pureMd (iteM pureMd (eqD (dd1 cs) (dd1 [])) ((okLen s.2.length).bind fun _ => some (.nx (s.1, s.2 ++ [a.1]))) ((L2.atI cs 0).bind fun x => (okLen s.1.length).bind fun _ => some (.nx (s.1 ++ [(x, s7)], s.2)))) fun s39 => some (.nx s39)) →
      forL (L := Unit) pureMd F ((l.zipIdx i).map fun q => ((q.2 : Int), row (tp q.1))) ((hd f).map fun q => (q.1, row q.2), out) = some (.nx ((hd (l.foldl bstep f)).map (fun q => (q.1, row q.2)), out ++ sp f (i : Int) l)) := by
    intro l
    induction l with
    | nil => intro f i out F _ _ _ _ _; simp [sp]; rfl
    | cons t l ih =>
      intro f i out F hs g hb hlen hF
      have ht := hs t (by simp)
      obtain ⟨k1, k2⟩ := elim_spn g t
      have gl := hd_len g
      have bdE := elim_bd hb (tp_bd ht)
      rw [gl.2, Nat.zero_add] at bdE
      obtain ⟨cs, c1, c2, c3⟩ := cols_eq (elim (hd f) (tp t)) _ fun k => rfl
      have hstep : F ((i : Int), row (tp t)) ((hd f).map fun q => (q.1, row q.2), out) = some (.nx (if spn f t = true then ((hd f).map fun q => (q.1, row q.2), out ++ [(i : Int)]) else ((hd (f ++ [t])).map fun q => (q.1, row q.2), out))) := by
        rw [hF]
        simp only []
        rw [inner (hd f) 0 (tp t) _ hb (by rw [gl.2]; omega) (tp_bd ht) fun _ _ => rfl, p_bndF_nx, show rangeM 3 = some [0, 1, 2] from rfl, p_bnd_some, c1, p_bnd_some, eq_dd1, p_iteM]
        by_cases hsp : spn f t = true
        · rw [decide_eq_true (c2.mpr (k1.mp hsp)), ifB_true, if_pos hsp, show okLen out.length = some () from len_ok (by rw [List.length_cons] at hlen; omega), p_bnd_some]
          rfl
        · have hz : elim (hd f) (tp t) ≠ Z := fun z => hsp (k1.mpr z)
          rw [decide_eq_false (fun z => hz (c2.mp z)), ifB_false, if_neg hsp, c3 hz, p_bnd_some, show okLen ((hd f).map fun q => (q.1, row q.2)).length = some () from len_ok (by rw [List.length_map, gl.2]; omega), p_bnd_some, (k2 (by simpa using hsp)).1, List.map_append]
          rfl
      rw [List.zipIdx_cons, List.map_cons]
      show Option.bind (F ((i : Int), row (tp t)) _) _ = _
      rw [hstep, List.foldl_cons, sp]
      unfold bstep
      by_cases hsp : spn f t = true
      · rw [if_pos hsp, if_pos hsp, if_pos hsp]
        have := ih f (i + 1) (out ++ [(i : Int)]) F (fun a ha => hs a (List.mem_cons_of_mem _ ha)) g hb (by rw [List.length_append, List.length_singleton]; rw [List.length_cons] at hlen; omega) hF
        rw [List.append_assoc] at this
        exact this
      · rw [if_neg hsp, if_neg hsp, if_neg hsp]
        obtain ⟨k3, k4⟩ := k2 (by simpa using hsp)
        exact ih (f ++ [t]) (i + 1) out F (fun a ha => hs a (List.mem_cons_of_mem _ ha)) k4 (by rw [k3]; exact hb.app (firstC_col _) (by rw [gl.2, Nat.zero_add]; exact bdE)) (by rw [List.length_cons] at hlen; omega) hF
  unfold _law_spare_m
  simp only [lt_eq, unc_mk, p_bnd_some, p_bnd_bnd, id_eq, p_bndF_nx, p_bndF_rt, p_bndF_bnd, p_retM_rt, p_retM_bnd, p_iteM, p_notM, p_orM, p_andM, ifB_true, ifB_false]
  have key := outer pts [] 0 [] _ h trivial trivial (by simpa using hl) fun a s => rfl
  have e1 : enumL (pts.map fun p => row (tp p)) = (pts.zipIdx 0).map fun q => ((q.2 : Int), row (tp q.1)) := by
    unfold enumL
    rw [List.zipIdx_map, List.map_map]
    rfl
  rw [e1]
  refine Eq.trans (congrArg (fun m => retM pureMd (bndF pureMd m _)) (Eq.trans ?_ key)) ?_
  · rfl
  · rfl
end K17
set_option Elab.async false
set_option linter.all false
set_option maxRecDepth 100000
set_option maxHeartbeats 4000000
set_option exponentiation.threshold 100000
/-! The factors, and what they give. -/
namespace K17
open PySem Ty

theorem det_bd {a b c : Pt} (ha : Sm a) (hb : Sm b) (hc : Sm c) : (det3 a b c).natAbs < 2 ^ 1830 := by
  unfold det3
  simp only [Int.one_mul, Int.mul_one]
  have x1 : (b.1 * c.2 - b.2 * c.1).natAbs < 2 ^ 1823 := sub_lt' (mul_lt' hb.1 hc.2) (mul_lt' hb.2 hc.1)
  have x2 : (a.1 * (c.2 - b.2)).natAbs < 2 ^ 1823 := mul_lt' ha.1 (sub_lt' hc.2 hb.2)
  have x3 : (a.2 * (c.1 - b.1)).natAbs < 2 ^ 1824 := pow_mono' (mul_lt' ha.2 (sub_lt' hc.1 hb.1)) (by decide)
  exact pow_mono' (add_lt' (sub_lt' x1 x2) x3) (by decide)
/-- numerators, denominator -/
def cram : List Pt → Pt → List Int × Int
  | [_], _ => ([1], 1)
  | [a, b], t => if a.1 ≠ b.1 then ([b.1 - t.1, t.1 - a.1], b.1 - a.1) else ([b.2 - t.2, t.2 - a.2], b.2 - a.2)
  | [a, b, c], t => ([det3 t b c, det3 a t c, det3 a b t], det3 a b c)
  | _, _ => ([], 1)
theorem cram2 (a b t : Pt) : cram [a, b] t = if a.1 ≠ b.1 then ([b.1 - t.1, t.1 - a.1], b.1 - a.1) else ([b.2 - t.2, t.2 - a.2], b.2 - a.2) := rfl
theorem cram3 (a b c t : Pt) : cram [a, b, c] t = ([det3 t b c, det3 a t c, det3 a b t], det3 a b c) := rfl
theorem spn0 (a : Pt) : ¬ spn [] a = true := Bool.false_ne_true
def LowL (D : Int) : List Int → List (Int × Int) → Prop
  | [], [] => True
  | n :: ns, f :: fs => LowOk n D f ∧ LowL D ns fs
  | _, _ => False
def Nbd (ns : List Int) : Prop := ∀ n ∈ ns, n.natAbs < 2 ^ 1830
theorem low_map : ∀ {ns : List Int} {D : Int}, D ≠ 0 → D.natAbs < 2 ^ 1830 → ∃ fs, lcM pureMd (fun (_ : Int) => some true) (fun n => lowest_m (n, D)) ns = some fs ∧ LowL D ns fs
  | [], _, _, _ => ⟨[], rfl, trivial⟩
  | n :: ns, D, h0, h => by
    obtain ⟨f, e1, e2⟩ := lowest_eq (N := n) h0 h
    obtain ⟨fs, e3, e4⟩ := low_map (ns := ns) h0 h
    refine ⟨f :: fs, ?_, e2, e4⟩
    show Option.bind (lowest_m (n, D)) (fun y => Option.bind (lcM pureMd _ _ ns) _) = _
    rw [e1, p_bnd_some, e3]
    rfl
theorem cram_ne {pts : List Pt} (t : Pt) (h : sp [] 0 pts = []) (h0 : pts ≠ []) : pts.length ≤ 3 ∧ (cram pts t).2 ≠ 0 ∧ (cram pts t).1.length = pts.length := by
  match pts, h with
  | [a], _ => exact ⟨by simp, by show (1 : Int) ≠ 0; decide, rfl⟩
  | [a, b], h =>
    have ne : ¬ decide (a = b) = true := fun z => by
      rw [sp, if_neg (spn0 _)] at h
      rw [sp, if_pos (show spn ([] ++ [a]) b = true from z)] at h
      cases h
    have ne : a ≠ b := by simpa using ne
    refine ⟨by simp, ?_, ?_⟩
    · rw [cram2]
      by_cases c : a.1 ≠ b.1
      · rw [if_pos c]; show b.1 - a.1 ≠ 0; omega
      · rw [if_neg c]; show b.2 - a.2 ≠ 0
        intro z
        exact ne (Prod.ext (Classical.not_not.mp c) (by omega))
    · rw [cram2]; split <;> rfl
  | [a, b, c], h =>
    refine ⟨by simp, ?_, rfl⟩
    show det3 a b c ≠ 0
    intro z
    rw [sp, if_neg (spn0 _), sp] at h
    split at h
    · cases h
    · rw [sp, if_pos (show spn ([] ++ [a] ++ [b]) c = true from decide_eq_true z)] at h
      cases h
  | a :: b :: c :: d :: r, h =>
    exfalso
    rw [sp, if_neg (spn0 _), sp] at h
    split at h
    · cases h
    · rw [sp] at h
      split at h
      · cases h
      · rw [sp, if_pos (show spn ([] ++ [a] ++ [b] ++ [c]) d = true from rfl)] at h
        cases h
theorem cram_bd {pts : List Pt} {t : Pt} (hs : ∀ a ∈ pts, Sm a) (ht : Sm t) : Nbd (cram pts t).1 ∧ (cram pts t).2.natAbs < 2 ^ 1830 := by
  have one : (1 : Int).natAbs < 2 ^ 1830 := Nat.one_lt_two_pow (by decide)
  have s : ∀ x y : Int, x.natAbs < 2 ^ 911 → y.natAbs < 2 ^ 911 → (x - y).natAbs < 2 ^ 1830 := fun x y hx hy => pow_mono' (sub_lt' hx hy) (by decide)
  match pts, hs with
  | [], _ => exact ⟨fun n hn => (nomatch hn), one⟩
  | [a], _ => exact ⟨fun n hn => by rw [List.mem_singleton.mp hn]; exact one, one⟩
  | [a, b], hs =>
    have ha := hs a (by simp)
    have hb := hs b (by simp)
    have two : ∀ {x y : Int}, x.natAbs < 2 ^ 1830 → y.natAbs < 2 ^ 1830 → Nbd [x, y] := fun hx hy n hn => by
      simp only [List.mem_cons, List.not_mem_nil, or_false] at hn
      rcases hn with z | z <;> rw [z]
      · exact hx
      · exact hy
    rw [cram2]
    split
    · exact ⟨two (s _ _ hb.1 ht.1) (s _ _ ht.1 ha.1), s _ _ hb.1 ha.1⟩
    · exact ⟨two (s _ _ hb.2 ht.2) (s _ _ ht.2 ha.2), s _ _ hb.2 ha.2⟩
  | [a, b, c], hs =>
    have ha := hs a (by simp)
    have hb := hs b (by simp)
    have hc := hs c (by simp)
    refine ⟨fun n hn => ?_, det_bd ha hb hc⟩
    have hn : n ∈ [det3 t b c, det3 a t c, det3 a b t] := hn
    simp only [List.mem_cons, List.not_mem_nil, or_false] at hn
    rcases hn with z | z | z <;> rw [z]
    · exact det_bd ht hb hc
    · exact det_bd ha ht hc
    · exact det_bd ha hb ht
  | a :: b :: c :: d :: r, _ => exact ⟨fun n hn => (nomatch hn), one⟩
/-- the sums -/
def lin (g : Pt → Int) : List Int → List Pt → Int
  | n :: ns, p :: ps => n * g p + lin g ns ps
  | _, _ => 0
theorem cram_lin {pts : List Pt} {t : Pt} (h : sp [] 0 pts = []) (hs : spn pts t = true) : lin (fun _ => 1) (cram pts t).1 pts = (cram pts t).2 ∧ lin (·.1) (cram pts t).1 pts = (cram pts t).2 * t.1 ∧ lin (·.2) (cram pts t).1 pts = (cram pts t).2 * t.2 := by
  match pts, h, hs with
  | [a], _, hs =>
    have e : a = t := of_decide_eq_true hs
    subst e
    refine ⟨rfl, ?_, ?_⟩
    · show 1 * a.1 + 0 = 1 * a.1; omega
    · show 1 * a.2 + 0 = 1 * a.2; omega
  | [a, b], _, hs =>
    have e : det3 a b t = 0 := of_decide_eq_true hs
    unfold det3 at e
    rw [cram2]
    by_cases c : a.1 ≠ b.1
    · rw [if_pos c]
      simp only [lin]
      exact ⟨by grind, by grind, by grind⟩
    · rw [if_neg c]
      have c : a.1 = b.1 := Classical.not_not.mp c
      simp only [lin]
      refine ⟨by grind, ?_, by grind⟩
      grind
  | [a, b, c], _, _ =>
    rw [cram3]
    simp only [lin, det3]
    exact ⟨by grind, by grind, by grind⟩
  | a :: b :: c :: d :: r, h, _ => exact absurd (cram_ne t h (by simp)).1 (by simp only [List.length_cons]; omega)
theorem triples_eq (texts : List (List Nat)) : lcM pureMd (fun (_ : List Nat) => some true) (fun t => triple_of_m t) texts = some ((texts.map pt).map tp) := by
  have := lc_all (f := fun t => triple_of_m t) (g := fun t => tp (pt t)) (l := texts) fun t _ => triple_eq t
  rw [List.map_map]
  exact this
theorem atT (p : Pt) : atT3 (tp p) 1 = some p.1 ∧ atT3 (tp p) 2 = some p.2 := ⟨rfl, rfl⟩
theorem shares_eq {a b t : Pt} {D : Int} {f1 f2 : Int × Int} (hD : (cram [a, b] t).2 = D) {n1 n2 : Int} (hn : (cram [a, b] t).1 = [n1, n2]) (e1 : lowest_m (n1, D) = some f1) (e2 : lowest_m (n2, D) = some f2) : shares_m (tp a, tp b, tp t) = some [f1, f2] := by
  unfold shares_m
  simp only []
  simp only [lt_eq, unc_mk, p_bnd_some, p_bnd_bnd, id_eq, p_bndF_nx, p_bndF_rt, p_bndF_bnd, p_retM_rt, p_retM_bnd, p_iteM, p_notM, p_orM, p_andM, ifB_true, ifB_false]
  rw [cram2] at hD hn
  by_cases c : a.1 ≠ b.1
  · rw [if_pos c] at hD hn
    have hD : b.1 - a.1 = D := hD
    have hn : [b.1 - t.1, t.1 - a.1] = [n1, n2] := hn
    simp only [List.cons.injEq, and_true] at hn
    rw [show (!decide ((tp a).2.1 = (tp b).2.1)) = true by rw [decide_eq_false (show ¬ (tp a).2.1 = (tp b).2.1 from c)]; rfl, ifB_true, (atT b).1, p_bnd_some, (atT a).1, p_bnd_some, (atT t).1, p_bnd_some, p_bnd_some, hD, hn.1, e1, p_bnd_some, p_bnd_some, p_bnd_some, hn.2, e2]
    rfl
  · rw [if_neg c] at hD hn
    have c : a.1 = b.1 := Classical.not_not.mp c
    have hD : b.2 - a.2 = D := hD
    have hn : [b.2 - t.2, t.2 - a.2] = [n1, n2] := hn
    simp only [List.cons.injEq, and_true] at hn
    rw [show (!decide ((tp a).2.1 = (tp b).2.1)) = false by rw [decide_eq_true (show (tp a).2.1 = (tp b).2.1 from c)]; rfl, ifB_false, (atT b).2, p_bnd_some, (atT a).2, p_bnd_some, (atT t).2, p_bnd_some, p_bnd_some, hD, hn.1, e1, p_bnd_some, p_bnd_some, p_bnd_some, hn.2, e2]
    rfl
theorem factors_eq {x : List Nat} {texts : List (List Nat)} (hx : Txt 130 x) (ht : ∀ t ∈ texts, Txt 130 t) :
    (sp [] 0 (texts.map pt) = [] → spn (texts.map pt) (pt x) = true → ∃ fs, factors_m (x, texts) = some (some fs) ∧ LowL (cram (texts.map pt) (pt x)).2 (cram (texts.map pt) (pt x)).1 fs) ∧
    (¬ (sp [] 0 (texts.map pt) = [] ∧ spn (texts.map pt) (pt x) = true) → factors_m (x, texts) = some none) := by
  have hs : ∀ a ∈ texts.map pt, Sm a := fun a ha => by
    obtain ⟨t, h1, rfl⟩ := List.mem_map.mp ha
    exact txt_sm (ht t h1) (Nat.le_refl _)
  have hp : Sm (pt x) := txt_sm hx (Nat.le_refl _)
  generalize hq : texts.map pt = pts at hs
  have flen := fold_len pts [] 0
  have test : (orM pureMd ((basis_of_m (pts.map tp)).bind fun u => (some (u.length : Int)).bind fun a => some (decide (a < ((pts.map tp).length : Int)))) (Ty.notM pureMd (is_spanned_m (pts.map tp, tp (pt x))))) = some (!(decide (sp [] 0 pts = [] ∧ spn pts (pt x) = true))) := by
    rw [(basis_eq hs).1, p_bnd_some, p_bnd_some, spanned_eq hs hp, p_notM, p_orM]
    have e : decide ((((bas pts).map tp).length : Int) < ((pts.map tp).length : Int)) = !decide (sp [] 0 pts = []) := by
      rw [List.length_map, List.length_map]
      unfold bas
      simp only [List.length_nil, Nat.zero_add] at flen
      by_cases z : sp [] 0 pts = []
      · rw [z, List.length_nil] at flen
        rw [decide_eq_true z, decide_eq_false (by omega)]; rfl
      · have : 0 < (sp [] 0 pts).length := List.length_pos_iff.mpr z
        rw [decide_eq_false z, decide_eq_true (by omega)]; rfl
    rw [e]
    by_cases z : sp [] 0 pts = []
    · rw [decide_eq_true z]
      cases spn pts (pt x) <;> simp [z] <;> rfl
    · rw [decide_eq_false z]
      simp [z]; rfl
  unfold factors_m
  simp only []
  simp only [lt_eq, unc_mk, p_bnd_some, p_bnd_bnd, id_eq, p_bndF_nx, p_bndF_rt, p_bndF_bnd, p_retM_rt, p_retM_bnd, p_iteM, p_notM, p_orM, p_andM, ifB_true, ifB_false]
  rw [triple_eq, p_bnd_some, triples_eq, p_bnd_some, show ((1 : Int), pw x.length, val x) = tp (pt x) from rfl, hq]
  have test' : (orM pureMd ((basis_of_m (pts.map tp)).bind fun u => some (decide ((u.length : Int) < ((pts.map tp).length : Int)))) (Ty.notM pureMd (is_spanned_m (pts.map tp, tp (pt x))))) = _ := test
  rw [test']
  constructor
  · intro h1 h2
    rw [decide_eq_true ⟨h1, h2⟩, p_iteM]
    have h0 : pts ≠ [] := fun z => by rw [z] at h2; cases h2
    obtain ⟨c1, c2, c3⟩ := cram_ne (pt x) h1 h0
    obtain ⟨b1, b2⟩ := cram_bd (t := pt x) hs hp
    match pts, h0, h1, h2, hs, c1, c2, c3, b1, b2 with
    | [a], _, h1, h2, _, _, _, _, _, _ => exact ⟨[(1, 1)], rfl, show LowOk 1 1 (1, 1) from ⟨by decide, by decide, by decide, by decide, by decide⟩, trivial⟩
    | [a, b], _, h1, h2, hs, _, c2, c3, b1, b2 =>
      generalize hc : cram [a, b] (pt x) = cr at c2 c3 b1 b2
      obtain ⟨ns, D⟩ := cr
      match ns, c3 with
      | [n1, n2], _ =>
      obtain ⟨f1, e1, l1⟩ := lowest_eq (N := n1) c2 b2
      obtain ⟨f2, e2, l2⟩ := lowest_eq (N := n2) c2 b2
      refine ⟨[f1, f2], ?_, l1, l2, trivial⟩
      have := shares_eq (t := pt x) (D := D) (by rw [hc]) (by rw [hc]) e1 e2
      simp only [ifB, Bool.not_true, Bool.false_eq_true, if_false, p_bndF_nx]
      rw [show (decide ((([a, b].map tp).length : Int) = 1)) = false from rfl, show (decide ((([a, b].map tp).length : Int) = 2)) = true from rfl]
      simp only [Bool.false_eq_true, if_false, if_true, p_bndF_nx]
      rw [show L2.atI ([a, b].map tp) 0 = some (tp a) from rfl, p_bnd_some, show L2.atI ([a, b].map tp) 1 = some (tp b) from rfl, p_bnd_some, this]
      rfl
    | [a, b, c], _, h1, h2, hs, _, c2, _, b1, b2 =>
      have ha := hs a (by simp)
      have hb := hs b (by simp)
      have hc := hs c (by simp)
      obtain ⟨fs, e1, e2⟩ := low_map (ns := [det3 (pt x) b c, det3 a (pt x) c, det3 a b (pt x)]) (D := det3 a b c) c2 b2
      refine ⟨fs, ?_, e2⟩
      simp only [ifB, Bool.not_true, Bool.false_eq_true, if_false, p_bndF_nx]
      rw [show (decide ((([a, b, c].map tp).length : Int) = 1)) = false from rfl, show (decide ((([a, b, c].map tp).length : Int) = 2)) = false from rfl]
      simp only [Bool.false_eq_true, if_false, p_bndF_nx]
      rw [show toT3 ([a, b, c].map tp) = some (tp a, tp b, tp c) from rfl, p_bnd_some, det_eq ha hb hc, p_bnd_some, det_eq hp hb hc, p_bnd_some, det_eq ha hp hc, p_bnd_some, det_eq ha hb hp, p_bnd_some]
      rw [show lenM pureMd (some [det3 (pt x) b c, det3 a (pt x) c, det3 a b (pt x)]) = some [det3 (pt x) b c, det3 a (pt x) c, det3 a b (pt x)] from rfl, p_bnd_some, e1]
      rfl
    | a :: b :: c :: d :: r, _, _, _, _, c1, _, _, _, _ => exact absurd c1 (by simp only [List.length_cons]; omega)
  · intro h
    rw [decide_eq_false h, p_iteM]
    rfl
end K17
set_option Elab.async false
set_option linter.all false
set_option maxRecDepth 100000
set_option maxHeartbeats 4000000
set_option exponentiation.threshold 100000
/-! What fractions give; the law over one text and some. -/
namespace K17
open PySem Ty

def prd (s : Int) (fr : List (Int × Int)) : Int := fr.foldl (fun s f => s * f.2) s
theorem dvd_prd : ∀ (fr : List (Int × Int)) (s : Int), s ∣ prd s fr ∧ ∀ f ∈ fr, f.2 ∣ prd s fr
  | [], s => ⟨Int.dvd_refl s, fun f h => by cases h⟩
  | g :: fr, s => by
    obtain ⟨h1, h2⟩ := dvd_prd fr (s * g.2)
    have h1 : s * g.2 ∣ prd s (g :: fr) := h1
    refine ⟨Int.dvd_trans (Int.dvd_mul_right _ _) h1, fun f hf => ?_⟩
    rcases List.mem_cons.mp hf with e | e
    · rw [e]; exact Int.dvd_trans (Int.dvd_mul_left _ _) h1
    · exact h2 f e
theorem loop1 {L ρ : Type} (F : Int × Int → Int → Option (Fl Int Int ρ)) (hF : ∀ f s, F f s = (mulM s f.2).bind fun w => some (.nx w)) : ∀ (fr : List (Int × Int)) (j : Nat) (s : Int), (∀ f ∈ fr, f.2.natAbs < 2 ^ 1830) → s.natAbs < 2 ^ (1830 * j + 1) → j + fr.length ≤ 10 →
    forL (L := L) pureMd F fr s = some (.nx (prd s fr)) ∧ (prd s fr).natAbs < 2 ^ (1830 * (j + fr.length) + 1)
  | [], j, s, _, hs, _ => ⟨rfl, hs⟩
  | f :: fr, j, s, h, hs, hl => by
    rw [List.length_cons] at hl
    have hf := h f (by simp)
    have e : F f s = some (.nx (s * f.2)) := by rw [hF, mulM_ok hs hf (by omega) (by decide) (by omega), p_bnd_some]
    have hs' : (s * f.2).natAbs < 2 ^ (1830 * (j + 1) + 1) := by
      have := mul_lt' hs hf
      rw [show 1830 * (j + 1) + 1 = 1830 * j + 1 + 1830 by omega]; exact this
    obtain ⟨h1, h2⟩ := loop1 F hF fr (j + 1) (s * f.2) (fun g hg => h g (List.mem_cons_of_mem _ hg)) hs' (by omega)
    refine ⟨?_, by rw [List.length_cons, show j + (fr.length + 1) = j + 1 + fr.length by omega]; exact h2⟩
    show Option.bind (F f s) _ = _
    rw [e]
    exact h1
def tot (W : Int) (g : Pt → Int) : Int → List (Int × Int) → List Pt → Int
  | s, f :: fs, p :: ps => tot W g (s + f.1 * (W / f.2) * g p) fs ps
  | s, _, _ => s
theorem tot_eq {W D : Int} {g : Pt → Int} : ∀ {ns : List Int} {fr : List (Int × Int)} {ps : List Pt} {s : Int}, LowL D ns fr → (∀ f ∈ fr, f.2 ∣ W) → tot W g s fr ps * D = s * D + W * lin g ns ps
  | [], [], ps, s, _, _ => by simp [tot, lin]
  | n :: ns, f :: fr, [], s, _, _ => by simp [tot, lin]
  | n :: ns, f :: fr, p :: ps, s, h, hd => by
    have := tot_eq (W := W) (g := g) (ps := ps) (s := s + f.1 * (W / f.2) * g p) h.2 fun f hf => hd f (List.mem_cons_of_mem _ hf)
    rw [tot, this, lin]
    have h1 : f.1 * D = n * f.2 := h.1.2.1
    have h2 : f.2 * (W / f.2) = W := Int.mul_ediv_cancel' (hd f (by simp))
    have h3 : f.1 * (W / f.2) * g p * D = n * W * g p := by
      have : f.1 * (W / f.2) * g p * D = f.1 * D * (W / f.2) * g p := by grind
      rw [this, h1]
      have : n * f.2 * (W / f.2) * g p = n * (f.2 * (W / f.2)) * g p := by grind
      rw [this, h2]
    grind
theorem loop3 {L ρ : Type} {W c : Int} (hc : IsCol c) (hW : 0 < W) (bW : W.natAbs < 2 ^ 6000) (F : (Int × Int) × List Int → Int → Option (Fl Int Int ρ)) (hF : ∀ q s, F q s = ((divW W q.1.2).bind fun b => mulM q.1.1 b).bind fun a => (L2.atI q.2 c).bind fun b => (mulM a b).bind fun z => some (.nx (s + z))) :
    ∀ (fr : List (Int × Int)) (ps : List Pt) (s : Int), (∀ f ∈ fr, 0 < f.2 ∧ f.2.natAbs < 2 ^ 1830 ∧ f.1.natAbs < 2 ^ 1830) → (∀ p ∈ ps, Sm p) → forL (L := L) pureMd F (fr.zip (ps.map fun p => row (tp p))) s = some (.nx (tot W (fun p => gt c (tp p)) s fr ps))
  | [], ps, s, _, _ => by cases ps <;> rfl
  | f :: fr, [], s, _, _ => rfl
  | f :: fr, p :: ps, s, h, hp => by
    obtain ⟨f0, f1, f2⟩ := h f (by simp)
    have hq : (W / f.2).natAbs < 2 ^ 6000 := by
      have h1 : 0 ≤ W / f.2 := Int.ediv_nonneg (by omega) (by omega)
      have h2 : W / f.2 ≤ W := Int.ediv_le_self _ (by omega)
      omega
    have e : F (f, row (tp p)) s = some (.nx (s + f.1 * (W / f.2) * gt c (tp p))) := by
      rw [hF]
      simp only []
      rw [show divW W f.2 = some (W / f.2) from if_pos ⟨f0, by have := log2_lt' f1 (by decide); omega⟩, p_bnd_some, mulM_ok f2 hq (by decide) (by decide) (by decide), p_bnd_some, at_row hc, p_bnd_some, mulM_ok (mul_lt' f2 hq) ((tp_bd (hp p (by simp))).gt c) (by decide) (by decide) (by decide), p_bnd_some]
    rw [List.map_cons, List.zip_cons_cons]
    show Option.bind (F (f, row (tp p)) s) _ = _
    rw [e]
    exact loop3 hc hW bW F hF fr ps _ (fun g hg => h g (List.mem_cons_of_mem _ hg)) fun q hq => hp q (List.mem_cons_of_mem _ hq)
theorem low_len {D : Int} : ∀ {ns : List Int} {fr : List (Int × Int)}, LowL D ns fr → fr.length = ns.length
  | [], [], _ => rfl
  | _ :: _, _ :: _, h => by rw [List.length_cons, List.length_cons, low_len h.2]
theorem low_mem {D : Int} : ∀ {ns : List Int} {fr : List (Int × Int)}, LowL D ns fr → ∀ f ∈ fr, ∃ n ∈ ns, LowOk n D f
  | [], [], _, f, hf => by cases hf
  | n :: ns, g :: fr, h, f, hf => by
    rcases List.mem_cons.mp hf with e | e
    · rw [e]; exact ⟨n, by simp, h.1⟩
    · obtain ⟨m, h1, h2⟩ := low_mem h.2 f e
      exact ⟨m, List.mem_cons_of_mem _ h1, h2⟩
theorem prd_pos : ∀ (fr : List (Int × Int)) (s : Int), 0 < s → (∀ f ∈ fr, 0 < f.2) → 0 < prd s fr
  | [], _, h, _ => h
  | f :: fr, s, h, hp => prd_pos fr (s * f.2) (Int.mul_pos h (hp f (by simp))) fun g hg => hp g (List.mem_cons_of_mem _ hg)
theorem gives_eq {pts : List Pt} {t : Pt} {fs : List (Int × Int)} (hs : ∀ a ∈ pts, Sm a) (ht : Sm t) (h1 : sp [] 0 pts = []) (h2 : spn pts t = true) (hl : LowL (cram pts t).2 (cram pts t).1 fs) : _law_gives_m (fs, pts.map (fun p => row (tp p)), row (tp t)) = some true := by
  have h0 : pts ≠ [] := fun z => by rw [z] at h2; cases h2
  obtain ⟨c1, c2, c3⟩ := cram_ne t h1 h0
  obtain ⟨b1, b2⟩ := cram_bd hs ht
  obtain ⟨l1, l2, l3⟩ := cram_lin h1 h2
  have fl := low_len hl
  have each : ∀ f ∈ fs, 0 < f.2 ∧ f.2.natAbs < 2 ^ 1830 ∧ f.1.natAbs < 2 ^ 1830 := fun f hf => by
    obtain ⟨n, hn, q⟩ := low_mem hl f hf
    have := b1 n hn
    have := q.2.2.2.1
    have := q.2.2.2.2
    exact ⟨q.1, by omega, by omega⟩
  have W0 : 0 < prd 1 fs := prd_pos fs 1 (by decide) fun f hf => (each f hf).1
  unfold _law_gives_m
  simp only [lt_eq, unc_mk, p_bnd_some, p_bnd_bnd, id_eq, p_bndF_nx, p_bndF_rt, p_bndF_bnd, p_retM_rt, p_retM_bnd, p_iteM, p_notM, p_orM, p_andM, ifB_true, ifB_false]
  obtain ⟨k1, k2⟩ := loop1 (L := Unit) (ρ := Bool) (fun top3 s2 => Option.bind (mulM s2 top3.2) fun x => some (.nx x)) (fun _ _ => rfl) fs 0 1 (fun f hf => (each f hf).2.1) (Nat.one_lt_two_pow (by decide)) (by omega)
  rw [k1, p_bndF_nx, show rangeM 3 = some [0, 1, 2] from rfl, p_bnd_some]
  have bW : (prd 1 fs).natAbs < 2 ^ 6000 := pow_mono' k2 (by omega)
  have bW' : (prd 1 fs).natAbs < 2 ^ 6000 := bW
  have col : ∀ c, IsCol c → tot (prd 1 fs) (fun p => gt c (tp p)) 0 fs pts = prd 1 fs * gt c (tp t) := fun c hc => by
    have e := tot_eq (W := prd 1 fs) (g := fun p => gt c (tp p)) (ps := pts) (s := 0) hl (dvd_prd fs 1).2
    have e2 : lin (fun p => gt c (tp p)) (cram pts t).1 pts = (cram pts t).2 * gt c (tp t) := by
      rcases hc with z | z | z <;> subst z
      · rw [show gt 0 (tp t) = 1 from rfl, Int.mul_one]; exact l1
      · exact l2
      · exact l3
    rw [e2, Int.zero_mul, Int.zero_add] at e
    exact Int.eq_of_mul_eq_mul_right c2 (by rw [e]; grind)
  have one : ∀ c, IsCol c → ∀ (F : (Int × Int) × List Int → Int → Option (Fl Int Int Bool)), (∀ q s, F q s = ((divW (prd 1 fs) q.1.2).bind fun b => mulM q.1.1 b).bind fun a => (L2.atI q.2 c).bind fun b => (mulM a b).bind fun z => some (.nx (s + z))) →
      (bndF pureMd (forL (L := Unit) pureMd F (fs.zip (pts.map fun p => row (tp p))) 0) fun s13 => bndF pureMd (iteM pureMd ((L2.atI (row (tp t)) c).bind fun x => (mulM (prd 1 fs) x).bind fun y => some (!decide (s13 = y))) (some (.rt false)) (some (.nx ()))) fun _ => some (.nx ())) = (some (.nx ()) : Option (Fl Unit Unit Bool)) := fun c hc F hF => by
    rw [loop3 hc W0 bW F hF fs pts 0 each hs, p_bndF_nx, at_row hc, p_bnd_some, mulM_ok bW ((tp_bd ht).gt c) (by decide) (by decide) (by decide), p_bnd_some, col c hc, decide_eq_true rfl]
    rfl
  have loop : ∀ (F : Int → Unit → Option (Fl Unit Unit Bool)), (∀ c, IsCol c → F c () = some (.nx ())) → forL (L := Unit) pureMd F [0, 1, 2] () = some (.nx ()) := fun F hF => by
    show Option.bind (F 0 ()) _ = _
    rw [hF 0 (.inl rfl)]
    show Option.bind (F 1 ()) _ = _
    rw [hF 1 (.inr (.inl rfl))]
    show Option.bind (F 2 ()) _ = _
    rw [hF 2 (.inr (.inr rfl))]
    rfl
  rw [loop _ fun c hc => ?_]
  · rfl
  · refine Eq.trans ?_ (one c hc (fun q s => ((divW (prd 1 fs) q.1.2).bind fun b => mulM q.1.1 b).bind fun a => (L2.atI q.2 c).bind fun b => (mulM a b).bind fun z => some (.nx (s + z))) fun _ _ => rfl)
    simp only [p_bnd_bnd]
theorem repr_pairs {fs : List (Int × Int)} (hl : fs.length ≤ 3) (h : ∀ f ∈ fs, f.1.natAbs < 2 ^ 1830 ∧ f.2.natAbs < 2 ^ 1830) : ∃ s, reprM (dd4 fs) = some s := by
  have all : ∀ fs : List (Int × Int), (∀ f ∈ fs, f.1.natAbs < 2 ^ 1830 ∧ f.2.natAbs < 2 ^ 1830) → PyData.showableAll (fs.map fun x => PyData.tuple [.int x.1, .int x.2]) = true ∧ PyData.hasDictAll (fs.map fun x => PyData.tuple [.int x.1, .int x.2]) = false ∧ PyData.depthAll (fs.map fun x => PyData.tuple [.int x.1, .int x.2]) ≤ 1 := by
    intro fs
    induction fs with
    | nil => intro _; exact ⟨rfl, rfl, Nat.zero_le _⟩
    | cons f fs ih =>
      intro h
      obtain ⟨i1, i2, i3⟩ := ih fun g hg => h g (List.mem_cons_of_mem _ hg)
      have hf := h f (by simp)
      refine ⟨?_, ?_, ?_⟩
      · simp only [List.map_cons, PyData.showableAll]
        rw [i1, PyData.showable]
        simp only [PyData.showableAll, showable_int hf.1 (by decide) (by decide), showable_int hf.2 (by decide) (by decide), Bool.and_self]
      · simp only [List.map_cons, PyData.hasDictAll, PyData.hasDict, i2, Bool.or_self]
      · simp only [List.map_cons, PyData.depthAll, PyData.depth]; omega
  obtain ⟨a1, a2, a3⟩ := all fs h
  refine reprM_len ?_ ?_ ?_ ?_
  · show PyData.showable (.tuple _) = true
    rw [PyData.showable]; exact a1
  · show PyData.hasDict (.tuple _) = false
    rw [PyData.hasDict]; exact a2
  · show PyData.depth (.tuple _) ≤ 40
    rw [PyData.depth]
    have : PyData.depthAll (fs.map fun x => PyData.tuple [.int x.1, .int x.2]) ≤ 1 := a3
    exact Nat.le_trans (Nat.succ_le_succ this) (by decide)
  · have k : (PyData.tuple (fs.map fun x => PyData.tuple [.int x.1, .int x.2])).shown.length ≤ (fs.map fun x => PyData.tuple [.int x.1, .int x.2]).length * (3700 + 2) + 3 := tuple_len fun x hx => by
      obtain ⟨f, hf, rfl⟩ := List.mem_map.mp hx
      have k1 := int_shown (by decide) (h f hf).1
      have k2 := int_shown (by decide) (h f hf).2
      have := tuple_len (n := 1831) (xs := [.int f.1, .int f.2]) fun y hy => by
        simp only [List.mem_cons, List.not_mem_nil, or_false] at hy
        rcases hy with z | z <;> rw [z] <;> assumption
      simp only [List.length_cons, List.length_nil] at this
      omega
    rw [List.length_map] at k
    refine Nat.le_trans k ?_
    have : fs.length * (3700 + 2) ≤ 3 * 3702 := Nat.mul_le_mul_right _ hl
    unfold cap; omega
/-! ### the law over one text and some -/
theorem eq_nil3 {n : Nat} {xs : List (List Nat)} (h : ∀ t ∈ xs, Txt n t) : eqD (dd3 xs) (dd3 []) = some (decide (xs = [])) := by
  have ok : ∀ t : List Nat, Txt n t → PyData.strOk (ofL t) = true := fun t ht => by
    unfold PyData.strOk
    rw [← Array.all_toList, ofL_cps, List.all_eq_true]
    intro c hc
    have := ht.2 c hc
    exact decide_eq_true (by omega)
  have s : ∀ xs : List (List Nat), (∀ t ∈ xs, Txt n t) → SeqAt.shaped (dd3 xs) = true := by
    intro xs hx
    have h1 : PyData.canLayAll0 (xs.map fun l => PyData.str (ofL l)) = true := by
      induction xs with
      | nil => rfl
      | cons x xs ih => simp only [List.map_cons, PyData.canLayAll0, PyData.canLay0, ok x (hx x (by simp)), ih fun t ht => hx t (List.mem_cons_of_mem _ ht), Bool.and_self]
    have h2 : PyData.depthAll (xs.map fun l => PyData.str (ofL l)) = 0 := by
      clear hx h1
      induction xs with
      | nil => rfl
      | cons x xs ih => simp only [List.map_cons, PyData.depthAll, PyData.depth, ih]; rfl
    have e1 : (dd3 xs).canLay0 = true := by unfold dd3; rw [PyData.canLay0]; exact h1
    have e2 : (dd3 xs).depth ≤ 64 := by unfold dd3; rw [PyData.depth, h2]; decide
    unfold SeqAt.shaped
    rw [e1, decide_eq_true e2]; rfl
  unfold eqD
  rw [if_pos ⟨s xs h, s [] fun t ht => by simp at ht⟩]
  cases xs with
  | nil => rfl
  | cons x xs => simp [dd3, PyData.eqv, PyData.eqvAll]
theorem lawtriples (texts : List (List Nat)) : lcM pureMd (fun (_ : List Nat) => some true) (fun t => _law_triple_m t) texts = some ((texts.map pt).map fun p => row (tp p)) := by
  have := lc_all (f := fun t => _law_triple_m t) (g := fun t => row (tp (pt t))) (l := texts) fun t _ => lawtriple_eq t
  rw [List.map_map]
  exact this
end K17
set_option Elab.async false
set_option linter.all false
set_option maxRecDepth 100000
set_option maxHeartbeats 4000000
set_option exponentiation.threshold 100000
/-! The law over one text and some; over texts that are apart. -/
namespace K17
open PySem Ty

theorem rows_app (pts : List Pt) (t : Pt) (hl : pts.length ≤ 100) : catL (pts.map fun p => row (tp p)) [row (tp t)] = some ((pts ++ [t]).map fun p => row (tp p)) := by
  unfold catL
  rw [if_pos (by rw [List.length_map]; show pts.length + 1 ≤ cap; unfold cap; omega), List.map_append]
  rfl
theorem sp_one {pts : List Pt} {t : Pt} (h : sp [] 0 pts = []) : sp [] 0 (pts ++ [t]) = if spn pts t = true then [(pts.length : Int)] else [] := by
  rw [sp_app, h, List.nil_append, fold_app pts [] 0 h, List.nil_append, sp]
  simp only [sp, Int.zero_add]
theorem repr_none : ∃ s, reprM (dd2 none) = some s := reprM_len (by decide) (by decide) (by decide) (by decide)
theorem fr_bd {pts : List Pt} {t : Pt} {fs : List (Int × Int)} (hs : ∀ a ∈ pts, Sm a) (ht : Sm t) (hl : LowL (cram pts t).2 (cram pts t).1 fs) : ∀ f ∈ fs, f.1.natAbs < 2 ^ 1830 ∧ f.2.natAbs < 2 ^ 1830 := fun f hf => by
  obtain ⟨b1, b2⟩ := cram_bd hs ht
  obtain ⟨n, hn, q⟩ := low_mem hl f hf
  have := b1 n hn
  have := q.2.2.2.1
  have := q.2.2.2.2
  exact ⟨by omega, by omega⟩
theorem pts_sm {n : Nat} {texts : List (List Nat)} (ht : ∀ t ∈ texts, Txt n t) (hn : n ≤ 130) : ∀ a ∈ texts.map pt, Sm a := fun a ha => by
  obtain ⟨t, h1, rfl⟩ := List.mem_map.mp ha
  exact txt_sm (ht t h1) hn
theorem right_true {x : List Nat} {texts : List (List Nat)} (hx : Txt 130 x) (ht : ∀ t ∈ texts, Txt 130 t) (hl : texts.length ≤ 100) : _law_right_m (x, texts) = some true := by
  have hs := pts_sm ht (Nat.le_refl _)
  have hp : Sm (pt x) := txt_sm hx (Nat.le_refl _)
  obtain ⟨fA, fB⟩ := factors_eq hx ht
  have hlen : (texts.map pt).length ≤ 100 := by rw [List.length_map]; exact hl
  have tnil : texts = [] ↔ texts.map pt = [] := by simp
  unfold _law_right_m
  simp only [lt_eq, unc_mk, p_bnd_some, p_bnd_bnd, id_eq, p_bndF_nx, p_bndF_rt, p_bndF_bnd, p_retM_rt, p_retM_bnd, p_iteM, p_notM, p_orM, p_andM, ifB_true, ifB_false]
  rw [lawtriples, p_bnd_some, lawtriple_eq, p_bnd_some, show [(1 : Int), pw x.length, val x] = row (tp (pt x)) from rfl]
  generalize hq : texts.map pt = pts at hs hlen fA fB tnil
  rw [spare_eq hs (by omega)]
  rw [rows_app pts (pt x) hlen]
  by_cases hAB : sp [] 0 pts = [] ∧ spn pts (pt x) = true
  · obtain ⟨fs, e, lo⟩ := fA hAB.1 hAB.2
    have h0 : pts ≠ [] := fun z => by rw [z] at hAB; exact absurd hAB.2 (spn0 _)
    have fb := fr_bd hs hp lo
    obtain ⟨c1, c2, c3⟩ := cram_ne (pt x) hAB.1 h0
    have fl : fs.length = pts.length := by rw [low_len lo, c3]
    obtain ⟨s, hsr⟩ := repr_pairs (fs := fs) (by omega) fb
    rw [e, p_bnd_some, p_bnd_some, show reprM (dd2 (some fs)) = some s from hsr, p_bnd_some, p_bnd_some, decide_eq_true rfl]
    rw [show iteM pureMd (some (!true)) (some (Fl.rt false)) (some (Fl.nx ())) = (some (Fl.nx ()) : Option (Fl Unit Unit Bool)) from rfl, p_bndF_nx]
    rw [eq_nil3 ht, decide_eq_false (fun z => h0 (tnil.mp z)), p_orM, ifB_false, p_bnd_some, eq_dd1, hAB.1, decide_eq_true rfl]
    rw [show Option.map (fun b => !b) (some true) = some false from rfl, p_orM, ifB_false, p_bnd_some, spare_eq (fun a ha => ?_) (by rw [List.length_append, List.length_singleton]; omega), p_bnd_some, sp_one hAB.1, if_pos hAB.2, List.length_map, eq_dd1, decide_eq_true rfl]
    · rw [show Option.map (fun b => !b) (some true) = some false from rfl, p_iteM, ifB_false, p_bndF_nx]
      rw [show (!(some fs).isSome) = false from rfl, ifB_false, p_bnd_some, decide_eq_true (show (fs.length : Int) = (texts.length : Int) by rw [fl, ← hq, List.length_map])]
      rw [show (!true) = false from rfl, p_iteM, ifB_false, p_bndF_nx, p_bnd_some]
      have loop : ∀ (F : Int × Int → Unit → Option (Fl Unit Unit Bool)), (∀ f s, F f s = bndF pureMd (iteM pureMd (ifB false (some true) (ifB (!decide (((2 : Nat) : Int) = (2 : Int))) (some true) (Ty.notM pureMd (_law_is_lowest_m (f.1, f.2))))) (some (.rt false)) (some (.nx ()))) fun _ => some (.nx ())) → forL (L := Unit) pureMd F fs () = some (.nx ()) := fun F hF => by
        have := for_fold (L := Unit) (f := F) (g := fun s _ => s) (I := fun _ => True) (l := fs) (s := ()) trivial fun f hf s _ => ⟨by
          obtain ⟨n, _, q⟩ := low_mem lo f hf
          rw [hF, show (f.1, f.2) = f from rfl, islow_eq q (cram_bd hs hp).2]
          rfl, trivial⟩
        exact this.1
      rw [loop _ fun f s => ?_]
      · rw [p_bndF_nx, p_bnd_some, gives_eq hs hp hAB.1 hAB.2 lo]
        rfl
      · first | rfl | (simp only [p_bnd_some]; rfl)
    · rcases List.mem_append.mp ha with z | z
      · exact hs a z
      · rw [List.mem_singleton.mp z]; exact hp
  · obtain ⟨s, hsr⟩ := repr_none
    rw [fB hAB, p_bnd_some, p_bnd_some, hsr, p_bnd_some, p_bnd_some, decide_eq_true rfl]
    rw [show iteM pureMd (some (!true)) (some (Fl.rt false)) (some (Fl.nx ())) = (some (Fl.nx ()) : Option (Fl Unit Unit Bool)) from rfl, p_bndF_nx]
    rw [eq_nil3 ht]
    by_cases h0 : texts = []
    · rw [decide_eq_true h0]; rfl
    · rw [decide_eq_false h0, p_orM, ifB_false, p_bnd_some, eq_dd1]
      by_cases h1 : sp [] 0 pts = []
      · have h2 : spn pts (pt x) = false := by
          cases z : spn pts (pt x) with
          | false => rfl
          | true => exact absurd ⟨h1, z⟩ hAB
        rw [h1, decide_eq_true rfl]
        rw [show Option.map (fun b => !b) (some true) = some false from rfl, p_orM, ifB_false, p_bnd_some, spare_eq (fun a ha => ?_) (by rw [List.length_append, List.length_singleton]; omega), p_bnd_some, sp_one h1, if_neg (by rw [h2]; decide), eq_dd1, decide_eq_false (by simp)]
        · rfl
        · rcases List.mem_append.mp ha with z | z
          · exact hs a z
          · rw [List.mem_singleton.mp z]; exact hp
      · rw [decide_eq_false h1]; rfl
/-- of one of the texts itself -/
def unit (n : Nat) (i : Nat) : List (Int × Int) := (List.range n).map fun k => (if k = i then 1 else 0, 1)
theorem low_unit {pts : List Pt} {i : Nat} {t : Pt} {fs : List (Int × Int)} (h : sp [] 0 pts = []) (hi : pts[i]? = some t) (lo : LowL (cram pts t).2 (cram pts t).1 fs) : fs = unit pts.length i := by
  have h0 : pts ≠ [] := fun z => by rw [z] at hi; simp at hi
  obtain ⟨c1, c2, c3⟩ := cram_ne t h h0
  have fl := low_len lo
  match pts, h, hi, lo, c1, c2, c3, fl with
  | [a], _, hi, lo, _, c2, _, fl =>
    match fs, fl with
    | [f], _ =>
    have hi0 : i = 0 := by
      have := (List.getElem?_eq_some_iff.mp hi).1
      simpa using this
    subst hi0
    rw [low_one (D := 1) (by decide) lo.1]
    rfl
  | [a, b], _, hi, lo, _, c2, _, fl =>
    have e : (cram [a, b] t).1.length = 2 := by rw [cram2]; split <;> rfl
    rw [e] at fl
    match fs, fl with
    | [f, g], _ =>
    match i, hi with
    | 0, hi =>
      have : a = t := by simpa using hi
      subst this
      rw [cram2] at lo c2
      split at lo
      · rename_i z; rw [if_pos z] at c2
        rw [Int.sub_self] at lo
        rw [low_one c2 lo.1, low_zero c2 lo.2.1]; rfl
      · rename_i z; rw [if_neg z] at c2
        rw [Int.sub_self] at lo
        rw [low_one c2 lo.1, low_zero c2 lo.2.1]; rfl
    | 1, hi =>
      have : b = t := by simpa using hi
      subst this
      rw [cram2] at lo c2
      split at lo
      · rename_i z; rw [if_pos z] at c2
        rw [Int.sub_self] at lo
        rw [low_zero c2 lo.1, low_one c2 lo.2.1]; rfl
      · rename_i z; rw [if_neg z] at c2
        rw [Int.sub_self] at lo
        rw [low_zero c2 lo.1, low_one c2 lo.2.1]; rfl
    | i + 2, hi => simp at hi
  | [a, b, c], _, hi, lo, _, c2, _, fl =>
    have e : (cram [a, b, c] t).1.length = 3 := rfl
    rw [e] at fl
    match fs, fl with
    | [f, g, k], _ =>
    rw [cram3] at lo c2
    have d1 : ∀ a c : Pt, det3 a a c = 0 := fun a c => by unfold det3; grind
    have d2 : ∀ a b : Pt, det3 a b a = 0 := fun a b => by unfold det3; grind
    have d3 : ∀ a b : Pt, det3 a b b = 0 := fun a b => by unfold det3; grind
    match i, hi with
    | 0, hi =>
      have : a = t := by simpa using hi
      subst this
      rw [d1, d2] at lo
      rw [low_one c2 lo.1, low_zero c2 lo.2.1, low_zero c2 lo.2.2.1]; rfl
    | 1, hi =>
      have : b = t := by simpa using hi
      subst this
      rw [d1, d3] at lo
      rw [low_zero c2 lo.1, low_one c2 lo.2.1, low_zero c2 lo.2.2.1]; rfl
    | 2, hi =>
      have : c = t := by simpa using hi
      subst this
      rw [d2, d3] at lo
      rw [low_zero c2 lo.1, low_zero c2 lo.2.1, low_one c2 lo.2.2.1]; rfl
    | i + 3, hi => simp at hi
  | a :: b :: c :: d :: r, _, _, _, c1, _, _, _ => exact absurd c1 (by simp only [List.length_cons]; omega)
theorem spn_mem {pts : List Pt} {i : Nat} {t : Pt} (h : sp [] 0 pts = []) (hi : pts[i]? = some t) : spn pts t = true := by
  have h0 : pts ≠ [] := fun z => by rw [z] at hi; simp at hi
  obtain ⟨c1, _, _⟩ := cram_ne t h h0
  match pts, hi, c1 with
  | [a], hi, _ =>
    have hi0 : i = 0 := by
      have := (List.getElem?_eq_some_iff.mp hi).1
      simpa using this
    subst hi0
    have : a = t := by simpa using hi
    exact decide_eq_true this
  | [a, b], hi, _ =>
    refine decide_eq_true ?_
    match i, hi with
    | 0, hi =>
      have : a = t := by simpa using hi
      subst this
      unfold det3; grind
    | 1, hi =>
      have : b = t := by simpa using hi
      subst this
      unfold det3; grind
    | i + 2, hi => simp at hi
  | [a, b, c], hi, _ => rfl
  | a :: b :: c :: d :: r, _, c1 => exact absurd c1 (by simp only [List.length_cons]; omega)
theorem own_true {texts : List (List Nat)} (ht : ∀ t ∈ texts, Txt 130 t) (h : sp [] 0 (texts.map pt) = []) : _law_own_right_m texts = some true := by
  have hs := pts_sm ht (Nat.le_refl _)
  have hl : texts.length ≤ 3 := by
    by_cases z : texts.map pt = []
    · have : texts = [] := by simpa using z
      rw [this]; simp
    · have := (cram_ne (0, 0) h z).1
      rwa [List.length_map] at this
  unfold _law_own_right_m
  simp only [lt_eq, unc_mk, p_bnd_some, p_bnd_bnd, id_eq, p_bndF_nx, p_bndF_rt, p_bndF_bnd, p_retM_rt, p_retM_bnd, p_iteM, p_notM, p_orM, p_andM, ifB_true, ifB_false]
  have hr : rangeM (texts.length : Int) = some (upto texts.length) := if_pos ⟨by omega, by omega⟩
  rw [hr, p_bnd_some]
  have body : ∀ (F : Int → Unit → Option (Fl Unit Unit Bool)), (∀ i s, F i s = (lcM pureMd (fun _ => some true) (fun (k : Int) => some ((if decide (k = i) = true then (1 : Int) else 0), (1 : Int))) (upto texts.length)).bind fun due => bndF pureMd (iteM pureMd ((L2.atI texts i).bind fun x => Option.bind (factors_m (x, texts)) fun u => (reprM (dd2 u)).bind fun a => (reprM (dd4 due)).bind fun b => some (!decide (a = b))) (some (.rt false)) (some (.nx ()))) fun _ => some (.nx ())) →
      forL (L := Unit) pureMd F (upto texts.length) () = some (.nx ()) := fun F hF => by
    refine (for_fold (L := Unit) (f := F) (g := fun s _ => s) (I := fun _ => True) (l := upto texts.length) (s := ()) trivial fun i hi s _ => ⟨?_, trivial⟩).1
    obtain ⟨j, hj, rfl⟩ := List.mem_map.mp hi
    have hj : j < texts.length := by simpa using List.mem_range.mp hj
    rw [hF, lc_all (g := fun (k : Int) => ((if k = (j : Int) then (1 : Int) else 0), (1 : Int))) (fun k _ => by simp), p_bnd_some]
    have ej : texts[j]? = some texts[j] := List.getElem?_eq_getElem hj
    rw [L2.atI_nat ej, p_bnd_some]
    have hm : texts[j] ∈ texts := List.getElem_mem hj
    have hi : (texts.map pt)[j]? = some (pt texts[j]) := by rw [List.getElem?_map, ej]; rfl
    obtain ⟨fs, e, lo⟩ := (factors_eq (ht _ hm) ht).1 h (spn_mem h hi)
    have eu := low_unit h hi lo
    have due : (upto texts.length).map (fun k => ((if k = (j : Int) then (1 : Int) else 0), (1 : Int))) = unit texts.length j := by
      unfold upto unit
      rw [List.map_map, Int.toNat_natCast]
      apply List.map_congr_left
      intro k _
      show ((if (k : Int) = (j : Int) then (1 : Int) else 0), (1 : Int)) = ((if k = j then (1 : Int) else 0), (1 : Int))
      by_cases z : k = j
      · rw [if_pos z, if_pos (by omega)]
      · rw [if_neg z, if_neg (by omega)]
    rw [List.length_map] at eu
    obtain ⟨s', hsr⟩ := repr_pairs (fs := fs) (by rw [eu]; unfold unit; simpa using hl) (fr_bd hs (txt_sm (ht _ hm) (Nat.le_refl _)) lo)
    rw [e, p_bnd_some, show reprM (dd2 (some fs)) = some s' from hsr, p_bnd_some, due, ← eu, hsr, p_bnd_some, decide_eq_true rfl]
    rfl
  rw [body _ fun i s => ?_]
  · rfl
  · first | rfl | (simp only [p_bnd_bnd, p_bnd_some]; rfl)
end K17
set_option Elab.async false
set_option linter.all false
set_option maxRecDepth 100000
set_option maxHeartbeats 4000000
set_option exponentiation.threshold 100000
/-! The law. -/
namespace K17
open PySem Ty

theorem d_lc_filter {α β : Type} {p : α → DkM Bool} {q : α → Bool} {f : α → DkM β} {g : α → β} : ∀ {l : List α}, (∀ a ∈ l, p a = dR (q a)) → (∀ a ∈ l, f a = dR (g a)) → lcM dkL p f l = dR ((l.filter q).map g)
  | [], _, _ => rfl
  | a :: l, h1, h2 => by
    have ih := d_lc_filter (l := l) (fun b hb => h1 b (List.mem_cons_of_mem _ hb)) fun b hb => h2 b (List.mem_cons_of_mem _ hb)
    have e1 := h1 a (by simp)
    have e2 := h2 a (by simp)
    unfold lcM
    show dB (p a) (fun b => if b = true then dB (f a) fun y => dB (lcM dkL p f l) fun ys => dR (y :: ys) else lcM dkL p f l) = _
    rw [e1, d_bnd_ret, List.filter_cons]
    cases q a with
    | true =>
      rw [if_pos rfl, if_pos rfl, e2, d_bnd_ret, ih]
      rfl
    | false =>
      rw [if_neg Bool.false_ne_true, if_neg Bool.false_ne_true]
      exact ih
theorem d_lc_all {α β : Type} {f : α → DkM β} {g : α → β} {l : List α} (h : ∀ a ∈ l, f a = dR (g a)) : lcM dkL (fun _ => dkL.ret true) f l = dR (l.map g) := by
  have := d_lc_filter (p := fun _ => dkL.ret true) (q := fun _ => true) (f := f) (g := g) (l := l) (fun _ _ => rfl) h
  rw [this, List.filter_eq_self.mpr fun _ _ => rfl]
theorem sp_ge : ∀ (l f : List Pt) (i k : Int), k ∈ sp f i l → i ≤ k
  | [], f, i, k, h => by simp [sp] at h
  | t :: l, f, i, k, h => by
    rw [sp] at h
    split at h
    · rcases List.mem_cons.mp h with e | e
      · omega
      · have := sp_ge l f (i + 1) k e; omega
    · have := sp_ge l _ (i + 1) k h; omega
theorem apart_sp : ∀ (texts : List (List Nat)) (f : List Pt) (i : Nat) (j : Int), sp f j ((((texts.zipIdx i).filter fun q => !(sp f (i : Int) (texts.map pt)).contains ((q.2 : Nat) : Int)).map (·.1)).map pt) = []
  | [], f, i, j => rfl
  | t :: texts, f, i, j => by
    rw [List.map_cons, sp, List.zipIdx_cons, List.filter_cons]
    have later : ∀ (g : List Pt) (q : List Nat × Nat), q ∈ texts.zipIdx (i + 1) → (((i : Int) :: sp g ((i : Int) + 1) (texts.map pt)).contains ((q.2 : Nat) : Int)) = (sp g ((i : Int) + 1) (texts.map pt)).contains ((q.2 : Nat) : Int) := fun g q hq => by
      have := List.le_snd_of_mem_zipIdx hq
      rw [List.contains_cons]
      have : (((q.2 : Nat) : Int) == (i : Int)) = false := by
        rw [beq_eq_false_iff_ne]; omega
      rw [this, Bool.false_or]
    by_cases h : spn f (pt t) = true
    · rw [if_pos h]
      have e0 : (!((i : Int) :: sp f ((i : Int) + 1) (texts.map pt)).contains (((t, i).2 : Nat) : Int)) = false := by simp
      rw [e0, if_neg Bool.false_ne_true]
      rw [List.filter_congr fun q hq => by rw [later f q hq]]
      exact apart_sp texts f (i + 1) j
    · rw [if_neg h]
      have e0 : (!(sp (f ++ [pt t]) ((i : Int) + 1) (texts.map pt)).contains (((t, i).2 : Nat) : Int)) = true := by
        have : (sp (f ++ [pt t]) ((i : Int) + 1) (texts.map pt)).contains (i : Int) = false := by
          cases z : (sp (f ++ [pt t]) ((i : Int) + 1) (texts.map pt)).contains (i : Int) with
          | false => rfl
          | true =>
            have := sp_ge _ _ _ _ (List.contains_iff_mem.mp z)
            omega
        show (!(sp (f ++ [pt t]) ((i : Int) + 1) (texts.map pt)).contains (i : Int)) = true
        rw [this]; rfl
      rw [e0, if_pos rfl, List.map_cons, List.map_cons, sp, if_neg h]
      exact apart_sp texts (f ++ [pt t]) (i + 1) (j + 1)
theorem bag_ok {ns : List Int} (h : ns.length ≤ 63) : ∃ d, _law_bag_m ns = some d ∧ DkInv 0 d := by
  unfold _law_bag_m
  simp only [lt_eq, unc_mk, p_bnd_some, p_bnd_bnd, id_eq, p_bndF_nx, p_bndF_rt, p_bndF_bnd, p_retM_rt, p_retM_bnd, p_iteM, p_notM, p_orM, p_andM, ifB_true, ifB_false]
  have loop := for_fold (L := Unit) (ρ := Dk) (f := fun (cell3 : Int) (s2 : Int) => some (Fl.nx (L := Int) (((((s2 * (69621 : Int)) + (cell3 % (2147483629 : Int))) + (47 : Int)) % (2147483587 : Int))))) (g := fun s2 cell3 => ((((s2 * (69621 : Int)) + (cell3 % (2147483629 : Int))) + (47 : Int)) % (2147483587 : Int))) (I := fun s => 0 ≤ s ∧ s < 4294967296) (l := cut ns none (some (63 : Int))) (s := 40093) (by decide) fun a _ s _ => ⟨rfl, Int.emod_nonneg _ (by decide), Int.lt_trans (Int.emod_lt_of_pos _ (by decide)) (by decide)⟩
  rw [loop.1, p_bndF_nx]
  simp only [lt_eq, unc_mk, p_bnd_some, p_bnd_bnd, id_eq, p_bndF_nx, p_bndF_rt, p_bndF_bnd, p_retM_rt, p_retM_bnd, p_iteM, p_notM, p_orM, p_andM, ifB_true, ifB_false]
  rw [lc_filter (q := fun c => decide (((10 : Int) ^ ((18 : Int)).toNat) ≤ c)) (g := fun c => c) (fun _ _ => rfl) fun _ _ _ => rfl, List.map_id', p_bnd_some]
  refine ⟨_, rfl, loop.2.1, loop.2.2, Int.le_refl 0, Int.le_refl 0, ?_⟩
  show (List.filter _ _).reverse.length ≤ 1000
  rw [List.length_reverse]
  have h1 := List.length_filter_le (fun c => decide (((10 : Int) ^ ((18 : Int)).toNat) ≤ c)) (cut ns none (some (63 : Int)))
  have h2 := cut_len ns none (some (63 : Int))
  omega
theorem only_ok {S L : Type} {c : Nat} {m : DkM (Fl S L Bool)} {d : Dk} (h : Dr c m (EndP (fun _ => False) (fun _ => False) (fun r => r = true))) (hc : c ≤ 1000000) (i : DkInv 0 d) : retM pureMd (S := Unit) (L := Unit) (onlyRt (m d)) = some true := by
  obtain ⟨x, d', e, _, p⟩ := h d 0 i (by omega)
  rw [e]
  cases x with
  | rt r =>
    have p : r = true := p
    rw [p]; rfl
  | nx s => exact p.elim
  | ct s => exact p.elim
  | bk s => exact p.elim
theorem set_last {xs : List (List Nat)} (h : xs ≠ []) (y : List Nat) : ∃ ys, setI xs (-1) y = some ys ∧ ys.length = xs.length ∧ ∀ t ∈ ys, t ∈ xs ∨ t = y := by
  have hl : 0 < xs.length := List.length_pos_iff.mpr h
  have e : L2.ixN xs.length (-1) = some (xs.length - 1) := by
    unfold L2.ixN
    first
      | (rw [if_neg (by omega)]; simp; omega)
      | (simp; omega)
  refine ⟨xs.set (xs.length - 1) y, by unfold setI; rw [e]; rfl, by simp, fun t ht => ?_⟩
  rcases List.mem_or_eq_of_mem_set ht with z | z
  · exact .inl z
  · exact .inr z
theorem law_true (ns : List Int) (h : ns.length ≤ 63) : law_m ns = some true := by
  obtain ⟨d, hd, inv⟩ := bag_ok h
  unfold law_m
  simp only [lt_eq, unc_mk, p_bnd_some, p_bnd_bnd, id_eq, p_bndF_nx, p_bndF_rt, p_bndF_bnd, p_retM_rt, p_retM_bnd, p_iteM, p_notM, p_orM, p_andM, ifB_true, ifB_false]
  rw [hd, p_bnd_some]
  have none_nil : ∀ t, Txt 130 t → factors_m (t, []) = some none := fun t ht => (factors_eq ht fun t h => by simp at h).2 fun z => absurd z.2 (spn0 _)
  refine only_ok (c := 10000) ?_ (by decide) inv
  simp only [lt_eq, unc_mk, d_bnd_ret, d_bnd_bnd, d_lft_some, d_bndF_nx, d_bndF_rt, d_bndF_bnd, d_retM_rt, d_retM_bnd, d_iteM, d_notM, d_orM, d_andM, ifB_true, ifB_false]
  refine dr_le (dr_bndF (a := 5) (b := 5000) (I := fun _ => True) ?_ fun s10 _ => ?_) (by decide)
  · refine dr_iteM (a := 4) (b := 1) (T := fun b => b = false) (dr_bnd (a := 1) (b := 3) (dr_out (by decide) (by decide)) fun n hn => dr_bnd (a := 3) (b := 0) (dr_mono (dr_signs tl4 (by decide) (by decide) hn.1 (by omega)) (by omega) fun t ht => ht.mono (j := 130) (by omega)) fun t ht => ?_) (fun z => by cases z) fun _ => dr_le (dr_ret trivial) (by decide)
    rw [none_nil t ht, d_lft_some, d_bnd_ret]
    exact dr_ret rfl
  rw [show rangeM 10 = some (upto 10) from rfl, d_lft_some, d_bnd_ret]
  refine dr_bndF (a := (upto 10).length * 500) (b := 0) (I := fun _ => True) (dr_for (fun turn _ s _ => ?_) trivial) fun _ _ => dr_ret rfl
  refine dr_bnd (a := 14) (b := 486) dr_family fun f1 h1 => dr_bnd (a := 1) (b := 485) (dr_of (by simp) (by show 7 < 1000000; decide)) fun n hn => ?_
  have hn : 0 ≤ n ∧ n ≤ 4 := by
    simp only [List.mem_cons, List.not_mem_nil, or_false] at hn
    omega
  rw [show rangeM n = some (upto n) from if_pos ⟨by omega, by omega⟩, d_lft_some, d_bnd_ret]
  have ln : (upto n).length ≤ 4 := by
    unfold upto
    rw [List.length_map, List.length_range]
    omega
  refine dr_bnd (a := 32) (b := 453) (P := fun ys => ys.length ≤ 4 ∧ ∀ y ∈ ys, Txt 126 y) (dr_mono (dr_lc (c := 8) (Q := Txt 126) fun _ _ => dr_member h1) (by omega) fun ys hy => ⟨by rw [hy.1]; exact ln, hy.2⟩) fun some24 h24 => ?_
  have ne_nil : ∀ xs : List (List Nat), (∀ t ∈ xs, Txt 126 t) → Option.map (fun b => !b) (eqD (dd3 xs) (dd3 [])) = some (!decide (xs = [])) := fun xs hx => by rw [eq_nil3 hx]; rfl
  refine dr_bndF (a := 23) (b := 430) (I := fun l => l.length ≤ 4 ∧ ∀ t ∈ l, Txt 126 t) ?_ fun s28 h28 => ?_
  · refine dr_iteM (a := 1) (b := 22) (T := fun b => b = true → some24 ≠ []) (dr_andM (a := 1) (b := 0) (T := fun _ => True) (dr_bnd (a := 1) (b := 0) (dr_out (by decide) (by decide)) fun a _ => dr_ret trivial) (fun _ => ?_) fun _ z => by cases z) (fun hne => ?_) fun _ => dr_le (dr_ret (show EndP _ _ _ _ from h24)) (by decide)
    · rw [ne_nil _ h24.2, d_lft_some]
      exact dr_ret fun z => by simpa using z
    · refine dr_bnd (a := 14) (b := 8) dr_family fun f2 h2 => dr_bnd (a := 8) (b := 0) (dr_member h2) fun t ht => ?_
      obtain ⟨ys, e1, e2, e3⟩ := set_last (hne rfl) t
      rw [e1, d_lft_some, d_bnd_ret]
      refine dr_ret (show EndP _ _ _ _ from ⟨by rw [e2]; exact h24.1, fun u hu => ?_⟩)
      rcases e3 u hu with z | z
      · exact h24.2 u z
      · rw [z]; exact ht
  refine dr_bndF (a := 1) (b := 429) (I := fun l => l.length ≤ 5 ∧ ∀ t ∈ l, Txt 126 t) ?_ fun s38 h38 => ?_
  · refine dr_iteM (a := 1) (b := 0) (T := fun b => b = true → s28 ≠ []) (dr_andM (a := 1) (b := 0) (T := fun _ => True) (dr_bnd (a := 1) (b := 0) (dr_out (by decide) (by decide)) fun a _ => dr_ret trivial) (fun _ => ?_) fun _ z => by cases z) (fun hne => ?_) fun _ => dr_ret (show EndP _ _ _ _ from ⟨by have := h28.1; omega, h28.2⟩)
    · rw [ne_nil _ h28.2, d_lft_some]
      exact dr_ret fun z => by simpa using z
    · match s28, hne rfl, h28 with
      | t0 :: r, _, h28 =>
      rw [show L2.atI (t0 :: r) 0 = some t0 from L2.atI_nat (xs := t0 :: r) (v := t0) (show (t0 :: r)[0]? = some t0 from rfl), d_lft_some, d_bnd_ret, len_ok (by have := h28.1; omega), d_lft_some, d_bnd_ret]
      refine dr_ret (show EndP _ _ _ _ from ⟨by rw [List.length_append, List.length_singleton]; have := h28.1; omega, fun u hu => ?_⟩)
      rcases List.mem_append.mp hu with z | z
      · exact h28.2 u z
      · rw [List.mem_singleton.mp z]; exact h28.2 t0 (by simp)
  have t38 : ∀ t ∈ s38, Txt 130 t := fun t ht => (h38.2 t ht).mono (by decide)
  refine dr_bnd (a := 10) (b := 419) (P := Txt 130) ?_ fun phrase hp => ?_
  · refine dr_iteM (a := 1) (b := 9) (T := fun _ => True) (dr_bnd (a := 1) (b := 0) (dr_out (by decide) (by decide)) fun a _ => dr_ret trivial) (fun _ => dr_mono (dr_member h1) (by decide) fun t ht => ht.mono (by decide)) fun _ => ?_
    refine dr_bnd (a := 1) (b := 8) (dr_out (by decide) (by decide)) fun n hn => dr_mono (dr_signs tl5 (by decide) (by decide) hn.1 (by omega)) (by omega) fun t ht => ht.mono (j := 130) (by omega)
  have r1 : ∀ (x : List Nat) (xs : List (List Nat)), Txt 130 x → (∀ t ∈ xs, Txt 130 t) → xs.length ≤ 100 → _law_right_m (x, xs) = some true := fun x xs hx ht hl => right_true hx ht hl
  rw [r1 phrase s38 hp t38 (by have := h38.1; omega), d_lft_some]
  rw [show iteM dkL (Ty.notM dkL (dR true)) (dR (Fl.rt false)) (dR (Fl.nx ())) = (dR (Fl.nx ()) : DkM (Fl Unit Unit Bool)) from rfl, d_bndF_nx]
  have hs := pts_sm t38 (Nat.le_refl _)
  have spare : ∀ at54 : Int × List Nat, (dB (lcM dkL (fun _ => dR true) (fun two => dLf (_law_triple_m two)) s38) fun q58 => dB (dLf (_law_spare_m q58)) fun b60 => dR (!b60.contains at54.1)) = dR (!(sp [] 0 (s38.map pt)).contains at54.1) := fun at54 => by
    rw [d_lc_all (g := fun t => row (tp (pt t))) fun t _ => by rw [lawtriple_eq]; rfl, d_bnd_ret, show s38.map (fun t => row (tp (pt t))) = (s38.map pt).map fun p => row (tp p) by rw [List.map_map]; rfl, spare_eq hs (by rw [List.length_map]; have := h38.1; omega)]
    rfl
  refine dr_bnd (a := 0) (b := 419) (P := fun l => l = ((s38.zipIdx 0).filter fun q => !(sp [] 0 (s38.map pt)).contains ((q.2 : Nat) : Int)).map (·.1)) ?_ fun apart ha => ?_
  · rw [d_lc_filter (p := _) (q := fun a => !(sp [] 0 (s38.map pt)).contains a.1) (g := fun a => a.2) (fun a _ => spare a) fun a _ => rfl]
    refine dr_ret ?_
    unfold enumL
    rw [List.filter_map, List.map_map]
    rfl
  have hap : ∀ t ∈ apart, t ∈ s38 := fun t ht => by
    rw [ha] at ht
    obtain ⟨q, h1, rfl⟩ := List.mem_map.mp ht
    exact List.fst_mem_of_mem_zipIdx (List.mem_filter.mp h1).1
  have lap : apart.length ≤ 5 := by
    rw [ha, List.length_map]
    have := List.length_filter_le (fun q : List Nat × Nat => !(sp [] 0 (s38.map pt)).contains ((q.2 : Nat) : Int)) (s38.zipIdx 0)
    rw [List.length_zipIdx] at this
    have := h38.1
    omega
  have sap : sp [] 0 (apart.map pt) = [] := by rw [ha]; exact apart_sp s38 [] 0 0
  have tap : ∀ t ∈ apart, Txt 130 t := fun t ht => t38 t (hap t ht)
  rw [r1 phrase apart hp tap (by omega), own_true tap sap]
  exact dr_le (dr_ret (show EndP _ _ _ _ from trivial)) (by decide)
end K17
set_option Elab.async false
set_option linter.all false
set_option maxRecDepth 100000
open PySem PySem.W PyProof.Rows
set_option maxHeartbeats 0 in
theorem PySem.Challenge.cw_threeshown_k17_factors_holds : PySem.Challenge.rw_threeshown_k17_factors.Holds := by
  w_on; o_law; k_head; (case hw => w_witness2)
  k_fill
  refine Ty.walkG (l := PySem.Challenge.rw_threeshown_k17_factors) (n := 63) (k := 6) (x := "_law_script") (fm := K17.law_m) rfl (by decide) rfl ⟨rfl, by decide, by decide⟩ (fun w h Y => PySem.W.kIn_of Y) ?F K17.law_true
  case F =>
    intro w mg h KX N base KXb Nb
    refine' K17.all_law ?D0 ?D1 ?D2 ?D3 ?D4 ?D5 ?D6 ?D7 ?D8 ?D9 ?D10 ?D11 ?D12 ?D13 ?D14 ?D15 ?D16 ?D17 ?D18 ?D19 ?D20 ?D21 ?b0 ?b1 ?b2 ?b3 ?b4 ?b5 ?b6 ?b7 ?b8 ?b9 ?b10 ?b11 rfl ?c0
    case D0 =>
      refine' Ty.def_mk KXb Nb ?a ?l ?c ?k (fun _ _ _ _ _ _ us hl => match us, hl with | [_], _ => rfl)
      (case a => k_is); (case l => k_is); (case c => k_is); (case k => k_is)
    case D1 =>
      refine' Ty.def_mk KXb Nb ?a ?l ?c ?k (fun _ _ _ _ _ _ us hl => match us, hl with | [_], _ => rfl)
      (case a => k_is); (case l => k_is); (case c => k_is); (case k => k_is)
    case D2 =>
      refine' Ty.def_mk KXb Nb ?a ?l ?c ?k (fun _ _ _ _ _ _ us hl => match us, hl with | [_, _, _], _ => rfl)
      (case a => k_is); (case l => k_is); (case c => k_is); (case k => k_is)
    case D3 =>
      refine' Ty.def_mk KXb Nb ?a ?l ?c ?k (fun _ _ _ _ _ _ us hl => match us, hl with | [_, _], _ => rfl)
      (case a => k_is); (case l => k_is); (case c => k_is); (case k => k_is)
    case D4 =>
      refine' Ty.def_mk KXb Nb ?a ?l ?c ?k (fun _ _ _ _ _ _ us hl => match us, hl with | [_], _ => rfl)
      (case a => k_is); (case l => k_is); (case c => k_is); (case k => k_is)
    case D5 =>
      refine' Ty.def_mk KXb Nb ?a ?l ?c ?k (fun _ _ _ _ _ _ us hl => match us, hl with | [_, _], _ => rfl)
      (case a => k_is); (case l => k_is); (case c => k_is); (case k => k_is)
    case D6 =>
      refine' Ty.def_mk KXb Nb ?a ?l ?c ?k (fun _ _ _ _ _ _ us hl => match us, hl with | [_, _], _ => rfl)
      (case a => k_is); (case l => k_is); (case c => k_is); (case k => k_is)
    case D7 =>
      refine' Ty.def_mk KXb Nb ?a ?l ?c ?k (fun _ _ _ _ _ _ us hl => match us, hl with | [_, _, _], _ => rfl)
      (case a => k_is); (case l => k_is); (case c => k_is); (case k => k_is)
    case D8 =>
      refine' Ty.def_mk KXb Nb ?a ?l ?c ?k (fun _ _ _ _ _ _ us hl => match us, hl with | [_, _], _ => rfl)
      (case a => k_is); (case l => k_is); (case c => k_is); (case k => k_is)
    case D9 =>
      refine' Ty.def_mk KXb Nb ?a ?l ?c ?k (fun _ _ _ _ _ _ us hl => match us, hl with | [_], _ => rfl)
      (case a => k_is); (case l => k_is); (case c => k_is); (case k => k_is)
    case D10 =>
      refine' Ty.def_mk KXb Nb ?a ?l ?c ?k (fun _ _ _ _ _ _ us hl => match us, hl with | [_], _ => rfl)
      (case a => k_is); (case l => k_is); (case c => k_is); (case k => k_is)
    case D11 =>
      refine' Ty.def_mk KXb Nb ?a ?l ?c ?k (fun _ _ _ _ _ _ us hl => match us, hl with | [_, _], _ => rfl)
      (case a => k_is); (case l => k_is); (case c => k_is); (case k => k_is)
    case D12 =>
      refine' Ty.def_mk KXb Nb ?a ?l ?c ?k (fun _ _ _ _ _ _ us hl => match us, hl with | [_, _, _], _ => rfl)
      (case a => k_is); (case l => k_is); (case c => k_is); (case k => k_is)
    case D13 =>
      refine' Ty.def_mk KXb Nb ?a ?l ?c ?k (fun _ _ _ _ _ _ us hl => match us, hl with | [_, _], _ => rfl)
      (case a => k_is); (case l => k_is); (case c => k_is); (case k => k_is)
    case D14 =>
      refine' Ty.def_mk KXb Nb ?a ?l ?c ?k (fun _ _ _ _ _ _ us hl => match us, hl with | [_], _ => rfl)
      (case a => k_is); (case l => k_is); (case c => k_is); (case k => k_is)
    case D15 =>
      refine' Ty.def_mk KXb Nb ?a ?l ?c ?k (fun _ _ _ _ _ _ us hl => match us, hl with | [_], _ => rfl)
      (case a => k_is); (case l => k_is); (case c => k_is); (case k => k_is)
    case D16 =>
      refine' Ty.def_mk KXb Nb ?a ?l ?c ?k (fun _ _ _ _ _ _ us hl => match us, hl with | [_, _], _ => rfl)
      (case a => k_is); (case l => k_is); (case c => k_is); (case k => k_is)
    case D17 =>
      refine' Ty.def_mk KXb Nb ?a ?l ?c ?k (fun _ _ _ _ _ _ us hl => match us, hl with | [_, _], _ => rfl)
      (case a => k_is); (case l => k_is); (case c => k_is); (case k => k_is)
    case D18 =>
      refine' Ty.def_mk KXb Nb ?a ?l ?c ?k (fun _ _ _ _ _ _ us hl => match us, hl with | [_, _, _], _ => rfl)
      (case a => k_is); (case l => k_is); (case c => k_is); (case k => k_is)
    case D19 =>
      refine' Ty.def_mk KXb Nb ?a ?l ?c ?k (fun _ _ _ _ _ _ us hl => match us, hl with | [_], _ => rfl)
      (case a => k_is); (case l => k_is); (case c => k_is); (case k => k_is)
    case D20 =>
      refine' Ty.def_mk KXb Nb ?a ?l ?c ?k (fun _ _ _ _ _ _ us hl => match us, hl with | [_, _], _ => rfl)
      (case a => k_is); (case l => k_is); (case c => k_is); (case k => k_is)
    case D21 =>
      refine' Ty.def_mk KXb Nb ?a ?l ?c ?k (fun _ _ _ _ _ _ us hl => match us, hl with | [_], _ => rfl)
      (case a => k_is); (case l => k_is); (case c => k_is); (case k => k_is)
    case b0 => exact PySem.W.mg_none_of KXb Nb (by k_is)
    case b1 => exact PySem.W.mg_none_of KXb Nb (by k_is)
    case b2 => exact PySem.W.mg_none_of KXb Nb (by k_is)
    case b3 => exact PySem.W.mg_none_of KXb Nb (by k_is)
    case b4 => exact PySem.W.mg_none_of KXb Nb (by k_is)
    case b5 => exact PySem.W.mg_none_of KXb Nb (by k_is)
    case b6 => exact PySem.W.mg_none_of KXb Nb (by k_is)
    case b7 => exact PySem.W.mg_none_of KXb Nb (by k_is)
    case b8 => exact PySem.W.mg_none_of KXb Nb (by k_is)
    case b9 => exact PySem.W.mg_none_of KXb Nb (by k_is)
    case b10 => exact PySem.W.mg_none_of KXb Nb (by k_is)
    case b11 => exact PySem.W.mg_none_of KXb Nb (by k_is)
    case c0 => refine' PySem.W.mg_of KXb Nb ?z; (case z => k_is)
