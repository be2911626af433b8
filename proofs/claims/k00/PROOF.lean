import PyProof.Rows.All
import HandS.ForMost
import HandS.Evl
import HandS.Exc
import HandS.TryOnly
import HandS.ExcOwn
import HandS.WordsExc
import HandS.Wide
import HandS.WideBits
import HandS.Gcd
import HandS.IsInst
import HandS.OwnEq
import HandS.Codes
import KE.KOpsOwn
import KE.KCallOwn
import PyProof.Conv_bool
import PyProof.Rows.RuleN_abs
import PyProof.TwoTypes
import HandS.Defaults
import HandS.ExcIs
import HandS.Head0
import HandS.Head1
import HandS.Head2
import HandS.Head3
import HandS.HeadEnd
import HandS.HeadHook1
import HandS.HeadHook2
import KE.KStateDown
import PySem.Challenge.RW_spotheights_k00_ratios_are_exact
set_option Elab.async false
set_option linter.all false
set_option maxRecDepth 100000
set_option maxRecDepth 100000
/-! DL: the ghost layer. A reading of the hand layer is shown over typed data: each slot of a def holds a datum of plain Lean (frozen), or an owned object. -/
namespace DL
open PySem L2 Evl

/-- two lists, place by place -/
inductive Al.{u, v} {α : Type u} {β : Type v} (R : α → β → Prop) : List α → List β → Prop
  | nil : Al R [] []
  | cons {a b l₁ l₂} : R a b → Al R l₁ l₂ → Al R (a :: l₁) (b :: l₂)
section
universe u v
variable {α : Type u} {β : Type v} {R S : α → β → Prop}
theorem Al.map : ∀ {l₁ : List α} {l₂ : List β}, Al R l₁ l₂ → (∀ a b, R a b → S a b) → Al S l₁ l₂
  | _, _, .nil, _ => .nil
  | _, _, .cons r t, f => .cons (f _ _ r) (Al.map t f)
theorem Al.len : ∀ {l₁ : List α} {l₂ : List β}, Al R l₁ l₂ → l₁.length = l₂.length
  | _, _, .nil => rfl
  | _, _, .cons _ t => congrArg (· + 1) (Al.len t)
theorem Al.app : ∀ {l₁ m₁ : List α} {l₂ m₂ : List β}, Al R l₁ l₂ → Al R m₁ m₂ → Al R (l₁ ++ m₁) (l₂ ++ m₂)
  | _, _, _, _, .nil, s => s
  | _, _, _, _, .cons r t, s => .cons r (Al.app t s)
theorem Al.set {x : α} {y : β} (r : R x y) : ∀ {xs : List α} {ys : List β} (i : Nat), Al R xs ys → Al R (xs.set i x) (ys.set i y)
  | _, _, _, .nil => .nil
  | _, _, 0, .cons _ tl => .cons r tl
  | _, _, i + 1, .cons q tl => .cons q (Al.set r i tl)
theorem Al.set' {x : α} {y : β} {xs : List α} {ys : List β} (h : Al R xs ys) (i : Nat) (r : R x y) : Al R (xs.set i x) (ys.set i y) := Al.set r i h
theorem Al.get : ∀ {xs : List α} {ys : List β} {i : Nat} {x : α}, Al R xs ys → xs[i]? = some x → ∃ y, ys[i]? = some y ∧ R x y
  | _, _, _, _, .nil, hx => by simp at hx
  | _, _, 0, _, .cons r _, hx => by simp at hx; subst hx; exact ⟨_, rfl, r⟩
  | _, _, i + 1, x, .cons _ tl, hx => by
    obtain ⟨y, h1, h2⟩ := Al.get (i := i) tl (by simpa using hx)
    exact ⟨y, by simpa using h1, h2⟩
theorem Al.getR : ∀ {xs : List α} {ys : List β} {i : Nat} {y : β}, Al R xs ys → ys[i]? = some y → ∃ x, xs[i]? = some x ∧ R x y
  | _, _, _, _, .nil, hx => by simp at hx
  | _, _, 0, _, .cons r _, hx => by simp at hx; subst hx; exact ⟨_, rfl, r⟩
  | _, _, i + 1, x, .cons _ tl, hx => by
    obtain ⟨y, h1, h2⟩ := Al.getR (i := i) tl (by simpa using hx)
    exact ⟨y, by simpa using h1, h2⟩
theorem Al.take : ∀ {xs : List α} {ys : List β} (n : Nat), Al R xs ys → Al R (xs.take n) (ys.take n)
  | _, _, 0, _ => .nil
  | _, _, _ + 1, .nil => .nil
  | _, _, n + 1, .cons r t => .cons r (Al.take n t)
theorem Al.drop : ∀ {xs : List α} {ys : List β} (n : Nat), Al R xs ys → Al R (xs.drop n) (ys.drop n)
  | _, _, 0, r => r
  | _, _, _ + 1, .nil => .nil
  | _, _, n + 1, .cons _ t => Al.drop n t
theorem Al.rev : ∀ {l₁ : List α} {l₂ : List β}, Al R l₁ l₂ → Al R l₁.reverse l₂.reverse
  | _, _, .nil => .nil
  | _, _, .cons r t => by
    simp only [List.reverse_cons]
    exact (Al.rev t).app (.cons r .nil)
/-- by places -/
theorem Al.of : ∀ {xs : List α} {ys : List β}, xs.length = ys.length → (∀ (i : Nat) x y, xs[i]? = some x → ys[i]? = some y → R x y) → Al R xs ys
  | [], [], _, _ => .nil
  | [], _ :: _, e, _ => by simp at e
  | _ :: _, [], e, _ => by simp at e
  | x :: xs, y :: ys, e, h => .cons (h 0 x y rfl rfl) (Al.of (by simpa using e) fun i a b p q => h (i + 1) a b (by simpa using p) (by simpa using q))
end

/-- a type of data: how a value stands for it in the frozen heap -/
structure Ty (α : Type) where
  rep : Hp → V → α → Prop
  mono : ∀ {F F' : Hp} {v : V} {x : α}, Ex F F' → rep F v x → rep F' v x
structure Dv where
  {α : Type}
  t : Ty α
  x : α
def Dv.rep (F : Hp) (d : Dv) (v : V) : Prop := d.t.rep F v d.x
theorem Dv.mono {F F' : Hp} {d : Dv} {v : V} (e : Ex F F') (h : d.rep F v) : d.rep F' v := d.t.mono e h
abbrev Reps (F : Hp) (ds : List Dv) (vs : List V) : Prop := Al (fun (d : Dv) v => d.rep F v) ds vs
theorem Reps.mono {F F' : Hp} {ds : List Dv} {vs : List V} (e : Ex F F') (h : Reps F ds vs) : Reps F' ds vs := Al.map h fun _ _ r => Dv.mono e r
abbrev RepF (F : Hp) (ds : List (Str × Dv)) (vs : List (Str × V)) : Prop := Al (fun (d : Str × Dv) v => d.1 = v.1 ∧ d.2.rep F v.2) ds vs
theorem RepF.mono {F F' : Hp} {ds : List (Str × Dv)} {vs : List (Str × V)} (e : Ex F F') (h : RepF F ds vs) : RepF F' ds vs := Al.map h fun _ _ r => ⟨r.1, Dv.mono e r.2⟩

inductive Slot where
  | any
  | val (d : Dv)
  | own (oa : Option Addr) (ds : List Dv)
  | lst {α : Type} (t : Ty α) (xs : List α)
  | obj (oa : Option Addr) (C : Addr) (fs : List (Str × Dv))
def Slot.isOwn : Slot → Bool
  | .any => false
  | .val _ => false
  | _ => true
/-- what an owned address holds -/
def OwnOk (F H : Hp) (a : Addr) : Slot → Prop
  | .own oa ds => F a = none ∧ (∀ b, oa = some b → a = b) ∧ ∃ vs, H a = some (.lst vs) ∧ Reps F ds vs
  | .lst t xs => F a = none ∧ ∃ vs, H a = some (.lst vs) ∧ Al (fun x v => t.rep F v x) xs vs
  | .obj oa C fs => F a = none ∧ (∀ b, oa = some b → a = b) ∧ ∃ dx vs, F dx = some (.own a) ∧ H a = some (.ins C dx vs) ∧ RepF F fs vs
  | _ => False
def SlotOk (F H : Hp) (s : Slot) (o : Option V) : Prop := match s with
  | .any => True
  | .val d => ∃ v, o = some v ∧ d.rep F v
  | s => ∃ a, o = some (.ref a) ∧ OwnOk F H a s
theorem OwnOk.no {F H : Hp} {a : Addr} {s : Slot} (h : OwnOk F H a s) : F a = none := by
  cases s with
  | any => exact h.elim
  | val d => exact h.elim
  | own oa ds => exact h.1
  | lst t xs => exact h.1
  | obj oa C fs => exact h.1
theorem OwnOk.so {F H : Hp} {a : Addr} {s : Slot} (h : OwnOk F H a s) : ∃ o, H a = some o := by
  cases s with
  | any => exact h.elim
  | val d => exact h.elim
  | own oa ds => obtain ⟨_, _, vs, e, _⟩ := h; exact ⟨_, e⟩
  | lst t xs => obtain ⟨_, vs, e, _⟩ := h; exact ⟨_, e⟩
  | obj oa C fs => obtain ⟨_, _, dx, vs, _, e, _⟩ := h; exact ⟨_, e⟩
theorem OwnOk.own {F H : Hp} {a : Addr} {s : Slot} (h : OwnOk F H a s) : s.isOwn = true := by
  cases s <;> first | exact h.elim | rfl
theorem OwnOk.mono {F H F' H' : Hp} {a : Addr} {s : Slot} (h : OwnOk F H a s) (e : Ex F F') (n : F' a = none) (k : H' a = H a) : OwnOk F' H' a s := by
  cases s with
  | any => exact h.elim
  | val d => exact h.elim
  | own oa ds => obtain ⟨_, ad, vs, q, r⟩ := h; exact ⟨n, ad, vs, by rw [k]; exact q, r.mono e⟩
  | lst t xs => obtain ⟨_, vs, q, r⟩ := h; exact ⟨n, vs, by rw [k]; exact q, r.map fun _ _ z => t.mono e z⟩
  | obj oa C fs => obtain ⟨_, ad, dx, vs, f, q, r⟩ := h; exact ⟨n, ad, dx, vs, e _ _ f, by rw [k]; exact q, r.mono e⟩
theorem SlotOk.ownAt {F H : Hp} {s : Slot} {o : Option V} (h : SlotOk F H s o) (i : s.isOwn = true) : ∃ a, o = some (.ref a) ∧ OwnOk F H a s := by
  cases s <;> first | exact h | cases i
theorem SlotOk.of_own {F H : Hp} {s : Slot} {a : Addr} (h : OwnOk F H a s) : SlotOk F H s (some (.ref a)) := by
  cases s <;> first | exact h.elim | exact ⟨a, rfl, h⟩

/-- from the entry's frozen and whole heap to those at hand; O: what the caller lets change -/
structure Step (O : Addr → Prop) (F0 H0 F H : Hp) : Prop where
  ff : Ex F0 F
  fh : Ex F H
  keep : ∀ b o, H0 b = some o → F0 b = none → F b = none ∧ (∃ o', H b = some o') ∧ (¬ O b → H b = some o)
abbrev NoO : Addr → Prop := fun _ => False
theorem Step.refl {O : Addr → Prop} {F H : Hp} (e : Ex F H) : Step O F H F H := ⟨Ex.refl F, e, fun b o h n => ⟨n, ⟨o, h⟩, fun _ => h⟩⟩
theorem Step.trans {O : Addr → Prop} {F0 H0 F1 H1 F2 H2 : Hp} (a : Step O F0 H0 F1 H1) (b : Step NoO F1 H1 F2 H2) : Step O F0 H0 F2 H2 :=
  ⟨a.ff.trans b.ff, b.fh, fun c o h n => by
    obtain ⟨n1, ⟨o1, h1⟩, k1⟩ := a.keep c o h n
    obtain ⟨n2, ⟨o2, h2⟩, k2⟩ := b.keep c o1 h1 n1
    refine ⟨n2, ⟨o2, h2⟩, fun no => ?_⟩
    rw [k2 (fun z => z), ← h1, k1 no]⟩
theorem Step.hh {F0 H0 F H : Hp} (e : Ex F0 H0) (a : Step NoO F0 H0 F H) : Ex H0 H := fun b o h => by
  cases q : F0 b with
  | none => exact (a.keep b o h q).2.2 (fun z => z)
  | some u =>
    have h1 := e b u q
    rw [h] at h1
    cases h1
    exact a.fh b _ (a.ff b _ q)
theorem ex_none {F H : Hp} {p : Addr} (e : Ex F H) (h : H p = none) : F p = none := fresh_back e h
/-- a new object that stays open -/
theorem Step.open {F H : Hp} {p : Addr} {o : HO} (e : Ex F H) (h : H p = none) : Step NoO F H F (upd H p o) :=
  ⟨Ex.refl F, e.trans (Ex.new h), fun b u q n => ⟨n, ⟨u, by rw [upd_ne (ne_of_none q h)]; exact q⟩, fun _ => by rw [upd_ne (ne_of_none q h)]; exact q⟩⟩
/-- a new object, frozen -/
theorem Step.new {F H : Hp} {p : Addr} {o : HO} (e : Ex F H) (h : H p = none) : Step NoO F H (upd F p o) (upd H p o) :=
  ⟨Ex.new (ex_none e h), fun b u q => by
    by_cases z : b = p
    · rw [z, upd_same] at q
      rw [z, upd_same]
      exact q
    · rw [upd_ne z] at q
      rw [upd_ne z]
      exact e b u q, fun b u q n => by
    have z := ne_of_none q h
    rw [upd_ne z, upd_ne z]
    exact ⟨n, ⟨u, q⟩, fun _ => q⟩⟩
theorem new_at {F H F' H' : Hp} {p : Addr} {o : HO} (k : Step NoO (upd F p o) H F' H') : F' p = some o := k.ff p o upd_same

/-- what stands at the entry -/
structure En where
  O : Addr → Prop
  F : Hp
  H : Hp
  P : Hp → Prop := fun _ => True
  pm : ∀ {F F' : Hp}, Ex F F' → P F → P F' := by exact fun _ h => h
/-- a lasting fact more -/
def En.more (Z : En) (P : Hp → Prop) (pm : ∀ {F F' : Hp}, Ex F F' → P F → P F') : En := ⟨Z.O, Z.F, Z.H, fun F => Z.P F ∧ P F, fun e h => ⟨Z.pm e h.1, pm e h.2⟩⟩
def OwnAt (Γ : List Slot) (σ : L2.St) (i : Nat) (a : Addr) : Prop := (∃ s, Γ[i]? = some s ∧ s.isOwn = true) ∧ σ[i]? = some (some (.ref a))
structure Holds (Z : En) (Γ : List Slot) (F : Hp) (σ : L2.St) (H : Hp) : Prop where
  st : Step Z.O Z.F Z.H F H
  sl : Al (SlotOk F H) Γ σ
  ow : ∀ i a, OwnAt Γ σ i a → Z.O a ∨ Z.H a = none
  di : ∀ i j a, OwnAt Γ σ i a → OwnAt Γ σ j a → i = j
  pp : Z.P F
section
variable {Z : En} {Γ Γ' Γ1 Γ2 : List Slot} {F F' H H' F1 H1 F2 H2 : Hp} {σ : L2.St} {i j : Nat} {a p : Addr} {v : V} {d : Dv}
theorem Holds.fh (h : Holds Z Γ F σ H) : Ex F H := h.st.fh
theorem Holds.val (h : Holds Z Γ F σ H) (e : Γ[i]? = some (.val d)) : ∃ v, σ[i]? = some (some v) ∧ d.rep F v := by
  obtain ⟨y, h1, h2⟩ := h.sl.get e
  obtain ⟨v, rfl, r⟩ := h2
  exact ⟨v, h1, r⟩
theorem Holds.owned {s : Slot} (h : Holds Z Γ F σ H) (e : Γ[i]? = some s) (o : s.isOwn = true) : ∃ a, σ[i]? = some (some (.ref a)) ∧ OwnOk F H a s ∧ OwnAt Γ σ i a := by
  obtain ⟨y, h1, h2⟩ := h.sl.get e
  obtain ⟨a, rfl, r⟩ := h2.ownAt o
  exact ⟨a, h1, r, ⟨s, e, o⟩, h1⟩
theorem Holds.at_ (h : Holds Z Γ F σ H) (o : OwnAt Γ σ i a) : ∃ s, Γ[i]? = some s ∧ OwnOk F H a s := by
  obtain ⟨⟨s, e, w⟩, e2⟩ := o
  obtain ⟨y, h1, h2⟩ := h.sl.get e
  rw [e2] at h1
  cases h1
  obtain ⟨b, e3, r⟩ := h2.ownAt w
  cases e3
  exact ⟨s, e, r⟩
theorem Holds.step (h : Holds Z Γ F σ H) (k : Step NoO F H F' H') : Holds Z Γ F' σ H' := by
  refine ⟨h.st.trans k, h.sl.map fun s o r => ?_, h.ow, h.di, Z.pm k.ff h.pp⟩
  cases q : s.isOwn with
  | true =>
    obtain ⟨a, rfl, w⟩ := r.ownAt q
    obtain ⟨u, hu⟩ := w.so
    obtain ⟨n, _, kk⟩ := k.keep a u hu w.no
    exact SlotOk.of_own (w.mono k.ff n (by rw [kk (fun z => z), hu]))
  | false =>
    cases s with
    | any => trivial
    | val d => obtain ⟨v, e, r⟩ := r; exact ⟨v, e, d.mono k.ff r⟩
    | own _ _ => cases q
    | lst _ _ => cases q
    | obj _ _ _ => cases q
/-- the entry's heap does not know a new address -/
theorem Holds.fresh (h : Holds Z Γ F σ H) (n : H p = none) : Z.H p = none := by
  cases q : Z.H p with
  | none => rfl
  | some o =>
    cases q2 : Z.F p with
    | none =>
      obtain ⟨_, ⟨o', e⟩, _⟩ := h.st.keep p o q q2
      rw [n] at e
      cases e
    | some u =>
      have e := h.st.fh p u (h.st.ff p u q2)
      rw [n] at e
      cases e
theorem ownAt_set {s : Slot} {o : Option V} (w : OwnAt (Γ.set i s) (σ.set i o) j a) (hl : Γ.length = σ.length) : (j = i ∧ s.isOwn = true ∧ o = some (.ref a)) ∨ (j ≠ i ∧ OwnAt Γ σ j a) := by
  obtain ⟨⟨u, e, w⟩, e2⟩ := w
  by_cases z : i = j
  · subst z
    by_cases lt : i < Γ.length
    · rw [List.getElem?_set_self lt] at e
      cases e
      rw [List.getElem?_set_self (by omega)] at e2
      cases e2
      exact .inl ⟨rfl, w, rfl⟩
    · rw [List.getElem?_eq_none (by rw [List.length_set]; omega)] at e
      cases e
  · rw [List.getElem?_set_ne z] at e e2
    exact .inr ⟨fun q => z q.symm, ⟨u, e, w⟩, e2⟩
theorem Holds.len (h : Holds Z Γ F σ H) : Γ.length = σ.length := h.sl.len
theorem Holds.set (h : Holds Z Γ F σ H) (i : Nat) (r : d.rep F v) : Holds Z (Γ.set i (.val d)) F (σ.set i (some v)) H := by
  refine ⟨h.st, h.sl.set ⟨v, rfl, r⟩ i, fun j a w => ?_, fun j k a w w' => ?_, h.pp⟩
  · rcases ownAt_set w h.len with ⟨_, q, _⟩ | ⟨_, w⟩
    · cases q
    · exact h.ow j a w
  · rcases ownAt_set w h.len with ⟨_, q, _⟩ | ⟨_, w⟩
    · cases q
    · rcases ownAt_set w' h.len with ⟨_, q, _⟩ | ⟨_, w'⟩
      · cases q
      · exact h.di j k a w w'
/-- a slot gets a new owned object -/
theorem Holds.setNew {s : Slot} {o : HO} (h : Holds Z Γ F σ H) (i : Nat) (n : H p = none) (r : OwnOk F (upd H p o) p s) : Holds Z (Γ.set i s) F (σ.set i (some (.ref p))) (upd H p o) := by
  have h1 := h.step (Step.open (o := o) h.fh n)
  have np : ∀ j a, OwnAt Γ σ j a → a ≠ p := fun j a w z => by
    obtain ⟨s, _, r⟩ := h.at_ w
    obtain ⟨u, e⟩ := r.so
    rw [z, n] at e
    cases e
  refine ⟨h1.st, h1.sl.set (SlotOk.of_own r) i, fun j a w => ?_, fun j k a w w' => ?_, h.pp⟩
  · rcases ownAt_set w h.len with ⟨_, _, q⟩ | ⟨_, w⟩
    · cases q
      exact .inr (h.fresh n)
    · exact h.ow j a w
  · rcases ownAt_set w h.len with ⟨e1, _, q⟩ | ⟨_, w⟩
    · rcases ownAt_set w' h.len with ⟨e2, _, q'⟩ | ⟨_, w'⟩
      · rw [e1, e2]
      · cases q
        exact absurd rfl (np _ _ w')
    · rcases ownAt_set w' h.len with ⟨e2, _, q'⟩ | ⟨_, w'⟩
      · cases q'
        exact absurd rfl (np _ _ w)
      · exact h.di j k a w w'
/-- an owned object is changed -/
theorem Holds.mut {s : Slot} {o : HO} (h : Holds Z Γ F σ H) (w : OwnAt Γ σ i a) (r : OwnOk F (upd H a o) a s) : Holds Z (Γ.set i s) F σ (upd H a o) := by
  obtain ⟨s0, e0, r0⟩ := h.at_ w
  have hσ : σ[i]? = some (some (.ref a)) := w.2
  have hset : σ.set i (some (.ref a)) = σ := by
    apply List.ext_getElem?
    intro j
    by_cases z : i = j
    · subst z
      have lt := (List.getElem?_eq_some_iff.mp hσ).1
      rw [List.getElem?_set_self lt, hσ]
    · rw [List.getElem?_set_ne z]
  have st : Step Z.O Z.F Z.H F (upd H a o) := by
    refine ⟨h.st.ff, fun b u q => ?_, fun b u q n => ?_⟩
    · have z : b ≠ a := fun z => by
        rw [z, r0.no] at q
        cases q
      rw [upd_ne z]
      exact h.st.fh b u q
    · obtain ⟨n1, ⟨o', e⟩, k⟩ := h.st.keep b u q n
      by_cases z : b = a
      · subst z
        refine ⟨n1, ⟨o, upd_same⟩, fun no => ?_⟩
        rcases h.ow i b w with y | y
        · exact absurd y no
        · rw [q] at y
          cases y
      · rw [upd_ne z]
        exact ⟨n1, ⟨o', e⟩, k⟩
  have key : Al (SlotOk F (upd H a o)) (Γ.set i s) (σ.set i (some (.ref a))) := by
    refine Al.of (by rw [List.length_set, List.length_set, h.len]) fun j x y hx hy => ?_
    by_cases z : i = j
    · subst z
      have l1 := (List.getElem?_eq_some_iff.mp e0).1
      rw [List.getElem?_set_self l1] at hx
      rw [List.getElem?_set_self (by rw [← h.len]; exact l1)] at hy
      cases hx
      cases hy
      exact SlotOk.of_own r
    · rw [List.getElem?_set_ne z] at hx hy
      obtain ⟨y', e', rr⟩ := h.sl.get hx
      rw [hy] at e'
      cases e'
      cases q : x.isOwn with
      | true =>
        obtain ⟨b, rfl, w2⟩ := rr.ownAt q
        have nb : b ≠ a := fun e => by
          subst e
          exact z (h.di i j b w ⟨⟨x, hx, q⟩, hy⟩)
        exact SlotOk.of_own (w2.mono (Ex.refl F) w2.no (upd_ne nb))
      | false =>
        cases x with
        | any => trivial
        | val d => exact rr
        | own _ _ => cases q
        | lst _ _ => cases q
        | obj _ _ _ => cases q
  refine ⟨st, by rw [hset] at key; exact key, fun j b w' => ?_, fun j k b w' w'' => ?_, h.pp⟩
  · have w2 : OwnAt (Γ.set i s) (σ.set i (some (.ref a))) j b := by rw [hset]; exact w'
    rcases ownAt_set w2 h.len with ⟨e1, _, q⟩ | ⟨_, w3⟩
    · cases q
      exact h.ow i _ w
    · exact h.ow j b w3
  · have w2 : OwnAt (Γ.set i s) (σ.set i (some (.ref a))) j b := by rw [hset]; exact w'
    have w3 : OwnAt (Γ.set i s) (σ.set i (some (.ref a))) k b := by rw [hset]; exact w''
    rcases ownAt_set w2 h.len with ⟨e1, _, q⟩ | ⟨n1, w4⟩
    · cases q
      rcases ownAt_set w3 h.len with ⟨e2, _, _⟩ | ⟨n2, w5⟩
      · rw [e1, e2]
      · exact absurd (h.di k i _ w5 w) n2
    · rcases ownAt_set w3 h.len with ⟨e2, _, q⟩ | ⟨n2, w5⟩
      · cases q
        exact absurd (h.di j i _ w4 w) n1
      · exact h.di j k b w4 w5
/-- slots are forgotten -/
def Wk (Γ Γ' : List Slot) : Prop := Al (fun s s' : Slot => s' = .any ∨ s' = s) Γ Γ'
theorem Wk.own (w : Wk Γ Γ') (h : OwnAt Γ' σ i a) : OwnAt Γ σ i a := by
  obtain ⟨⟨s, e, o⟩, e2⟩ := h
  obtain ⟨s0, e0, r⟩ := w.getR e
  rcases r with r | r
  · rw [r] at o
    cases o
  · exact ⟨⟨s0, e0, by rw [← r]; exact o⟩, e2⟩
theorem Holds.weak (h : Holds Z Γ F σ H) (w : Wk Γ Γ') : Holds Z Γ' F σ H := by
  refine ⟨h.st, Al.of (by rw [← w.len, h.len]) fun j x y hx hy => ?_, fun j a q => h.ow j a (w.own q), fun j k a q q' => h.di j k a (w.own q) (w.own q'), h.pp⟩
  obtain ⟨s0, e0, r⟩ := w.getR hx
  rcases r with r | r
  · rw [r]
    trivial
  · obtain ⟨y', e', rr⟩ := h.sl.get e0
    rw [hy] at e'
    cases e'
    rw [r]
    exact rr
theorem Wk.refl : ∀ Γ : List Slot, Wk Γ Γ
  | [] => .nil
  | _ :: r => .cons (.inr rfl) (Wk.refl r)
/-- an owned object of ours is frozen -/
theorem Holds.freeze {o : HO} (h : Holds Z Γ F σ H) (w : OwnAt Γ σ i a) (no : ¬ Z.O a) (e : H a = some o) (hd : d.rep (upd F a o) (.ref a)) : Holds Z (Γ.set i (.val d)) (upd F a o) σ H ∧ Ex F (upd F a o) := by
  obtain ⟨s0, e0, r0⟩ := h.at_ w
  have ff : Ex F (upd F a o) := Ex.new r0.no
  have hσ : σ[i]? = some (some (.ref a)) := w.2
  have hset : σ.set i (some (.ref a)) = σ := by
    apply List.ext_getElem?
    intro j
    by_cases z : i = j
    · subst z
      have lt := (List.getElem?_eq_some_iff.mp hσ).1
      rw [List.getElem?_set_self lt, hσ]
    · rw [List.getElem?_set_ne z]
  refine ⟨⟨⟨h.st.ff.trans ff, fun b u q => ?_, fun b u q n => ?_⟩, ?_, fun j b w' => ?_, fun j k b w' w'' => ?_, Z.pm ff h.pp⟩, ff⟩
  · by_cases z : b = a
    · subst z
      rw [upd_same] at q
      cases q
      exact e
    · rw [upd_ne z] at q
      exact h.st.fh b u q
  · obtain ⟨n1, k1, k2⟩ := h.st.keep b u q n
    have z : b ≠ a := fun z => by
      subst z
      rcases h.ow i b w with y | y
      · exact no y
      · rw [q] at y
        cases y
    rw [upd_ne z]
    exact ⟨n1, k1, k2⟩
  · have key : Al (SlotOk (upd F a o) H) (Γ.set i (.val d)) (σ.set i (some (.ref a))) := by
      refine Al.of (by rw [List.length_set, List.length_set, h.len]) fun j x y hx hy => ?_
      by_cases z : i = j
      · subst z
        have l1 := (List.getElem?_eq_some_iff.mp e0).1
        rw [List.getElem?_set_self l1] at hx
        rw [List.getElem?_set_self (by rw [← h.len]; exact l1)] at hy
        cases hx
        cases hy
        exact ⟨_, rfl, hd⟩
      · rw [List.getElem?_set_ne z] at hx hy
        obtain ⟨y', e', rr⟩ := h.sl.get hx
        rw [hy] at e'
        cases e'
        cases q : x.isOwn with
        | true =>
          obtain ⟨b, rfl, w2⟩ := rr.ownAt q
          have nb : b ≠ a := fun e => by
            subst e
            exact z (h.di i j b w ⟨⟨x, hx, q⟩, hy⟩)
          exact SlotOk.of_own (w2.mono ff (by rw [upd_ne nb]; exact w2.no) rfl)
        | false =>
          cases x with
          | any => trivial
          | val d => obtain ⟨v, q1, q2⟩ := rr; exact ⟨v, q1, d.mono ff q2⟩
          | own _ _ => cases q
          | lst _ _ => cases q
          | obj _ _ _ => cases q
    rw [hset] at key
    exact key
  · have w2 : OwnAt (Γ.set i (.val d)) (σ.set i (some (.ref a))) j b := by rw [hset]; exact w'
    rcases ownAt_set w2 h.len with ⟨e1, q, _⟩ | ⟨_, w3⟩
    · cases q
    · exact h.ow j b w3
  · have w2 : OwnAt (Γ.set i (.val d)) (σ.set i (some (.ref a))) j b := by rw [hset]; exact w'
    have w3 : OwnAt (Γ.set i (.val d)) (σ.set i (some (.ref a))) k b := by rw [hset]; exact w''
    rcases ownAt_set w2 h.len with ⟨e1, q, _⟩ | ⟨_, w4⟩
    · cases q
    · rcases ownAt_set w3 h.len with ⟨e2, q, _⟩ | ⟨_, w5⟩
      · cases q
      · exact h.di j k b w4 w5
theorem Holds.more {P : Hp → Prop} {pm : ∀ {F F' : Hp}, Ex F F' → P F → P F'} (h : Holds Z Γ F σ H) (p : P F) : Holds (Z.more P pm) Γ F σ H := ⟨h.st, h.sl, h.ow, h.di, h.pp, p⟩
theorem Holds.less {P : Hp → Prop} {pm : ∀ {F F' : Hp}, Ex F F' → P F → P F'} (h : Holds (Z.more P pm) Γ F σ H) : Holds Z Γ F σ H := ⟨h.st, h.sl, h.ow, h.di, h.pp.1⟩
/-- a new open object becomes a slot's own -/
theorem Holds.setOwn {s : Slot} (h : Holds Z Γ F σ H) (i : Nat) (n : Z.H p = none) (no : ∀ j, ¬ OwnAt Γ σ j p) (r : OwnOk F H p s) : Holds Z (Γ.set i s) F (σ.set i (some (.ref p))) H := by
  refine ⟨h.st, h.sl.set (SlotOk.of_own r) i, fun j a w => ?_, fun j k a w w' => ?_, h.pp⟩
  · rcases ownAt_set w h.len with ⟨_, _, q⟩ | ⟨_, w⟩
    · cases q
      exact .inr n
    · exact h.ow j a w
  · rcases ownAt_set w h.len with ⟨e1, _, q⟩ | ⟨_, w⟩
    · rcases ownAt_set w' h.len with ⟨e2, _, q'⟩ | ⟨_, w'⟩
      · rw [e1, e2]
      · cases q
        exact absurd w' (no _)
    · rcases ownAt_set w' h.len with ⟨e2, _, q'⟩ | ⟨_, w'⟩
      · cases q'
        exact absurd w (no _)
      · exact h.di j k a w w'
/-- a new open object is frozen -/
theorem Holds.freezeP {o : HO} (h : Holds Z Γ F σ H) (n : Z.H p = none) (no : ∀ j, ¬ OwnAt Γ σ j p) (f : F p = none) (e : H p = some o) : Holds Z Γ (upd F p o) σ H := by
  have ff : Ex F (upd F p o) := Ex.new f
  refine ⟨⟨h.st.ff.trans ff, fun b u q => ?_, fun b u q n' => ?_⟩, ?_, h.ow, h.di, Z.pm ff h.pp⟩
  · by_cases z : b = p
    · subst z
      rw [upd_same] at q
      cases q
      exact e
    · rw [upd_ne z] at q
      exact h.st.fh b u q
  · obtain ⟨n1, k1, k2⟩ := h.st.keep b u q n'
    have z : b ≠ p := fun z => by
      subst z
      rw [q] at n
      cases n
    rw [upd_ne z]
    exact ⟨n1, k1, k2⟩
  · refine Al.of h.len fun j x y hx hy => ?_
    obtain ⟨y', e', rr⟩ := h.sl.get hx
    rw [hy] at e'
    cases e'
    cases q : x.isOwn with
    | true =>
      obtain ⟨b, rfl, w2⟩ := rr.ownAt q
      have nb : b ≠ p := fun e => by
        subst e
        exact no j ⟨⟨x, hx, q⟩, hy⟩
      exact SlotOk.of_own (w2.mono ff (by rw [upd_ne nb]; exact w2.no) rfl)
    | false =>
      cases x with
      | any => trivial
      | val d => obtain ⟨v, q1, q2⟩ := rr; exact ⟨v, q1, d.mono ff q2⟩
      | own _ _ => cases q
      | lst _ _ => cases q
      | obj _ _ _ => cases q
/-- an open object that is no slot's changes -/
theorem Holds.poke {o : HO} (h : Holds Z Γ F σ H) (n : Z.H p = none) (no : ∀ j, ¬ OwnAt Γ σ j p) (f : F p = none) : Holds Z Γ F σ (upd H p o) := by
  refine ⟨⟨h.st.ff, fun b u q => ?_, fun b u q n' => ?_⟩, ?_, h.ow, h.di, h.pp⟩
  · have z : b ≠ p := fun z => by
      rw [z, f] at q
      cases q
    rw [upd_ne z]
    exact h.st.fh b u q
  · have z : b ≠ p := fun z => by
      rw [z, n] at q
      cases q
    rw [upd_ne z]
    exact h.st.keep b u q n'
  · refine Al.of h.len fun j x y hx hy => ?_
    obtain ⟨y', e', rr⟩ := h.sl.get hx
    rw [hy] at e'
    cases e'
    cases q : x.isOwn with
    | true =>
      obtain ⟨b, rfl, w2⟩ := rr.ownAt q
      have nb : b ≠ p := fun e => by
        subst e
        exact no j ⟨⟨x, hx, q⟩, hy⟩
      exact SlotOk.of_own (w2.mono (Ex.refl F) w2.no (upd_ne nb))
    | false =>
      cases x with
      | any => trivial
      | val d => exact rr
      | own _ _ => cases q
      | lst _ _ => cases q
      | obj _ _ _ => cases q
/-- slots and their values at other places -/
theorem Holds.other {σ' : L2.St} (h : Holds Z Γ F σ H) (hl : Γ'.length = σ'.length) (k : ∀ (i : Nat) (s : Slot), Γ'[i]? = some s → s = Slot.any ∨ (Γ[i]? = some s ∧ σ'[i]? = σ[i]?)) : Holds Z Γ' F σ' H := by
  have ow : ∀ i a, OwnAt Γ' σ' i a → OwnAt Γ σ i a := fun i a ⟨⟨s, e, o⟩, e2⟩ => by
    rcases k i s e with z | ⟨z1, z2⟩
    · rw [z] at o
      cases o
    · exact ⟨⟨s, z1, o⟩, by rw [← z2]; exact e2⟩
  refine ⟨h.st, Al.of hl fun j x y hx hy => ?_, fun i a w => h.ow i a (ow i a w), fun i j a w w' => h.di i j a (ow i a w) (ow j a w'), h.pp⟩
  rcases k j x hx with z | ⟨z1, z2⟩
  · rw [z]
    trivial
  · obtain ⟨y', e', rr⟩ := h.sl.get z1
    rw [← z2, hy] at e'
    cases e'
    exact rr
end
end DL

set_option maxRecDepth 100000
/-! DE: expressions over typed data. -/
namespace DL
open PySem L2 Evl

/-- what an expression leaves: frozen things, and all that no slot owns -/
structure Pres (Γ Γ' : List Slot) (σ : L2.St) (F H F' H' : Hp) : Prop where
  ff : Ex F F'
  keep : ∀ b o, H b = some o → F b = none → (∀ i, ¬ OwnAt Γ σ i b) → F' b = none ∧ H' b = some o
  ow : ∀ i b, OwnAt Γ' σ i b → OwnAt Γ σ i b
  th : ∀ b o, H b = some o → ∃ o', H' b = some o'
section
variable {Z : En} {Γ Γ' Γ1 Γ2 : List Slot} {F F' H H' F1 H1 F2 H2 : Hp} {σ : L2.St} {i j : Nat} {a p : Addr} {v : V} {d : Dv}
theorem Pres.refl : Pres Γ Γ σ F H F H := ⟨Ex.refl F, fun _ _ h n _ => ⟨n, h⟩, fun _ _ w => w, fun _ o h => ⟨o, h⟩⟩
theorem Pres.trans (a : Pres Γ Γ1 σ F H F1 H1) (b : Pres Γ1 Γ2 σ F1 H1 F2 H2) : Pres Γ Γ2 σ F H F2 H2 :=
  ⟨a.ff.trans b.ff, fun c o h n no => by
    obtain ⟨n1, h1⟩ := a.keep c o h n no
    exact b.keep c o h1 n1 fun i w => no i (a.ow i c w), fun i c w => a.ow i c (b.ow i c w), fun c o h => by
    obtain ⟨o1, h1⟩ := a.th c o h
    exact b.th c o1 h1⟩
theorem Step.th (k : Step NoO F H F' H') (b : Addr) (o : HO) (h : H b = some o) : ∃ o', H' b = some o' := by
  cases q : F b with
  | none => exact (k.keep b o h q).2.1
  | some u => exact ⟨u, k.fh b u (k.ff b u q)⟩
theorem Pres.step (k : Step NoO F H F' H') : Pres Γ Γ σ F H F' H' := ⟨k.ff, fun b o h n _ => by
  obtain ⟨n1, _, k1⟩ := k.keep b o h n
  exact ⟨n1, k1 fun z => z⟩, fun _ _ w => w, k.th⟩
/-- what is new behind was new ahead -/
theorem Pres.new (k : Pres Γ Γ' σ F H F' H') (h : H' p = none) : H p = none := by
  cases q : H p with
  | none => rfl
  | some o =>
    obtain ⟨o', e⟩ := k.th p o q
    rw [h] at e
    cases e
theorem Holds.notOwn (h : Holds Z Γ F σ H) (n : H p = none) (j : Nat) : ¬ OwnAt Γ σ j p := fun w => by
  obtain ⟨s, _, r⟩ := h.at_ w
  obtain ⟨o, e⟩ := r.so
  rw [n] at e
  cases e
end

/-- an expression gives x | a test gives b | arguments give ds | a list to be read | a new list, still open | a new tuple -/
def Den {α : Type} (te : TE) (Γ : List Slot) (t : Ty α) (x : α) (Γ' : List Slot) : Prop := ∀ (Z : En) F σ H, Holds Z Γ F σ H → ∀ Q : VK, (∀ v F' H', Holds Z Γ' F' σ H' → Pres Γ Γ' σ F H F' H' → t.rep F' v x → Q v H') → te σ H Q
def DenT (tt : TT) (Γ : List Slot) (b : Bool) (Γ' : List Slot) : Prop := ∀ (Z : En) F σ H, Holds Z Γ F σ H → ∀ Q : Bool → Hp → Prop, (∀ F' H', Holds Z Γ' F' σ H' → Pres Γ Γ' σ F H F' H' → Q b H') → tt σ H Q
def DenA (ta : TA) (Γ : List Slot) (ds : List Dv) (Γ' : List Slot) : Prop := ∀ (Z : En) F σ H, Holds Z Γ F σ H → ∀ Q : List V → Hp → Prop, (∀ vs F' H', Holds Z Γ' F' σ H' → Pres Γ Γ' σ F H F' H' → Reps F' ds vs → Q vs H') → ta σ H Q
def DenL {α : Type} (te : TE) (Γ : List Slot) (t : Ty α) (xs : List α) (Γ' : List Slot) : Prop := ∀ (Z : En) F σ H, Holds Z Γ F σ H → ∀ Q : VK, (∀ a vs F' H', Holds Z Γ' F' σ H' → Pres Γ Γ' σ F H F' H' → H' a = some (.lst vs) → Al (fun x v => t.rep F' v x) xs vs → Q (.ref a) H') → te σ H Q
def DenN (te : TE) (Γ : List Slot) (ds : List Dv) (Γ' : List Slot) : Prop := ∀ (Z : En) F σ H, Holds Z Γ F σ H → ∀ Q : VK, (∀ p vs F' H', Holds Z Γ' F' σ H' → Pres Γ Γ' σ F H F' H' → H p = none → F' p = none → H' p = some (.lst vs) → Reps F' ds vs → Q (.ref p) H') → te σ H Q
def DenO (to : TO) (Γ : List Slot) (o : Option Int) (Γ' : List Slot) : Prop := ∀ (Z : En) F σ H, Holds Z Γ F σ H → ∀ Q : Option Int → Hp → Prop, (∀ F' H', Holds Z Γ' F' σ H' → Pres Γ Γ' σ F H F' H' → Q o H') → to σ H Q

/-! ### types of data -/
def tInt : Ty Int := ⟨fun _ v i => v = .int i, fun _ h => h⟩
def tBool : Ty Bool := ⟨fun _ v i => v = .bl i, fun _ h => h⟩
def tStr : Ty Str := ⟨fun _ v i => v = .str i, fun _ h => h⟩
def tNon : Ty Unit := ⟨fun _ v _ => v = .non, fun _ h => h⟩
/-- a value told as it is -/
def tRaw : Ty V := ⟨fun _ v x => v = x, fun _ h => h⟩
def tOpt {α : Type} (t : Ty α) : Ty (Option α) := ⟨fun F v o => match o with
  | none => v = .non
  | some x => t.rep F v x, fun e h => by
    rename_i o
    cases o with
    | none => exact h
    | some x => exact t.mono e h⟩
/-- a frozen list, a tuple, all items of one type -/
def tList {α : Type} (t : Ty α) : Ty (List α) := ⟨fun F v xs => ∃ a vs, v = .ref a ∧ F a = some (.lst vs) ∧ Al (fun x v => t.rep F v x) xs vs,
  fun e ⟨a, vs, h1, h2, h3⟩ => ⟨a, vs, h1, e _ _ h2, h3.map fun _ _ z => t.mono e z⟩⟩
def tTupl {α : Type} (t : Ty α) : Ty (List α) := ⟨fun F v xs => ∃ a vs, v = .ref a ∧ F a = some (.tup vs) ∧ Al (fun x v => t.rep F v x) xs vs,
  fun e ⟨a, vs, h1, h2, h3⟩ => ⟨a, vs, h1, e _ _ h2, h3.map fun _ _ z => t.mono e z⟩⟩
/-- items of unlike types -/
structure Row where
  ds : List Dv
def RowT (ds : List Dv) : Ty Unit := ⟨fun F v _ => ∃ a vs, v = .ref a ∧ F a = some (.tup vs) ∧ Reps F ds vs, fun e ⟨a, vs, h1, h2, h3⟩ => ⟨a, vs, h1, e _ _ h2, h3.mono e⟩⟩
def tPair {α β : Type} (t : Ty α) (u : Ty β) : Ty (α × β) := ⟨fun F v x => ∃ a v1 v2, v = .ref a ∧ F a = some (.tup [v1, v2]) ∧ t.rep F v1 x.1 ∧ u.rep F v2 x.2,
  fun e ⟨a, v1, v2, h1, h2, h3, h4⟩ => ⟨a, v1, v2, h1, e _ _ h2, t.mono e h3, u.mono e h4⟩⟩
def tTri {α β γ : Type} (t : Ty α) (u : Ty β) (w : Ty γ) : Ty (α × β × γ) := ⟨fun F v x => ∃ a v1 v2 v3, v = .ref a ∧ F a = some (.tup [v1, v2, v3]) ∧ t.rep F v1 x.1 ∧ u.rep F v2 x.2.1 ∧ w.rep F v3 x.2.2,
  fun e ⟨a, v1, v2, v3, h1, h2, h3, h4, h5⟩ => ⟨a, v1, v2, v3, h1, e _ _ h2, t.mono e h3, u.mono e h4, w.mono e h5⟩⟩

section
variable {α β γ : Type} {t : Ty α} {u : Ty β} {w : Ty γ} {x : α} {y : β} {z : γ} {Γ Γ' Γ1 Γ2 Γ3 : List Slot} {ta tb tc te : TE} {tt uu : TT} {r : R2} {ds : List Dv}
/-! ### between the judgements -/
theorem den_l {xs : List α} (h : Den te Γ (tList t) xs Γ') : DenL te Γ t xs Γ' := fun Z F σ H hh Q q => h Z F σ H hh Q fun v F' H' h' p r => by
  obtain ⟨a, vs, rfl, e, rr⟩ := r
  exact q a vs F' H' h' p (h'.fh _ _ e) rr
theorem dl_var {xs : List α} {i : Nat} (e : Γ[i]? = some (.lst t xs)) : DenL (tVar i) Γ t xs Γ := fun Z F σ H hh Q q => by
  obtain ⟨a, h1, ⟨_, vs, h2, h3⟩, _⟩ := hh.owned e rfl
  exact ⟨_, h1, q a vs F H hh Pres.refl h2 h3⟩
/-! ### names, constants -/
theorem den_var {i : Nat} (e : Γ[i]? = some (.val ⟨t, x⟩)) : Den (tVar i) Γ t x Γ := fun Z F σ H hh Q q => by
  obtain ⟨v, h1, h2⟩ := hh.val e
  exact ⟨v, h1, q v F H hh Pres.refl h2⟩
theorem den_int {i : Int} : Den (tC (.int i)) Γ tInt i Γ := fun Z F σ H hh Q q => q _ F H hh Pres.refl rfl
theorem den_bl {i : Bool} : Den (tC (.bl i)) Γ tBool i Γ := fun Z F σ H hh Q q => q _ F H hh Pres.refl rfl
theorem den_str {i : Str} : Den (tC (.str i)) Γ tStr i Γ := fun Z F σ H hh Q q => q _ F H hh Pres.refl rfl
theorem den_non : Den (tC .non) Γ tNon () Γ := fun Z F σ H hh Q q => q _ F H hh Pres.refl rfl
theorem den_raw {v : V} : Den (tC v) Γ tRaw v Γ := fun Z F σ H hh Q q => q _ F H hh Pres.refl rfl
/-- another type for the same value -/
theorem den_as {y : β} (h : Den te Γ t x Γ') (e : ∀ F v, t.rep F v x → u.rep F v y) : Den te Γ u y Γ' := fun Z F σ H hh Q q => h Z F σ H hh Q fun v F' H' h' p r => q v F' H' h' p (e _ _ r)
theorem den_eq {x' : α} (h : Den te Γ t x Γ') (e : x = x') : Den te Γ t x' Γ' := e ▸ h
/-! ### operators on values -/
def Op2 (r : R2) (t : Ty α) (x : α) (u : Ty β) (y : β) (w : Ty γ) (z : γ) : Prop := ∀ F H v1 v2, Ex F H → t.rep F v1 x → u.rep F v2 y → ∀ Q : VK, (∀ v F' H', Step NoO F H F' H' → w.rep F' v z → Q v H') → r v1 v2 H Q
def Op1 (r : V → Hp → VK → Prop) (t : Ty α) (x : α) (w : Ty γ) (z : γ) : Prop := ∀ F H v1, Ex F H → t.rep F v1 x → ∀ Q : VK, (∀ v F' H', Step NoO F H F' H' → w.rep F' v z → Q v H') → r v1 H Q
def OpN (r : List V → Hp → VK → Prop) (ds : List Dv) (w : Ty γ) (z : γ) : Prop := ∀ F H vs, Ex F H → Reps F ds vs → ∀ Q : VK, (∀ v F' H', Step NoO F H F' H' → w.rep F' v z → Q v H') → r vs H Q
theorem den_op (ha : Den ta Γ t x Γ1) (hb : Den tb Γ1 u y Γ2) (hr : Op2 r t x u y w z) : Den (tOp r ta tb) Γ w z Γ2 := fun Z F σ H hh Q q =>
  ha Z F σ H hh _ fun v1 F1 H1 h1 p1 r1 => hb Z F1 σ H1 h1 _ fun v2 F2 H2 h2 p2 r2 => hr F2 H2 v1 v2 h2.fh (t.mono p2.ff r1) r2 Q fun v F3 H3 k r3 => q v F3 H3 (h2.step k) ((p1.trans p2).trans (Pres.step k)) r3
theorem den_un {r : V → Hp → VK → Prop} (ha : Den ta Γ t x Γ1) (hr : Op1 r t x w z) : Den (tUn r ta) Γ w z Γ1 := fun Z F σ H hh Q q =>
  ha Z F σ H hh _ fun v1 F1 H1 h1 p1 r1 => hr F1 H1 v1 h1.fh r1 Q fun v F3 H3 k r3 => q v F3 H3 (h1.step k) (p1.trans (Pres.step k)) r3
theorem op_I0 {g : Int → Int → Int} {i j : Int} : Op2 (rI0 fun i j => .int (g i j)) tInt i tInt j tInt (g i j) := fun F H v1 v2 e r1 r2 Q q => ⟨i, j, r1, r2, q _ F H (Step.refl e) rfl⟩
theorem op_I0b {g : Int → Int → Bool} {i j : Int} : Op2 (rI0 fun i j => .bl (g i j)) tInt i tInt j tBool (g i j) := fun F H v1 v2 e r1 r2 Q q => ⟨i, j, r1, r2, q _ F H (Step.refl e) rfl⟩
theorem op_I {C : Int → Int → Prop} {g : Int → Int → Int} {i j : Int} (c : C i j) : Op2 (rI C fun i j => .int (g i j)) tInt i tInt j tInt (g i j) := fun F H v1 v2 e r1 r2 Q q => ⟨i, j, r1, r2, c, q _ F H (Step.refl e) rfl⟩
theorem op_eqI {i j : Int} : Op2 rEq tInt i tInt j tBool (decide (i = j)) := fun F H v1 v2 e r1 r2 Q q => by
  cases r1
  cases r2
  refine ⟨rfl, ?_⟩
  have ee : decide (V.int i = V.int j) = decide (i = j) := by simp
  rw [ee]
  exact q _ F H (Step.refl e) rfl
theorem op_neI {i j : Int} : Op2 rNe tInt i tInt j tBool (!decide (i = j)) := fun F H v1 v2 e r1 r2 Q q => by
  cases r1
  cases r2
  refine ⟨rfl, ?_⟩
  have ee : decide (V.int i = V.int j) = decide (i = j) := by simp
  rw [ee]
  exact q _ F H (Step.refl e) rfl
theorem op_eqB {i j : Bool} : Op2 rEq tBool i tBool j tBool (decide (i = j)) := fun F H v1 v2 e r1 r2 Q q => by
  cases r1
  cases r2
  refine ⟨rfl, ?_⟩
  have ee : decide (V.bl i = V.bl j) = decide (i = j) := by simp
  rw [ee]
  exact q _ F H (Step.refl e) rfl
theorem op_neB {i j : Bool} : Op2 rNe tBool i tBool j tBool (!decide (i = j)) := fun F H v1 v2 e r1 r2 Q q => by
  cases r1
  cases r2
  refine ⟨rfl, ?_⟩
  have ee : decide (V.bl i = V.bl j) = decide (i = j) := by simp
  rw [ee]
  exact q _ F H (Step.refl e) rfl
theorem op_eqS {i j : Str} : Op2 rEq tStr i tStr j tBool (decide (i = j)) := fun F H v1 v2 e r1 r2 Q q => by
  cases r1
  cases r2
  refine ⟨rfl, ?_⟩
  have ee : decide (V.str i = V.str j) = decide (i = j) := by simp
  rw [ee]
  exact q _ F H (Step.refl e) rfl
theorem op_neS {i j : Str} : Op2 rNe tStr i tStr j tBool (!decide (i = j)) := fun F H v1 v2 e r1 r2 Q q => by
  cases r1
  cases r2
  refine ⟨rfl, ?_⟩
  have ee : decide (V.str i = V.str j) = decide (i = j) := by simp
  rw [ee]
  exact q _ F H (Step.refl e) rfl
theorem un_neg {i : Int} : Op1 (rU fun i => .int (-i)) tInt i tInt (-i) := fun F H v1 e r1 Q q => ⟨i, r1, q _ F H (Step.refl e) rfl⟩
theorem den_add {i j : Int} (ha : Den ta Γ tInt i Γ1) (hb : Den tb Γ1 tInt j Γ2) : Den (tAdd ta tb) Γ tInt (i + j) Γ2 := fun Z F σ H hh Q q =>
  ha Z F σ H hh _ fun v1 F1 H1 h1 p1 r1 => hb Z F1 σ H1 h1 _ fun v2 F2 H2 h2 p2 r2 => ⟨i, j, r1, r2, q _ F2 H2 h2 (p1.trans p2) rfl⟩
/-! ### tests -/
theorem dt_test {b : Bool} (h : Den te Γ tBool b Γ') : DenT (tTest te) Γ b Γ' := fun Z F σ H hh Q q => h Z F σ H hh _ fun v F' H' h' p r => ⟨b, r, q F' H' h' p⟩
theorem dt_B {b : Bool} (h : Den te Γ tBool b Γ') : DenT (tB te) Γ b Γ' := fun Z F σ H hh Q q => h Z F σ H hh _ fun v F' H' h' p r => ⟨b, r, q F' H' h' p⟩
theorem dt_not {b : Bool} (h : DenT tt Γ b Γ') : DenT (tNot tt) Γ (!b) Γ' := fun Z F σ H hh Q q => h Z F σ H hh _ fun F' H' h' p => q F' H' h' p
theorem dt_and {a b : Bool} (h1 : DenT tt Γ a Γ) (h2 : a = true → DenT uu Γ b Γ) : DenT (tAnd tt uu) Γ (a && b) Γ := fun Z F σ H hh Q q => h1 Z F σ H hh _ fun F' H' h' p => by
  cases a with
  | true =>
    show uu σ H' Q
    exact h2 rfl Z F' σ H' h' Q fun F2 H2 h3 p2 => q F2 H2 h3 (p.trans p2)
  | false =>
    show Q false H'
    exact q F' H' h' p
theorem dt_or {a b : Bool} (h1 : DenT tt Γ a Γ) (h2 : a = false → DenT uu Γ b Γ) : DenT (tOr tt uu) Γ (a || b) Γ := fun Z F σ H hh Q q => h1 Z F σ H hh _ fun F' H' h' p => by
  cases a with
  | true =>
    show Q true H'
    exact q F' H' h' p
  | false =>
    show uu σ H' Q
    exact h2 rfl Z F' σ H' h' Q fun F2 H2 h3 p2 => q F2 H2 h3 (p.trans p2)
/-- the second part changes owned things -/
theorem dt_andM {a b : Bool} (h1 : DenT tt Γ a Γ1) (h2 : a = true → DenT uu Γ1 b Γ2) : DenT (tAnd tt uu) Γ (a && b) (if a = true then Γ2 else Γ1) := fun Z F σ H hh Q q => h1 Z F σ H hh _ fun F' H' h' p => by
  cases a with
  | true =>
    show uu σ H' Q
    exact h2 rfl Z F' σ H' h' Q fun F2 H2 h3 p2 => q F2 H2 h3 (p.trans p2)
  | false =>
    show Q false H'
    exact q F' H' h' p
theorem dt_orM {a b : Bool} (h1 : DenT tt Γ a Γ1) (h2 : a = false → DenT uu Γ1 b Γ2) : DenT (tOr tt uu) Γ (a || b) (if a = true then Γ1 else Γ2) := fun Z F σ H hh Q q => h1 Z F σ H hh _ fun F' H' h' p => by
  cases a with
  | true =>
    show Q true H'
    exact q F' H' h' p
  | false =>
    show uu σ H' Q
    exact h2 rfl Z F' σ H' h' Q fun F2 H2 h3 p2 => q F2 H2 h3 (p.trans p2)
theorem dt_is {a b : Bool} (h : DenT tt Γ a Γ') (e : a = b) : DenT tt Γ b Γ' := e ▸ h
theorem den_andV {a b : Bool} (h1 : Den ta Γ tBool a Γ) (h2 : a = true → Den tb Γ tBool b Γ) : Den (tAndV ta tb) Γ tBool (a && b) Γ := fun Z F σ H hh Q q => h1 Z F σ H hh _ fun v F' H' h' p r => ⟨a, r, by
  cases a with
  | true =>
    show tb σ H' Q
    exact h2 rfl Z F' σ H' h' Q fun v F2 H2 h3 p2 r2 => q v F2 H2 h3 (p.trans p2) r2
  | false =>
    show Q (.bl false) H'
    exact q _ F' H' h' p rfl⟩
theorem den_orV {a b : Bool} (h1 : Den ta Γ tBool a Γ) (h2 : a = false → Den tb Γ tBool b Γ) : Den (tOrV ta tb) Γ tBool (a || b) Γ := fun Z F σ H hh Q q => h1 Z F σ H hh _ fun v F' H' h' p r => ⟨a, r, by
  cases a with
  | true =>
    show Q (.bl true) H'
    exact q _ F' H' h' p rfl
  | false =>
    show tb σ H' Q
    exact h2 rfl Z F' σ H' h' Q fun v F2 H2 h3 p2 r2 => q v F2 H2 h3 (p.trans p2) r2⟩
theorem den_notV {a : Bool} (h1 : Den ta Γ tBool a Γ') : Den (tNotV ta) Γ tBool (!a) Γ' := fun Z F σ H hh Q q => h1 Z F σ H hh _ fun v F' H' h' p r => ⟨a, r, q _ F' H' h' p rfl⟩
/-- 0 < x as a truth -/
theorem dt_trI {K : PySem.W.Frag} {i : Int} (h : Den te Γ tInt i Γ') : DenT (fun σ H Q => te σ H fun x H' => ∃ k, TruV K x H' k ∧ Q k H') Γ (i != 0) Γ' := fun Z F σ H hh Q q => h Z F σ H hh _ fun v F' H' h' p r => by
  cases r
  exact ⟨_, rfl, q F' H' h' p⟩
/-! ### arguments -/
theorem da_nil : DenA tNil Γ [] Γ := fun Z F σ H hh Q q => q [] F H hh Pres.refl .nil
theorem da_cons {tr : TA} (h : Den te Γ t x Γ1) (hr : DenA tr Γ1 ds Γ2) : DenA (tCons te tr) Γ (⟨t, x⟩ :: ds) Γ2 := fun Z F σ H hh Q q =>
  h Z F σ H hh _ fun v F1 H1 h1 p1 r1 => hr Z F1 σ H1 h1 _ fun vs F2 H2 h2 p2 r2 => q _ F2 H2 h2 (p1.trans p2) (.cons (t.mono p2.ff r1) r2)
theorem den_cb {r : List V → Hp → VK → Prop} {tr : TA} (h : DenA tr Γ ds Γ1) (hr : OpN r ds w z) : Den (tCB r tr) Γ w z Γ1 := fun Z F σ H hh Q q =>
  h Z F σ H hh _ fun vs F1 H1 h1 p1 r1 => hr F1 H1 vs h1.fh r1 Q fun v F3 H3 k r3 => q v F3 H3 (h1.step k) (p1.trans (Pres.step k)) r3
/-! ### displays -/
/-- a list that was just laid -/
theorem new_q {Z : En} {F H F' H' : Hp} {σ : L2.St} {Q : VK} (q : ∀ p vs F' H', Holds Z Γ' F' σ H' → Pres Γ Γ' σ F H F' H' → H p = none → F' p = none → H' p = some (.lst vs) → Reps F' ds vs → Q (.ref p) H')
    (h' : Holds Z Γ' F' σ H') (k : Pres Γ Γ' σ F H F' H') {p : Addr} {vs : List V} (np : H' p = none) (r : Reps F' ds vs) : Q (.ref p) (upd H' p (.lst vs)) :=
  have st := Step.open (o := .lst vs) h'.fh np
  q p vs F' _ (h'.step st) (k.trans (Pres.step st)) (k.new np) (ex_none h'.fh np) upd_same r
theorem dn_lst {tr : TA} (h : DenA tr Γ ds Γ1) (hl : ds.length ≤ 100000) : DenN (tLst tr) Γ ds Γ1 := fun Z F σ H hh Q q =>
  h Z F σ H hh _ fun vs F1 H1 h1 p1 r1 => ⟨sz_of (by rw [← r1.len]; exact hl), fun p np => new_q q h1 p1 np r1⟩
theorem den_row {tr : TA} (h : DenA tr Γ ds Γ1) (hl : ds.length ≤ 100000) : Den (tTup tr) Γ (RowT ds) () Γ1 := fun Z F σ H hh Q q =>
  h Z F σ H hh _ fun vs F1 H1 h1 p1 r1 => ⟨sz_of (by rw [← r1.len]; exact hl), fun p np => by
    have k : Step NoO F1 H1 (upd F1 p (.tup vs)) (upd H1 p (.tup vs)) := Step.new h1.fh np
    exact q _ _ _ (h1.step k) (p1.trans (Pres.step k)) ⟨p, vs, rfl, upd_same, r1.mono k.ff⟩⟩
theorem al_map {F : Hp} {xs : List α} : ∀ {vs : List V}, Reps F (xs.map fun x => (⟨t, x⟩ : Dv)) vs → Al (fun x v => t.rep F v x) xs vs := by
  induction xs with
  | nil => intro vs h; cases h; exact .nil
  | cons x xs ih => intro vs h; cases h with
    | cons p q => exact .cons p (ih q)
theorem al_unmap {F : Hp} : ∀ {xs : List α} {vs : List V}, Al (fun x v => t.rep F v x) xs vs → Reps F (xs.map fun x => (⟨t, x⟩ : Dv)) vs
  | _, _, .nil => .nil
  | _, _, .cons r h => .cons r (al_unmap h)
theorem al_int {F : Hp} : ∀ {xs : List Int} {vs : List V}, Al (fun x v => tInt.rep F v x) xs vs → vs = xs.map V.int
  | _, _, .nil => rfl
  | _, _, .cons r h => by
    rw [List.map_cons, ← al_int h]
    cases r
    rfl
theorem row_tup {xs : List α} : ∀ F v, (RowT (xs.map fun x => (⟨t, x⟩ : Dv))).rep F v () → (tTupl t).rep F v xs := fun F v ⟨a, vs, h1, h2, h3⟩ => ⟨a, vs, h1, h2, al_map h3⟩
theorem row_pair : ∀ F v, (RowT [⟨t, x⟩, ⟨u, y⟩]).rep F v () → (tPair t u).rep F v (x, y) := fun F v ⟨a, vs, h1, h2, h3⟩ => by
  cases h3 with
  | cons p q => cases q with
    | cons p' q' =>
      cases q'
      exact ⟨a, _, _, h1, h2, p, p'⟩
theorem row_tri : ∀ F v, (RowT [⟨t, x⟩, ⟨u, y⟩, ⟨w, z⟩]).rep F v () → (tTri t u w).rep F v (x, y, z) := fun F v ⟨a, vs, h1, h2, h3⟩ => by
  cases h3 with
  | cons p q => cases q with
    | cons p' q' => cases q' with
      | cons p2 q2 =>
        cases q2
        exact ⟨a, _, _, _, h1, h2, p, p', p2⟩
theorem den_n {ds : List Dv} {xs : List α} (h : DenN te Γ ds Γ') (e : ds = xs.map fun x => ⟨t, x⟩) : Den te Γ (tList t) xs Γ' := fun Z F σ H hh Q q => h Z F σ H hh Q fun p vs F' H' h' pr np fp hp rr => by
  rw [e] at rr
  have ff : Ex F' (upd F' p (.lst vs)) := Ex.new fp
  have no : ∀ j, ¬ OwnAt Γ' σ j p := fun j w => hh.notOwn np j (pr.ow j p w)
  refine q _ _ _ (h'.freezeP (hh.fresh np) no fp hp) ⟨pr.ff.trans ff, fun b o hb n nn => ?_, pr.ow, pr.th⟩ ⟨p, vs, rfl, upd_same, (al_map rr).map fun _ _ z => t.mono ff z⟩
  obtain ⟨n1, k1⟩ := pr.keep b o hb n nn
  have zz : b ≠ p := ne_of_none hb np
  rw [upd_ne zz]
  exact ⟨n1, k1⟩
/-! ### without any change of owned things -/
def Pu {α : Type} (te : TE) (Γ : List Slot) (t : Ty α) (x : α) : Prop := ∀ (Z : En) F σ H, Holds Z Γ F σ H → ∀ Q : VK, (∀ v F' H', Step NoO F H F' H' → t.rep F' v x → Q v H') → te σ H Q
theorem Pu.den (h : Pu te Γ t x) : Den te Γ t x Γ := fun Z F σ H hh Q q => h Z F σ H hh Q fun v F' H' k r => q v F' H' (hh.step k) (Pres.step k) r
theorem pu_var {i : Nat} (e : Γ[i]? = some (.val ⟨t, x⟩)) : Pu (tVar i) Γ t x := fun Z F σ H hh Q q => by
  obtain ⟨v, h1, h2⟩ := hh.val e
  exact ⟨v, h1, q v F H (Step.refl hh.fh) h2⟩
theorem pu_int {i : Int} : Pu (tC (.int i)) Γ tInt i := fun Z F σ H hh Q q => q _ F H (Step.refl hh.fh) rfl
theorem pu_op (ha : Pu ta Γ t x) (hb : Pu tb Γ u y) (hr : Op2 r t x u y w z) : Pu (tOp r ta tb) Γ w z := fun Z F σ H hh Q q =>
  ha Z F σ H hh _ fun v1 F1 H1 k1 r1 => hb Z F1 σ H1 (hh.step k1) _ fun v2 F2 H2 k2 r2 => hr F2 H2 v1 v2 ((hh.step k1).step k2).fh (t.mono k2.ff r1) r2 Q fun v F3 H3 k r3 => q v F3 H3 ((k1.trans k2).trans k) r3
theorem pu_un {r : V → Hp → VK → Prop} (ha : Pu ta Γ t x) (hr : Op1 r t x w z) : Pu (tUn r ta) Γ w z := fun Z F σ H hh Q q =>
  ha Z F σ H hh _ fun v1 F1 H1 k1 r1 => hr F1 H1 v1 (hh.step k1).fh r1 Q fun v F3 H3 k r3 => q v F3 H3 (k1.trans k) r3
/-- a list or a tuple to be read -/
def DenQ {α : Type} (te : TE) (Γ : List Slot) (t : Ty α) (xs : List α) (Γ' : List Slot) : Prop := ∀ (Z : En) F σ H, Holds Z Γ F σ H → ∀ Q : VK, (∀ a vs F' H', Holds Z Γ' F' σ H' → Pres Γ Γ' σ F H F' H' → (H' a = some (.lst vs) ∨ H' a = some (.tup vs)) → Al (fun x v => t.rep F' v x) xs vs → Q (.ref a) H') → te σ H Q
def DenU {α : Type} (te : TE) (Γ : List Slot) (t : Ty α) (xs : List α) (Γ' : List Slot) : Prop := ∀ (Z : En) F σ H, Holds Z Γ F σ H → ∀ Q : VK, (∀ a vs F' H', Holds Z Γ' F' σ H' → Pres Γ Γ' σ F H F' H' → H' a = some (.tup vs) → Al (fun x v => t.rep F' v x) xs vs → Q (.ref a) H') → te σ H Q
theorem DenL.q {xs : List α} (h : DenL te Γ t xs Γ') : DenQ te Γ t xs Γ' := fun Z F σ H hh Q q => h Z F σ H hh Q fun a vs F' H' h' p e r => q a vs F' H' h' p (.inl e) r
theorem DenU.q {xs : List α} (h : DenU te Γ t xs Γ') : DenQ te Γ t xs Γ' := fun Z F σ H hh Q q => h Z F σ H hh Q fun a vs F' H' h' p e r => q a vs F' H' h' p (.inr e) r
theorem den_u {xs : List α} (h : Den te Γ (tTupl t) xs Γ') : DenU te Γ t xs Γ' := fun Z F σ H hh Q q => h Z F σ H hh Q fun v F' H' h' p r => by
  obtain ⟨a, vs, rfl, e, rr⟩ := r
  exact q a vs F' H' h' p (h'.fh _ _ e) rr
theorem sq_or {K : PySem.W.Frag} {H : Hp} {a : Addr} {vs : List V} (h : H a = some (.lst vs) ∨ H a = some (.tup vs)) : SqL K H a vs ∨ SqT K H a vs := h.elim (fun h => .inl (sq_of h)) fun h => .inr (st_of h)
def rLenQ (K : PySem.W.Frag) : List V → Hp → VK → Prop := fun xs H Q => ∃ p ys, xs = [.ref p] ∧ (SqL K H p ys ∨ SqT K H p ys) ∧ Q (.int ys.length) H
theorem den_len {K : PySem.W.Frag} {xs : List α} (h : DenQ ta Γ t xs Γ1) : Den (tCB (fun xs H Q => ∃ p ys, xs = [.ref p] ∧ (SqL K H p ys ∨ SqT K H p ys) ∧ Q (.int ys.length) H) (tCons ta tNil)) Γ tInt (xs.length : Int) Γ1 := fun Z F σ H hh Q q =>
  h Z F σ H hh _ fun a vs F' H' h' p e r => ⟨a, vs, rfl, sq_or e, q _ F' H' h' p (by rw [r.len]; rfl)⟩
theorem den_sum {K : PySem.W.Frag} {xs : List Int} (h : DenQ ta Γ tInt xs Γ1) : Den (tCB (fun vs H Q => ∃ (a : Addr) (ns : List Int), vs = [V.ref a] ∧ (SqL K H a (ns.map V.int) ∨ SqT K H a (ns.map V.int)) ∧ Q (.int ns.sum) H) (tCons ta tNil)) Γ tInt xs.sum Γ1 := fun Z F σ H hh Q q =>
  h Z F σ H hh _ fun a vs F' H' h' p e r => by
    have ev : vs = xs.map V.int := al_int r
    subst ev
    exact ⟨a, xs, rfl, sq_or e, q _ F' H' h' p rfl⟩
/-! ### subscripts -/
theorem atI_get {α : Type _} {xs : List α} {i : Int} (h0 : 0 ≤ i) {x : α} (hx : xs[i.toNat]? = some x) : atI xs i = some x := by
  have hl := (List.getElem?_eq_some_iff.mp hx).1
  unfold atI ixN
  rw [if_pos h0, if_pos (by omega)]
  exact hx
theorem den_ixL {K : PySem.W.Frag} {xs : List α} {i : Int} (ha : DenL ta Γ t xs Γ1) (hb : Pu tb Γ1 tInt i) (h0 : 0 ≤ i) (hx : xs[i.toNat]? = some x) : Den (tOp (rIxL K) ta tb) Γ t x Γ1 := fun Z F σ H hh Q q =>
  ha Z F σ H hh _ fun a vs F1 H1 h1 p e r => hb Z F1 σ H1 h1 _ fun v2 F2 H2 k r2 => by
    cases r2
    obtain ⟨v, hv, rv⟩ := r.get hx
    exact ⟨a, vs, i, v, rfl, rfl, sq_of (k.hh h1.fh a _ e), atI_get h0 hv, q v F2 H2 (h1.step k) (p.trans (Pres.step k)) (t.mono k.ff rv)⟩
theorem den_ixT {K : PySem.W.Frag} {xs : List α} {i : Int} (ha : DenU ta Γ t xs Γ1) (hb : Pu tb Γ1 tInt i) (h0 : 0 ≤ i) (hx : xs[i.toNat]? = some x) : Den (tOp (rIxT K) ta tb) Γ t x Γ1 := fun Z F σ H hh Q q =>
  ha Z F σ H hh _ fun a vs F1 H1 h1 p e r => hb Z F1 σ H1 h1 _ fun v2 F2 H2 k r2 => by
    cases r2
    obtain ⟨v, hv, rv⟩ := r.get hx
    exact ⟨a, vs, i, v, rfl, rfl, st_of (k.hh h1.fh a _ e), atI_get h0 hv, q v F2 H2 (h1.step k) (p.trans (Pres.step k)) (t.mono k.ff rv)⟩
/-- a frozen list, an index that may change owned things -/
theorem den_ixLM {K : PySem.W.Frag} {xs : List α} {i : Int} (ha : Den ta Γ (tList t) xs Γ1) (hb : Den tb Γ1 tInt i Γ2) (h0 : 0 ≤ i) (hx : xs[i.toNat]? = some x) : Den (tOp (rIxL K) ta tb) Γ t x Γ2 := fun Z F σ H hh Q q =>
  ha Z F σ H hh _ fun v1 F1 H1 h1 p r => hb Z F1 σ H1 h1 _ fun v2 F2 H2 h2 p2 r2 => by
    obtain ⟨a, vs, rfl, e, rr⟩ := (tList t).mono p2.ff r
    cases r2
    obtain ⟨v, hv, rv⟩ := rr.get hx
    exact ⟨a, vs, i, v, rfl, rfl, sq_of (h2.fh _ _ e), atI_get h0 hv, q v F2 H2 h2 (p.trans p2) rv⟩
/-- an owned list of unlike items -/
theorem den_ixH {K : PySem.W.Frag} {i : Nat} {k : Int} {oa : Option Addr} (e : Γ[i]? = some (.own oa ds)) (hx : ds[k.toNat]? = some ⟨t, x⟩) (h0 : 0 ≤ k := by decide) : Den (tOp (rIxL K) (tVar i) (tC (.int k))) Γ t x Γ := fun Z F σ H hh Q q => by
  obtain ⟨a, h1, ⟨_, _, vs, h2, h3⟩, _⟩ := hh.owned e rfl
  obtain ⟨v, hv, rv⟩ := h3.get hx
  exact ⟨_, h1, a, vs, k, v, rfl, rfl, sq_of h2, atI_get h0 hv, q v F H hh Pres.refl rv⟩
theorem den_fst {K : PySem.W.Frag} {z : α × β} (ha : Den ta Γ (tPair t u) z Γ1) : Den (tOp (rIxT K) ta (tC (.int 0))) Γ t z.1 Γ1 := fun Z F σ H hh Q q =>
  ha Z F σ H hh _ fun v1 F1 H1 h1 p r => by
    obtain ⟨a, v1, v2, rfl, e, r1, r2⟩ := r
    exact ⟨a, _, 0, v1, rfl, rfl, st_of (h1.fh _ _ e), rfl, q _ F1 H1 h1 p r1⟩
theorem den_snd {K : PySem.W.Frag} {z : α × β} (ha : Den ta Γ (tPair t u) z Γ1) : Den (tOp (rIxT K) ta (tC (.int 1))) Γ u z.2 Γ1 := fun Z F σ H hh Q q =>
  ha Z F σ H hh _ fun v1 F1 H1 h1 p r => by
    obtain ⟨a, v1, v2, rfl, e, r1, r2⟩ := r
    exact ⟨a, _, 1, v2, rfl, rfl, st_of (h1.fh _ _ e), rfl, q _ F1 H1 h1 p r2⟩
/-! ### new lists, tuples out of elder ones -/
theorem den_list {K : PySem.W.Frag} {xs : List α} (h : DenQ ta Γ t xs Γ1) : DenN (tCB (fun xs H Q => ∃ p ys, xs = [.ref p] ∧ (SqL K H p ys ∨ SqT K H p ys) ∧ ∀ l, H l = none → Q (.ref l) (upd H l (.lst ys))) (tCons ta tNil)) Γ (xs.map fun x => ⟨t, x⟩) Γ1 := fun Z F σ H hh Q q =>
  h Z F σ H hh _ fun a vs F' H' h' p e r => ⟨a, vs, rfl, sq_or e, fun l nl => new_q q h' p nl (al_unmap r)⟩
theorem dn_l {xs : List α} (h : DenN te Γ (xs.map fun x => (⟨t, x⟩ : Dv)) Γ') : DenL te Γ t xs Γ' := den_l (den_n h rfl)
theorem den_tuple {K : PySem.W.Frag} {xs : List α} (h : DenL ta Γ t xs Γ1) : Den (tCB (fun xs H Q => ∃ p ys, xs = [.ref p] ∧ ((SqL K H p ys ∧ ∀ l, H l = none → Q (.ref l) (upd H l (.tup ys))) ∨ (SqT K H p ys ∧ Q (.ref p) H))) (tCons ta tNil)) Γ (tTupl t) xs Γ1 := fun Z F σ H hh Q q =>
  h Z F σ H hh _ fun a vs F' H' h' p e r => ⟨a, vs, rfl, .inl ⟨sq_of e, fun l nl => by
    have k : Step NoO F' H' (upd F' l (.tup vs)) (upd H' l (.tup vs)) := Step.new h'.fh nl
    exact q _ _ _ (h'.step k) (p.trans (Pres.step k)) ⟨l, vs, rfl, upd_same, r.map fun _ _ z => t.mono k.ff z⟩⟩⟩
def PuO (to : TO) (Γ : List Slot) (o : Option Int) : Prop := ∀ (Z : En) F σ H, Holds Z Γ F σ H → ∀ Q : Option Int → Hp → Prop, (∀ F' H', Step NoO F H F' H' → Q o H') → to σ H Q
theorem po_no : PuO tNoPart Γ none := fun Z F σ H hh Q q => q F H (Step.refl hh.fh)
theorem po_part {i : Int} (h : Pu te Γ tInt i) : PuO (tPart te) Γ (some i) := fun Z F σ H hh Q q => h Z F σ H hh _ fun v F' H' k r => ⟨i, r, q F' H' k⟩
theorem dn_slice {K : PySem.W.Frag} {xs : List α} {lo hi : Option Int} {tl th : TO} (ha : DenL ta Γ t xs Γ1) (hl : PuO tl Γ1 lo) (hh' : PuO th Γ1 hi) :
    DenN (tSl (rSlL K) ta tl th) Γ (((xs.drop (HT.sIx xs.length 0 lo)).take (HT.sIx xs.length xs.length hi - HT.sIx xs.length 0 lo)).map fun x => ⟨t, x⟩) Γ1 := fun Z F σ H hh Q q =>
  ha Z F σ H hh _ fun a vs F1 H1 h1 p e r => hl Z F1 σ H1 h1 _ fun F2 H2 k2 => hh' Z F2 σ H2 (h1.step k2) _ fun F3 H3 k3 => by
    have k := k2.trans k3
    refine ⟨a, vs, rfl, sq_of (k.hh h1.fh a _ e), fun l nl => ?_⟩
    refine new_q q (h1.step k) (p.trans (Pres.step k)) nl ?_
    have r3 : Al (fun x v => t.rep F3 v x) xs vs := r.map fun _ _ z => t.mono k.ff z
    have r4 := (r3.drop (HT.sIx xs.length 0 lo)).take (HT.sIx xs.length xs.length hi - HT.sIx xs.length 0 lo)
    have e1 : cutV vs lo hi = (vs.drop (HT.sIx xs.length 0 lo)).take (HT.sIx xs.length xs.length hi - HT.sIx xs.length 0 lo) := by
      unfold cutV
      rw [← r.len]
    rw [e1]
    exact al_unmap r4
/-- xs + ys: both frozen | the left one new -/
theorem dn_cat {xs ys : List α} (ha : Den ta Γ (tList t) xs Γ1) (hb : Den tb Γ1 (tList t) ys Γ2) (hl : xs.length + ys.length ≤ 100000) : DenN (tOp rCat ta tb) Γ ((xs ++ ys).map fun x => ⟨t, x⟩) Γ2 := fun Z F σ H hh Q q =>
  ha Z F σ H hh _ fun v1 F1 H1 h1 p r => hb Z F1 σ H1 h1 _ fun v2 F2 H2 h2 p2 r2 => by
    obtain ⟨a, vs, rfl, e, rr⟩ := (tList t).mono p2.ff r
    obtain ⟨b, us, rfl, e2, rr2⟩ := r2
    refine ⟨a, b, vs, us, rfl, rfl, h2.fh _ _ e, h2.fh _ _ e2, sz_of (by rw [← rr.len, ← rr2.len]; exact hl), fun l nl => new_q q h2 (p.trans p2) nl (al_unmap (rr.app rr2))⟩
end
end DL

set_option maxRecDepth 100000
/-! DS: calls, instances, statements, loops, comprehensions over typed data. -/
namespace DL
open PySem L2 Evl
section
variable {α β γ : Type} {t : Ty α} {u : Ty β} {w : Ty γ} {x : α} {y : β} {z : γ} {Γ Γ' Γ1 Γ2 Γ3 : List Slot} {ta tb tc te : TE} {tt uu : TT} {r : R2} {ds es : List Dv} {K : PySem.W.Frag}
/-! ### promises -/
/-- S: what is given back; R: what is raised -/
def spP (S : List Dv → Dv → Prop) (R : List Dv → Value → Prop) : Sp := fun vs H Q E => ∃ F ds, Ex F H ∧ Reps F ds vs ∧
  ((∃ r, S ds r ∧ ∀ v F' H', Step NoO F H F' H' → r.rep F' v → Q v H') ∨ (∃ c, R ds c ∧ ∀ F' H', Step NoO F H F' H' → E c none H'))
abbrev NoR : List Dv → Value → Prop := fun _ _ => False
/-- a new open list is given back -/
def spN (S : List Dv → List Dv → Prop) : Sp := fun vs H Q E => ∃ F ds, Ex F H ∧ Reps F ds vs ∧ ∃ r, S ds r ∧ ∀ p us F' H', Step NoO F H F' H' → H p = none → F' p = none → H' p = some (.lst us) → Reps F' r us → Q (.ref p) H'
/-- the first argument is an owned list, which changes -/
def spM (S : List Dv → List Dv → List Dv → Dv → Prop) : Sp := fun vs H Q E => ∃ F a us args ps ds, vs = .ref a :: args ∧ Ex F H ∧ F a = none ∧ H a = some (.lst us) ∧ Reps F ps us ∧ Reps F ds args ∧
  ∃ ps' r, S ps ds ps' r ∧ ∀ v F' H' us', Step (fun b => b = a) F H F' H' → F' a = none → H' a = some (.lst us') → Reps F' ps' us' → r.rep F' v → Q v H'
/-- __init__: S gives the fields -/
def spI (C : Addr) (S : List Dv → List (Str × Dv) → Prop) (R : List Dv → Value → Prop) : Sp := fun vs H Q E => ∃ F x dx args ds, vs = .ref x :: args ∧ Ex F H ∧ F x = none ∧ F dx = some (.own x) ∧ H x = some (.ins C dx []) ∧ Reps F ds args ∧
  ((∃ fs, S ds fs ∧ ∀ F' H' dx' us, Step (fun b => b = x) F H F' H' → F' x = none → F' dx' = some (.own x) → H' x = some (.ins C dx' us) → RepF F' fs us → Q .non H') ∨ (∃ c, R ds c ∧ ∀ F' H', Step (fun b => b = x) F H F' H' → E c none H'))

def SpV (sp : Sp) (ds : List Dv) (w : Ty γ) (z : γ) : Prop := ∀ F H vs, Ex F H → Reps F ds vs → ∀ (Q : VK) (E : XK), (∀ v F' H', Step NoO F H F' H' → w.rep F' v z → Q v H') → sp vs H Q E
def SpX (sp : Sp) (ds : List Dv) (c : Value) : Prop := ∀ F H vs, Ex F H → Reps F ds vs → ∀ (Q : VK) (E : XK), (∀ F' H', Step NoO F H F' H' → E c none H') → sp vs H Q E
theorem spP_v {S : List Dv → Dv → Prop} {R : List Dv → Value → Prop} (h : S ds ⟨w, z⟩) : SpV (spP S R) ds w z := fun F H vs e r Q E q => ⟨F, ds, e, r, .inl ⟨⟨w, z⟩, h, q⟩⟩
theorem spP_x {S : List Dv → Dv → Prop} {R : List Dv → Value → Prop} {c : Value} (h : R ds c) : SpX (spP S R) ds c := fun F H vs e r Q E q => ⟨F, ds, e, r, .inr ⟨c, h, q⟩⟩
/-! ### calls -/
theorem den_call {sp : Sp} {E : XK} {tr : TA} (h : DenA tr Γ ds Γ1) (hs : SpV sp ds w z) : Den (tCall sp [] E tr) Γ w z Γ1 := fun Z F σ H hh Q q =>
  h Z F σ H hh _ fun vs F1 H1 h1 p1 r1 => by
    rw [List.append_nil]
    exact hs F1 H1 vs h1.fh r1 Q E fun v F3 H3 k r3 => q v F3 H3 (h1.step k) (p1.trans (Pres.step k)) r3
/-- with defaults -/
theorem den_callD {sp : Sp} {E : XK} {tr : TA} {dvs : List V} (h : DenA tr Γ ds Γ1) (hd : ∀ F, Reps F es dvs) (hs : SpV sp (ds ++ es) w z) : Den (tCall sp dvs E tr) Γ w z Γ1 := fun Z F σ H hh Q q =>
  h Z F σ H hh _ fun vs F1 H1 h1 p1 r1 => hs F1 H1 (vs ++ dvs) h1.fh (r1.app (hd F1)) Q E fun v F3 H3 k r3 => q v F3 H3 (h1.step k) (p1.trans (Pres.step k)) r3
theorem pu_call {sp : Sp} {E : XK} {tr : TA} (h : ∀ (Z : En) F σ H, Holds Z Γ F σ H → ∀ Q : List V → Hp → Prop, (∀ vs F' H', Step NoO F H F' H' → Reps F' ds vs → Q vs H') → tr σ H Q) (hs : SpV sp ds w z) : Pu (tCall sp [] E tr) Γ w z := fun Z F σ H hh Q q =>
  h Z F σ H hh _ fun vs F1 H1 k1 r1 => by
    rw [List.append_nil]
    exact hs F1 H1 vs (hh.step k1).fh r1 Q E fun v F3 H3 k r3 => q v F3 H3 (k1.trans k) r3
theorem dn_call {S : List Dv → List Dv → Prop} {E : XK} {tr : TA} (h : DenA tr Γ ds Γ1) (hs : S ds es) : DenN (tCall (spN S) [] E tr) Γ es Γ1 := fun Z F σ H hh Q q =>
  h Z F σ H hh _ fun vs F1 H1 h1 p1 r1 => by
    rw [List.append_nil]
    exact ⟨F1, ds, h1.fh, r1, es, hs, fun p us F' H' k np fp hp rr => q p us F' H' (h1.step k) (p1.trans (Pres.step k)) (p1.new np) fp hp rr⟩
/-- the owned list of slot i goes in and is changed -/
theorem den_callM {S : List Dv → List Dv → List Dv → Dv → Prop} {E : XK} {tr : TA} {i : Nat} {ps ps' : List Dv} {oa : Option Addr} (e : Γ[i]? = some (.own oa ps)) (h : DenA tr Γ ds Γ) (hs : S ps ds ps' ⟨w, z⟩) (e' : Γ.set i (.own oa ps') = Γ1) :
    Den (tCall (spM S) [] E (tCons (tVar i) tr)) Γ w z Γ1 := fun Z F σ H hh Q q => by
  obtain ⟨a, h1, _, o1⟩ := hh.owned e rfl
  refine ⟨_, h1, ?_⟩
  refine h Z F σ H hh _ fun vs F1 H1 h2 p1 r1 => ?_
  obtain ⟨a', h1', ⟨n1, ad, us, hu, ru⟩, o2⟩ := h2.owned e rfl
  rw [h1] at h1'
  cases h1'
  rw [List.append_nil]
  refine ⟨F1, a, us, vs, ps, ds, rfl, h2.fh, n1, hu, ru, r1, ps', ⟨w, z⟩, hs, fun v F' H' us' k n' hu' ru' rv => ?_⟩
  -- the heap as it was at a
  have k0 : Step NoO F1 H1 F' (upd H' a (.lst us)) := by
    refine ⟨k.ff, fun b o q => ?_, fun b o q n => ?_⟩
    · have : b ≠ a := fun z => by rw [z, n'] at q; cases q
      rw [upd_ne this]
      exact k.fh b o q
    · obtain ⟨n2, hn2, kk⟩ := k.keep b o q n
      by_cases zz : b = a
      · subst zz
        rw [hu] at q
        cases q
        exact ⟨n2, ⟨_, upd_same⟩, fun _ => upd_same⟩
      · rw [upd_ne zz]
        exact ⟨n2, hn2, fun _ => kk zz⟩
  have h3 := h2.step k0
  have o3 : OwnAt Γ σ i a := o2
  have h4 := h3.mut (s := .own oa ps') (o := .lst us') o3 ⟨n', ad, us', upd_same, ru'⟩
  have ee : upd (upd H' a (.lst us)) a (.lst us') = H' := by
    rw [upd_upd]
    funext b
    unfold upd
    split
    · rename_i zz
      rw [zz, hu']
    · rfl
  rw [ee, e'] at h4
  have ow : ∀ j b, OwnAt Γ1 σ j b → OwnAt Γ σ j b := fun j b wo => by
    subst e'
    by_cases zz : i = j
    · subst zz
      exact ⟨⟨_, e, rfl⟩, wo.2⟩
    · obtain ⟨⟨s, e1, e2⟩, e3⟩ := wo
      rw [List.getElem?_set_ne zz] at e1
      exact ⟨⟨s, e1, e2⟩, e3⟩
  have pp : Pres Γ Γ1 σ F1 H1 F' H' := ⟨k.ff, fun b o q n no => by
    obtain ⟨n2, _, kk⟩ := k.keep b o q n
    exact ⟨n2, kk fun zz => no i (zz ▸ o2)⟩, ow, fun b o q => by
    cases qf : F1 b with
    | none => exact (k.keep b o q qf).2.1
    | some o' => exact ⟨o', k.fh b o' (k.ff b o' qf)⟩⟩
  exact q v F' H' h4 (p1.trans pp) rv
/-! ### instances -/
/-- x of type t is an instance with the field f, which is y -/
def FldOf (K : PySem.W.Frag) (t : Ty α) (x : α) (f : Str) (u : Ty β) (y : β) : Prop := ∀ F v, t.rep F v x → ∃ a C dx fs b, v = .ref a ∧ F a = some (.ins C dx fs) ∧ Cls K C ∧ NoAttr K C f ∧ fs.lookup f = some b ∧ u.rep F b y
def InsOf (t : Ty α) (x : α) (C : Addr) (m : Str) : Prop := ∀ F v, t.rep F v x → ∃ a dx fs, v = .ref a ∧ F a = some (.ins C dx fs) ∧ fs.lookup m = none
theorem den_fld {f : Str} (ha : Den ta Γ t x Γ1) (hf : FldOf K t x f u y) : Den (tFld K ta f) Γ u y Γ1 := fun Z F σ H hh Q q =>
  ha Z F σ H hh _ fun v F1 H1 h1 p r => by
    obtain ⟨a, C, dx, fs, b, rfl, e, c, n, l, rb⟩ := hf F1 v r
    exact ⟨a, C, dx, fs, b, rfl, h1.fh _ _ e, c, n, l, q b F1 H1 h1 p rb⟩
theorem pu_fld {f : Str} (ha : Pu ta Γ t x) (hf : FldOf K t x f u y) : Pu (tFld K ta f) Γ u y := fun Z F σ H hh Q q =>
  ha Z F σ H hh _ fun v F1 H1 k r => by
    obtain ⟨a, C, dx, fs, b, rfl, e, c, n, l, rb⟩ := hf F1 v r
    exact ⟨a, C, dx, fs, b, rfl, (hh.step k).fh _ _ e, c, n, l, q b F1 H1 k rb⟩
theorem repf_lookup {F : Hp} {f : Str} {d : Dv} : ∀ {fs : List (Str × Dv)} {us : List (Str × V)}, RepF F fs us → fs.lookup f = some d → ∃ b, us.lookup f = some b ∧ d.rep F b
  | _, _, .nil, e => nomatch e
  | (g, d') :: fs, (g', b) :: us, .cons r h, e => by
    obtain ⟨r1, r2⟩ := r
    simp only at r1 r2
    subst r1
    rw [List.lookup_cons] at e ⊢
    cases q : (f == g) with
    | true =>
      rw [q] at e
      cases e
      exact ⟨b, rfl, r2⟩
    | false =>
      rw [q] at e
      exact repf_lookup h e
theorem den_fldO {f : Str} {i : Nat} {C : Addr} {oa : Option Addr} {fs : List (Str × Dv)} (e : Γ[i]? = some (.obj oa C fs)) (hl : fs.lookup f = some ⟨u, y⟩) (c : Cls K C) (n : NoAttr K C f) : Den (tFld K (tVar i) f) Γ u y Γ := fun Z F σ H hh Q q => by
  obtain ⟨a, h1, ⟨_, _, dx, us, _, h2, h3⟩, _⟩ := hh.owned e rfl
  obtain ⟨b, hb, rb⟩ := repf_lookup h3 hl
  exact ⟨_, h1, a, C, dx, us, b, rfl, h2, c, n, hb, q b F H hh Pres.refl rb⟩
theorem den_meth {sp : Sp} {E : XK} {tr : TA} {C : Addr} {m : Str} (ha : Den ta Γ t x Γ1) (hi : InsOf t x C m) (h : DenA tr Γ1 ds Γ2) (hs : SpV sp (⟨t, x⟩ :: ds) w z) : Den (tMeth C m sp [] E ta tr) Γ w z Γ2 := fun Z F σ H hh Q q =>
  ha Z F σ H hh _ fun v F1 H1 h1 p1 r1 => by
    obtain ⟨a, dx, fs, rfl, e, l⟩ := hi F1 v r1
    refine ⟨a, dx, fs, rfl, h1.fh _ _ e, l, ?_⟩
    refine h Z F1 σ H1 h1 _ fun vs F2 H2 h2 p2 r2 => ?_
    rw [List.append_nil]
    exact hs F2 H2 _ h2.fh (.cons (t.mono p2.ff r1) r2) Q E fun v F3 H3 k r3 => q v F3 H3 (h2.step k) ((p1.trans p2).trans (Pres.step k)) r3
/-- the data type of an instance whose fields are fs -/
def MkOf (C : Addr) (fs : List (Str × Dv)) (w : Ty γ) (z : γ) : Prop := ∀ F a dx us, F a = some (.ins C dx us) → F dx = some (.own a) → RepF F fs us → w.rep F (.ref a) z
theorem make_v {S : List Dv → List (Str × Dv) → Prop} {R : List Dv → Value → Prop} {C : Addr} {fs : List (Str × Dv)} {E : XK} {F H : Hp} {vs : List V} (hs : S ds fs) (hm : MkOf C fs w z) (e : Ex F H) (r : Reps F ds vs) (Q : VK) (q : ∀ v F' H', Step NoO F H F' H' → w.rep F' v z → Q v H') :
    ∀ x dx, H x = none → H dx = none → dx ≠ x → spI C S R (.ref x :: vs) (upd (upd H dx (.own x)) x (.ins C dx [])) (fun v H2 => v = .non ∧ Q (.ref x) H2) E := fun x dx nx nd ne => by
  have k1 : Step NoO F H (upd F dx (.own x)) (upd H dx (.own x)) := Step.new e nd
  have nx1 : upd H dx (.own x) x = none := by rw [upd_ne ne.symm]; exact nx
  have k2 : Step NoO F H (upd F dx (.own x)) (upd (upd H dx (.own x)) x (.ins C dx [])) := k1.trans (Step.open k1.fh nx1)
  have fx : upd F dx (.own x) x = none := ex_none k1.fh nx1
  refine ⟨upd F dx (.own x), x, dx, vs, ds, rfl, k2.fh, fx, upd_same, upd_same, r.mono k1.ff, .inl ⟨fs, hs, fun F' H' dx' us k n' ed e' rf => ⟨rfl, ?_⟩⟩⟩
  have k3 : Step NoO F H (upd F' x (.ins C dx' us)) H' := by
    refine ⟨(k1.ff.trans k.ff).trans (Ex.new n'), fun b o g => ?_, fun b o g n => ?_⟩
    · by_cases zz : b = x
      · rw [zz, upd_same] at g
        cases g
        rw [zz]
        exact e'
      · rw [upd_ne zz] at g
        exact k.fh b o g
    · have zz : b ≠ x := ne_of_none g nx
      obtain ⟨n2, h2, k2'⟩ := k2.keep b o g n
      obtain ⟨n3, h3, k3'⟩ := k.keep b o (k2' fun z => z) n2
      rw [upd_ne zz]
      exact ⟨n3, h3, fun _ => k3' zz⟩
  exact q (.ref x) _ H' k3 (hm _ x dx' us upd_same (Ex.new n' _ _ ed) (rf.mono (Ex.new n')))
theorem make_x {S : List Dv → List (Str × Dv) → Prop} {R : List Dv → Value → Prop} {C : Addr} {c : Value} {E : XK} {F H : Hp} {vs : List V} (hs : R ds c) (e : Ex F H) (r : Reps F ds vs) (Q : VK) (q : ∀ F' H', Step NoO F H F' H' → E c none H') :
    ∀ x dx, H x = none → H dx = none → dx ≠ x → spI C S R (.ref x :: vs) (upd (upd H dx (.own x)) x (.ins C dx [])) (fun v H2 => v = .non ∧ Q (.ref x) H2) E := fun x dx nx nd ne => by
  have k1 : Step NoO F H (upd F dx (.own x)) (upd H dx (.own x)) := Step.new e nd
  have nx1 : upd H dx (.own x) x = none := by rw [upd_ne ne.symm]; exact nx
  have k2 : Step NoO F H (upd F dx (.own x)) (upd (upd H dx (.own x)) x (.ins C dx [])) := k1.trans (Step.open k1.fh nx1)
  have fx : upd F dx (.own x) x = none := ex_none k1.fh nx1
  refine ⟨upd F dx (.own x), x, dx, vs, ds, rfl, k2.fh, fx, upd_same, upd_same, r.mono k1.ff, .inr ⟨c, hs, fun F' H' k => q F' H' ?_⟩⟩
  refine ⟨k1.ff.trans k.ff, k.fh, fun b o g n => ?_⟩
  have zz : b ≠ x := ne_of_none g nx
  obtain ⟨n2, h2, k2'⟩ := k2.keep b o g n
  obtain ⟨n3, h3, k3'⟩ := k.keep b o (k2' fun z => z) n2
  exact ⟨n3, h3, fun _ => k3' zz⟩
theorem den_make {S : List Dv → List (Str × Dv) → Prop} {R : List Dv → Value → Prop} {E : XK} {tr : TA} {C : Addr} {fs : List (Str × Dv)} {dvs : List V} (h : DenA tr Γ ds Γ1) (hd : ∀ F, Reps F es dvs) (hs : S (ds ++ es) fs) (hm : MkOf C fs w z) : Den (tMake C (spI C S R) dvs E tr) Γ w z Γ1 := fun Z F σ H hh Q q =>
  h Z F σ H hh _ fun vs F1 H1 h1 p1 r1 => make_v hs hm h1.fh (r1.app (hd F1)) Q fun v F' H' k rv => q v F' H' (h1.step k) (p1.trans (Pres.step k)) rv
theorem reps_nil {F : Hp} : Reps F [] [] := .nil
theorem den_make0 {S : List Dv → List (Str × Dv) → Prop} {R : List Dv → Value → Prop} {E : XK} {tr : TA} {C : Addr} {fs : List (Str × Dv)} (h : DenA tr Γ ds Γ1) (hs : S ds fs) (hm : MkOf C fs w z) : Den (tMake C (spI C S R) [] E tr) Γ w z Γ1 :=
  den_make (es := []) h (fun _ => .nil) (by rw [List.append_nil]; exact hs) hm
/-! ### what raises -/
/-- an expression that raises c: whatever is wanted behind it -/
def Bot (te : TE) (Γ : List Slot) (Γ' : List Slot) (E : XK) (c : Value) : Prop := ∀ (Z : En) F σ H, Holds Z Γ F σ H → (∀ F' H', Holds Z Γ' F' σ H' → E c none H') → ∀ Q : VK, te σ H Q
theorem bot_call {sp : Sp} {E : XK} {tr : TA} {c : Value} (h : DenA tr Γ ds Γ1) (hs : SpX sp ds c) : Bot (tCall sp [] E tr) Γ Γ1 E c := fun Z F σ H hh e Q =>
  h Z F σ H hh _ fun vs F1 H1 h1 p1 r1 => by
    rw [List.append_nil]
    exact hs F1 H1 vs h1.fh r1 Q E fun F3 H3 k => e F3 H3 (h1.step k)
theorem bot_make {S : List Dv → List (Str × Dv) → Prop} {R : List Dv → Value → Prop} {E : XK} {tr : TA} {C : Addr} {c : Value} {dvs : List V} (h : DenA tr Γ ds Γ1) (hd : ∀ F, Reps F es dvs) (hs : R (ds ++ es) c) : Bot (tMake C (spI C S R) dvs E tr) Γ Γ1 E c := fun Z F σ H hh e Q =>
  h Z F σ H hh _ fun vs F1 H1 h1 p1 r1 => make_x hs h1.fh (r1.app (hd F1)) Q fun F' H' k => e F' H' (h1.step k)
theorem bot_meth {sp : Sp} {E : XK} {tr : TA} {C : Addr} {m : Str} {c : Value} (ha : Den ta Γ t x Γ1) (hi : InsOf t x C m) (h : DenA tr Γ1 ds Γ2) (hs : SpX sp (⟨t, x⟩ :: ds) c) : Bot (tMeth C m sp [] E ta tr) Γ Γ2 E c := fun Z F σ H hh e Q =>
  ha Z F σ H hh _ fun v F1 H1 h1 p1 r1 => by
    obtain ⟨a, dx, fs, rfl, e1, l⟩ := hi F1 v r1
    refine ⟨a, dx, fs, rfl, h1.fh _ _ e1, l, ?_⟩
    refine h Z F1 σ H1 h1 _ fun vs F2 H2 h2 p2 r2 => ?_
    rw [List.append_nil]
    exact hs F2 H2 _ h2.fh (.cons (t.mono p2.ff r1) r2) Q E fun F3 H3 k => e F3 H3 (h2.step k)
end
end DL

set_option maxRecDepth 100000
/-! DT: statements, loops, comprehensions over typed data. -/
namespace DL
open PySem L2 Evl
/-- under the data Γ what is wanted holds -/
def OK (Z : En) (Γ : List Slot) (P : L2.St → Hp → Prop) : Prop := ∀ F σ H, Holds Z Γ F σ H → P σ H
section
variable {α β γ : Type} {t : Ty α} {u : Ty β} {w : Ty γ} {x : α} {y : β} {z : γ} {Z : En} {Γ Γ' Γ1 Γ2 Γ3 : List Slot} {ta tb tc te : TE} {tt uu : TT} {r : R2} {ds es : List Dv} {K : PySem.W.Frag} {D : Ends} {s1 s2 : TS} {i j : Nat}
theorem s_seq (h : OK Z Γ (s1 { D with nx := s2 D })) : OK Z Γ (tSeq s1 s2 D) := h
theorem s_nx (h : OK Z Γ D.nx) : OK Z Γ (tNext D) := h
theorem s_brk (h : OK Z Γ D.bk) : OK Z Γ (tBreak D) := h
theorem s_cont (h : OK Z Γ D.ct) : OK Z Γ (tCont D) := h
theorem s_weak {P : L2.St → Hp → Prop} (h : OK Z Γ' P) (k : Wk Γ Γ') : OK Z Γ P := fun F σ H hh => h F σ H (hh.weak k)
theorem s_set (h : Den te Γ t x Γ1) (k : OK Z (Γ1.set i (.val ⟨t, x⟩)) D.nx) : OK Z Γ (tAsg te (gName i) D) := fun F σ H hh =>
  h Z F σ H hh _ fun v F' H' h' p r => k F' _ H' (h'.set i r)
/-- the same, the datum a letter -/
theorem s_let (h : Den te Γ t x Γ1) (k : ∀ x', x' = x → OK Z (Γ1.set i (.val ⟨t, x'⟩)) D.nx) : OK Z Γ (tAsg te (gName i) D) := s_set h (k x rfl)
/-- a new list, owned | a list of unlike items -/
theorem s_setN {xs : List α} (h : DenN te Γ (xs.map fun x => ⟨t, x⟩) Γ1) (k : OK Z (Γ1.set i (.lst t xs)) D.nx) : OK Z Γ (tAsg te (gName i) D) := fun F σ H hh =>
  h Z F σ H hh _ fun p vs F' H' h' pr np fp hp rr => k F' _ _ (h'.setOwn i (hh.fresh np) (fun j w => hh.notOwn np j (pr.ow j p w)) ⟨fp, vs, hp, al_map rr⟩)
theorem s_setH (h : DenN te Γ ds Γ1) (k : OK Z (Γ1.set i (.own none ds)) D.nx) : OK Z Γ (tAsg te (gName i) D) := fun F σ H hh =>
  h Z F σ H hh _ fun p vs F' H' h' pr np fp hp rr => k F' _ _ (h'.setOwn i (hh.fresh np) (fun j w => hh.notOwn np j (pr.ow j p w)) ⟨fp, fun _ z => (nomatch z), vs, hp, rr⟩)
theorem s_drop (h : Den te Γ t x Γ1) (k : OK Z Γ1 D.nx) : OK Z Γ (tDrop te D) := fun F σ H hh => h Z F σ H hh _ fun v F' H' h' p r => k F' _ H' h'
theorem s_if {b : Bool} (h : DenT tt Γ b Γ1) (h1 : b = true → OK Z Γ1 (s1 D)) (h2 : b = false → OK Z Γ1 (s2 D)) : OK Z Γ (tIfS tt s1 s2 D) := fun F σ H hh => h Z F σ H hh _ fun F' H' h' p => by
  cases b with
  | true => exact h1 rfl F' σ H' h'
  | false => exact h2 rfl F' σ H' h'
/-- the value given back -/
theorem s_ret (h : Den te Γ t x Γ1) (k : ∀ F σ H v, Holds Z Γ1 F σ H → t.rep F v x → D.rt v H) : OK Z Γ (tRet te D) := fun F σ H hh => h Z F σ H hh _ fun v F' H' h' p r => k F' σ H' v h' r
theorem s_retN (h : DenN te Γ ds Γ1) (k : ∀ F σ H p vs, Holds Z Γ1 F σ H → Z.H p = none → F p = none → H p = some (.lst vs) → Reps F ds vs → D.rt (.ref p) H) : OK Z Γ (tRet te D) := fun F σ H hh => h Z F σ H hh _ fun p vs F' H' h' pr np fp hp rr => k F' σ H' p vs h' (hh.fresh np) fp hp rr
/-- an owned list of ours is given back, open -/
theorem s_retO {xs : List α} (e : Γ[i]? = some (.lst t xs)) (k : ∀ F σ H p vs, Holds Z Γ F σ H → (Z.O p ∨ Z.H p = none) → F p = none → H p = some (.lst vs) → Al (fun x v => t.rep F v x) xs vs → D.rt (.ref p) H) : OK Z Γ (tRet (tVar i) D) := fun F σ H hh => by
  obtain ⟨a, h1, ⟨n1, us, hu, ru⟩, o1⟩ := hh.owned e rfl
  exact ⟨_, h1, k F σ H a us hh (hh.ow i a o1) n1 hu ru⟩
theorem s_retNon (k : ∀ F σ H, Holds Z Γ F σ H → D.rt .non H) : OK Z Γ (tRetN D) := fun F σ H hh => k F σ H hh
/-- a raise -/
theorem s_bot {E : XK} {c : Value} (h : Bot te Γ Γ1 E c) (e : ∀ F σ H, Holds Z Γ1 F σ H → E c none H) : OK Z Γ (tDrop te D) := fun F σ H hh => h Z F σ H hh (fun F' H' h' => e F' σ H' h') _
theorem s_botA {E : XK} {c : Value} {g : TG} (h : Bot te Γ Γ1 E c) (e : ∀ F σ H, Holds Z Γ1 F σ H → E c none H) : OK Z Γ (tAsg te g D) := fun F σ H hh => h Z F σ H hh (fun F' H' h' => e F' σ H' h') _
theorem s_botR {E : XK} {c : Value} (h : Bot te Γ Γ1 E c) (e : ∀ F σ H, Holds Z Γ1 F σ H → E c none H) : OK Z Γ (tRet te D) := fun F σ H hh => h Z F σ H hh (fun F' H' h' => e F' σ H' h') _
/-- a += -/
theorem s_aug {f : Int → Int → Int} {a b : Int} (hx : Γ[i]? = some (.val ⟨tInt, a⟩)) (h : Den te Γ tInt b Γ1) (k : OK Z (Γ1.set i (.val ⟨tInt, f a b⟩)) D.nx) : OK Z Γ (tAug i te (ipI f) D) := fun F σ H hh => by
  obtain ⟨v, e, r⟩ := hh.val hx
  cases r
  exact ⟨_, e, h Z F σ H hh _ fun v F' H' h' p r' => ⟨a, b, rfl, r', k F' _ H' (h'.set i rfl)⟩⟩
/-! ### owned lists change -/
theorem s_app {xs : List α} (e : Γ[i]? = some (.lst t xs)) (h : Den te Γ t x Γ1) (e1 : Γ1[i]? = some (.lst t xs)) (hl : xs.length < 100000) (k : OK Z (Γ1.set i (.lst t (xs ++ [x]))) D.nx) : OK Z Γ (tDrop (tBM K "list" rAppend (tVar i) (tCons te tNil)) D) := fun F σ H hh => by
  obtain ⟨a, h1, ⟨_, vs, h2, h3⟩, _⟩ := hh.owned e rfl
  refine ⟨_, h1, .inl ⟨rfl, vs, sq_of h2⟩, ?_⟩
  refine h Z F σ H hh _ fun v F' H' h' p r => ?_
  obtain ⟨a', h1', ⟨n1, us, hu, ru⟩, o1⟩ := h'.owned e1 rfl
  rw [h1] at h1'
  cases h1'
  exact ⟨a, us, v, rfl, rfl, hu, sz_lt (by rw [← ru.len]; exact hl), k F' _ _ (h'.mut (s := .lst t (xs ++ [x])) o1 ⟨n1, _, upd_same, ru.app (.cons r .nil)⟩)⟩
theorem ixN_nat' {n : Nat} {k : Int} (h0 : 0 ≤ k) (h : k.toNat < n) : ixN n k = some k.toNat := by
  unfold ixN
  rw [if_pos h0, if_pos (by omega)]
theorem s_setIx {xs : List α} {k : Int} (h : Den te Γ t x Γ1) (e1 : Γ1[i]? = some (.lst t xs)) (hi : Pu tb Γ1 tInt k) (h0 : 0 ≤ k) (hk : k.toNat < xs.length) (kk : OK Z (Γ1.set i (.lst t (xs.set k.toNat x))) D.nx) : OK Z Γ (tAsg te (gSub (tVar i) tb rSetL) D) := fun F σ H hh => by
  refine h Z F σ H hh _ fun v F1 H1 h1 p r => ?_
  obtain ⟨a', h1', _, _⟩ := h1.owned e1 rfl
  refine ⟨_, h1', ?_⟩
  refine hi Z F1 σ H1 h1 _ fun v2 F2 H2 k2 r2 => ?_
  cases r2
  have h2 := h1.step k2
  obtain ⟨a, h1'', ⟨n1, us, hu, ru⟩, o1⟩ := h2.owned e1 rfl
  rw [h1'] at h1''
  cases h1''
  exact ⟨_, us, k, k.toNat, rfl, rfl, hu, ixN_nat' h0 (by rw [← ru.len]; exact hk), kk F2 _ _ (h2.mut (s := .lst t (xs.set k.toNat x)) o1 ⟨n1, _, upd_same, ru.set' _ (t.mono k2.ff r)⟩)⟩
theorem s_setIxH {k : Int} {oa : Option Addr} (h : Den te Γ t x Γ1) (e1 : Γ1[i]? = some (.own oa ds)) (h0 : 0 ≤ k) (hk : k.toNat < ds.length) (kk : OK Z (Γ1.set i (.own oa (ds.set k.toNat ⟨t, x⟩))) D.nx) : OK Z Γ (tAsg te (gSub (tVar i) (tC (.int k)) rSetL) D) := fun F σ H hh => by
  refine h Z F σ H hh _ fun v F1 H1 h1 p r => ?_
  obtain ⟨a, h1', ⟨n1, ad, us, hu, ru⟩, o1⟩ := h1.owned e1 rfl
  exact ⟨_, h1', _, us, k, k.toNat, rfl, rfl, hu, ixN_nat' h0 (by rw [← ru.len]; exact hk), kk F1 _ _ (h1.mut (s := .own oa (ds.set k.toNat ⟨t, x⟩)) o1 ⟨n1, ad, _, upd_same, ru.set' (y := v) _ r⟩)⟩
/-- an owned list of ours is frozen -/
theorem s_freeze {P : L2.St → Hp → Prop} {xs : List α} (e : Γ[i]? = some (.lst t xs)) (no : ∀ a σ, OwnAt Γ σ i a → (∀ j b, OwnAt Γ σ j b → OwnAt Γ σ i b → j = i) → ¬ Z.O a) (k : OK Z (Γ.set i (.val ⟨tList t, xs⟩)) P) : OK Z Γ P := fun F σ H hh => by
  obtain ⟨a, h1, ⟨n1, us, hu, ru⟩, o1⟩ := hh.owned e rfl
  obtain ⟨h', ff⟩ := hh.freeze (d := ⟨tList t, xs⟩) o1 (no a σ o1 fun j b w w' => hh.di j i b w w') hu ⟨a, us, rfl, upd_same, ru.map fun _ _ z => t.mono (Ex.new n1) z⟩
  exact k _ σ H h'
/-- a field of an owned instance -/
theorem al_lookup_none {F : Hp} {f : Str} : ∀ {fs : List (Str × Dv)} {us : List (Str × V)}, RepF F fs us → fs.lookup f = none → us.lookup f = none
  | _, _, .nil, _ => rfl
  | (g, d') :: fs, (g', b) :: us, .cons r h, e => by
    obtain ⟨r1, r2⟩ := r
    simp only at r1
    subst r1
    rw [List.lookup_cons] at e ⊢
    cases q : (f == g) with
    | true =>
      rw [q] at e
      cases e
    | false =>
      rw [q] at e
      exact al_lookup_none h e
def putD (f : Str) (d : Dv) : List (Str × Dv) → List (Str × Dv)
  | [] => [(f, d)]
  | (g, e) :: r => if g = f then (g, d) :: r else (g, e) :: putD f d r
theorem putD_rep {F : Hp} {f : Str} {d : Dv} {v : V} (r : d.rep F v) : ∀ {fs : List (Str × Dv)} {us : List (Str × V)}, RepF F fs us → RepF F (putD f d fs) (putF f v us)
  | _, _, .nil => .cons ⟨rfl, r⟩ .nil
  | (g, d') :: fs, (g', b) :: us, .cons r' h => by
    obtain ⟨r1, r2⟩ := r'
    simp only at r1 r2
    subst r1
    unfold putD putF
    by_cases q : g = f
    · rw [if_pos q, if_pos q]
      exact .cons ⟨rfl, r⟩ h
    · rw [if_neg q, if_neg q]
      exact .cons ⟨rfl, r2⟩ (putD_rep r h)
theorem s_fld {f : Str} {C : Addr} {oa : Option Addr} {fs : List (Str × Dv)} (h : Den te Γ t x Γ1) (e1 : Γ1[i]? = some (.obj oa C fs)) (c : Cls K C) (n : NoAttr K C f) (hl : fs.length < 1000) (k : OK Z (Γ1.set i (.obj oa C (putD f ⟨t, x⟩ fs))) D.nx) : OK Z Γ (sFld K (tVar i) te f D) := fun F σ H hh => by
  refine h Z F σ H hh _ fun v F1 H1 h1 p r => ?_
  obtain ⟨a, h1', ⟨n1, ad, dx, us, hd, hu, ru⟩, o1⟩ := h1.owned e1 rfl
  exact ⟨_, h1', a, C, dx, us, rfl, hu, c, n, by rw [← ru.len]; exact hl, k F1 _ _ (h1.mut (s := .obj oa C (putD f ⟨t, x⟩ fs)) o1 ⟨n1, ad, dx, _, hd, upd_same, putD_rep (d := ⟨t, x⟩) r ru⟩)⟩
/-! ### loops: G gives the data by the state, I what holds of the turn and the state -/
def LoopAt {S : Type} (Z : En) (G : S → List Slot) (I : Nat → S → Prop) (i : Nat) : L2.St → Hp → Prop := fun σ H => ∃ s F, I i s ∧ Holds Z (G s) F σ H
theorem s_next {S : Type} {G : S → List Slot} {I : Nat → S → Prop} {n : Nat} (s : S) (hi : I n s) (e : Wk Γ (G s)) : OK Z Γ (LoopAt Z G I n) := fun F σ H hh => ⟨s, F, hi, hh.weak e⟩
/-- over a frozen list; the body is shown under any lasting fact more -/
theorem s_forF {S : Type} {wl : TE} {xs : List α} (s0 : S) (G : S → List Slot) (I : Nat → S → Prop) (h : Den wl Γ (tList t) xs Γ1) (h0 : I 0 s0) (e0 : Wk Γ1 (G s0))
    (hs : ∀ Z' : En, (∀ {Γ F σ H}, Holds Z' Γ F σ H → Holds Z Γ F σ H) → ∀ n x s, xs[n]? = some x → I n s → OK Z' ((G s).set j (.val ⟨t, x⟩)) (s1 { D with nx := LoopAt Z' G I (n + 1), ct := LoopAt Z' G I (n + 1), bk := D.nx }))
    (hd : ∀ s, I xs.length s → OK Z (G s) D.nx) : OK Z Γ (tFor (iList K wl) (gName j) s1 D) := fun F σ H hh => by
  refine h Z F σ H hh _ fun v F1 H1 h1 p r => ?_
  obtain ⟨a, vs, rfl, e, rr⟩ := r
  have pm : ∀ {F F' : Hp}, Ex F F' → (F a = some (.lst vs) ∧ Al (fun x v => t.rep F v x) xs vs) → (F' a = some (.lst vs) ∧ Al (fun x v => t.rep F' v x) xs vs) := fun e h => ⟨e _ _ h.1, h.2.map fun _ _ z => t.mono e z⟩
  refine ⟨a, rfl, ⟨vs, sq_of (h1.fh _ _ e)⟩, for_list (K := K) (a := a) (xs := vs) (LoopAt (Z.more _ pm) G I) ⟨s0, F1, h0, (h1.weak e0).more ⟨e, rr⟩⟩ ?_ ?_ ?_⟩
  · rintro n σ' H' _ ⟨s, F', _, hs'⟩
    exact sq_of (hs'.fh _ _ hs'.pp.2.1)
  · rintro n x σ' H' hx ⟨s, F', hi, hs'⟩
    obtain ⟨y, hy, ry⟩ := hs'.pp.2.2.getR hx
    exact hs (Z.more _ pm) (fun h => h.less) n y s hy hi F' _ H' (hs'.set j ry)
  · rintro σ' H' ⟨s, F', hi, hs'⟩
    rw [← rr.len] at hi
    exact hd s hi F' σ' H' hs'.less
theorem s_forT {S : Type} {wl : TE} {xs : List α} (s0 : S) (G : S → List Slot) (I : Nat → S → Prop) (h : Den wl Γ (tTupl t) xs Γ1) (h0 : I 0 s0) (e0 : Wk Γ1 (G s0))
    (hs : ∀ Z' : En, (∀ {Γ F σ H}, Holds Z' Γ F σ H → Holds Z Γ F σ H) → ∀ n x s, xs[n]? = some x → I n s → OK Z' ((G s).set j (.val ⟨t, x⟩)) (s1 { D with nx := LoopAt Z' G I (n + 1), ct := LoopAt Z' G I (n + 1), bk := D.nx }))
    (hd : ∀ s, I xs.length s → OK Z (G s) D.nx) : OK Z Γ (tFor (iTup K wl) (gName j) s1 D) := fun F σ H hh => by
  refine h Z F σ H hh _ fun v F1 H1 h1 p r => ?_
  obtain ⟨a, vs, rfl, e, rr⟩ := r
  have pm : ∀ {F F' : Hp}, Ex F F' → (F a = some (.tup vs) ∧ Al (fun x v => t.rep F v x) xs vs) → (F' a = some (.tup vs) ∧ Al (fun x v => t.rep F' v x) xs vs) := fun e h => ⟨e _ _ h.1, h.2.map fun _ _ z => t.mono e z⟩
  refine ⟨a, rfl, ⟨vs, st_of (h1.fh _ _ e)⟩, for_tup (K := K) (a := a) (xs := vs) (LoopAt (Z.more _ pm) G I) ⟨s0, F1, h0, (h1.weak e0).more ⟨e, rr⟩⟩ ?_ ?_ ?_⟩
  · rintro n σ' H' _ ⟨s, F', _, hs'⟩
    exact st_of (hs'.fh _ _ hs'.pp.2.1)
  · rintro n x σ' H' hx ⟨s, F', hi, hs'⟩
    obtain ⟨y, hy, ry⟩ := hs'.pp.2.2.getR hx
    exact hs (Z.more _ pm) (fun h => h.less) n y s hy hi F' _ H' (hs'.set j ry)
  · rintro σ' H' ⟨s, F', hi, hs'⟩
    rw [← rr.len] at hi
    exact hd s hi F' σ' H' hs'.less
/-- over range(n), range(lo, n) -/
theorem s_forR {S : Type} {ta : TA} {n : Int} (s0 : S) (G : S → List Slot) (I : Nat → S → Prop) (h : DenA ta Γ [⟨tInt, n⟩] Γ1) (hn : n ≤ 1000000) (hm : -1000000 ≤ n) (h0 : I 0 s0) (e0 : Wk Γ1 (G s0))
    (hs : ∀ (k : Nat) s, (k : Int) < n → I k s → OK Z ((G s).set j (.val ⟨tInt, (k : Int)⟩)) (s1 { D with nx := LoopAt Z G I (k + 1), ct := LoopAt Z G I (k + 1), bk := D.nx }))
    (hd : ∀ s, I n.toNat s → OK Z (G s) D.nx) : OK Z Γ (tFor (iRng1 ta) (gName j) s1 D) := fun F σ H hh => by
  refine h Z F σ H hh _ fun vs F1 H1 h1 p r => ?_
  cases r with
  | cons r r' =>
    cases r'
    cases r
    refine ⟨n, rfl, by omega, by omega, for_range (lo := 0) (n := n.toNat) (LoopAt Z G I) ⟨s0, F1, h0, h1.weak e0⟩ ?_ ?_⟩
    · rintro k σ' H' hk ⟨s, F', hi, hs'⟩
      have e0 : (0 : Int) + (k : Int) = (k : Int) := Int.zero_add _
      rw [e0]
      exact hs k s (by omega) hi F' _ H' (hs'.set j rfl)
    · rintro σ' H' ⟨s, F', hi, hs'⟩
      exact hd s hi F' σ' H' hs'
theorem s_forR2 {S : Type} {ta : TA} {lo n : Int} (s0 : S) (G : S → List Slot) (I : Nat → S → Prop) (h : DenA ta Γ [⟨tInt, lo⟩, ⟨tInt, n⟩] Γ1) (hn : n ≤ 1000000) (hm : -1000000 ≤ n) (hn1 : lo ≤ 1000000) (hm1 : -1000000 ≤ lo) (h0 : I 0 s0) (e0 : Wk Γ1 (G s0))
    (hs : ∀ (k : Nat) s, lo + (k : Int) < n → I k s → OK Z ((G s).set j (.val ⟨tInt, lo + (k : Int)⟩)) (s1 { D with nx := LoopAt Z G I (k + 1), ct := LoopAt Z G I (k + 1), bk := D.nx }))
    (hd : ∀ s, I (n - lo).toNat s → OK Z (G s) D.nx) : OK Z Γ (tFor (iRng2 ta) (gName j) s1 D) := fun F σ H hh => by
  refine h Z F σ H hh _ fun vs F1 H1 h1 p r => ?_
  cases r with
  | cons r r' =>
    cases r' with
    | cons r2 r3 =>
      cases r3
      cases r
      cases r2
      refine ⟨lo, n, rfl, ⟨by omega, by omega, by omega, by omega⟩, for_range (lo := lo) (n := (n - lo).toNat) (LoopAt Z G I) ⟨s0, F1, h0, h1.weak e0⟩ ?_ ?_⟩
      · rintro k σ' H' hk ⟨s, F', hi, hs'⟩
        exact hs k s (by omega) hi F' _ H' (hs'.set j rfl)
      · rintro σ' H' ⟨s, F', hi, hs'⟩
        exact hd s hi F' σ' H' hs'
/-- while, m falls -/
theorem s_while {S : Type} (s0 : S) (G : S → List Slot) (I : S → Prop) (m : S → Nat) (h0 : I s0) (e0 : Wk Γ (G s0))
    (hs : ∀ s, I s → ∃ b Γ2, DenT tt (G s) b Γ2 ∧ (b = true → OK Z Γ2 (s1 { D with nx := fun σ H => ∃ s' F, I s' ∧ m s' < m s ∧ Holds Z (G s') F σ H, ct := fun σ H => ∃ s' F, I s' ∧ m s' < m s ∧ Holds Z (G s') F σ H, bk := D.nx })) ∧ (b = false → OK Z Γ2 D.nx)) : OK Z Γ (tWhile tt s1 D) := fun F σ H hh => by
  refine ⟨fun k σ' H' => ∃ s F', k = m s ∧ I s ∧ Holds Z (G s) F' σ' H', ⟨m s0, s0, F, rfl, h0, hh.weak e0⟩, ?_⟩
  rintro k σ' H' ⟨s, F', rfl, hi, h1⟩
  obtain ⟨b, Γ2, hb, ht, hf⟩ := hs s hi
  refine hb Z F' σ' H' h1 _ fun F2 H2 h2 p2 => ?_
  cases b with
  | true => exact ⟨_, fun σ3 H3 ⟨s', F3, i3, l3, h3⟩ => ⟨m s', l3, s', F3, rfl, i3, h3⟩, ht rfl F2 σ' H2 h2⟩
  | false => exact hf rfl F2 σ' H2 h2
/-! ### comprehensions: G gives the data by the turn, A the list so far -/
theorem wipe1 (σ : L2.St) (j : Nat) (x : V) : wipe ((wipe σ [j]).set j (some x)) [j] = wipe σ [j] := by
  show ((σ.set j none).set j (some x)).set j none = σ.set j none
  rw [List.set_set, List.set_set]
theorem set_get_ne {δ : Type _} {xs : List δ} {i j : Nat} {a : δ} (h : i ≠ j) : (xs.set j a)[i]? = xs[i]? := List.getElem?_set_ne fun e => h e.symm
theorem Holds.inC {Z : En} {Γ : List Slot} {F H : Hp} {σ : L2.St} {v : V} {d : Dv} (h : Holds Z Γ F σ H) (e : Γ[j]? = some .any) (r : d.rep F v) : Holds Z (Γ.set j (.val d)) F ((wipe σ [j]).set j (some v)) H := by
  have h1 : Holds Z Γ F (wipe σ [j]) H := h.other (by rw [wipe_length, h.len]) fun i s q => by
    by_cases z : i = j
    · subst z
      rw [e] at q
      cases q
      exact .inl rfl
    · exact .inr ⟨q, set_get_ne z⟩
  exact h1.set j r
theorem Holds.outC {Z : En} {Γ : List Slot} {F H : Hp} {σ : L2.St} {v : V} {d : Dv} (h : Holds Z (Γ.set j (.val d)) F ((wipe σ [j]).set j (some v)) H) (e : Γ[j]? = some .any) : Holds Z Γ F σ H :=
  h.other (by have := h.len; rw [List.length_set, List.length_set, wipe_length] at this; exact this) fun i s q => by
    by_cases z : i = j
    · subst z
      rw [e] at q
      cases q
      exact .inl rfl
    · refine .inr ⟨?_, ?_⟩
      · rw [set_get_ne z]
        exact q
      · rw [set_get_ne z]
        exact (set_get_ne z).symm
theorem ownC {Γ : List Slot} {σ : L2.St} {v : V} {d : Dv} {i : Nat} {a : Addr} (w : OwnAt (Γ.set j (.val d)) ((wipe σ [j]).set j (some v)) i a) : OwnAt Γ σ i a := by
  obtain ⟨⟨s, e, o⟩, e2⟩ := w
  by_cases z : i = j
  · subst z
    by_cases lt : i < Γ.length
    · rw [List.getElem?_set_self lt] at e
      cases e
      cases o
    · rw [List.getElem?_eq_none (by rw [List.length_set]; omega)] at e
      cases e
  · rw [set_get_ne z] at e e2
    have e3 : (wipe σ [j])[i]? = σ[i]? := set_get_ne z
    rw [e3] at e2
    exact ⟨⟨s, e, o⟩, e2⟩
theorem ownC' {Γ : List Slot} {σ : L2.St} {v : V} {d : Dv} {i : Nat} {a : Addr} (e0 : Γ[j]? = some .any) (w : OwnAt Γ σ i a) : OwnAt (Γ.set j (.val d)) ((wipe σ [j]).set j (some v)) i a := by
  obtain ⟨⟨s, e, o⟩, e2⟩ := w
  by_cases z : i = j
  · subst z
    rw [e0] at e
    cases e
    cases o
  · have e3 : (wipe σ [j])[i]? = σ[i]? := set_get_ne z
    refine ⟨⟨s, ?_, o⟩, ?_⟩
    · rw [set_get_ne z]
      exact e
    · rw [set_get_ne z, e3]
      exact e2
/-- what a turn of a comprehension keeps -/
structure LcI {β : Type} (Z : En) (u : Ty β) (Γ0 Γ : List Slot) (A : List β) (σ : L2.St) (F0 H0 : Hp) (D : Addr) (n : Nat) (H' : Hp) : Prop where
  ex : ∃ F' acc, Holds Z Γ F' σ H' ∧ Pres Γ0 Γ σ F0 H0 F' H' ∧ F' D = none ∧ H' D = some (.lst acc) ∧ Al (fun y v => u.rep F' v y) A acc
  le : A.length ≤ n
theorem LcI.start {β : Type} {u : Ty β} {σ : L2.St} {F H : Hp} {p : Addr} (h : Holds Z Γ F σ H) (n : H p = none) : LcI Z u Γ Γ ([] : List β) σ F H p 0 (upd H p (.lst [])) :=
  have st := Step.open (o := .lst []) h.fh n
  ⟨⟨F, [], h.step st, Pres.step st, ex_none h.fh n, upd_same, .nil⟩, Nat.le_refl _⟩
theorem LcI.turn {β : Type} {u : Ty β} {σ : L2.St} {F0 H0 H' : Hp} {p : Addr} {n : Nat} {A A' : List β} {d : Dv} {v : V} {Z0 : En} (h00 : Holds Z0 Γ F0 σ H0) (np : H0 p = none) (nz : Z.H p = none) (c : LcI Z u Γ Γ1 A σ F0 H0 p n H') (hn : n < 50000) (e1 : Γ1[j]? = some .any) (e3 : Γ3[j]? = some .any)
    (r : ∀ F', Z.P F' → d.rep F' v)
    (hs : ∃ b, DenT tt (Γ1.set j (.val d)) b Γ2 ∧ (b = true → ∃ y, Den te Γ2 u y (Γ3.set j (.val d)) ∧ A' = A ++ [y]) ∧ (b = false → Γ2 = Γ3.set j (.val d) ∧ A' = A)) :
    tt ((wipe σ [j]).set j (some v)) H' fun b H3 => if b = true then te ((wipe σ [j]).set j (some v)) H3 fun y H4 => ∃ acc, H4 p = some (.lst acc) ∧ acc.length < sizeLine ∧ LcI Z u Γ Γ3 A' σ F0 H0 p (n + 1) (upd H4 p (.lst (acc ++ [y]))) else LcI Z u Γ Γ3 A' σ F0 H0 p (n + 1) H3 := by
  obtain ⟨⟨F', acc, h, pr, fp, hp, al⟩, le⟩ := c
  obtain ⟨b, ht, hy, hf⟩ := hs
  have hc := h.inC e1 (r F' h.pp)
  have no1 : ∀ i, ¬ OwnAt (Γ1.set j (.val d)) ((wipe σ [j]).set j (some v)) i p := fun i w => h00.notOwn np i (pr.ow i p (ownC w))
  have conv : ∀ {Γa Γb : List Slot} {Fa Ha Fb Hb : Hp}, Pres (Γa.set j (.val d)) (Γb.set j (.val d)) ((wipe σ [j]).set j (some v)) Fa Ha Fb Hb → Γa[j]? = some .any → Γb[j]? = some .any → Pres Γa Γb σ Fa Ha Fb Hb := fun k ea eb =>
    ⟨k.ff, fun b o hb n no => k.keep b o hb n fun i w => no i (ownC w), fun i b w => ownC (k.ow i b (ownC' eb w)), k.th⟩
  refine ht Z F' _ H' hc _ fun F3 H3 h3 p3 => ?_
  obtain ⟨fp3, hp3⟩ := p3.keep p _ hp fp no1
  cases b with
  | true =>
    obtain ⟨y, hden, eA⟩ := hy rfl
    show te ((wipe σ [j]).set j (some v)) H3 fun y H4 => ∃ acc, H4 p = some (.lst acc) ∧ acc.length < sizeLine ∧ LcI Z u Γ Γ3 A' σ F0 H0 p (n + 1) (upd H4 p (.lst (acc ++ [y])))
    refine hden Z F3 _ H3 h3 _ fun vy F4 H4 h4 p4 ry => ?_
    have no3 : ∀ i, ¬ OwnAt Γ2 ((wipe σ [j]).set j (some v)) i p := fun i w => no1 i (p3.ow i p w)
    obtain ⟨fp4, hp4⟩ := p4.keep p _ hp3 fp3 no3
    have hout : Holds Z Γ3 F4 σ H4 := h4.outC e3
    have pt : Pres Γ Γ3 σ F0 H0 F4 H4 := pr.trans (conv (p3.trans p4) e1 e3)
    have no4 : ∀ i, ¬ OwnAt Γ3 σ i p := fun i w => h00.notOwn np i (pt.ow i p w)
    refine ⟨acc, hp4, sz_lt (by rw [← al.len]; omega), ⟨⟨F4, acc ++ [vy], hout.poke nz no4 fp4, ⟨pt.ff, fun b o hb n no => ?_, pt.ow, fun b o hb => ?_⟩, fp4, upd_same, ?_⟩, ?_⟩⟩
    · have zz : b ≠ p := ne_of_none hb np
      rw [upd_ne zz]
      exact pt.keep b o hb n no
    · have zz : b ≠ p := ne_of_none hb np
      rw [upd_ne zz]
      exact pt.th b o hb
    · rw [eA]
      exact (al.map fun _ _ z => u.mono (p3.ff.trans p4.ff) z).app (.cons ry .nil)
    · rw [eA, List.length_append, List.length_singleton]
      omega
  | false =>
    obtain ⟨eG, eA⟩ := hf rfl
    show LcI Z u Γ Γ3 A' σ F0 H0 p (n + 1) H3
    subst eG
    exact ⟨⟨F3, acc, h3.outC e3, pr.trans (conv p3 e1 e3), fp3, hp3, by rw [eA]; exact al.map fun _ _ z => u.mono p3.ff z⟩, by rw [eA]; omega⟩
/-- [e for x in xs if t], xs frozen -/
theorem dn_lcL {β : Type} {u : Ty β} {tl : TE} {xs : List α} (G : Nat → List Slot) (A : Nat → List β) (h : Den tl Γ (tList t) xs (G 0)) (hf : ∀ n, (G n)[j]? = some .any) (hl : xs.length < 50000) (h0 : A 0 = [])
    (hs : ∀ n x, xs[n]? = some x → ∃ b Γ2, DenT tt ((G n).set j (.val ⟨t, x⟩)) b Γ2 ∧ (b = true → ∃ y, Den te Γ2 u y ((G (n + 1)).set j (.val ⟨t, x⟩)) ∧ A (n + 1) = A n ++ [y]) ∧ (b = false → Γ2 = (G (n + 1)).set j (.val ⟨t, x⟩) ∧ A (n + 1) = A n)) :
    DenN (tLc (iList K tl) (gName j) tt te [j]) Γ ((A xs.length).map fun y => ⟨u, y⟩) (G xs.length) := fun Z F σ H hh Q q => by
  refine h Z F σ H hh _ fun v F1 H1 h1 p1 r => ?_
  obtain ⟨a, vs, rfl, e, rr⟩ := r
  have pm : ∀ {F F' : Hp}, Ex F F' → (F a = some (.lst vs) ∧ Al (fun x v => t.rep F v x) xs vs) → (F' a = some (.lst vs) ∧ Al (fun x v => t.rep F' v x) xs vs) := fun e h => ⟨e _ _ h.1, h.2.map fun _ _ z => t.mono e z⟩
  refine ⟨a, rfl, ⟨vs, sq_of (h1.fh _ _ e)⟩, fun p np => lc_list (K := K) (a := a) (xs := vs) (fun n H' => LcI (Z.more _ pm) u (G 0) (G n) (A n) σ F1 H1 p n H') ?_ ?_ ?_ ?_⟩
  · rw [h0]
    exact LcI.start (h1.more ⟨e, rr⟩) np
  · rintro n H' _ ⟨⟨F', acc, hs', _⟩, _⟩
    exact sq_of (hs'.fh _ _ hs'.pp.2.1)
  · intro n x H' hx c
    obtain ⟨y, hy, ry⟩ := rr.getR hx
    have hn : n < 50000 := by
      have := (List.getElem?_eq_some_iff.mp hy).1
      omega
    obtain ⟨b, Γ2, hb⟩ := hs n y hy
    refine ⟨wipe1 σ j x, LcI.turn (d := ⟨t, y⟩) h1 np (h1.fresh np) c hn (hf n) (hf (n + 1)) (fun F' pp => ?_) ⟨b, hb⟩⟩
    obtain ⟨v', hv', rv'⟩ := pp.2.2.get hy
    rw [hx] at hv'
    cases hv'
    exact rv'
  · rintro H' c
    rw [← rr.len] at c
    obtain ⟨⟨F', acc, hs', pr, fp, hp, al⟩, _⟩ := c
    exact q p acc F' H' hs'.less (p1.trans pr) (p1.new np) fp hp (al_unmap al)
theorem dn_lcT {β : Type} {u : Ty β} {tl : TE} {xs : List α} (G : Nat → List Slot) (A : Nat → List β) (h : Den tl Γ (tTupl t) xs (G 0)) (hf : ∀ n, (G n)[j]? = some .any) (hl : xs.length < 50000) (h0 : A 0 = [])
    (hs : ∀ n x, xs[n]? = some x → ∃ b Γ2, DenT tt ((G n).set j (.val ⟨t, x⟩)) b Γ2 ∧ (b = true → ∃ y, Den te Γ2 u y ((G (n + 1)).set j (.val ⟨t, x⟩)) ∧ A (n + 1) = A n ++ [y]) ∧ (b = false → Γ2 = (G (n + 1)).set j (.val ⟨t, x⟩) ∧ A (n + 1) = A n)) :
    DenN (tLc (iTup K tl) (gName j) tt te [j]) Γ ((A xs.length).map fun y => ⟨u, y⟩) (G xs.length) := fun Z F σ H hh Q q => by
  refine h Z F σ H hh _ fun v F1 H1 h1 p1 r => ?_
  obtain ⟨a, vs, rfl, e, rr⟩ := r
  have pm : ∀ {F F' : Hp}, Ex F F' → (F a = some (.tup vs) ∧ Al (fun x v => t.rep F v x) xs vs) → (F' a = some (.tup vs) ∧ Al (fun x v => t.rep F' v x) xs vs) := fun e h => ⟨e _ _ h.1, h.2.map fun _ _ z => t.mono e z⟩
  refine ⟨a, rfl, ⟨vs, st_of (h1.fh _ _ e)⟩, fun p np => lc_tup (K := K) (a := a) (xs := vs) (fun n H' => LcI (Z.more _ pm) u (G 0) (G n) (A n) σ F1 H1 p n H') ?_ ?_ ?_ ?_⟩
  · rw [h0]
    exact LcI.start (h1.more ⟨e, rr⟩) np
  · rintro n H' _ ⟨⟨F', acc, hs', _⟩, _⟩
    exact st_of (hs'.fh _ _ hs'.pp.2.1)
  · intro n x H' hx c
    obtain ⟨y, hy, ry⟩ := rr.getR hx
    have hn : n < 50000 := by
      have := (List.getElem?_eq_some_iff.mp hy).1
      omega
    obtain ⟨b, Γ2, hb⟩ := hs n y hy
    refine ⟨wipe1 σ j x, LcI.turn (d := ⟨t, y⟩) h1 np (h1.fresh np) c hn (hf n) (hf (n + 1)) (fun F' pp => ?_) ⟨b, hb⟩⟩
    obtain ⟨v', hv', rv'⟩ := pp.2.2.get hy
    rw [hx] at hv'
    cases hv'
    exact rv'
  · rintro H' c
    rw [← rr.len] at c
    obtain ⟨⟨F', acc, hs', pr, fp, hp, al⟩, _⟩ := c
    exact q p acc F' H' hs'.less (p1.trans pr) (p1.new np) fp hp (al_unmap al)
theorem dn_lcR {β : Type} {u : Ty β} {ta : TA} {m : Int} (G : Nat → List Slot) (A : Nat → List β) (h : DenA ta Γ [⟨tInt, m⟩] (G 0)) (hf : ∀ n, (G n)[j]? = some .any) (hl : m < 50000) (hm : -50000 ≤ m) (h0 : A 0 = [])
    (hs : ∀ (n : Nat), (n : Int) < m → ∃ b Γ2, DenT tt ((G n).set j (.val ⟨tInt, (n : Int)⟩)) b Γ2 ∧ (b = true → ∃ y, Den te Γ2 u y ((G (n + 1)).set j (.val ⟨tInt, (n : Int)⟩)) ∧ A (n + 1) = A n ++ [y]) ∧ (b = false → Γ2 = (G (n + 1)).set j (.val ⟨tInt, (n : Int)⟩) ∧ A (n + 1) = A n)) :
    DenN (tLc (iRng1 ta) (gName j) tt te [j]) Γ ((A m.toNat).map fun y => ⟨u, y⟩) (G m.toNat) := fun Z F σ H hh Q q => by
  refine h Z F σ H hh _ fun vs F1 H1 h1 p1 r => ?_
  cases r with
  | cons r r' =>
    cases r'
    cases r
    refine ⟨m, rfl, by omega, by omega, fun p np => lc_range (lo := 0) (n := m.toNat) (fun n H' => LcI Z u (G 0) (G n) (A n) σ F1 H1 p n H') ?_ ?_ ?_⟩
    · rw [h0]
      exact LcI.start h1 np
    · intro n H' hn c
      have e0 : (0 : Int) + (n : Int) = (n : Int) := Int.zero_add _
      rw [e0]
      obtain ⟨b, Γ2, hb⟩ := hs n (by omega)
      exact ⟨wipe1 σ j _, LcI.turn (d := ⟨tInt, (n : Int)⟩) h1 np (h1.fresh np) c (by omega) (hf n) (hf (n + 1)) (fun F' _ => rfl) ⟨b, hb⟩⟩
    · rintro H' ⟨⟨F', acc, hs', pr, fp, hp, al⟩, _⟩
      exact q p acc F' H' hs' (p1.trans pr) (p1.new np) fp hp (al_unmap al)
/-! ### what is given back, by the promise's kind -/
theorem s_retP {F0 H0 : Hp} {Q : VK} {d : Dv} (hZ : Z.F = F0 ∧ Z.H = H0 ∧ Z.O = NoO) (hD : D.rt = Q) (q : ∀ v F' H', Step NoO F0 H0 F' H' → d.rep F' v → Q v H') (h : Den te Γ t x Γ1) (e : d = ⟨t, x⟩) : OK Z Γ (tRet te D) :=
  s_ret h fun F σ H v hh r => by
    obtain ⟨z1, z2, z3⟩ := hZ
    rw [hD]
    refine q v F H ?_ (by rw [e]; exact r)
    rw [← z1, ← z2, ← z3]
    exact hh.st
theorem s_retM {F0 H0 : Hp} {Q : VK} {d : Dv} {a : Addr} {ps' : List Dv} (hZ : Z.F = F0 ∧ Z.H = H0 ∧ Z.O = fun b => b = a) (hD : D.rt = Q)
    (q : ∀ v F' H' us', Step (fun b => b = a) F0 H0 F' H' → F' a = none → H' a = some (.lst us') → Reps F' ps' us' → d.rep F' v → Q v H') (h : Den te Γ t x Γ1) (e0 : Γ1[0]? = some (.own (some a) ps')) (e : d = ⟨t, x⟩) : OK Z Γ (tRet te D) :=
  s_ret h fun F σ H v hh r => by
    obtain ⟨z1, z2, z3⟩ := hZ
    obtain ⟨b, h1, ⟨n1, ad, us, hu, ru⟩, _⟩ := hh.owned e0 rfl
    cases ad a rfl
    rw [hD]
    refine q v F H us ?_ n1 hu ru (by rw [e]; exact r)
    rw [← z1, ← z2, ← z3]
    exact hh.st
theorem s_retNP {F0 H0 : Hp} {Q : VK} {r : List Dv} (hZ : Z.F = F0 ∧ Z.H = H0 ∧ Z.O = NoO) (hD : D.rt = Q) (q : ∀ p us F' H', Step NoO F0 H0 F' H' → H0 p = none → F' p = none → H' p = some (.lst us) → Reps F' r us → Q (.ref p) H') (h : DenN te Γ ds Γ1) (e : r = ds) : OK Z Γ (tRet te D) :=
  s_retN h fun F σ H p vs hh np fp hp rr => by
    obtain ⟨z1, z2, z3⟩ := hZ
    rw [hD]
    refine q p vs F H ?_ (by rw [← z2]; exact np) fp hp (by rw [e]; exact rr)
    rw [← z1, ← z2, ← z3]
    exact hh.st
/-- the end of an __init__ -/
theorem s_endI {P : L2.St → Hp → Prop} {F0 H0 : Hp} {Q : VK} {a C : Addr} {fs : List (Str × Dv)} (hZ : Z.F = F0 ∧ Z.H = H0 ∧ Z.O = fun b => b = a) (hP : ∀ σ H, Q .non H → P σ H)
    (q : ∀ F' H' dx' us, Step (fun b => b = a) F0 H0 F' H' → F' a = none → F' dx' = some (.own a) → H' a = some (.ins C dx' us) → RepF F' fs us → Q .non H') (e0 : Γ[0]? = some (.obj (some a) C fs)) : OK Z Γ P := fun F σ H hh => by
  obtain ⟨z1, z2, z3⟩ := hZ
  obtain ⟨b, h1, ⟨n1, ad, dx', us, hd, hu, ru⟩, _⟩ := hh.owned e0 rfl
  cases ad a rfl
  refine hP σ H (q F H dx' us ?_ n1 hd hu ru)
  rw [← z1, ← z2, ← z3]
  exact hh.st
end
end DL
namespace DL
open PySem L2 Evl
section
variable {α β γ : Type} {t : Ty α} {u : Ty β} {w : Ty γ} {x y z : α} {Z : En} {Γ Γ' Γ1 Γ2 Γ3 : List Slot} {ta tb tc te : TE} {ds es : List Dv} {K : PySem.W.Frag}
/-! ### some built-ins -/
theorem on_int {i : Int} : OpN (fun xs H Q => (∃ i, xs = [.int i] ∧ Q (.int i) H) ∨ ∃ k, xs = [.bl k] ∧ Q (.int (if k then 1 else 0)) H) [⟨tInt, i⟩] tInt i := fun F H vs e r Q q => by
  cases r with
  | cons r r' =>
    cases r'
    cases r
    exact .inl ⟨i, rfl, q _ F H (Step.refl e) rfl⟩
def iabs (i : Int) : Int := if i < 0 then -i else i
theorem on_abs {i : Int} : OpN (fun xs H Q => ∃ i, xs = [.int i] ∧ Q (.int (if i < 0 then -i else i)) H) [⟨tInt, i⟩] tInt (iabs i) := fun F H vs e r Q q => by
  cases r with
  | cons r r' =>
    cases r'
    cases r
    exact ⟨i, rfl, q _ F H (Step.refl e) rfl⟩
theorem on_bool {i : Int} : OpN (fun xs H Q => (∃ i, xs = [.int i] ∧ Q (.bl (i != 0)) H) ∨ ∃ k, xs = [.bl k] ∧ Q (.bl k) H) [⟨tInt, i⟩] tBool (i != 0) := fun F H vs e r Q q => by
  cases r with
  | cons r r' =>
    cases r'
    cases r
    exact .inl ⟨i, rfl, q _ F H (Step.refl e) rfl⟩
def imax (i j : Int) : Int := if j > i then j else i
def imin (i j : Int) : Int := if j < i then j else i
theorem on_max {i j : Int} : OpN (fun xs H Q => ∃ i j, xs = [.int i, .int j] ∧ Q (.int (if j > i then j else i)) H) [⟨tInt, i⟩, ⟨tInt, j⟩] tInt (imax i j) := fun F H vs e r Q q => by
  cases r with
  | cons r r' =>
    cases r' with
    | cons r2 r3 =>
      cases r3
      cases r
      cases r2
      exact ⟨i, j, rfl, q _ F H (Step.refl e) rfl⟩
theorem on_min {i j : Int} : OpN (fun xs H Q => ∃ i j, xs = [.int i, .int j] ∧ Q (.int (if j < i then j else i)) H) [⟨tInt, i⟩, ⟨tInt, j⟩] tInt (imin i j) := fun F H vs e r Q q => by
  cases r with
  | cons r r' =>
    cases r' with
    | cons r2 r3 =>
      cases r3
      cases r
      cases r2
      exact ⟨i, j, rfl, q _ F H (Step.refl e) rfl⟩
theorem den_bits {i : Int} (h : Den ta Γ tInt i Γ1) : Den (tBits ta) Γ tInt ((Builtin.Int.intBits i : Nat) : Int) Γ1 := fun Z F σ H hh Q q => h Z F σ H hh _ fun v F' H' h' p r => ⟨i, r, q _ F' H' h' p rfl⟩
/-! ### short lists -/
theorem dn_lst0 : DenN (tLst tNil) Γ (([] : List α).map fun x => ⟨t, x⟩) Γ := dn_lst da_nil (Nat.zero_le _)
theorem dn_lst1 (h : Den ta Γ t x Γ1) : DenN (tLst (tCons ta tNil)) Γ ([x].map fun x => ⟨t, x⟩) Γ1 := dn_lst (da_cons h da_nil) (by show 1 ≤ 100000; decide)
theorem dn_lst2 (h : Den ta Γ t x Γ1) (h2 : Den tb Γ1 t y Γ2) : DenN (tLst (tCons ta (tCons tb tNil))) Γ ([x, y].map fun x => ⟨t, x⟩) Γ2 := dn_lst (da_cons h (da_cons h2 da_nil)) (by show 2 ≤ 100000; decide)
theorem dn_lst3 (h : Den ta Γ t x Γ1) (h2 : Den tb Γ1 t y Γ2) (h3 : Den tc Γ2 t z Γ3) : DenN (tLst (tCons ta (tCons tb (tCons tc tNil)))) Γ ([x, y, z].map fun x => ⟨t, x⟩) Γ3 := dn_lst (da_cons h (da_cons h2 (da_cons h3 da_nil))) (by show 3 ≤ 100000; decide)
/-! ### the script -/
def tScr (K : PySem.W.Frag) : Ty (List Int) := ⟨fun F v xs => ∃ a, v = .ref a ∧ SqL K F a (xs.map V.int), fun e ⟨a, h1, h2⟩ => ⟨a, h1, ex_l e h2⟩⟩
theorem s_forScr {S : Type} {wl : TE} {xs : List Int} {s1 : TS} {D : Ends} {j : Nat} (s0 : S) (G : S → List Slot) (I : Nat → S → Prop) (h : Den wl Γ (tScr K) xs Γ1) (h0 : I 0 s0) (e0 : Wk Γ1 (G s0))
    (hs : ∀ Z' : En, (∀ {Γ F σ H}, Holds Z' Γ F σ H → Holds Z Γ F σ H) → ∀ n x s, xs[n]? = some x → I n s → OK Z' ((G s).set j (.val ⟨tInt, x⟩)) (s1 { D with nx := LoopAt Z' G I (n + 1), ct := LoopAt Z' G I (n + 1), bk := D.nx }))
    (hd : ∀ s, I xs.length s → OK Z (G s) D.nx) : OK Z Γ (tFor (iList K wl) (gName j) s1 D) := fun F σ H hh => by
  refine h Z F σ H hh _ fun v F1 H1 h1 p r => ?_
  obtain ⟨a, rfl, e⟩ := r
  have pm : ∀ {F F' : Hp}, Ex F F' → SqL K F a (xs.map V.int) → SqL K F' a (xs.map V.int) := fun e h => ex_l e h
  refine ⟨a, rfl, ⟨_, ex_l h1.fh e⟩, for_list (K := K) (a := a) (xs := xs.map V.int) (LoopAt (Z.more _ pm) G I) ⟨s0, F1, h0, (h1.weak e0).more e⟩ ?_ ?_ ?_⟩
  · rintro n σ' H' _ ⟨s, F', _, hs'⟩
    exact ex_l hs'.fh hs'.pp.2
  · rintro n x σ' H' hx ⟨s, F', hi, hs'⟩
    rw [List.getElem?_map] at hx
    cases q : xs[n]? with
    | none =>
      rw [q] at hx
      cases hx
    | some y =>
      rw [q] at hx
      cases hx
      exact hs (Z.more _ pm) (fun h => h.less) n y s q hi F' _ H' (hs'.set j rfl)
  · rintro σ' H' ⟨s, F', hi, hs'⟩
    rw [List.length_map] at hi
    exact hd s hi F' σ' H' hs'.less
end
end DL

set_option maxRecDepth 100000
/-! Own: operators, truth, abs, == of instances by their classes' own methods. -/
namespace L2
open PySem PySem.Spec PyProof.Rows
section
variable {X : Cx} {CX : CXT} {k : Nat} {f C : Addr} {fd : FuncData} {ps : List Str} {sp : Sp} {E : XK}
/-- the callee runs below, within the same frames -/
theorem run_at {A : Around} {pins : List (Addr × Obj)} {σ : St} {H : Hp} {s : Shared} {Q : VK} {us : List Value} {vs : List V} (hr : Room k A) (hfr : A.frames = X.A.frames) (F : FnOk X.prog X.w X.K X.mg X.base CX k f fd ps sp) (hb : Binds X.K fd ps []) (hx : Passes CX X E)
    (I : Inv X pins σ H s) (r : Vals vs us) (h : sp vs H Q E) : wpAny (model X.prog X.w) A (call (.ref f) us) (EP X pins σ Q) X.xe s := by
  have en : Env0 X.prog X.w X.K X.mg X.base A X.stack s H := by
    have e := I.env0
    exact ⟨by rw [hfr]; exact e.frames, e.mod, e.bs, e.bsz, e.funs, e.frf, e.hok, e.bare⟩
  have hl := F.len _ _ _ _ h
  have hb' := hb s us I.kIn (by rw [List.append_nil, ← r.length]; exact hl)
  rw [List.append_nil] at hb'
  refine wpAny_call (codeAny_mono (F.run A X.stack s H ⟨us, []⟩ us vs Q E hr en hb' r h) fun q s' hq => ?_)
  cases q with
  | error x => exact hx pins σ H s x s' I hq
  | ok fl =>
    cases fl with
    | ret u => exact I.after hq
    | next => exact False.elim hq
    | brk => exact False.elim hq
    | cont => exact False.elim hq
/-- the class C has the method nm at f -/
structure OwnM (K : PySem.W.Frag) (C : Addr) (nm : Str) (f : Addr) : Prop where
  at_ : PySem.W.findIn K (.ref C) nm = some (some (.ref f))
  fn : PySem.W.isFn K (Value.ref f) = true
/-- a binary operator's two slots -/
structure OwnB (K : PySem.W.Frag) (C : Addr) (nm : String) (f g : Addr) : Prop where
  l : OwnM K C (dunder nm) f
  r : OwnM K C (dunderR nm) g
  self : PySem.W.selfFirst K C = true
/-- how int and C stand to each other -/
structure OwnInt (K : PySem.W.Frag) (C : Addr) (nm : String) : Prop where
  l : ∃ fo, PySem.W.findIn K (.type "int") (dunder nm) = some fo
  r : ∃ ro, PySem.W.findIn K (.type "int") (dunderR nm) = some ro
  s1 : PySem.W.subIn K (.type "int") (.ref C) = some false
  s2 : PySem.W.subIn K (.ref C) (.type "int") = some false
theorem back_of {pins : List (Addr × Obj)} {σ : St} {Q : VK} {u : Value} {s : Shared} (h : EP X pins σ Q u s) : PySem.W.CmpBack (EP X pins σ Q) u s := by
  obtain ⟨v, H', I, r, q⟩ := h
  cases v with
  | non => cases (show u = Value.none from r); exact ⟨.non, H', I, rfl, q⟩
  | bl b => cases (show u = Value.bool b from r); exact ⟨.bl b, H', I, rfl, q⟩
  | int i => obtain ⟨t, e⟩ := (show ∃ t, u = Value.int i t from r); cases e; exact ⟨.int i, H', I, ⟨t, rfl⟩, q⟩
  | str i => obtain ⟨t, e⟩ := (show ∃ t, u = Value.str i t from r); cases e; exact ⟨.str i, H', I, ⟨t, rfl⟩, q⟩
  | byt i => obtain ⟨t, e⟩ := (show ∃ t, u = Value.bytes i t from r); cases e; exact ⟨.byt i, H', I, ⟨t, rfl⟩, q⟩
  | flt i => obtain ⟨t, e⟩ := (show ∃ t, u = Value.float i t from r); cases e; exact ⟨.flt i, H', I, ⟨t, rfl⟩, q⟩
  | ref a => cases (show u = Value.ref a from r); exact ⟨.ref a, H', I, rfl, q⟩
  | ty n => cases (show u = Value.type n from r); exact ⟨.ty n, H', I, rfl, q⟩
/-- x op y, both of the class C -/
def rOwn2 (C : Addr) (sp : Sp) (E : XK) : R2 := fun x y H Q => ∃ a b dx dy fs gs, x = .ref a ∧ y = .ref b ∧ H a = some (.ins C dx fs) ∧ H b = some (.ins C dy gs) ∧ sp [x, y] H Q E
theorem op_own2 {op : Operator} {g : Addr} (O : OwnB X.K C op.info.2 f g) (F : FnOk X.prog X.w X.K X.mg X.base CX k f fd ps sp) (hb : Binds X.K fd ps []) (hx : Passes CX X E) (hr : Room k X.A) : OpR X (binaryOp op) (rOwn2 C sp E) := by
  rintro pins s σ H x y v u Q I rx ry ⟨a, b, dx, dy, fs, gs, rfl, rfl, ha, hb', h⟩
  cases rx
  cases ry
  obtain ⟨mm, J, _⟩ := ins_get I.hok ha
  obtain ⟨mm', J', _⟩ := ins_get I.hok hb'
  obtain ⟨od, J, _⟩ := J.look
  obtain ⟨od2, J', _⟩ := J'.look
  obtain ⟨m, hF⟩ := I.fr
  exact PySem.W.binop_K hF I.ok.mod.kin J J'.type O.self O.l.at_ O.l.fn (thn (run_at hr rfl F hb hx I (show Vals [V.ref a, V.ref b] [Value.ref a, Value.ref b] from .cons rfl (.cons rfl .nil)) h) fun _ _ q => back_of q)
/-- x op i, i an int -/
def rOwnI (C : Addr) (sp : Sp) (E : XK) : R2 := fun x y H Q => ∃ a dx fs i, x = .ref a ∧ y = .int i ∧ H a = some (.ins C dx fs) ∧ sp [x, y] H Q E
theorem op_ownI {op : Operator} {g : Addr} (O : OwnB X.K C op.info.2 f g) (OI : OwnInt X.K C op.info.2) (F : FnOk X.prog X.w X.K X.mg X.base CX k f fd ps sp) (hb : Binds X.K fd ps []) (hx : Passes CX X E) (hr : Room k X.A) : OpR X (binaryOp op) (rOwnI C sp E) := by
  rintro pins s σ H x y v u Q I rx ry ⟨a, dx, fs, i, rfl, rfl, ha, h⟩
  cases rx
  obtain ⟨t, rfl⟩ := (show ∃ tk, u = Value.int i tk from ry)
  obtain ⟨mm, J, _⟩ := ins_get I.hok ha
  obtain ⟨od, J, _⟩ := J.look
  obtain ⟨m, hF⟩ := I.fr
  obtain ⟨fo, h1⟩ := OI.l
  obtain ⟨ro, h2⟩ := OI.r
  exact PySem.W.ksp_binT (T := "int") hF I.ok.mod.kin J rfl O.self O.l.at_ O.l.fn O.r.at_ (.inr ⟨_, rfl⟩) h1 h2 OI.s1 (thn (run_at hr rfl F hb hx I (show Vals [V.ref a, V.int i] [Value.ref a, Value.int i t] from .cons rfl (.cons ⟨t, rfl⟩ .nil)) h) fun _ _ q => back_of q)
/-- i op x, i an int: its own slot declines -/
def rOwnR (C : Addr) (sp : Sp) (E : XK) : R2 := fun x y H Q => ∃ a dx fs i, x = .int i ∧ y = .ref a ∧ H a = some (.ins C dx fs) ∧ sp [y, x] H Q E
/-- int's slot nm, which declines an instance -/
structure IntDecl (nm : String) (id : String) (B : Builtin) : Prop where
  fills : fillsNumberSlot (.type "int") nm = pure true
  slot : Slot "int" (dunder nm) id
  entry : entryFor table id = some B
  args : ∀ a b : Value, argsOk id ⟨[a, b], []⟩
  no : ∀ (P : Program) (w : World) (A : Around) (E : Value → Shared → Prop) (s : Shared) (i : Int) (t : Tok) (a : Addr) (o : Obj) (Q : Value → Shared → Prop), s.heap.get? a = some o → o.data = .plain → (∀ tk, Q .notImplemented { s with toks := tk }) →
    wpAny (model P w) A (B ⟨[.int i t, .ref a], []⟩) (fun fin s' => ∃ v, fin = .done (.ret v) ∧ Q v s') E s
end
theorem decl_bin {name : String} {f : Int → Int → Sem Fin} (P : Program) (w : World) (A : Around) (E : Value → Shared → Prop) (s : Shared) (i : Int) (t : Tok) (a : Addr) (o : Obj) (Q : Value → Shared → Prop) (h : s.heap.get? a = some o) (hd : o.data = .plain) (hq : ∀ tk, Q .notImplemented { s with toks := tk }) :
    wpAny (model P w) A (Builtin.Int.intBinary name f false ⟨[.int i t, .ref a], []⟩) (fun fin s' => ∃ v, fin = .done (.ret v) ∧ Q v s') E s := by
  obtain ⟨hp, gl, dr, tk, os⟩ := s
  have h' : hp.get? a = some o := h
  unfold Builtin.Int.intBinary
  wp_walk using wpAny_load' h'
  rw [hd]
  wp_walk
  exact ⟨_, rfl, hq tk⟩
theorem int_add_decl : IntDecl "add" "int.__add__" Builtin.«int.__add__» := ⟨PySem.F.fills_int_add, PySem.F.slot_int_add, PySem.F.entry_int_add, fun a b => PySem.F.args_int_add_2 a b, decl_bin⟩
theorem int_sub_decl : IntDecl "sub" "int.__sub__" Builtin.«int.__sub__» := ⟨PySem.F.fills_int_sub, PySem.F.slot_int_sub, PySem.F.entry_int_sub, fun a b => PySem.F.args_int_sub_2 a b, decl_bin⟩
theorem int_mul_decl : IntDecl "mul" "int.__mul__" Builtin.«int.__mul__» := ⟨PySem.F.fills_int_mul, PySem.F.slot_int_mul, PySem.F.entry_int_mul, fun a b => PySem.F.args_int_mul_2 a b, decl_bin⟩
section
variable {X : Cx} {CX : CXT} {k : Nat} {f C : Addr} {fd : FuncData} {ps : List Str} {sp : Sp} {E : XK}
theorem binop_refl {P : Program} {w : World} {A : Around} {E : Value → Shared → Prop} {s : Shared} {K : PySem.W.Frag} {C x g gl : Addr} {ox : Obj} {od : Option Obj} {op : Operator} {id : String} {B : Builtin} {i : Int} {t : Tok} {Q : Value → Shared → Prop}
    (X : K.In s.heap) (I : PySem.W.InstAt s.heap x ox C od) (hd : ox.data = .plain) (D : IntDecl op.info.2 id B) (O : OwnB K C op.info.2 gl g) (h2 : PySem.W.subIn K (.ref C) (.type "int") = some false)
    (h : ∀ tk, wpAny (model P w) A (call (.ref g) [.ref x, .int i t]) (PySem.W.CmpBack Q) E { s with toks := tk }) : wpAny (model P w) A (binaryOp op (.int i t) (.ref x)) Q E s := by
  obtain ⟨cd, rest, hcd, hm⟩ := PySem.W.ksp_first O.self
  rcases hi : op.info with ⟨sg, nm⟩
  rw [hi] at D O
  dsimp only at D O
  have hne : (Value.type "int" == Value.ref C) = false := Bool.eq_false_iff.mpr fun q => by cases beq_iff_eq.mp q
  simp only [binaryOp, hi]
  apply wpAny_holding
  apply wpAny_bind
  unfold binaryOp1
  refine wpAny_bind (wpAny_typeOf (typeIs_int s i t) (wpAny_bind (I.type.here (wpAny_bind (wpAny_of_eq D.fills ?_)))))
  simp only [if_false, Bool.false_eq_true, hne]
  refine wpAny_bind ((PySem.W.fills_K X hcd hm O.l.at_).here ?_)
  simp only [Bool.and_self, ↓reduceIte]
  refine wpAny_bind ((PySem.W.looks_subIn X h2).here ?_)
  have hpy : numberSlotInPython (.type "int") nm = pure false := rfl
  simp only [hpy, Bool.and_self, Bool.not_false, Bool.false_eq_true, pure_bind, if_true, if_false]
  refine wpAny_bind (wpAny_tryMethod_declines (typeIs_int s i t) D.slot (wpAny_call_entry D.slot (typeIs_int s i t) D.entry (D.no P w A.in1 E s i t x ox _ I.at_ hd fun tk => ⟨rfl, ?_⟩) (D.args _ _)))
  have X' : K.In ({ s with toks := tk } : Shared).heap := X
  have I' : PySem.W.InstAt ({ s with toks := tk } : Shared).heap x ox C od := I
  have one := PySem.W.ksp_try (M := model P w) (A := A) (E := E) (Q := Q) (s := { s with toks := tk }) X' I' O.r.at_ O.r.fn (h tk)
  refine wpAny_bind (wpAny_mono one (fun r s' hr' => ?_) fun _ _ e => e)
  obtain ⟨v, rfl, hq⟩ := hr'
  exact wpAny_bind (wpAny_rule (wpAny_pure (wpAny_pure hq)))
theorem op_ownR {op : Operator} {gl g : Addr} {id : String} {B : Builtin} (D : IntDecl op.info.2 id B) (O : OwnB X.K C op.info.2 gl g) (OI : OwnInt X.K C op.info.2) (F : FnOk X.prog X.w X.K X.mg X.base CX k g fd ps sp) (hb : Binds X.K fd ps []) (hx : Passes CX X E) (hr : Room k X.A) : OpR X (binaryOp op) (rOwnR C sp E) := by
  rintro pins s σ H x y v u Q I rx ry ⟨a, dx, fs, i, rfl, rfl, ha, h⟩
  cases ry
  obtain ⟨t, rfl⟩ := (show ∃ t, v = Value.int i t from rx)
  obtain ⟨mm, J, _⟩ := ins_get I.hok ha
  obtain ⟨od, J, _⟩ := J.look
  refine binop_refl I.kIn J rfl D O OI.s2 fun tk => ?_
  exact thn (run_at hr rfl F hb hx (I.tok tk) (show Vals [V.ref a, V.int i] [Value.ref a, Value.int i t] from .cons rfl (.cons ⟨t, rfl⟩ .nil)) h) fun _ _ q => back_of q
/-- -x -/
def rOwn1 (C : Addr) (sp : Sp) (E : XK) : V → Hp → VK → Prop := fun x H Q => ∃ a dx fs, x = .ref a ∧ H a = some (.ins C dx fs) ∧ sp [x] H Q E
theorem un_ownNeg (O : OwnM X.K C "__neg__" f) (F : FnOk X.prog X.w X.K X.mg X.base CX k f fd ps sp) (hb : Binds X.K fd ps []) (hx : Passes CX X E) (hr : Room k X.A) : UnR X (unaryOp .USub) (rOwn1 C sp E) := by
  rintro pins s σ H x v Q I rx ⟨a, dx, fs, rfl, ha, h⟩
  cases rx
  obtain ⟨mm, J, _⟩ := ins_get I.hok ha
  obtain ⟨od, J, _⟩ := J.look
  obtain ⟨m, hF⟩ := I.fr
  exact PySem.W.ksp_neg hF I.ok.mod.kin J O.at_ O.fn (run_at hr rfl F hb hx I (show Vals [V.ref a] [Value.ref a] from .cons rfl .nil) h)
/-- abs(x) -/
theorem call_ownAbs (O : OwnM X.K C "__abs__" f) (F : FnOk X.prog X.w X.K X.mg X.base CX k f fd ps sp) (hb : Binds X.K fd ps []) (hx : Passes CX X E) (hr : Room (k + 1) X.A) : CallR X (.builtin "abs") (fun xs H Q => ∃ x, xs = [x] ∧ rOwn1 C sp E x H Q) := by
  rintro pins s σ H xs us Q I rx ⟨x, rfl, a, dx, fs, rfl, ha, h⟩
  obtain rfl := Vals.ref1 rx
  obtain ⟨mm, J, _⟩ := ins_get I.hok ha
  obtain ⟨od, J, _⟩ := J.look
  refine PySem.Calls.call_function_entry kind_abs plain_abs entry_abs (args_abs _) ?_
  unfold Builtin.«abs»
  refine wpAny_bind (m := oneArg "abs" _) ?_
  refine wpAny_pure ?_
  refine wpAny_bind (m := callSpecial? (.ref a) (Str.ofString "__abs__")) (PySem.W.special_fn I.kIn J O.at_ (beq_iff_eq.mp O.fn) ?_)
  exact thn (run_at hr.in1 rfl F hb hx I (show Vals [V.ref a] [Value.ref a] from .cons rfl .nil) h) fun u s' q => wpAny_pure ⟨_, rfl, q⟩
/-- bool(x), the truth of x -/
def rOwnB (C : Addr) (sp : Sp) (E : XK) : V → Hp → (Bool → Hp → Prop) → Prop := fun x H Q => ∃ a dx fs, x = .ref a ∧ H a = some (.ins C dx fs) ∧ sp [x] H (fun v H' => ∃ b, v = .bl b ∧ Q b H') E
theorem truthy_own {A : Around} {pins : List (Addr × Obj)} {σ : St} {H : Hp} {s : Shared} {x : V} {v : Value} {Q : Bool → Hp → Prop} (O : OwnM X.K C "__bool__" f) (F : FnOk X.prog X.w X.K X.mg X.base CX k f fd ps sp) (hb : Binds X.K fd ps []) (hx : Passes CX X E) (hr : Room k A) (hfr : A.frames = X.A.frames)
    (I : Inv X pins σ H s) (rx : RelV x v) (h : rOwnB C sp E x H Q) : wpAny (model X.prog X.w) A (truthy v) (TP X pins σ Q) X.xe s := by
  obtain ⟨a, dx, fs, rfl, ha, h⟩ := h
  cases rx
  obtain ⟨mm, J, _⟩ := ins_get I.hok ha
  obtain ⟨od, J, _⟩ := J.look
  obtain ⟨m, hF⟩ := I.fr
  refine PySem.W.truthy_K hF I.ok.mod.kin J O.at_ O.fn (thn (run_at hr hfr F hb hx I (show Vals [V.ref a] [Value.ref a] from .cons rfl .nil) h) fun u s' q => ?_)
  obtain ⟨v, H', I', r, b, rfl, q⟩ := q
  cases (show u = Value.bool b from r)
  exact ⟨H', I', q⟩
theorem tru_own (O : OwnM X.K C "__bool__" f) (F : FnOk X.prog X.w X.K X.mg X.base CX k f fd ps sp) (hb : Binds X.K fd ps []) (hx : Passes CX X E) (hr : Room k X.A) : TruR X (rOwnB C sp E) :=
  fun pins s σ H x v Q I rx h => truthy_own O F hb hx hr rfl I rx h
/-- x == y by the own __eq__ -/
def rOwnEq (C : Addr) (sp : Sp) (E : XK) : R2 := fun x y H Q => ∃ a dx fs, x = .ref a ∧ H a = some (.ins C dx fs) ∧ ((∃ b dy gs, y = .ref b ∧ H b = some (.ins C dy gs)) ∨ ∃ i, y = .int i) ∧ sp [x, y] H Q E
theorem op_ownEq (O : OwnM X.K C "__eq__" f) (s1 : PySem.W.subIn X.K (.type "int") (.ref C) = some false) (F : FnOk X.prog X.w X.K X.mg X.base CX k f fd ps sp) (hb : Binds X.K fd ps []) (hx : Passes CX X E) (hr : Room k X.A) : OpR X (compareOp .Eq) (rOwnEq C sp E) := by
  rintro pins s σ H x y v u Q I rx ry ⟨a, dx, fs, rfl, ha, hy, h⟩
  cases rx
  obtain ⟨mm, J, _⟩ := ins_get I.hok ha
  obtain ⟨od, J, _⟩ := J.look
  obtain ⟨m, hF⟩ := I.fr
  show wpAny (model X.prog X.w) X.A (richCompare .Eq (.ref a) u) (EP X pins σ Q) X.xe s
  have r2 : Vals [V.ref a, y] [Value.ref a, u] := .cons rfl (.cons ry .nil)
  have hc := thn (run_at hr rfl F hb hx I r2 h) fun _ _ q => back_of q
  rcases hy with ⟨b, dy, gs, rfl, hb'⟩ | ⟨i, rfl⟩
  · cases ry
    obtain ⟨mm', J', _⟩ := ins_get I.hok hb'
    obtain ⟨od2, J', _⟩ := J'.look
    exact PySem.W.cmp_K (op := .Eq) (tb := .ref C) hr.units0 hF I.ok.mod.kin J J'.type (by simp [PySem.W.notFirst]) O.at_ O.fn hc
  · obtain ⟨t, rfl⟩ := (show ∃ t, u = Value.int i t from ry)
    exact PySem.W.cmp_K (op := .Eq) (tb := .type "int") hr.units0 hF I.ok.mod.kin J (PySem.W.Looks.of_pure rfl) (by simp [PySem.W.notFirst, s1]) O.at_ O.fn hc
/-- i == x: int's own declines -/
theorem eq_refl_own {P : Program} {w : World} {A : Around} {E : Value → Shared → Prop} {s : Shared} {K : PySem.W.Frag} {C x g : Addr} {ox : Obj} {od : Option Obj} {i : Int} {t : Tok} {Q : Value → Shared → Prop} (hu : A.units < cLine)
    (X : K.In s.heap) (I : PySem.W.InstAt s.heap x ox C od) (hd : ox.data = .plain) (O : OwnM K C "__eq__" g) (h2 : PySem.W.subIn K (.ref C) (.type "int") = some false)
    (h : ∀ tk, wpAny (model P w) A (call (.ref g) [.ref x, .int i t]) (PySem.W.CmpBack Q) E { s with toks := tk }) : wpAny (model P w) A (richCompare .Eq (.int i t) (.ref x)) Q E s := by
  have hne : (Value.type "int" != Value.ref C) = true := by simp
  unfold richCompare
  have one : oneThing? .Eq (.int i t) (.ref x) = none := rfl
  simp only [one]
  apply wpAny_holding
  apply wpAny_bind
  apply wpAny_cRoomFor hu
  refine wpAny_bind (wpAny_typeOf (typeIs_int s i t) (wpAny_bind (I.type.here ?_)))
  simp only [hne, if_true]
  refine wpAny_bind ((PySem.W.looks_subIn X h2).here ?_)
  simp only [if_false, Bool.false_eq_true]
  refine wpAny_bind (m := tryCompare (.int i t) _ (.ref x)) ?_
  unfold tryCompare
  refine wpAny_bind (wpAny_callSpecialIfBound?_slot (typeIs_int s i t) PySem.F.slot_int_eq (wpAny_call_entry PySem.F.slot_int_eq (typeIs_int s i t) PySem.F.entry_int_eq (decl_bin P w A.in1 E s i t x ox _ I.at_ hd fun tk => ?_) (PySem.F.args_int_eq_2 _ _)))
  refine wpAny_pure ?_
  simp only [if_true, Bool.not_false]
  have X' : K.In ({ s with toks := tk } : Shared).heap := X
  have I' : PySem.W.InstAt ({ s with toks := tk } : Shared).heap x ox C od := I
  refine wpAny_bind (m := tryCompare (.ref x) _ (.int i t)) ?_
  unfold tryCompare
  refine wpAny_bind (PySem.W.ifBound_K (s := { s with toks := tk }) X' I' O.at_ O.fn (wpAny_mono (h tk) (fun v s' hv => ?_) fun _ _ e => e))
  cases v <;> first | exact hv.elim | exact wpAny_pure (wpAny_pure hv)
theorem op_ownEqR (O : OwnM X.K C "__eq__" f) (s2 : PySem.W.subIn X.K (.ref C) (.type "int") = some false) (F : FnOk X.prog X.w X.K X.mg X.base CX k f fd ps sp) (hb : Binds X.K fd ps []) (hx : Passes CX X E) (hr : Room k X.A) : OpR X (compareOp .Eq) (rOwnR C sp E) := by
  rintro pins s σ H x y v u Q I rx ry ⟨a, dx, fs, i, rfl, rfl, ha, h⟩
  cases ry
  obtain ⟨t, rfl⟩ := (show ∃ t, v = Value.int i t from rx)
  obtain ⟨mm, J, _⟩ := ins_get I.hok ha
  obtain ⟨od, J, _⟩ := J.look
  refine eq_refl_own hr.units0 I.kIn J rfl O s2 fun tk => ?_
  exact thn (run_at hr rfl F hb hx (I.tok tk) (show Vals [V.ref a, V.int i] [Value.ref a, Value.int i t] from .cons rfl (.cons ⟨t, rfl⟩ .nil)) h) fun _ _ q => back_of q
/-- bool(x) -/
theorem call_ownBool (O : OwnM X.K C "__bool__" f) (F : FnOk X.prog X.w X.K X.mg X.base CX k f fd ps sp) (hb : Binds X.K fd ps []) (hx : Passes CX X E) (hr : Room (k + 2) X.A) : CallR X (.type "bool") (fun xs H Q => ∃ x, xs = [x] ∧ rOwnB C sp E x H fun b H' => Q (.bl b) H') := by
  rintro pins s σ H xs us Q I rx ⟨x, rfl, h⟩
  cases rx with
  | cons rx rx' =>
  cases rx'
  rename_i u
  refine callType_codes (T := "bool") (Bi := Builtin.«object.__init__») (Q₁ := fun r s₁ => ∃ b, r = .bool b ∧ EP X pins σ Q (.bool b) s₁) PySem.F.called_bool (PySem.F.typeCall_bool_1 _) PySem.F.entry_object_init ?_ ?_
  · refine codeAny_of_tree ?_
    refine wpAny_bind (wpAny_of_eq (PySem.F.newCall_bool_1 _) (wpAny_pure ⟨plainId_quiet (by decide +kernel) _, codeAny_builtin PySem.F.entry_bool_new ?_⟩))
    rw [(Around.under_plainId (by decide +kernel) _)]
    have f1 := PySem.F.conv_sub_bool
    have htr : wpAny (model X.prog X.w) X.A.in1.in1 (truthy u) (TP X pins σ fun b H' => Q (.bl b) H') X.xe s := truthy_own O F hb hx hr.in1.in1 rfl I rx h
    repeat (any_goals (first | assumption | (with_reducible refine wpAny_mono htr ?_ ?_) | wp_step))
    · rintro b s' ⟨H', I', q⟩
      exact wpAny_pure ⟨b, rfl, .bl b, H', I', rfl, q⟩
    · exact fun e s' he => he
  · rintro obj s₁ ⟨b, rfl, hq⟩
    exact ⟨PySem.typeIs_bool _ _, PySem.F.args_object_init_2 _ _, object_init_meets PySem.F.called_bool.init.lookup PySem.F.called_bool.made (by decide) _ _ _ _ s₁ ⟨PySem.typeIs_bool _ _, rfl, hq⟩⟩
end
end L2
namespace L2
open PySem PySem.Spec PyProof.Rows
/-- // by any divisor but 0, below 2 ^ 9000 in size -/
def CDivX (_ j : Int) : Prop := j ≠ 0 ∧ j.natAbs.log2 < 9000
theorem op_fdivX {X : Cx} : OpR X (binaryOp .FloorDiv) (rI CDivX fun i j => .int (i.fdiv j)) := opI fun i j _ _ _ _ _ hc q => floordiv_int hc.1 q (.inl (PyProof.noPylong_of_log2 hc.2))
end L2
namespace DL
open PySem L2 Evl
theorem mulw_small {i j : Int} (hi : i.natAbs < 18446744073709551616) (hj : j.natAbs < 18446744073709551616) : CMulW i j := wide_mul (a := 64) (b := 64) (by simpa using hi) (by simpa using hj) (by decide) (by decide) (by decide)
theorem divx_small {i j : Int} (h : j ≠ 0) (hj : j.natAbs < 18446744073709551616) : CDivX i j := ⟨h, Nat.lt_of_lt_of_le (PySem.Flt.log2_lt_of (show 0 < 64 by decide) (show j.natAbs < 2 ^ 64 by simpa using hj)) (by decide)⟩
theorem divx_of {i j : Int} (h : j ≠ 0) (hj : j.natAbs.log2 < 9000) : CDivX i j := ⟨h, hj⟩
theorem cpow_small {i j : Int} (h0 : 0 ≤ j) (h1 : j ≤ 1000000) (h2 : i.natAbs < 18446744073709551616) : CPow i j := ⟨h0, h1, by simpa using h2⟩
theorem sIx_none (n d : Nat) : HT.sIx n d none = d := rfl
theorem sIx_nat (n d : Nat) {k : Int} (h : 0 ≤ k) (hk : k ≤ n) : HT.sIx n d (some k) = k.toNat := by
  unfold HT.sIx
  simp only
  first
    | omega
    | (split <;> omega)
    | (split <;> split <;> omega)
end DL

set_option maxRecDepth 100000
/-! Df: defs of a law's text by their promises; calls within a try; how a body begins. -/
namespace DL
open PySem PySem.Spec PyProof.Rows L2 Evl
/-- the world of a law's text -/
structure Wd where
  P : Program
  w : World
  K : PySem.W.Frag
  mg : Str → Option Value
  base : Heap
/-- the name x stands for a def that keeps sp -/
def DefOk (W : Wd) (x : Str) (k : Nat) (ps : List Str) (sp : Sp) : Prop := ∃ f fd, FnOk W.P W.w W.K W.mg W.base (L2.CX W.P W.w) k f fd ps sp ∧ W.mg x = some (.ref f) ∧ PySem.W.keepIn W.K (.ref f) = true ∧ Binds W.K fd ps []
/-- the class at C has a method that keeps sp -/
def MethOk (W : Wd) (C : Addr) (m : Str) (k : Nat) (ps : List Str) (sp : Sp) : Prop := ∃ f fd, FnOk W.P W.w W.K W.mg W.base (L2.CX W.P W.w) k f fd ps sp ∧ Meth W.K C m f ∧ Binds W.K fd ps []
section
variable {W : Wd} {x qual : Str} {params : Arguments} {body : List Stmt} {scope : Scope} {dvs : List V} {kws : List (Str × V)} {f : Addr} {fd : FuncData} {N ps : List Str} {k : Nat} {sp : Sp}
theorem defOk_of (F : FunD W.K x qual params body scope [] [] f fd) (g : W.mg x = some (.ref f)) (S : FnScope N ps scope) (len : ∀ vs H Q E, sp vs H Q E → vs.length = ps.length)
    (hbind : ∀ (kV doc pm : Value) (an : Option Addr) (cdv ct : Value) (us : List Value), us.length = ps.length → bindArgs (PySem.W.fnOf x qual params body scope .none kV doc pm an cdv ct) ⟨us, []⟩ = pure (ps.zip us))
    (hbody : ∀ (cv : Value) (B : Around) (up : List Env) (s : Shared) (H : Hp) (vs : List V) (Q : VK) (E : XK), Room k (B.deeper (envOfC qual scope s.heap.objs.size f cv)) → sp vs H Q E →
      ∃ t, PSs (cxOf (L2.CX W.P W.w) W.P W.w W.K W.mg W.base N qual scope f cv B up s H E) body t ∧ t { nx := fun _ H' => Q .non H', rt := Q } (L2.start N vs) H) : DefOk W x (k + 1) ps sp :=
  ⟨f, fd, F.ok S len hbody, g, F.kp, F.bindsN hbind⟩
theorem methOk_of {C : Addr} (F : FunD W.K x qual params body scope [] [] f fd) (g : Meth W.K C x f) (S : FnScope N ps scope) (len : ∀ vs H Q E, sp vs H Q E → vs.length = ps.length)
    (hbind : ∀ (kV doc pm : Value) (an : Option Addr) (cdv ct : Value) (us : List Value), us.length = ps.length → bindArgs (PySem.W.fnOf x qual params body scope .none kV doc pm an cdv ct) ⟨us, []⟩ = pure (ps.zip us))
    (hbody : ∀ (cv : Value) (B : Around) (up : List Env) (s : Shared) (H : Hp) (vs : List V) (Q : VK) (E : XK), Room k (B.deeper (envOfC qual scope s.heap.objs.size f cv)) → sp vs H Q E →
      ∃ t, PSs (cxOf (L2.CX W.P W.w) W.P W.w W.K W.mg W.base N qual scope f cv B up s H E) body t ∧ t { nx := fun _ H' => Q .non H', rt := Q } (L2.start N vs) H) : MethOk W C x (k + 1) ps sp :=
  ⟨f, fd, F.ok S len hbody, g, F.bindsN hbind⟩
end
/-! ### lengths -/
theorem spP_len {S : List Dv → Dv → Prop} {R : List Dv → Value → Prop} {n : Nat} (h1 : ∀ ds r, S ds r → ds.length = n) (h2 : ∀ ds c, R ds c → ds.length = n) : ∀ vs H Q E, spP S R vs H Q E → vs.length = n := fun vs H Q E ⟨F, ds, _, r, h⟩ => by
  rw [← r.len]
  rcases h with ⟨r, h, _⟩ | ⟨c, h, _⟩
  · exact h1 _ _ h
  · exact h2 _ _ h
theorem spN_len {S : List Dv → List Dv → Prop} {n : Nat} (h1 : ∀ ds r, S ds r → ds.length = n) : ∀ vs H Q E, spN S vs H Q E → vs.length = n := fun vs H Q E ⟨F, ds, _, r, r', h, _⟩ => by
  rw [← r.len]
  exact h1 _ _ h
theorem spM_len {S : List Dv → List Dv → List Dv → Dv → Prop} {n : Nat} (h1 : ∀ ps ds ps' r, S ps ds ps' r → ds.length = n) : ∀ vs H Q E, spM S vs H Q E → vs.length = n + 1 := fun vs H Q E ⟨F, a, us, args, ps, ds, e, _, _, _, _, r, ps', r', h, _⟩ => by
  rw [e, List.length_cons, ← r.len, h1 _ _ _ _ h]
theorem spI_len {C : Addr} {S : List Dv → List (Str × Dv) → Prop} {R : List Dv → Value → Prop} {n : Nat} (h1 : ∀ ds r, S ds r → ds.length = n) (h2 : ∀ ds c, R ds c → ds.length = n) : ∀ vs H Q E, spI C S R vs H Q E → vs.length = n + 1 := fun vs H Q E ⟨F, x, dx, args, ds, e, _, _, _, _, r, h⟩ => by
  rw [e, List.length_cons, ← r.len]
  rcases h with ⟨r, h, _⟩ | ⟨c, h, _⟩
  · rw [h1 _ _ h]
  · rw [h2 _ _ h]
/-! ### how a body begins -/
theorem own_vals {Γ : List Slot} {σ : L2.St} {i : Nat} {a : Addr} (h : ∀ (i : Nat) (s : Slot), Γ[i]? = some s → s.isOwn = false) : ¬ OwnAt Γ σ i a := fun ⟨⟨s, e, o⟩, _⟩ => by
  rw [h i s e] at o
  cases o
def vals (ds : List Dv) : List Slot := ds.map Slot.val
def anys (n : Nat) : List Slot := List.replicate n .any
theorem anys_get {n i : Nat} {s : Slot} (e : (anys n)[i]? = some s) : s = .any := by
  unfold anys at e
  rw [List.getElem?_replicate] at e
  split at e
  · exact (Option.some.inj e).symm
  · cases e
theorem vals_no {ds : List Dv} {n : Nat} : ∀ (i : Nat) s, (vals ds ++ anys n)[i]? = some s → s.isOwn = false := fun i s e => by
  rw [List.getElem?_append] at e
  split at e
  · unfold vals at e
    rw [List.getElem?_map] at e
    cases q : ds[i]? with
    | none =>
      rw [q] at e
      cases e
    | some d => rw [q] at e; cases e; rfl
  · rw [anys_get e]
    rfl
theorem al_vals {F H : Hp} : ∀ {ds : List Dv} {vs : List V}, Reps F ds vs → Al (SlotOk F H) (vals ds) (vs.map some)
  | _, _, .nil => .nil
  | _, _, .cons r h => .cons ⟨_, rfl, r⟩ (al_vals h)
theorem al_anys {F H : Hp} : ∀ (n : Nat), Al (SlotOk F H) (anys n) (List.replicate n none)
  | 0 => .nil
  | n + 1 => .cons trivial (al_anys n)
/-- a def whose arguments are all frozen -/
theorem start_P {F H : Hp} {ds : List Dv} {vs : List V} {N : List Str} (e : Ex F H) (r : Reps F ds vs) : Holds ⟨NoO, F, H, fun _ => True, fun _ h => h⟩ (vals ds ++ anys (N.length - ds.length)) F (L2.start N vs) H := by
  refine ⟨Step.refl e, ?_, fun i a w => absurd w (own_vals vals_no), fun i j a w => absurd w (own_vals vals_no), trivial⟩
  unfold L2.start
  rw [← r.len]
  exact (al_vals r).app (al_anys _)
/-- a def whose first argument is an owned list -/
theorem start_M {F H : Hp} {a : Addr} {us : List V} {ps ds : List Dv} {vs : List V} {N : List Str} (e : Ex F H) (n : F a = none) (h : H a = some (.lst us)) (rp : Reps F ps us) (r : Reps F ds vs) :
    Holds ⟨fun b => b = a, F, H, fun _ => True, fun _ h => h⟩ (.own (some a) ps :: (vals ds ++ anys (N.length - (ds.length + 1)))) F (L2.start N (.ref a :: vs)) H := by
  have only : ∀ i b, OwnAt (.own (some a) ps :: (vals ds ++ anys (N.length - (ds.length + 1)))) (L2.start N (.ref a :: vs)) i b → i = 0 ∧ b = a := fun i b w => by
    cases i with
    | zero =>
      obtain ⟨_, e2⟩ := w
      cases e2
      exact ⟨rfl, rfl⟩
    | succ i =>
      obtain ⟨⟨s, e1, o⟩, _⟩ := w
      rw [List.getElem?_cons_succ] at e1
      rw [vals_no i s e1] at o
      cases o
  refine ⟨Step.refl e, ?_, fun i b w => .inl (only i b w).2, fun i j b w w' => by rw [(only i b w).1, (only j b w').1], trivial⟩
  have ee : start N (.ref a :: vs) = some (.ref a) :: (vs.map some ++ List.replicate (N.length - (ds.length + 1)) none) := by
    unfold L2.start
    rw [r.len] <;> rfl
  rw [ee]
  exact .cons ⟨a, rfl, n, fun b z => Option.some.inj z, us, h, rp⟩ ((al_vals r).app (al_anys _))
/-- an __init__ -/
theorem start_I {F H : Hp} {x dx C : Addr} {ds : List Dv} {vs : List V} {N : List Str} (e : Ex F H) (n : F x = none) (hd : F dx = some (.own x)) (h : H x = some (.ins C dx [])) (r : Reps F ds vs) :
    Holds ⟨fun b => b = x, F, H, fun _ => True, fun _ h => h⟩ (.obj (some x) C [] :: (vals ds ++ anys (N.length - (ds.length + 1)))) F (L2.start N (.ref x :: vs)) H := by
  have only : ∀ i b, OwnAt (.obj (some x) C [] :: (vals ds ++ anys (N.length - (ds.length + 1)))) (L2.start N (.ref x :: vs)) i b → i = 0 ∧ b = x := fun i b w => by
    cases i with
    | zero =>
      obtain ⟨_, e2⟩ := w
      cases e2
      exact ⟨rfl, rfl⟩
    | succ i =>
      obtain ⟨⟨s, e1, o⟩, _⟩ := w
      rw [List.getElem?_cons_succ] at e1
      rw [vals_no i s e1] at o
      cases o
  refine ⟨Step.refl e, ?_, fun i b w => .inl (only i b w).2, fun i j b w w' => by rw [(only i b w).1, (only j b w').1], trivial⟩
  have ee : start N (.ref x :: vs) = some (.ref x) :: (vs.map some ++ List.replicate (N.length - (ds.length + 1)) none) := by
    unfold L2.start
    rw [r.len] <;> rfl
  rw [ee]
  exact .cons ⟨x, rfl, n, fun b z => Option.some.inj z, dx, [], hd, h, .nil⟩ ((al_vals r).app (al_anys _))
/-- the bodies, from the data -/
theorem body_P {S : List Dv → Dv → Prop} {R : List Dv → Value → Prop} {t : TS} {N : List Str} {vs : List V} {H : Hp} {Q : VK} {E : XK} (h : spP S R vs H Q E)
    (k : ∀ F ds, ds.length = vs.length → ((∃ r, S ds r ∧ ∀ v F' H', Step NoO F H F' H' → r.rep F' v → Q v H') ∨ (∃ c, R ds c ∧ ∀ F' H', Step NoO F H F' H' → E c none H')) →
      OK ⟨NoO, F, H, fun _ => True, fun _ h => h⟩ (vals ds ++ anys (N.length - ds.length)) (t { nx := fun _ H' => Q .non H', rt := Q })) : t { nx := fun _ H' => Q .non H', rt := Q } (L2.start N vs) H := by
  obtain ⟨F, ds, e, r, h⟩ := h
  exact k F ds r.len h F _ H (start_P e r)
theorem body_N {S : List Dv → List Dv → Prop} {t : TS} {N : List Str} {vs : List V} {H : Hp} {Q : VK} {E : XK} (h : spN S vs H Q E)
    (k : ∀ F ds r, ds.length = vs.length → S ds r → (∀ p us F' H', Step NoO F H F' H' → H p = none → F' p = none → H' p = some (.lst us) → Reps F' r us → Q (.ref p) H') →
      OK ⟨NoO, F, H, fun _ => True, fun _ h => h⟩ (vals ds ++ anys (N.length - ds.length)) (t { nx := fun _ H' => Q .non H', rt := Q })) : t { nx := fun _ H' => Q .non H', rt := Q } (L2.start N vs) H := by
  obtain ⟨F, ds, e, r, r', h, q⟩ := h
  exact k F ds r' r.len h q F _ H (start_P e r)
theorem body_M {S : List Dv → List Dv → List Dv → Dv → Prop} {t : TS} {N : List Str} {vs : List V} {H : Hp} {Q : VK} {E : XK} (h : spM S vs H Q E)
    (k : ∀ F a ps ds ps' r, ds.length + 1 = vs.length → S ps ds ps' r → (∀ v F' H' us', Step (fun b => b = a) F H F' H' → F' a = none → H' a = some (.lst us') → Reps F' ps' us' → r.rep F' v → Q v H') →
      OK ⟨fun b => b = a, F, H, fun _ => True, fun _ h => h⟩ (.own (some a) ps :: (vals ds ++ anys (N.length - (ds.length + 1)))) (t { nx := fun _ H' => Q .non H', rt := Q })) : t { nx := fun _ H' => Q .non H', rt := Q } (L2.start N vs) H := by
  obtain ⟨F, a, us, args, ps, ds, rfl, e, n, hu, rp, r, ps', r', h, q⟩ := h
  exact k F a ps ds ps' r' (by rw [List.length_cons, r.len]) h q F _ H (start_M e n hu rp r)
theorem body_I {C : Addr} {S : List Dv → List (Str × Dv) → Prop} {R : List Dv → Value → Prop} {t : TS} {N : List Str} {vs : List V} {H : Hp} {Q : VK} {E : XK} (h : spI C S R vs H Q E)
    (k : ∀ F x ds, ds.length + 1 = vs.length → ((∃ fs, S ds fs ∧ ∀ F' H' dx' us, Step (fun b => b = x) F H F' H' → F' x = none → F' dx' = some (.own x) → H' x = some (.ins C dx' us) → RepF F' fs us → Q .non H') ∨ (∃ c, R ds c ∧ ∀ F' H', Step (fun b => b = x) F H F' H' → E c none H')) →
      OK ⟨fun b => b = x, F, H, fun _ => True, fun _ h => h⟩ (.obj (some x) C [] :: (vals ds ++ anys (N.length - (ds.length + 1)))) (t { nx := fun _ H' => Q .non H', rt := Q })) : t { nx := fun _ H' => Q .non H', rt := Q } (L2.start N vs) H := by
  obtain ⟨F, x, dx, args, ds, rfl, e, n, hd, hx, r, h⟩ := h
  exact k F x ds (by rw [List.length_cons, r.len]) h F _ H (start_I e n hd hx r)
/-! ### defs at addresses, own exceptions, __init__ with defaults -/
def FnAt (W : Wd) (f : Addr) (k : Nat) (ps : List Str) (sp : Sp) : Prop := ∃ fd, FnOk W.P W.w W.K W.mg W.base (L2.CX W.P W.w) k f fd ps sp ∧ Binds W.K fd ps []
structure ExcOk (W : Wd) (nm : Str) (C : Addr) : Prop where
  g : W.mg nm = some (.ref C)
  x : PySem.W.excIn W.K C [.type "ValueError", .type "Exception", .type "BaseException", .type "object"] "ValueError.__new__" = true
  k : PySem.W.keepIn W.K (.ref C) = true
  b : PySem.W.subIn W.K (.ref C) (.type "BaseException") = some true
  t : PySem.W.typeIn W.K (.ref C) = some (.type "type")
/-- C(..): __init__ keeps sp; nd written values, the others by default -/
def InitOk (W : Wd) (C : Addr) (k : Nat) (ps : List Str) (sp : Sp) : Prop := ∃ f fd, FnOk W.P W.w W.K W.mg W.base (L2.CX W.P W.w) k f fd ps sp ∧ Mk W.K C f ∧ Binds W.K fd ps []
def InitOkD (W : Wd) (C : Addr) (k : Nat) (ps : List Str) (sp : Sp) (dvs : List V) : Prop := ∃ f fd ds, FnOk W.P W.w W.K W.mg W.base (L2.CX W.P W.w) k f fd ps sp ∧ Mk W.K C f ∧ Binds W.K fd ps [] ∧ Binds W.K fd ps ds ∧ Vals dvs ds
section
variable {W : Wd} {x qual : Str} {params : Arguments} {body : List Stmt} {scope : Scope} {dvs : List V} {kws : List (Str × V)} {f : Addr} {fd : FuncData} {N ps : List Str} {k : Nat} {sp : Sp}
theorem fnAt_of (F : FunD W.K x qual params body scope [] [] f fd) (S : FnScope N ps scope) (len : ∀ vs H Q E, sp vs H Q E → vs.length = ps.length)
    (hbind : ∀ (kV doc pm : Value) (an : Option Addr) (cdv ct : Value) (us : List Value), us.length = ps.length → bindArgs (PySem.W.fnOf x qual params body scope .none kV doc pm an cdv ct) ⟨us, []⟩ = pure (ps.zip us))
    (hbody : ∀ (cv : Value) (B : Around) (up : List Env) (s : Shared) (H : Hp) (vs : List V) (Q : VK) (E : XK), Room k (B.deeper (envOfC qual scope s.heap.objs.size f cv)) → sp vs H Q E →
      ∃ t, PSs (cxOf (L2.CX W.P W.w) W.P W.w W.K W.mg W.base N qual scope f cv B up s H E) body t ∧ t { nx := fun _ H' => Q .non H', rt := Q } (start N vs) H) : FnAt W f (k + 1) ps sp :=
  ⟨fd, F.ok S len hbody, F.bindsN hbind⟩
theorem initOk_of {C : Addr} (F : FunD W.K x qual params body scope [] [] f fd) (g : Mk W.K C f) (S : FnScope N ps scope) (len : ∀ vs H Q E, sp vs H Q E → vs.length = ps.length)
    (hbind : ∀ (kV doc pm : Value) (an : Option Addr) (cdv ct : Value) (us : List Value), us.length = ps.length → bindArgs (PySem.W.fnOf x qual params body scope .none kV doc pm an cdv ct) ⟨us, []⟩ = pure (ps.zip us))
    (hbody : ∀ (cv : Value) (B : Around) (up : List Env) (s : Shared) (H : Hp) (vs : List V) (Q : VK) (E : XK), Room k (B.deeper (envOfC qual scope s.heap.objs.size f cv)) → sp vs H Q E →
      ∃ t, PSs (cxOf (L2.CX W.P W.w) W.P W.w W.K W.mg W.base N qual scope f cv B up s H E) body t ∧ t { nx := fun _ H' => Q .non H', rt := Q } (start N vs) H) : InitOk W C (k + 1) ps sp :=
  ⟨f, fd, F.ok S len hbody, g, F.bindsN hbind⟩
/-- one default -/
theorem initOkD_of {C : Addr} {d : V} (F : FunD W.K x qual params body scope [d] [] f fd) (g : Mk W.K C f) (S : FnScope N ps scope) (len : ∀ vs H Q E, sp vs H Q E → vs.length = ps.length)
    (hp : 1 ≤ ps.length)
    (hbind : ∀ (T : Addr) (kV doc pm : Value) (an : Option Addr) (cdv ct : Value) (us its : List Value), us.length = ps.length → its.length = 1 →
      ∃ k, bindArgs (PySem.W.fnOf x qual params body scope (.ref T) kV doc pm an cdv ct) ⟨us, []⟩ = seqItems? (.ref T) >>= k ∧ k (some its.toArray) = pure (ps.zip (us ++ its.drop 1)))
    (hbind2 : ∀ (T : Addr) (kV doc pm : Value) (an : Option Addr) (cdv ct : Value) (us its : List Value), us.length = ps.length - 1 → its.length = 1 →
      ∃ k, bindArgs (PySem.W.fnOf x qual params body scope (.ref T) kV doc pm an cdv ct) ⟨us, []⟩ = seqItems? (.ref T) >>= k ∧ k (some its.toArray) = pure (ps.zip (us ++ its.drop 0)))
    (hbody : ∀ (cv : Value) (B : Around) (up : List Env) (s : Shared) (H : Hp) (vs : List V) (Q : VK) (E : XK), Room k (B.deeper (envOfC qual scope s.heap.objs.size f cv)) → sp vs H Q E →
      ∃ t, PSs (cxOf (L2.CX W.P W.w) W.P W.w W.K W.mg W.base N qual scope f cv B up s H E) body t ∧ t { nx := fun _ H' => Q .non H', rt := Q } (start N vs) H) : InitOkD W C (k + 1) ps sp [d] := by
  obtain ⟨ds, v1, b1⟩ := F.binds1 ps.length 1 (by simp) (by simp) hbind
  obtain ⟨ds2, v2, b2⟩ := F.binds1 (ps.length - 1) 0 (by simp) (by simp; omega) hbind2
  have e : ds = [] := by
    cases v1
    rfl
  rw [e] at b1
  exact ⟨f, fd, ds2, F.ok S len hbody, g, b1, b2, v2⟩
end
end DL

set_option maxRecDepth 100000
/-! Cl: instances of an own class with two ints, its operators, isinstance, exceptions, try. -/
namespace DL
open PySem L2 Evl
structure Rt where
  top : Int
  bot : Int
  deriving DecidableEq
/-- what the class says about its instances -/
structure RatW (K : PySem.W.Frag) (C : Addr) : Prop where
  cls : Cls K C
  nt : NoAttr K C "top"
  nb : NoAttr K C "bottom"
  ha : PySem.W.findIn K (Value.ref C) "__class__" = some (some (Value.builtin "object.__class__"))
  hn : PySem.W.specialIn K (Value.builtin "object.__class__") "__get__" = some (some (Value.builtin "getset_descriptor.__get__"))
  htk : PySem.W.takesIn K (Value.builtin "object.__class__") = some true
  hm : PySem.W.mroIn K C (Value.type "object") = some true
  ni : PySem.W.kitOne K (.type "int") (.ref C) = some false
def ratF (q : Rt) : List (Str × V) := [("top", .int q.top), ("bottom", .int q.bot)]
def tRat (C : Addr) : Ty Rt := ⟨fun F v q => ∃ a dx, v = .ref a ∧ F a = some (.ins C dx (ratF q)), fun e ⟨a, dx, h1, h2⟩ => ⟨a, dx, h1, e _ _ h2⟩⟩
section
variable {K : PySem.W.Frag} {C : Addr} {p q : Rt} {i : Int}
theorem fld_top (R : RatW K C) : FldOf K (tRat C) q "top" tInt q.top := fun F v ⟨a, dx, h1, h2⟩ => ⟨a, C, dx, _, _, h1, h2, R.cls, R.nt, by
  show List.lookup _ [(("top" : Str), V.int q.top), (("bottom" : Str), V.int q.bot)] = _
  rw [List.lookup_cons]
  have e1 : ((("top" : Str)) == ("top" : Str)) = true := by decide +kernel
  rw [e1], rfl⟩
theorem fld_bot (R : RatW K C) : FldOf K (tRat C) q "bottom" tInt q.bot := fun F v ⟨a, dx, h1, h2⟩ => ⟨a, C, dx, _, _, h1, h2, R.cls, R.nb, by
  show List.lookup _ [(("top" : Str), V.int q.top), (("bottom" : Str), V.int q.bot)] = _
  rw [List.lookup_cons, List.lookup_cons]
  have e1 : ((("bottom" : Str)) == ("top" : Str)) = false := by decide +kernel
  have e2 : ((("bottom" : Str)) == ("bottom" : Str)) = true := by decide +kernel
  rw [e1, e2], rfl⟩
theorem ins_rat {m : Str} (h1 : (m == ("top" : Str)) = false := by decide +kernel) (h2 : (m == ("bottom" : Str)) = false := by decide +kernel) : InsOf (tRat C) q C m := fun F v ⟨a, dx, e1, e2⟩ => ⟨a, dx, _, e1, e2, by
  show List.lookup _ [(("top" : Str), V.int q.top), (("bottom" : Str), V.int q.bot)] = _
  rw [List.lookup_cons, List.lookup_cons, h1, h2]
  rfl⟩
theorem mk_rat : MkOf C [("top", ⟨tInt, q.top⟩), ("bottom", ⟨tInt, q.bot⟩)] (tRat C) q := fun F a dx us h1 h2 h3 => by
  cases h3 with
  | cons r h3 => cases h3 with
    | cons r2 h3 =>
      cases h3
      obtain ⟨r, ra⟩ := r
      obtain ⟨r2, rb⟩ := r2
      refine ⟨a, dx, rfl, ?_⟩
      rename_i b b'
      obtain ⟨b1, b2⟩ := b
      obtain ⟨c1, c2⟩ := b'
      simp only at r r2 ra rb
      subst r r2
      cases ra
      cases rb
      exact h1
end
section
variable {α β γ : Type} {t : Ty α} {u : Ty β} {w : Ty γ} {x : α} {y : β} {z : γ} {Γ Γ' Γ1 Γ2 Γ3 : List Slot} {ta tb tc te : TE} {r : R2} {ds es : List Dv} {K : PySem.W.Frag} {C : Addr} {p q : Rt} {i : Int} {E : XK}
/-! ### operators -/
theorem op2_own {S : List Dv → Dv → Prop} {R : List Dv → Value → Prop} (h : S [⟨tRat C, p⟩, ⟨tRat C, q⟩] ⟨w, z⟩) : Op2 (rOwn2 C (spP S R) E) (tRat C) p (tRat C) q w z := fun F H v1 v2 e r1 r2 Q k => by
  obtain ⟨a, dx, rfl, h1⟩ := r1
  obtain ⟨b, dy, rfl, h2⟩ := r2
  exact ⟨a, b, dx, dy, _, _, rfl, rfl, e _ _ h1, e _ _ h2, spP_v h F H _ e (.cons ⟨a, dx, rfl, h1⟩ (.cons ⟨b, dy, rfl, h2⟩ .nil)) Q E k⟩
theorem op2_ownI {S : List Dv → Dv → Prop} {R : List Dv → Value → Prop} (h : S [⟨tRat C, p⟩, ⟨tInt, i⟩] ⟨w, z⟩) : Op2 (rOwnI C (spP S R) E) (tRat C) p tInt i w z := fun F H v1 v2 e r1 r2 Q k => by
  obtain ⟨a, dx, rfl, h1⟩ := r1
  cases r2
  exact ⟨a, dx, _, i, rfl, rfl, e _ _ h1, spP_v h F H _ e (.cons ⟨a, dx, rfl, h1⟩ (.cons rfl .nil)) Q E k⟩
theorem op2_ownR {S : List Dv → Dv → Prop} {R : List Dv → Value → Prop} (h : S [⟨tRat C, p⟩, ⟨tInt, i⟩] ⟨w, z⟩) : Op2 (rOwnR C (spP S R) E) tInt i (tRat C) p w z := fun F H v1 v2 e r1 r2 Q k => by
  obtain ⟨a, dx, rfl, h1⟩ := r2
  cases r1
  exact ⟨a, dx, _, i, rfl, rfl, e _ _ h1, spP_v h F H _ e (.cons ⟨a, dx, rfl, h1⟩ (.cons rfl .nil)) Q E k⟩
theorem op1_own {S : List Dv → Dv → Prop} {R : List Dv → Value → Prop} (h : S [⟨tRat C, p⟩] ⟨w, z⟩) : Op1 (rOwn1 C (spP S R) E) (tRat C) p w z := fun F H v1 e r1 Q k => by
  obtain ⟨a, dx, rfl, h1⟩ := r1
  exact ⟨a, dx, _, rfl, e _ _ h1, spP_v h F H _ e (.cons ⟨a, dx, rfl, h1⟩ .nil) Q E k⟩
theorem on_own1 {S : List Dv → Dv → Prop} {R : List Dv → Value → Prop} (h : S [⟨tRat C, p⟩] ⟨w, z⟩) : OpN (fun xs H Q => ∃ x, xs = [x] ∧ rOwn1 C (spP S R) E x H Q) [⟨tRat C, p⟩] w z := fun F H vs e r1 Q k => by
  cases r1 with
  | cons r r' =>
    cases r'
    exact ⟨_, rfl, op1_own h F H _ e r Q k⟩
theorem op2_eq {S : List Dv → Dv → Prop} {R : List Dv → Value → Prop} (h : S [⟨tRat C, p⟩, ⟨tRat C, q⟩] ⟨w, z⟩) : Op2 (rOwnEq C (spP S R) E) (tRat C) p (tRat C) q w z := fun F H v1 v2 e r1 r2 Q k => by
  obtain ⟨a, dx, rfl, h1⟩ := r1
  obtain ⟨b, dy, rfl, h2⟩ := r2
  exact ⟨a, dx, _, rfl, e _ _ h1, .inl ⟨b, dy, _, rfl, e _ _ h2⟩, spP_v h F H _ e (.cons ⟨a, dx, rfl, h1⟩ (.cons ⟨b, dy, rfl, h2⟩ .nil)) Q E k⟩
theorem op2_eqI {S : List Dv → Dv → Prop} {R : List Dv → Value → Prop} (h : S [⟨tRat C, p⟩, ⟨tInt, i⟩] ⟨w, z⟩) : Op2 (rOwnEq C (spP S R) E) (tRat C) p tInt i w z := fun F H v1 v2 e r1 r2 Q k => by
  obtain ⟨a, dx, rfl, h1⟩ := r1
  cases r2
  exact ⟨a, dx, _, rfl, e _ _ h1, .inr ⟨i, rfl⟩, spP_v h F H _ e (.cons ⟨a, dx, rfl, h1⟩ (.cons rfl .nil)) Q E k⟩
theorem on_ownB {S : List Dv → Dv → Prop} {R : List Dv → Value → Prop} {b : Bool} (h : S [⟨tRat C, p⟩] ⟨tBool, b⟩) : OpN (fun xs H Q => ∃ x, xs = [x] ∧ rOwnB C (spP S R) E x H fun b H' => Q (.bl b) H') [⟨tRat C, p⟩] tBool b := fun F H vs e r1 Q k => by
  cases r1 with
  | cons r r' =>
    cases r'
    obtain ⟨a, dx, rfl, h1⟩ := r
    refine ⟨_, rfl, a, dx, _, rfl, e _ _ h1, spP_v h F H _ e (.cons ⟨a, dx, rfl, h1⟩ .nil) _ E fun v F' H' st rv => ⟨b, rv, k _ F' H' st rfl⟩⟩
theorem on_gcd {i j : Int} : OpN rGcd [⟨tInt, i⟩, ⟨tInt, j⟩] tInt ((Nat.gcd i.natAbs j.natAbs : Nat) : Int) := fun F H vs e r Q k => by
  cases r with
  | cons r r' => cases r' with
    | cons r2 r' =>
      cases r'
      cases r
      cases r2
      exact ⟨_, _, rfl, k _ F H (Step.refl e) rfl⟩
theorem den_tup2 (h : Den ta Γ t x Γ1) (h2 : Den tb Γ1 u y Γ2) : Den (tTup (tCons ta (tCons tb tNil))) Γ (tPair t u) (x, y) Γ2 := den_as (den_row (da_cons h (da_cons h2 da_nil)) (by show 2 ≤ 100000; decide)) row_pair
/-! ### isinstance -/
def IsTy (K : PySem.W.Frag) (t : Ty α) (x : α) (τ : Value) : Prop := ∀ F H v, Ex F H → t.rep F v x → TyX K H v τ
theorem ty_int : IsTy K tInt i (.type "int") := fun F H v e r => by cases r; exact .base (.int _)
theorem ty_bool {b : Bool} : IsTy K tBool b (.type "bool") := fun F H v e r => by cases r; exact .base (.bl _)
theorem ty_rat (R : RatW K C) : IsTy K (tRat C) q (.ref C) := fun F H v e r => by
  obtain ⟨a, dx, rfl, h1⟩ := r
  exact .base (.ins (e _ _ h1) R.cls R.ha R.hn R.htk R.hm)
theorem den_isi {c : V} {cv τ : Value} {b : Bool} (ha : Den ta Γ t x Γ1) (k : ClsV c cv) (T : IsTy K t x τ) (e : PySem.W.kitOne K τ cv = some b) : Den (tCB (rIsi K) (tCons ta (tCons (tC c) tNil))) Γ tBool b Γ1 := fun Z F σ H hh Q q =>
  ha Z F σ H hh _ fun v F1 H1 h1 p r => ⟨v, c, τ, cv, b, rfl, k, T F1 H1 v h1.fh r, e, q _ F1 H1 h1 p rfl⟩
theorem kit_self {τ : Value} (h : (τ == τ) = true := by simp) : PySem.W.kitOne K τ τ = some true := by
  unfold PySem.W.kitOne
  rw [if_pos h]
theorem den_isE {D a : Addr} {c : V} {cv : Value} {b : Bool} {j : Nat} (e1 : Γ[j]? = some (.val ⟨tRaw, .ref a⟩)) (k : ClsV c cv) (e : PySem.W.kitOne K (.ref D) cv = some b) : Den (tCB (rIsE K D a) (tCons (tVar j) (tCons (tC c) tNil))) Γ tBool b Γ := fun Z F σ H hh Q q => by
  obtain ⟨v, h1, h2⟩ := hh.val e1
  cases h2
  exact ⟨_, h1, c, cv, b, rfl, fun u r => k.eq r, e, q _ F H hh Pres.refl rfl⟩
/-! ### lists of truths, compared -/
theorem dp_bools {H F : Hp} : ∀ {xs : List Bool} {vs : List V}, Al (fun x v => tBool.rep F v x) xs vs → DpAll K H vs (xs.map PyData.bool)
  | _, _, .nil => .nil
  | _, _, .cons r h => by
    cases r
    exact .cons (.bl _) (dp_bools h)
theorem den_eqBL {xs ys : List Bool} {j : Nat} {b : Bool} (e : Γ[j]? = some (.lst tBool xs)) (hb : DenL tb Γ tBool ys Γ2) (e2 : Γ2[j]? = some (.lst tBool xs)) (s1 : SeqAt.shaped (.list (xs.map PyData.bool)) = true) (s2 : SeqAt.shaped (.list (ys.map PyData.bool)) = true)
    (hv : PyData.eqv (.list (xs.map PyData.bool)) (.list (ys.map PyData.bool)) = b) : Den (tOp (rEqD K) (tVar j) tb) Γ tBool b Γ2 := fun Z F σ H hh Q q => by
  obtain ⟨a, h1, _, _⟩ := hh.owned e rfl
  refine ⟨_, h1, hb Z F σ H hh _ fun c vs F' H' h' p r1 r2 => ?_⟩
  obtain ⟨a', h1', ⟨_, us, hu, ru⟩, _⟩ := h'.owned e2 rfl
  rw [h1] at h1'
  cases h1'
  refine ⟨_, _, .lst (sq_of hu) (dp_bools ru), .lst (sq_of r1) (dp_bools r2), s1, s2, ?_⟩
  rw [hv]
  exact q _ F' H' h' p rfl
end
section
variable {Z : En} {Γ Γ' Γ1 Γ2 : List Slot} {F H : Hp} {σ : L2.St} {i : Nat} {D : Ends} {te : TE}
theorem Holds.drop (h : Holds Z Γ F σ H) (i : Nat) : Holds Z (Γ.set i .any) F (σ.set i none) H := by
  refine ⟨h.st, h.sl.set trivial i, fun j a w => ?_, fun j k a w w' => ?_, h.pp⟩
  · rcases ownAt_set w h.len with ⟨_, q, _⟩ | ⟨_, w⟩
    · cases q
    · exact h.ow j a w
  · rcases ownAt_set w h.len with ⟨_, q, _⟩ | ⟨_, w⟩
    · cases q
    · rcases ownAt_set w' h.len with ⟨_, q, _⟩ | ⟨_, w'⟩
      · cases q
      · exact h.di j k a w w'
theorem s_back {P : L2.St → Hp → Prop} (h : OK Z (Γ.set i .any) P) : OK Z Γ (fun σ H => P (σ.set i none) H) := fun F σ H hh => h F _ H (hh.drop i)
/-! ### raising, catching -/
theorem s_raise {P : L2.St → Hp → Prop} {O : Addr → Prop} {F0 H0 : Hp} {E : XK} {c : Value} (hZ : Z.F = F0 ∧ Z.H = H0 ∧ Z.O = O) (q : ∀ F' H', Step O F0 H0 F' H' → E c none H') (hP : ∀ σ H, E c none H → P σ H) : OK Z Γ P := fun F σ H hh => by
  obtain ⟨z1, z2, z3⟩ := hZ
  refine hP σ H (q F H ?_)
  rw [← z1, ← z2, ← z3]
  exact hh.st
def BotS (te : TE) (Γ Γ' : List Slot) (E : L2.St → XK) (c : Value) : Prop := ∀ (Z : En) F σ H, Holds Z Γ F σ H → (∀ F' H', Holds Z Γ' F' σ H' → E σ c none H') → ∀ Q : VK, te σ H Q
theorem s_botS {E : L2.St → XK} {c : Value} (h : BotS te Γ Γ1 E c) (e : OK Z Γ1 fun σ H => E σ c none H) : OK Z Γ (tDrop te D) := fun F σ H hh => h Z F σ H hh (fun F' H' h' => e F' σ H' h') _
theorem s_caught {K : PySem.W.Frag} {c cls : Value} {d : Option Addr} {ts : Addr → Value → Option Addr → TS} {Wout : WX} (hb : PySem.W.exmOne K cls c = some true)
    (h : ∀ a, OK Z (Γ.set i (.val ⟨tRaw, .ref a⟩)) (ts a cls d { nx := fun σ' H' => D.nx (σ'.set i none) H', rt := D.rt, bk := fun σ' H' => D.bk (σ'.set i none) H', ct := fun σ' H' => D.ct (σ'.set i none) H' })) :
    OK Z Γ (fun σ H => wAs K c i ts Wout D cls d σ H) := fun F σ H hh => ⟨true, hb, fun _ a _ => h a F _ H (hh.set (d := ⟨tRaw, .ref a⟩) i rfl), fun e => nomatch e⟩
theorem s_prop {P : Prop} {t : L2.St → Hp → Prop} (p : P) (h : OK Z Γ t) : OK Z Γ (fun σ H => P ∧ t σ H) := fun F σ H hh => ⟨p, h F σ H hh⟩
/-- what is never reached -/
theorem ps_dead {X : Cx} {st : Stmt} : PS X st (fun _ _ _ => False) := ⟨fun _ _ _ _ _ _ h => h.elim⟩
theorem zc_of {cls D : Value} {d : Option Addr} {oe : Obj} (h : cls = D ∧ d = none) (z : Zc cls d oe) : Zc D none oe := by
  obtain ⟨rfl, rfl⟩ := h
  exact z
theorem pss_if {X : Cx} {st : List Stmt} {P : Prop} {t : TS} (h : P → PSs X st t) : PSs X st (fun D σ H => P ∧ t D σ H) := ⟨fun pins s σ H D I ⟨p, q⟩ => (h p).run pins s σ H D I q⟩
end
end DL
namespace L2
open PySem PySem.Spec PyProof.Rows
section
variable {X : Cx} {CX : CXT} {k : Nat} {f C : Addr} {fd : FuncData} {ps : List Str} {sp : Sp} {E : St → XK} {x m : Str} {p pos apos : Pos} {e o : Expr} {es : List Expr} {ta : TE} {t : TA} {ds : List Value} {dvs : List V}
def tMakeS (C : Addr) (sp : Sp) (dvs : List V) (E : St → XK) (t : TA) : TE := fun σ H Q => tMake C sp dvs (E σ) t σ H Q
def tMethS (C : Addr) (m : Str) (sp : Sp) (dvs : List V) (E : St → XK) (ta : TE) (t : TA) : TE := fun σ H Q => tMeth C m sp dvs (E σ) ta t σ H Q
theorem run_makeS {pins : List (Addr × Obj)} {σ : St} {H : Hp} {s : Shared} {Q : VK} {us : List Value} {vs : List V} (M : Mk X.K C f) (F : FnOk X.prog X.w X.K X.mg X.base CX k f fd ps sp) (hr : Room (k + 1) X.A) (hb : Binds X.K fd ps ds) (hd : Vals dvs ds)
    (hx : PassesAt CX X σ (E σ)) (I : Inv X pins σ H s) (r : Vals vs us)
    (h : ∀ x dx, H x = none → H dx = none → dx ≠ x → sp (.ref x :: (vs ++ dvs)) (upd (upd H dx (.own x)) x (.ins C dx [])) (fun v H2 => v = .non ∧ Q (.ref x) H2) (E σ)) :
    wpAny (model X.prog X.w) X.A (PySem.call (Value.ref C) us) (EP X pins σ Q) X.xe s := by
  have want := h (s.heap.objs.size + 1) s.heap.objs.size (I.hok.fresh (by omega)) (I.hok.fresh (by omega)) (Nat.succ_ne_self _).symm
  have made := Inv.made (C := C) I
  have pairs : Vals (V.ref (s.heap.objs.size + 1) :: (vs ++ dvs)) (Value.ref (s.heap.objs.size + 1) :: (us ++ ds)) := .cons rfl (r.append hd)
  have many : (Value.ref (s.heap.objs.size + 1) :: us ++ ds).length = ps.length := pairs.length.symm.trans (F.len _ _ _ _ want)
  have bound := hb _ (Value.ref (s.heap.objs.size + 1) :: us) made.kIn many
  have inside := F.run _ X.stack _ _ ⟨Value.ref (s.heap.objs.size + 1) :: us, []⟩ _ _ _ (E σ) (hr.make C us []) (made.env0.make C us []) bound pairs want
  refine wpAny_call (make_map (f := f) I.kIn M.makes M.init (beq_iff_eq.mp M.fn) (codeAny_mono inside fun res t z => ?_))
  match res, z with
  | .error u, z => exact hx pins _ _ u t made z
  | .ok (.ret u), z =>
    obtain ⟨v, H2, J, rv, e, k⟩ := made.after z
    subst e
    exact ⟨rv, V.ref (s.heap.objs.size + 1), H2, J, rfl, k⟩
  | .ok .next, z => exact absurd z id
  | .ok .brk, z => exact absurd z id
  | .ok .cont, z => exact absurd z id
theorem pe_makeS (M : Mk X.K C f) (F : FnOk X.prog X.w X.K X.mg X.base CX k f fd ps sp) (hr : Room (k + 1) X.A) (hg : Gl X x) (hm : X.mg x = some (.ref C)) (hb : Binds X.K fd ps ds) (hd : Vals dvs ds) (hx : ∀ σ, PassesAt CX X σ (E σ))
    (ha : PA X (e :: es) t)
    (hdb : (x == ("__debug__" : Str)) = false := by decide)
    (he : starEach (e :: es) X.env = (false, eval e X.env) :: starEach es X.env := by rfl)
    (hpl : (backTo pos (starEach es X.env)).any (·.1) = false := by rfl) :
    PE X (.Call (.Name x p) (e :: es) [] pos) (tMakeS C sp dvs E t) := by
  constructor
  intro pins s σ H Q I h
  have args := ha.run pos pins s σ H _ I h
  exact wpAny_Call_Name_kw (ld_glob I hg hm (PySem.W.callWith_K (h₀ := X.base) I.ok.mod.kin M.kp (thn args fun _ _ ⟨_, _, J, r, q⟩ => ⟨J.kIn, run_makeS M F hr hb hd (hx σ) J r q⟩) he hpl) hdb)
theorem pe_methS {pl : Sem Bool} (he : PE X o ta) (c : Cls X.K C) (hm : Meth X.K C m f) (F : FnOk X.prog X.w X.K X.mg X.base CX k f fd ps sp) (hr : Room k X.A) (hb : Binds X.K fd ps []) (hx : ∀ σ, PassesAt CX X σ (E σ)) (ha : PA X (e :: es) t)
    (hst : starEach (e :: es) X.env = (false, eval e X.env) :: starEach es X.env := by rfl) (hpl : (backTo pos (starEach es X.env)).any (·.1) = false := by rfl)
    (ht : eval (.Call (.Attribute o m apos) (e :: es) [] pos) X.env = (do
      let ov ← eval o X.env
      standAt apos.atName
      let (f, first) ← holding [ov] (getMethod ov m pl)
      callWith pos f first (backTo pos (starEach (e :: es) X.env)) (backToKw pos (keywordEach [] X.env))) := by rfl) :
    PE X (.Call (.Attribute o m apos) (e :: es) [] pos) (tMethS C m sp [] E ta t) := by
  refine ⟨fun pins s σ H Q I h => ?_⟩
  refine PySem.W.methodCall_KW (pl := pl) (thn (he.run pins s σ H _ I h) fun u s1 ⟨x, H1, I1, rx, a, dx, fs, ex, ea, l, q⟩ => ?_) ht
  subst ex
  obtain rfl : u = Value.ref a := rx
  refine getmeth_ok I1 ea c hm l ?_
  refine PySem.W.callWith_K (first := [.ref a]) (h₀ := X.base) I.ok.mod.kin hm.kp (thn (ha.run pos pins s1 σ H1 _ I1 q) fun us s2 ⟨vs, H2, I2, r, q2⟩ => ⟨I2.kIn, ?_⟩) hst hpl
  have q3 : sp (V.ref a :: (vs ++ [])) H2 Q (E σ) := q2
  rw [List.append_nil] at q3
  exact run_fnS (us := .ref a :: us) (vs := .ref a :: vs) F hr hb (hx σ) I2 (.cons rfl r) q3
end
end L2
namespace DL
open PySem L2 Evl
section
variable {α β γ : Type} {t : Ty α} {u : Ty β} {w : Ty γ} {x : α} {y : β} {z : γ} {Γ Γ' Γ1 Γ2 Γ3 : List Slot} {ta tb tc te : TE} {ds es : List Dv} {K : PySem.W.Frag} {C : Addr} {E : L2.St → XK} {tr : TA}
theorem den_makeS {S : List Dv → List (Str × Dv) → Prop} {R : List Dv → Value → Prop} {fs : List (Str × Dv)} (h : DenA tr Γ ds Γ1) (hs : S ds fs) (hm : MkOf C fs w z) : Den (tMakeS C (spI C S R) [] E tr) Γ w z Γ1 := fun Z F σ H hh Q q =>
  den_make0 (E := E σ) h hs hm Z F σ H hh Q q
theorem bots_make {S : List Dv → List (Str × Dv) → Prop} {R : List Dv → Value → Prop} {c : Value} (h : DenA tr Γ ds Γ1) (hs : R ds c) : BotS (tMakeS C (spI C S R) [] E tr) Γ Γ1 E c := fun Z F σ H hh e Q =>
  bot_make (E := E σ) (es := []) h (fun _ => .nil) (by rw [List.append_nil]; exact hs) Z F σ H hh e Q
theorem bots_meth {sp : Sp} {m : Str} {c : Value} (ha : Den ta Γ t x Γ1) (hi : InsOf t x C m) (h : DenA tr Γ1 ds Γ2) (hs : SpX sp (⟨t, x⟩ :: ds) c) : BotS (tMethS C m sp [] E ta tr) Γ Γ2 E c := fun Z F σ H hh e Q =>
  bot_meth (E := E σ) ha hi h hs Z F σ H hh e Q
end
end DL

set_option maxRecDepth 100000
/-! Nd: calls that promise some result with a property; ifs that only set a name. -/
namespace DL
open PySem L2 Evl
/-- the first argument is an owned list, which changes; whatever comes back has S -/
def spMA {γ : Type} (Pre : γ → List Dv → List Dv → Prop) (S : γ → List Dv → Dv → Prop) : Sp := fun vs H Q E => ∃ F a us args ps ds, vs = .ref a :: args ∧ Ex F H ∧ F a = none ∧ H a = some (.lst us) ∧ Reps F ps us ∧ Reps F ds args ∧
  ∃ g, Pre g ps ds ∧ ∀ ps' r, S g ps' r → ∀ v F' H' us', Step (fun b => b = a) F H F' H' → F' a = none → H' a = some (.lst us') → Reps F' ps' us' → r.rep F' v → Q v H'
theorem spMA_len {δ : Type} {Pre : δ → List Dv → List Dv → Prop} {S : δ → List Dv → Dv → Prop} {n : Nat} (h1 : ∀ g ps ds, Pre g ps ds → ds.length = n) : ∀ vs H Q E, spMA Pre S vs H Q E → vs.length = n + 1 := fun vs H Q E ⟨F, a, us, args, ps, ds, e, _, _, _, _, r, g, h, _⟩ => by
  rw [e, List.length_cons, ← r.len, h1 _ _ _ h]
theorem body_MA {δ : Type} {Pre : δ → List Dv → List Dv → Prop} {S : δ → List Dv → Dv → Prop} {t : TS} {N : List Str} {vs : List V} {H : Hp} {Q : VK} {E : XK} (h : spMA Pre S vs H Q E)
    (k : ∀ F a ps ds g, ds.length + 1 = vs.length → Pre g ps ds → (∀ ps' r, S g ps' r → ∀ v F' H' us', Step (fun b => b = a) F H F' H' → F' a = none → H' a = some (.lst us') → Reps F' ps' us' → r.rep F' v → Q v H') →
      OK ⟨fun b => b = a, F, H, fun _ => True, fun _ h => h⟩ (.own (some a) ps :: (vals ds ++ anys (N.length - (ds.length + 1)))) (t { nx := fun _ H' => Q .non H', rt := Q })) : t { nx := fun _ H' => Q .non H', rt := Q } (L2.start N vs) H := by
  obtain ⟨F, a, us, args, ps, ds, rfl, e, n, hu, rp, r, g, h, q⟩ := h
  exact k F a ps ds g (by rw [List.length_cons, r.len]) h q F _ H (start_M e n hu rp r)
def DenMA (te : TE) (Γ : List Slot) (X : List Slot → Dv → Prop) : Prop := ∀ (Z : En) F σ H, Holds Z Γ F σ H → ∀ Q : VK, (∀ Γ' r, X Γ' r → ∀ v F' H', Holds Z Γ' F' σ H' → r.rep F' v → Q v H') → te σ H Q
section
variable {α β γ : Type} {t : Ty α} {u : Ty β} {w : Ty γ} {x : α} {y : β} {z : γ} {Z : En} {Γ Γ' Γ1 Γ2 Γ3 : List Slot} {ta tb tc te : TE} {tt uu : TT} {r : R2} {ds es : List Dv} {K : PySem.W.Frag} {D : Ends} {s1 s2 : TS} {i j : Nat}
theorem den_callMA {δ : Type} {Pre : δ → List Dv → List Dv → Prop} {S : δ → List Dv → Dv → Prop} {E : XK} {tr : TA} {i : Nat} {ps : List Dv} {oa : Option Addr} (g : δ) (e : Γ[i]? = some (.own oa ps)) (h : DenA tr Γ ds Γ) (hp : Pre g ps ds) :
    DenMA (tCall (spMA Pre S) [] E (tCons (tVar i) tr)) Γ (fun Γ' r => ∃ ps', S g ps' r ∧ Γ' = Γ.set i (.own oa ps')) := fun Z F σ H hh Q q => by
  obtain ⟨a, h1, _, o1⟩ := hh.owned e rfl
  refine ⟨_, h1, ?_⟩
  refine h Z F σ H hh _ fun vs F1 H1 h2 p1 r1 => ?_
  obtain ⟨a', h1', ⟨n1, ad, us, hu, ru⟩, o2⟩ := h2.owned e rfl
  rw [h1] at h1'
  cases h1'
  rw [List.append_nil]
  refine ⟨F1, a, us, vs, ps, ds, rfl, h2.fh, n1, hu, ru, r1, g, hp, fun ps' r hs v F' H' us' k n' hu' ru' rv => ?_⟩
  have k0 : Step NoO F1 H1 F' (upd H' a (.lst us)) := by
    refine ⟨k.ff, fun b o q => ?_, fun b o q n => ?_⟩
    · have : b ≠ a := fun z => by rw [z, n'] at q; cases q
      rw [upd_ne this]
      exact k.fh b o q
    · obtain ⟨n2, hn2, kk⟩ := k.keep b o q n
      by_cases zz : b = a
      · subst zz
        rw [hu] at q
        cases q
        exact ⟨n2, ⟨_, upd_same⟩, fun _ => upd_same⟩
      · rw [upd_ne zz]
        exact ⟨n2, hn2, fun _ => kk zz⟩
  have h3 := h2.step k0
  have o3 : OwnAt Γ σ i a := o2
  have h4 := h3.mut (s := .own oa ps') (o := .lst us') o3 ⟨n', ad, us', upd_same, ru'⟩
  have ee : upd (upd H' a (.lst us)) a (.lst us') = H' := by
    rw [upd_upd]
    funext b
    unfold upd
    split
    · rename_i zz
      rw [zz, hu']
    · rfl
  rw [ee] at h4
  exact q _ r ⟨ps', hs, rfl⟩ v F' H' h4 rv
theorem s_setA {X : List Slot → Dv → Prop} (h : DenMA te Γ X) (k : ∀ Γ' r, X Γ' r → OK Z (Γ'.set i (.val r)) D.nx) : OK Z Γ (tAsg te (gName i) D) := fun F σ H hh =>
  h Z F σ H hh _ fun Γ' r x v F' H' h' rv => k Γ' r x F' _ H' (h'.set i rv)
theorem s_retA {X : List Slot → Dv → Prop} (h : DenMA te Γ X) (k : ∀ Γ' r, X Γ' r → ∀ F σ H v, Holds Z Γ' F σ H → r.rep F v → D.rt v H) : OK Z Γ (tRet te D) := fun F σ H hh =>
  h Z F σ H hh _ fun Γ' r x v F' H' h' rv => k Γ' r x F' _ H' v h' rv
/-- what an owned-list def gives back, seen from the holding -/
theorem ret_MA {F0 H0 : Hp} {Q : VK} {d : Dv} {a : Addr} {ps' : List Dv} (hZ : Z.F = F0 ∧ Z.H = H0 ∧ Z.O = fun b => b = a)
    (q : ∀ v F' H' us', Step (fun b => b = a) F0 H0 F' H' → F' a = none → H' a = some (.lst us') → Reps F' ps' us' → d.rep F' v → Q v H') (e0 : Γ1[0]? = some (.own (some a) ps')) {F : Hp} {σ : L2.St} {H : Hp} {v : V} (hh : Holds Z Γ1 F σ H) (rv : d.rep F v) : Q v H := by
  obtain ⟨z1, z2, z3⟩ := hZ
  obtain ⟨b, h1, ⟨n1, ad, us, hu, ru⟩, _⟩ := hh.owned e0 rfl
  cases ad a rfl
  refine q v F H us ?_ n1 hu ru rv
  rw [← z1, ← z2, ← z3]
  exact hh.st
/-- if t: x = e -/
theorem s_ifSet {b : Bool} {x' : α} (ht : DenT tt Γ b Γ1) (e0 : Γ1[i]? = some (.val ⟨t, x⟩)) (he : b = true → Den te Γ1 t x' Γ1) (k : ∀ y : α, (b = true ∧ y = x') ∨ (b = false ∧ y = x) → OK Z (Γ1.set i (.val ⟨t, y⟩)) D.nx) : OK Z Γ (tIfS tt (tAsg te (gName i)) tNext D) := by
  refine s_if ht (fun hb => s_set (he hb) (k x' (.inl ⟨hb, rfl⟩))) fun hb => s_nx ?_
  have hs : Γ1.set i (.val ⟨t, x⟩) = Γ1 := by
    apply List.ext_getElem?
    intro j
    by_cases z : i = j
    · subst z
      have lt := (List.getElem?_eq_some_iff.mp e0).1
      rw [List.getElem?_set_self lt, e0]
    · rw [List.getElem?_set_ne z]
  have := k x (.inr ⟨hb, rfl⟩)
  rw [hs] at this
  exact this
theorem wk_set : ∀ {Γ : List Slot} {j : Nat} {s : Slot}, Γ[j]? = some .any → Wk (Γ.set j s) Γ
  | [], _, _, e => by simp at e
  | _ :: r, 0, s, e => by
    simp at e
    subst e
    exact .cons (.inl rfl) (Wk.refl r)
  | a :: r, j + 1, s, e => .cons (.inr rfl) (wk_set (j := j) (by simpa using e))
/-- a loop that keeps all that it finds -/
theorem s_forC {wl : TE} {xs : List α} (h : Den wl Γ (tList t) xs Γ) (hj : Γ[j]? = some .any)
    (hs : ∀ Z' : En, (∀ {Γ F σ H}, Holds Z' Γ F σ H → Holds Z Γ F σ H) → ∀ n x, xs[n]? = some x → OK Z' (Γ.set j (.val ⟨t, x⟩)) (s1 { D with nx := LoopAt Z' (fun _ : Unit => Γ) (fun _ _ => True) (n + 1), ct := LoopAt Z' (fun _ : Unit => Γ) (fun _ _ => True) (n + 1), bk := D.nx }))
    (hd : OK Z Γ D.nx) : OK Z Γ (tFor (iList K wl) (gName j) s1 D) := s_forF () (fun _ => Γ) (fun _ _ => True) h trivial (Wk.refl _) (fun Z' hZ n x _ hx _ => hs Z' hZ n x hx) (fun _ _ => hd)
theorem s_turn {n : Nat} {s : Slot} (hj : Γ[j]? = some .any) : OK Z (Γ.set j s) (LoopAt Z (fun _ : Unit => Γ) (fun _ _ => True) n) := s_next () trivial (wk_set hj)
end
section
open PySem.Spec PyProof.Rows
variable {W : Wd} {x qual : Str} {params : Arguments} {body : List Stmt} {scope : Scope} {f : Addr} {fd : FuncData} {N ps : List Str} {k : Nat} {sp : Sp}
theorem lawFn_of (F : FunD W.K x qual params body scope [] [] f fd) (S : FnScope N ps scope) (len : ∀ vs H Q E, sp vs H Q E → vs.length = ps.length)
    (hbody : ∀ (cv : Value) (B : Around) (up : List Env) (s : Shared) (H : Hp) (vs : List V) (Q : VK) (E : XK), Room k (B.deeper (envOfC qual scope s.heap.objs.size f cv)) → sp vs H Q E →
      ∃ t, PSs (cxOf (L2.CX W.P W.w) W.P W.w W.K W.mg W.base N qual scope f cv B up s H E) body t ∧ t { nx := fun _ H' => Q .non H', rt := Q } (L2.start N vs) H) : FnOk W.P W.w W.K W.mg W.base (L2.CX W.P W.w) (k + 1) f fd ps sp :=
  F.ok S len hbody
end
end DL

set_option maxRecDepth 100000
namespace LW
open PySem PySem.Spec PyProof.Rows L2 DL
local macro_rules | `(tactic| exists "side") => `(tactic| first | assumption | omega | decide | rfl | (simp only [List.length_cons, List.length_nil, List.length_append]; omega) | (apply mulw_small <;> omega) | (apply divx_small <;> omega) | (apply divx_of; omega; assumption) | (with_reducible apply cpow_small <;> decide))
local macro_rules | `(tactic| exists "s") => `(tactic| ((repeat' (first | rfl | apply And.intro | apply Exists.intro)) <;> (try exists "side")))
local macro_rules | `(tactic| exists "d") => `(tactic| first
  | with_reducible apply den_int
  | with_reducible apply den_bl
  | with_reducible apply den_str
  | with_reducible apply den_non
  | with_reducible apply pu_int
  | with_reducible apply da_nil
  | with_reducible apply po_no
  | ((with_reducible apply den_var); rfl)
  | ((with_reducible apply pu_var); rfl)
  | ((with_reducible apply dl_var); rfl)
  | ((with_reducible apply da_cons) <;> exists "d")
  | ((with_reducible apply po_part) <;> exists "d")
  | (with_reducible apply op_I0)
  | (with_reducible apply op_I0b)
  | ((with_reducible apply op_I); try exists "side")
  | (with_reducible apply op_eqI)
  | (with_reducible apply op_neI)
  | (with_reducible apply op_eqB)
  | (with_reducible apply op_neB)
  | (with_reducible apply op_eqS)
  | (with_reducible apply op_neS)
  | (with_reducible apply DL.un_neg)
  | (with_reducible apply on_int)
  | (with_reducible apply on_abs)
  | (with_reducible apply on_bool)
  | (with_reducible apply on_max)
  | (with_reducible apply on_min)
  | ((with_reducible apply den_ixH); rfl; rfl; decide)
  | ((with_reducible apply den_ixL) <;> exists "d")
  | ((with_reducible apply den_ixLM) <;> exists "d")
  | ((with_reducible apply den_ixT) <;> exists "d")
  | ((with_reducible apply den_op) <;> exists "d")
  | ((with_reducible apply den_un) <;> exists "d")
  | ((with_reducible apply pu_op) <;> exists "d")
  | ((with_reducible apply pu_un) <;> exists "d")
  | ((with_reducible apply den_len) <;> exists "d")
  | ((with_reducible apply den_bits) <;> exists "d")
  | ((with_reducible apply den_cb) <;> exists "d")
  | ((with_reducible apply den_callM); rfl; exists "d"; exists "s"; rfl)
  | ((with_reducible apply den_call); exists "d"; apply spP_v; exists "s")
  | ((with_reducible apply dn_slice) <;> exists "d")
  | ((with_reducible apply den_list) <;> exists "d")
  | (with_reducible apply dn_lst0)
  | ((with_reducible apply dn_lst1) <;> exists "d")
  | ((with_reducible apply dn_lst2) <;> exists "d")
  | ((with_reducible apply dn_lst3) <;> exists "d")
  | ((with_reducible apply dn_cat) <;> exists "d")
  | ((with_reducible apply dn_call); exists "d"; exists "s")
  | ((with_reducible apply dt_test) <;> exists "d")
  | ((with_reducible apply dt_B) <;> exists "d")
  | ((with_reducible apply dt_not) <;> exists "d")
  | ((with_reducible apply dt_and) <;> exists "d")
  | ((with_reducible apply dt_or) <;> exists "d")
  | ((with_reducible apply den_andV) <;> exists "d")
  | ((with_reducible apply den_orV) <;> exists "d")
  | ((with_reducible apply den_notV) <;> exists "d")
  | ((with_reducible apply DenL.q); exists "d")
  | ((with_reducible apply dn_l); exists "d")
  | ((with_reducible apply den_l); exists "d")
  | ((with_reducible apply DenU.q); exists "d")
  | ((with_reducible apply den_u); exists "d")
  | ((with_reducible apply den_n); exists "d"; rfl)
  | exists "side"
  | ((with_reducible intro h_); exists "d"))

local macro_rules | `(tactic| exists "n") => `(tactic| ((try dsimp only [List.set_cons_zero, List.set_cons_succ]); (repeat ((with_reducible apply s_nx); (try dsimp only [List.set_cons_zero, List.set_cons_succ]))); (try with_reducible apply s_seq)))
local macro_rules | `(tactic| exists "if") => `(tactic| ((exists "n"); (with_reducible apply s_if); (exists "d")))
local macro_rules | `(tactic| exists "set") => `(tactic| ((exists "n"); (with_reducible apply s_set); (exists "d")))
local macro_rules | `(tactic| exists "let") => `(tactic| ((exists "n"); (with_reducible apply s_let); (exists "d")))

def top (i : Nat) : Stmt := PySem.Challenge.pw_spotheights_k00_ratios_are_exact.main.body.getD i (.Pass ⟨0, 0, 0, 0⟩)
abbrev s__law_pool : Stmt := top 17
abbrev s__law_take : Stmt := top 18
abbrev s_Ratio___init__ : Stmt := inClass (top 14) 0
abbrev s_Ratio___add__ : Stmt := inClass (top 14) 1
abbrev s_Ratio___sub__ : Stmt := inClass (top 14) 3
abbrev s_Ratio___mul__ : Stmt := inClass (top 14) 5
abbrev s_Ratio___neg__ : Stmt := inClass (top 14) 7
abbrev s_Ratio___abs__ : Stmt := inClass (top 14) 8
abbrev s_Ratio___radd__ : Stmt := inClass (top 14) 2
abbrev s_Ratio___rsub__ : Stmt := inClass (top 14) 4
abbrev s_Ratio___rmul__ : Stmt := inClass (top 14) 6
abbrev s_Ratio___eq__ : Stmt := inClass (top 14) 9
abbrev s_Ratio___bool__ : Stmt := inClass (top 14) 10
abbrev s_Ratio_over : Stmt := inClass (top 14) 12
abbrev s_Ratio_sign : Stmt := inClass (top 14) 13
abbrev s_compare : Stmt := top 15
abbrev s__law_integer : Stmt := top 19
abbrev s__law_common : Stmt := top 20
abbrev s__law_size : Stmt := top 21
abbrev s__law_fraction : Stmt := top 22
abbrev s__law_second : Stmt := top 23
abbrev s__law_beside : Stmt := top 24
abbrev s__law_right : Stmt := top 25
abbrev s__law_side : Stmt := top 27
abbrev s__law_results : Stmt := top 26
abbrev s__law_signs : Stmt := top 28
abbrev s__law_compared : Stmt := top 29
abbrev s__law_refused : Stmt := top 30
abbrev s_law : Stmt := top 31
/-! the law's numbers: a pool of the script's ints -/
structure Pl where
  gr : List Int
  sm : List Int
  ct : Int
/-- what a pool is -/
structure Pok (p : Pl) : Prop where
  sm : p.sm ≠ []
  lt : ∀ x ∈ p.sm, 0 ≤ x ∧ x < 1000000000000000000
  ct : 0 ≤ p.ct
  gl : p.gr.length ≤ 1000
  sl : p.sm.length ≤ 1000
def pool3 (p : Pl) : List Dv := [⟨tList tInt, p.gr⟩, ⟨tList tInt, p.sm⟩, ⟨tInt, p.ct⟩]
def mix0 (seed c : Int) : Int := (seed * 48271 + c * 69621 + 12345) % 2147483647
def mix1 (m c : Int) : Int := (m * m + c * 40692 + 7) % 2147483399
def mix2 (m seed : Int) : Int := (m * m + seed + 3) % 2147483563
def seedOf (p : Pl) : Int := (p.sm[((p.ct.fdiv 4) % (p.sm.length : Int)).toNat]?).getD 0
/-- one number below m, and the pool behind -/
def take (p : Pl) (m : Int) : Int × Pl :=
  if m < 2 then (0, p) else
  match p.gr with
  | v :: r => (v % m, { p with gr := if 0 < v.fdiv m then v.fdiv m :: r else r })
  | [] => ((mix2 (mix1 (mix0 (seedOf p) p.ct) p.ct) (seedOf p)).fdiv 7 % m, { p with ct := p.ct + 1 })
theorem take_lt {p : Pl} {m : Int} (h : 2 ≤ m) : 0 ≤ (take p m).1 ∧ (take p m).1 < m := by
  unfold take
  rw [if_neg (by omega)]
  split
  · exact ⟨Int.emod_nonneg _ (by omega), Int.emod_lt_of_pos _ (by omega)⟩
  · exact ⟨Int.emod_nonneg _ (by omega), Int.emod_lt_of_pos _ (by omega)⟩
theorem take_ok {p : Pl} {m : Int} (h : Pok p) : Pok (take p m).2 := by
  unfold take
  split
  · exact h
  · split
    · rename_i v r e
      refine ⟨h.sm, h.lt, h.ct, ?_, h.sl⟩
      have := h.gl
      rw [e, List.length_cons] at this
      show (if 0 < v.fdiv m then v.fdiv m :: r else r).length ≤ 1000
      split
      · rw [List.length_cons]
        omega
      · omega
    · exact ⟨h.sm, h.lt, by have := h.ct; show 0 ≤ p.ct + 1; omega, h.gl, h.sl⟩
theorem take_ct {p : Pl} {m : Int} : (take p m).2.ct ≤ p.ct + 1 := by
  unfold take
  split
  · show p.ct ≤ p.ct + 1; omega
  · split
    · show p.ct ≤ p.ct + 1; omega
    · exact Int.le_refl _
def poolSplit (ns : List Int) : List Int × List Int := ((ns.map iabs).filter fun x => decide (1000000000000000000 ≤ x), (ns.map iabs).filter fun x => !decide (1000000000000000000 ≤ x))
/-- the pool of a script -/
def pool (ns : List Int) : Pl := ⟨(poolSplit ns).1, if (poolSplit ns).2 = [] then [((poolSplit ns).1.length : Int)] else (poolSplit ns).2, 0⟩
theorem poolSplit_len (ns : List Int) : (poolSplit ns).1.length ≤ ns.length ∧ (poolSplit ns).2.length ≤ ns.length := by
  unfold poolSplit
  constructor
  · exact Nat.le_trans (List.length_filter_le _ _) (by rw [List.length_map]; exact Nat.le_refl _)
  · exact Nat.le_trans (List.length_filter_le _ _) (by rw [List.length_map]; exact Nat.le_refl _)
theorem take_snoc {α : Type} {xs : List α} {n : Nat} {x : α} (h : xs[n]? = some x) : xs.take (n + 1) = xs.take n ++ [x] := by
  rw [List.take_add_one, h] <;> rfl
theorem poolSplit_yes {ns : List Int} {n : Nat} {x : Int} (h : ns[n]? = some x) (hc : 1000000000000000000 ≤ iabs x) : poolSplit (ns.take (n + 1)) = ((poolSplit (ns.take n)).1 ++ [iabs x], (poolSplit (ns.take n)).2) := by
  rw [take_snoc h]
  unfold poolSplit
  simp [List.filter_append, hc]
theorem poolSplit_no {ns : List Int} {n : Nat} {x : Int} (h : ns[n]? = some x) (hc : ¬ 1000000000000000000 ≤ iabs x) : poolSplit (ns.take (n + 1)) = ((poolSplit (ns.take n)).1, (poolSplit (ns.take n)).2 ++ [iabs x]) := by
  rw [take_snoc h]
  unfold poolSplit
  simp [List.filter_append, hc]
theorem take_low {p : Pl} {m : Int} (h : m < 2) : take p m = (0, p) := by
  unfold take
  rw [if_pos h]
theorem take_yes {v m ct : Int} {r sm : List Int} (h : 2 ≤ m) (hc : 0 < v.fdiv m) : take ⟨v :: r, sm, ct⟩ m = (v % m, ⟨v.fdiv m :: r, sm, ct⟩) := by
  unfold take
  rw [if_neg (by omega)]
  show (v % m, (⟨if 0 < v.fdiv m then v.fdiv m :: r else r, sm, ct⟩ : Pl)) = _
  rw [if_pos hc]
theorem take_no {v m ct : Int} {r sm : List Int} (h : 2 ≤ m) (hc : ¬ 0 < v.fdiv m) : take ⟨v :: r, sm, ct⟩ m = (v % m, ⟨r, sm, ct⟩) := by
  unfold take
  rw [if_neg (by omega)]
  show (v % m, (⟨if 0 < v.fdiv m then v.fdiv m :: r else r, sm, ct⟩ : Pl)) = _
  rw [if_neg hc]
theorem take_nil {m ct : Int} {sm : List Int} (h : 2 ≤ m) : take ⟨[], sm, ct⟩ m = ((mix2 (mix1 (mix0 (seedOf ⟨[], sm, ct⟩) ct) ct) (seedOf ⟨[], sm, ct⟩)).fdiv 7 % m, ⟨[], sm, ct + 1⟩) := by
  unfold take
  rw [if_neg (by omega)]
theorem seed_at {sm : List Int} {ct : Int} (hp : Pok ⟨[], sm, ct⟩) : 0 ≤ ct.fdiv 4 % (sm.length : Int) ∧ sm[(ct.fdiv 4 % (sm.length : Int)).toNat]? = some (seedOf ⟨[], sm, ct⟩) ∧ 0 ≤ seedOf ⟨[], sm, ct⟩ ∧ seedOf ⟨[], sm, ct⟩ < 1000000000000000000 := by
  have hl : 0 < sm.length := List.length_pos_iff.mpr hp.sm
  have h0 : 0 ≤ ct.fdiv 4 % (sm.length : Int) := Int.emod_nonneg _ (by omega)
  have h1 : ct.fdiv 4 % (sm.length : Int) < (sm.length : Int) := Int.emod_lt_of_pos _ (by omega)
  have h2 : (ct.fdiv 4 % (sm.length : Int)).toNat < sm.length := by omega
  have e : sm[(ct.fdiv 4 % (sm.length : Int)).toNat]? = some sm[(ct.fdiv 4 % (sm.length : Int)).toNat] := List.getElem?_eq_getElem h2
  have e2 : seedOf ⟨[], sm, ct⟩ = sm[(ct.fdiv 4 % (sm.length : Int)).toNat] := by
    show (sm[(ct.fdiv 4 % (sm.length : Int)).toNat]?).getD 0 = _
    rw [e] <;> rfl
  rw [e2]
  exact ⟨h0, e, hp.lt _ (List.getElem_mem h2)⟩
theorem emod_r (a : Int) {m : Int} (h : 0 < m) : 0 ≤ a % m ∧ a % m < m := ⟨Int.emod_nonneg _ (by omega), Int.emod_lt_of_pos _ h⟩

abbrev S_take : List Dv → List Dv → List Dv → Dv → Prop := fun ps ds ps' r => ∃ p m, ps = pool3 p ∧ ds = [⟨tInt, m⟩] ∧ Pok p ∧ p.ct < 1000000000 ∧ m.natAbs.log2 < 9000 ∧ ps' = pool3 (take p m).2 ∧ r = ⟨tInt, (take p m).1⟩
abbrev S_pool (K : PySem.W.Frag) : List Dv → List Dv → Prop := fun ds r => ∃ ns : List Int, ds = [⟨tScr K, ns⟩] ∧ ns.length ≤ 63 ∧ r = pool3 (pool ns)
/-! fractions -/
/-- an int of at most n bits -/
def Bd (n : Nat) (x : Int) : Prop := x.natAbs < 2 ^ n
theorem Bd.mono {n m : Nat} {x : Int} (h : Bd n x) (k : n ≤ m) : Bd m x := Nat.lt_of_lt_of_le h (Nat.pow_le_pow_right (by decide) k)
theorem Bd.mul {n m : Nat} {x y : Int} (h : Bd n x) (k : Bd m y) : Bd (n + m) (x * y) := wide_lt h k
theorem Bd.add {n : Nat} {x y : Int} (h : Bd n x) (k : Bd n y) : Bd (n + 1) (x + y) := by
  unfold Bd at *
  rw [Nat.pow_succ]
  omega
theorem Bd.sub {n : Nat} {x y : Int} (h : Bd n x) (k : Bd n y) : Bd (n + 1) (x - y) := by
  unfold Bd at *
  rw [Nat.pow_succ]
  omega
theorem Bd.neg {n : Nat} {x : Int} (h : Bd n x) : Bd n (-x) := by
  unfold Bd at *
  omega
theorem Bd.abs {n : Nat} {x : Int} (h : Bd n x) : Bd n (iabs x) := by
  unfold Bd iabs at *
  split <;> omega
theorem Bd.le {n : Nat} {x y : Int} (h : Bd n y) (k : x.natAbs ≤ y.natAbs) : Bd n x := Nat.lt_of_le_of_lt k h
theorem Bd.one : Bd 1 1 := by
  unfold Bd
  decide
theorem Bd.zero {n : Nat} : Bd n 0 := Nat.pos_of_ne_zero (by simp)
theorem Bd.mulW {n m : Nat} {x y : Int} (h : Bd n x) (k : Bd m y) (hn : 0 < n) (hm : 0 < m) (e : n + m ≤ 1000000) : CMulW x y := wide_mul h k hn hm e
theorem Bd.log {n m : Nat} {x : Int} (h : Bd n x) (hn : 0 < n) (e : n ≤ m) : x.natAbs.log2 < m := Nat.lt_of_lt_of_le (PySem.Flt.log2_lt_of hn h) e
/-- the divisor that lowers n over d -/
def cmn (n d : Int) : Int := if d < 0 then -((Nat.gcd n.natAbs d.natAbs : Nat) : Int) else ((Nat.gcd n.natAbs d.natAbs : Nat) : Int)
def nrm (n d : Int) : Rt := ⟨n.fdiv (cmn n d), d.fdiv (cmn n d)⟩
theorem cmn_ne {n d : Int} (h : d ≠ 0) : cmn n d ≠ 0 := by
  have : Nat.gcd n.natAbs d.natAbs ≠ 0 := fun e => by
    have := Nat.eq_zero_of_gcd_eq_zero_right e
    omega
  unfold cmn
  split <;> omega
theorem cmn_abs (n d : Int) : (cmn n d).natAbs = Nat.gcd n.natAbs d.natAbs := by
  unfold cmn
  split <;> omega
theorem cmn_le {n d : Int} (h : d ≠ 0) : (cmn n d).natAbs ≤ d.natAbs := by
  rw [cmn_abs]
  exact Nat.gcd_le_right _ (by omega)
theorem cmn_dvd_l (n d : Int) : cmn n d ∣ n := by
  refine Int.natAbs_dvd_natAbs.mp ?_
  rw [cmn_abs]
  exact Nat.gcd_dvd_left _ _
theorem cmn_dvd_r (n d : Int) : cmn n d ∣ d := by
  refine Int.natAbs_dvd_natAbs.mp ?_
  rw [cmn_abs]
  exact Nat.gcd_dvd_right _ _
theorem fdiv_of_dvd {a b : Int} (h : b ∣ a) : a.fdiv b = a / b := (Int.fdiv_eq_ediv_of_dvd h)
/-- the lowered pair, times the divisor, is the pair -/
theorem nrm_mul {n d : Int} (h : d ≠ 0) : (nrm n d).top * cmn n d = n ∧ (nrm n d).bot * cmn n d = d := by
  unfold nrm
  constructor
  · show n.fdiv (cmn n d) * cmn n d = n
    rw [fdiv_of_dvd (cmn_dvd_l n d)]
    exact Int.ediv_mul_cancel (cmn_dvd_l n d)
  · show d.fdiv (cmn n d) * cmn n d = d
    rw [fdiv_of_dvd (cmn_dvd_r n d)]
    exact Int.ediv_mul_cancel (cmn_dvd_r n d)
/-- the value -/
theorem nrm_val {n d : Int} (h : d ≠ 0) : (nrm n d).top * d = n * (nrm n d).bot := by
  obtain ⟨h1, h2⟩ := nrm_mul (n := n) h
  generalize (nrm n d).top = t at *
  generalize (nrm n d).bot = b at *
  generalize cmn n d = c at *
  subst h1 h2
  rw [← Int.mul_assoc, Int.mul_right_comm]
theorem nrm_pos {n d : Int} (h : d ≠ 0) : 0 < (nrm n d).bot := by
  obtain ⟨_, h2⟩ := nrm_mul (n := n) h
  have hc := cmn_ne (n := n) h
  have hs : (0 < d → 0 < cmn n d) ∧ (d < 0 → cmn n d < 0) := by
    have := cmn_abs n d
    unfold cmn at *
    split <;> constructor <;> intro <;> first | omega | (split at hc <;> omega)
  rcases Int.lt_or_gt_of_ne h with hd | hd
  · have := hs.2 hd
    apply Int.not_le.mp
    intro hb
    have : 0 ≤ (nrm n d).bot * cmn n d := Int.mul_nonneg_of_nonpos_of_nonpos hb (by omega)
    omega
  · have := hs.1 hd
    apply Int.not_le.mp
    intro hb
    have : (nrm n d).bot * cmn n d ≤ 0 := Int.mul_nonpos_of_nonpos_of_nonneg hb (by omega)
    omega
theorem nrm_cop {n d : Int} (h : d ≠ 0) : Nat.gcd (nrm n d).top.natAbs (nrm n d).bot.natAbs = 1 := by
  have e1 : (nrm n d).top.natAbs = n.natAbs / Nat.gcd n.natAbs d.natAbs := by
    show (n.fdiv (cmn n d)).natAbs = _
    rw [fdiv_of_dvd (cmn_dvd_l n d), Int.natAbs_ediv_of_dvd (cmn_dvd_l n d), cmn_abs]
  have e2 : (nrm n d).bot.natAbs = d.natAbs / Nat.gcd n.natAbs d.natAbs := by
    show (d.fdiv (cmn n d)).natAbs = _
    rw [fdiv_of_dvd (cmn_dvd_r n d), Int.natAbs_ediv_of_dvd (cmn_dvd_r n d), cmn_abs]
  rw [e1, e2]
  exact Nat.coprime_div_gcd_div_gcd (Nat.gcd_pos_of_pos_right _ (by omega))
theorem nrm_top_le {n d : Int} : (nrm n d).top.natAbs ≤ n.natAbs := by
  show (n.fdiv (cmn n d)).natAbs ≤ _
  rw [fdiv_of_dvd (cmn_dvd_l n d), Int.natAbs_ediv_of_dvd (cmn_dvd_l n d)]
  exact Nat.div_le_self _ _
theorem nrm_bot_le {n d : Int} : (nrm n d).bot.natAbs ≤ d.natAbs := by
  show (d.fdiv (cmn n d)).natAbs ≤ _
  rw [fdiv_of_dvd (cmn_dvd_r n d), Int.natAbs_ediv_of_dvd (cmn_dvd_r n d)]
  exact Nat.div_le_self _ _

/-! the mirrors -/
theorem value_of {t b n d a c : Int} (h : d ≠ 0) (h1 : t * d = n * b) (h2 : n * c = a * d) : t * c = a * b := by
  have : (t * c - a * b) * d = 0 := by grind
  rcases Int.mul_eq_zero.mp this with h | h <;> omega
structure Rb (q : Rt) : Prop where
  t : Bd 1500 q.top
  b : Bd 1500 q.bot
  n : q.bot ≠ 0
theorem Bd.nat {n : Nat} {x : Int} (h : Bd n x) : x.natAbs < 2 ^ n := h
theorem nrm_bd {n : Nat} {a b : Int} (h : Bd n a) (k : Bd n b) : Bd n (nrm a b).top ∧ Bd n (nrm a b).bot := ⟨Bd.le h nrm_top_le, Bd.le k nrm_bot_le⟩
theorem nrm_rb {a b : Int} (h : Bd 1500 a) (k : Bd 1500 b) (z : b ≠ 0) : Rb (nrm a b) := ⟨(nrm_bd h k).1, (nrm_bd h k).2, by
  have := nrm_pos (n := a) z
  omega⟩
theorem bt_mulW {x y : Int} (h : Bd 1500 x) (k : Bd 1500 y) : CMulW x y := h.mulW k (by decide) (by decide) (by decide)
theorem bt_mul {x y : Int} (h : Bd 1500 x) (k : Bd 1500 y) : Bd 4000 (x * y) := (h.mul k).mono (by decide)
theorem bt_add {x y z w : Int} (h : Bd 1500 x) (k : Bd 1500 y) (h' : Bd 1500 z) (k' : Bd 1500 w) : Bd 4000 (x * y + z * w) := ((h.mul k).add (h'.mul k')).mono (by decide)
theorem bt_sub {x y z w : Int} (h : Bd 1500 x) (k : Bd 1500 y) (h' : Bd 1500 z) (k' : Bd 1500 w) : Bd 4000 (x * y - z * w) := ((h.mul k).sub (h'.mul k')).mono (by decide)
theorem bt_add1 {x z w : Int} (h : Bd 1500 x) (h' : Bd 1500 z) (k' : Bd 1500 w) : Bd 4000 (x + z * w) := Bd.mono (n := 3001) (m := 4000) (Bd.add (n := 3000) (Bd.mono (n := 1500) (m := 3000) h (by decide)) (Bd.mul (n := 1500) (m := 1500) h' k')) (by decide)
theorem bt_sub1 {x z w : Int} (h : Bd 1500 x) (h' : Bd 1500 z) (k' : Bd 1500 w) : Bd 4000 (x - z * w) := Bd.mono (n := 3001) (m := 4000) (Bd.sub (n := 3000) (Bd.mono (n := 1500) (m := 3000) h (by decide)) (Bd.mul (n := 1500) (m := 1500) h' k')) (by decide)
theorem bt_one {x : Int} (h : Bd 1500 x) : Bd 4000 x := h.mono (by decide)
theorem mul_ne {x y : Int} (h : x ≠ 0) (k : y ≠ 0) : x * y ≠ 0 := Int.mul_ne_zero h k
def addR (p q : Rt) : Rt := nrm (p.top * q.bot + q.top * p.bot) (p.bot * q.bot)
def addI (p : Rt) (i : Int) : Rt := nrm (p.top + i * p.bot) p.bot
def subR (p q : Rt) : Rt := nrm (p.top * q.bot - q.top * p.bot) (p.bot * q.bot)
def subI (p : Rt) (i : Int) : Rt := nrm (p.top - i * p.bot) p.bot
def mulR (p q : Rt) : Rt := nrm (p.top * q.top) (p.bot * q.bot)
def mulI (p : Rt) (i : Int) : Rt := nrm (p.top * i) p.bot
def negR (p : Rt) : Rt := nrm (-p.top) p.bot
def absR (p : Rt) : Rt := nrm (iabs p.top) p.bot
def overR (p q : Rt) : Rt := nrm (p.top * q.bot) (p.bot * q.top)
def overI (p : Rt) (i : Int) : Rt := nrm p.top (p.bot * i)
def signR (p : Rt) : Int := if p.top < 0 then -1 else if p.top > 0 then 1 else 0
abbrev S_init : List Dv → List (Str × Dv) → Prop := fun ds fs => ∃ n d, ds = [⟨tInt, n⟩, ⟨tInt, d⟩] ∧ d ≠ 0 ∧ Bd 4000 n ∧ Bd 4000 d ∧ fs = [(("top" : Str), (⟨tInt, (nrm n d).top⟩ : Dv)), (("bottom" : Str), (⟨tInt, (nrm n d).bot⟩ : Dv))]
abbrev R_init (Z : Addr) : List Dv → Value → Prop := fun ds c => ∃ n, ds = [⟨tInt, n⟩, ⟨tInt, 0⟩] ∧ c = .ref Z
abbrev S_two (C : Addr) (fR : Rt → Rt → Rt) (fI : Rt → Int → Rt) : List Dv → Dv → Prop := fun ds r => (∃ p q, ds = [⟨tRat C, p⟩, ⟨tRat C, q⟩] ∧ Rb p ∧ Rb q ∧ r = ⟨tRat C, fR p q⟩) ∨ (∃ p i, ds = [⟨tRat C, p⟩, ⟨tInt, i⟩] ∧ Rb p ∧ Bd 1500 i ∧ r = ⟨tRat C, fI p i⟩)
abbrev S_twoI (C : Addr) (fI : Rt → Int → Rt) : List Dv → Dv → Prop := fun ds r => ∃ p i, ds = [⟨tRat C, p⟩, ⟨tInt, i⟩] ∧ Rb p ∧ Bd 1500 i ∧ r = ⟨tRat C, fI p i⟩
abbrev S_oneR (C : Addr) (g : Rt → Rt) : List Dv → Dv → Prop := fun ds r => ∃ p, ds = [⟨tRat C, p⟩] ∧ Rb p ∧ r = ⟨tRat C, g p⟩
abbrev S_eq (C : Addr) : List Dv → Dv → Prop := fun ds r => (∃ p q, ds = [⟨tRat C, p⟩, ⟨tRat C, q⟩] ∧ r = ⟨tBool, decide (p.top = q.top) && decide (p.bot = q.bot)⟩) ∨ (∃ p i, ds = [⟨tRat C, p⟩, ⟨tInt, i⟩] ∧ r = ⟨tBool, decide (p.top = i) && decide (p.bot = 1)⟩)
abbrev S_bool (C : Addr) : List Dv → Dv → Prop := fun ds r => ∃ p, ds = [⟨tRat C, p⟩] ∧ r = ⟨tBool, p.top != 0⟩
abbrev S_over (C : Addr) : List Dv → Dv → Prop := fun ds r => (∃ p q, ds = [⟨tRat C, p⟩, ⟨tRat C, q⟩] ∧ Rb p ∧ Rb q ∧ q.top ≠ 0 ∧ r = ⟨tRat C, overR p q⟩) ∨ (∃ p i, ds = [⟨tRat C, p⟩, ⟨tInt, i⟩] ∧ Rb p ∧ Bd 1500 i ∧ i ≠ 0 ∧ r = ⟨tRat C, overI p i⟩)
abbrev R_over (C Z : Addr) : List Dv → Value → Prop := fun ds c => (∃ p q, ds = [⟨tRat C, p⟩, ⟨tRat C, q⟩] ∧ Rb p ∧ Rb q ∧ q.top = 0 ∧ c = .ref Z) ∨ (∃ p, ds = [⟨tRat C, p⟩, ⟨tInt, 0⟩] ∧ Rb p ∧ c = .ref Z)
abbrev S_sign (C : Addr) : List Dv → Dv → Prop := fun ds r => ∃ p, ds = [⟨tRat C, p⟩] ∧ r = ⟨tInt, signR p⟩
abbrev S_cmp (C : Addr) : List Dv → Dv → Prop := fun ds r => ∃ p q, ds = [⟨tRat C, p⟩, ⟨tRat C, q⟩] ∧ Rb p ∧ Rb q ∧ r = ⟨tInt, signR (subR p q)⟩
abbrev S_isint : List Dv → Dv → Prop := fun ds r => ∃ i : Int, ds = [⟨tInt, i⟩] ∧ r = ⟨tBool, true⟩
theorem cmn_div {m n d : Int} (h : d ≠ 0) (hb : Bd 4000 d) : CDivX m (cmn n d) := ⟨cmn_ne h, Bd.log (n := 4000) (m := 9000) (Bd.le hb (cmn_le h)) (by decide) (by decide)⟩
/-! the numbers that the law draws -/
def sizeLoop (p : Pl) : Nat → Int × Pl
  | 0 => (0, p)
  | n + 1 => ((sizeLoop p n).1 * (10 : Int) ^ (9 : Int).toNat + (take (sizeLoop p n).2 ((10 : Int) ^ (9 : Int).toNat)).1, (take (sizeLoop p n).2 ((10 : Int) ^ (9 : Int).toNat)).2)
def size (p : Pl) : Int × Pl :=
  if (take p 4).1 = 0 then take (take p 4).2 10 else if (take p 4).1 = 1 then take (take p 4).2 1000 else if (take p 4).1 = 2 then take (take p 4).2 ((10 : Int) ^ (60 : Int).toNat)
  else ((sizeLoop (take p 4).2 7).1 % (10 : Int) ^ (60 : Int).toNat, (sizeLoop (take p 4).2 7).2)
theorem p9 : (10 : Int) ^ (9 : Int).toNat = 1000000000 := by decide
theorem p60 : (10 : Int) ^ (60 : Int).toNat = 1000000000000000000000000000000000000000000000000000000000000 := by decide +kernel
theorem p30 : (10 : Int) ^ (30 : Int).toNat = 1000000000000000000000000000000 := by decide +kernel
theorem p58 : (10 : Int) ^ (58 : Int).toNat = 10000000000000000000000000000000000000000000000000000000000 := by decide +kernel
theorem sizeLoop_ok {p : Pl} (h : Pok p) : ∀ n, Pok (sizeLoop p n).2 ∧ (sizeLoop p n).2.ct ≤ p.ct + n ∧ 0 ≤ (sizeLoop p n).1 ∧ (sizeLoop p n).1 < 1000000000 ^ n
  | 0 => ⟨h, by show p.ct ≤ p.ct + ((0 : Nat) : Int); omega, Int.le_refl 0, by show (0 : Int) < 1000000000 ^ 0; decide⟩
  | n + 1 => by
    obtain ⟨h1, h2, h3, h4⟩ := sizeLoop_ok h n
    have t1 := take_lt (p := (sizeLoop p n).2) (m := (10 : Int) ^ (9 : Int).toNat) (by rw [p9]; decide)
    have t2 := take_ct (p := (sizeLoop p n).2) (m := (10 : Int) ^ (9 : Int).toNat)
    refine ⟨take_ok h1, ?_, ?_, ?_⟩
    · show (take (sizeLoop p n).2 ((10 : Int) ^ (9 : Int).toNat)).2.ct ≤ p.ct + ((n + 1 : Nat) : Int)
      omega
    · show 0 ≤ (sizeLoop p n).1 * (10 : Int) ^ (9 : Int).toNat + (take (sizeLoop p n).2 ((10 : Int) ^ (9 : Int).toNat)).1
      rw [p9] at t1 ⊢
      omega
    · show (sizeLoop p n).1 * (10 : Int) ^ (9 : Int).toNat + (take (sizeLoop p n).2 ((10 : Int) ^ (9 : Int).toNat)).1 < 1000000000 ^ (n + 1)
      rw [p9] at t1 ⊢
      rw [Int.pow_succ]
      omega
theorem size_ok {p : Pl} (h : Pok p) : Pok (size p).2 ∧ (size p).2.ct ≤ p.ct + 8 ∧ 0 ≤ (size p).1 ∧ (size p).1 < (10 : Int) ^ (60 : Int).toNat := by
  have c1 := take_ct (p := p) (m := 4)
  have o1 := take_ok (m := 4) h
  unfold size
  split
  · have := take_ct (p := (take p 4).2) (m := 10)
    have l := take_lt (p := (take p 4).2) (m := 10) (by decide)
    rw [p60]
    exact ⟨take_ok o1, by omega, l.1, by omega⟩
  · split
    · have := take_ct (p := (take p 4).2) (m := 1000)
      have l := take_lt (p := (take p 4).2) (m := 1000) (by decide)
      rw [p60]
      exact ⟨take_ok o1, by omega, l.1, by omega⟩
    · split
      · have := take_ct (p := (take p 4).2) (m := (10 : Int) ^ (60 : Int).toNat)
        have l := take_lt (p := (take p 4).2) (m := (10 : Int) ^ (60 : Int).toNat) (by rw [p60]; decide)
        exact ⟨take_ok o1, by omega, l.1, l.2⟩
      · obtain ⟨h1, h2, _, _⟩ := sizeLoop_ok o1 7
        refine ⟨h1, by show (sizeLoop (take p 4).2 7).2.ct ≤ _; omega, Int.emod_nonneg _ (by rw [p60]; decide), Int.emod_lt_of_pos _ (by rw [p60]; decide)⟩
theorem bd_of {n : Nat} {x m : Int} (h0 : 0 ≤ x) (h : x < m) (hm : m ≤ 2 ^ n) : Bd n x := by
  unfold Bd
  have : ((2 ^ n : Nat) : Int) = (2 : Int) ^ n := by simp
  omega
theorem size_bd {p : Pl} (h : Pok p) : Bd 200 (size p).1 := bd_of (size_ok h).2.2.1 (size_ok h).2.2.2 (by rw [p60]; decide +kernel)
theorem bd_fdiv {n : Nat} {a b : Int} (h : Bd n a) : Bd n (a.fdiv b) := Bd.le h (Int.natAbs_fdiv_le_natAbs a b)
theorem bd_emod {n m : Nat} {a b : Int} (h : Bd n b) (hb : b ≠ 0) : Bd n (a % b) := by
  unfold Bd at *
  have h0 := Int.emod_nonneg a hb
  have h1 : a % b < b.natAbs := Int.emod_lt a hb
  omega
theorem bd_max {n : Nat} {a b : Int} (h : Bd n a) (k : Bd n b) : Bd n (imax a b) := by
  unfold imax
  split
  · exact k
  · exact h
/-! Euclid -/
structure Eu (g L : Nat) (n : Nat) (s : Int × Int) : Prop where
  a : 0 ≤ s.1
  b : 0 ≤ s.2
  ab : Bd 4000 s.1
  bb : Bd 4000 s.2
  g : Nat.gcd s.1.natAbs s.2.natAbs = g
  lt : 1 ≤ n → s.2 < s.1
  pr : 1 ≤ n → s.1 * s.2 * 2 ^ (n - 1) < 2 ^ (2 * L)
  st : n = 0 → s.2 < 2 ^ L
theorem eu_next {g L n : Nat} {s : Int × Int} (h : Eu g L n s) (hz : s.2 ≠ 0) : Eu g L (n + 1) (s.2, s.1 % s.2) := by
  obtain ⟨a, b⟩ := s
  have ha : 0 ≤ a := h.a
  have hb : 0 ≤ b := h.b
  have hz : b ≠ 0 := hz
  have h0 : 0 ≤ a % b := Int.emod_nonneg a hz
  have h1 : a % b < b := Int.emod_lt_of_pos a (by omega)
  refine ⟨hb, h0, h.bb, bd_emod (m := 0) h.bb hz, ?_, fun _ => h1, fun _ => ?_, fun e => by omega⟩
  · have e : (a % b).natAbs = a.natAbs % b.natAbs := by
      obtain ⟨x, rfl⟩ := Int.eq_ofNat_of_zero_le ha
      obtain ⟨y, rfl⟩ := Int.eq_ofNat_of_zero_le hb
      rw [← Int.natCast_emod]
      rfl
    show Nat.gcd b.natAbs (a % b).natAbs = g
    rw [e, Nat.gcd_comm, ← Nat.gcd_rec, Nat.gcd_comm]
    exact h.g
  · show b * (a % b) * 2 ^ n < 2 ^ (2 * L)
    cases n with
    | zero =>
      have hl := h.st rfl
      have e : (2 : Int) ^ (2 * L) = 2 ^ L * 2 ^ L := by rw [Nat.two_mul, Int.pow_add]
      have : b * (a % b) < b * b ∨ b * (a % b) ≤ b * b := .inr (Int.mul_le_mul_of_nonneg_left (by omega) hb)
      have h3 : b * (a % b) < b * b := Int.mul_lt_mul_of_pos_left h1 (by omega)
      have h4 : b * b ≤ 2 ^ L * 2 ^ L := Int.mul_le_mul (by omega) (by omega) hb (by omega)
      rw [e, Int.pow_zero, Int.mul_one]
      omega
    | succ n =>
      have hl := h.pr (by omega)
      have hlt : b < a := h.lt (by omega)
      have hl : a * b * 2 ^ n < 2 ^ (2 * L) := hl
      have h5 : 2 * (a % b) ≤ a := by
        have e := Int.mul_ediv_add_emod a b
        have hq : 1 ≤ a / b := by
          have := Int.ediv_mul_le a hz
          have h6 : 1 ≤ a / b := (Int.le_ediv_iff_mul_le (by omega)).mpr (by omega)
          omega
        have : b * 1 ≤ b * (a / b) := Int.mul_le_mul_of_nonneg_left hq hb
        omega
      have hp : (0 : Int) ≤ 2 ^ n := Int.pow_nonneg (by decide)
      have h7 : b * (2 * (a % b)) ≤ b * a := Int.mul_le_mul_of_nonneg_left h5 hb
      have h8 : b * (2 * (a % b)) * 2 ^ n ≤ b * a * 2 ^ n := Int.mul_le_mul_of_nonneg_right h7 hp
      have e : b * (a % b) * 2 ^ (n + 1) = b * (2 * (a % b)) * 2 ^ n := by
        rw [Int.pow_succ]
        grind
      rw [e]
      have : b * a * 2 ^ n = a * b * 2 ^ n := by rw [Int.mul_comm b a]
      omega
theorem eu_end {g L n : Nat} {s : Int × Int} (h : Eu g L n s) (hn : n = 2 * L + 2) : s.2 = 0 := by
  have h1 := h.pr (by omega)
  have h2 := h.lt (by omega)
  have hb := h.b
  apply Int.not_lt.mp |> fun f => Int.le_antisymm (f ?_) hb
  intro hp
  have ha : 0 < s.1 := by omega
  have : 1 ≤ s.1 * s.2 := Int.mul_pos ha hp
  have e : n - 1 = 2 * L + 1 := by omega
  rw [e] at h1
  have hq : (0 : Int) < 2 ^ (2 * L) := Int.pow_pos (by decide)
  have h3 : 1 * 2 ^ (2 * L + 1) ≤ s.1 * s.2 * 2 ^ (2 * L + 1) := Int.mul_le_mul_of_nonneg_right this (by rw [Int.pow_succ]; omega)
  rw [Int.pow_succ] at h3 h1
  omega
theorem eu_done {g L n : Nat} {s : Int × Int} (h : Eu g L n s) (hz : s.2 = 0) : s.1 = ((g : Nat) : Int) := by
  have := h.g
  rw [hz] at this
  have ha := h.a
  simp at this
  omega
theorem intBits_lt (x : Int) : x.natAbs < 2 ^ Builtin.Int.intBits x := by
  unfold Builtin.Int.intBits
  split
  · rename_i h
    have : x = 0 := by simpa using h
    subst this
    decide
  · rename_i h
    exact Nat.lt_log2_self
theorem intBits_le {n : Nat} {x : Int} (h : Bd n x) (hn : 0 < n) : Builtin.Int.intBits x ≤ n := by
  unfold Builtin.Int.intBits
  split
  · omega
  · have := PySem.Flt.log2_lt_of hn h
    omega
theorem eu_start {a b : Int} (ha : Bd 4000 a) (hb : Bd 4000 b) : Eu (Nat.gcd a.natAbs b.natAbs) (Builtin.Int.intBits (iabs b)) 0 (iabs a, iabs b) := by
  have e : ∀ x : Int, 0 ≤ iabs x ∧ (iabs x).natAbs = x.natAbs := fun x => by
    unfold iabs
    split <;> omega
  refine ⟨(e a).1, (e b).1, ha.abs, hb.abs, by show Nat.gcd (iabs a).natAbs (iabs b).natAbs = _; rw [(e a).2, (e b).2], fun h => by omega, fun h => by omega, fun _ => ?_⟩
  have := intBits_lt (iabs b)
  have e2 : ((2 ^ (Builtin.Int.intBits (iabs b)) : Nat) : Int) = (2 : Int) ^ (Builtin.Int.intBits (iabs b)) := by simp
  have := (e b).1
  show iabs b < _
  omega
theorem b30 : Bd 100 ((10 : Int) ^ (30 : Int).toNat) := by
  rw [p30]
  unfold Bd
  decide
theorem imax_pos {x : Int} : 1 ≤ imax 1 x := by
  unfold imax
  split <;> omega
theorem m30 {x : Int} : Bd 100 (x % (10 : Int) ^ (30 : Int).toNat) := bd_emod (m := 0) b30 (by rw [p30]; decide)
theorem bd1 {n : Nat} (h : 1 ≤ n) : Bd n 1 := Bd.one.mono h
theorem bd_small {n : Nat} {x : Int} (h0 : 0 ≤ x) (h : x < 128) (hn : 7 ≤ n) : Bd n x := (bd_of (n := 7) (m := 128) h0 h (by decide)).mono hn
abbrev S_common : List Dv → Dv → Prop := fun ds r => ∃ a b, ds = [⟨tInt, a⟩, ⟨tInt, b⟩] ∧ Bd 4000 a ∧ Bd 4000 b ∧ r = ⟨tInt, ((Nat.gcd a.natAbs b.natAbs : Nat) : Int)⟩
abbrev S_size : List Dv → List Dv → List Dv → Dv → Prop := fun ps ds ps' r => ∃ p, ps = pool3 p ∧ ds = [] ∧ Pok p ∧ p.ct < 900000000 ∧ ps' = pool3 (size p).2 ∧ r = ⟨tInt, (size p).1⟩
abbrev P_fr : Pl → List Dv → List Dv → Prop := fun p ps ds => ps = pool3 p ∧ ds = [] ∧ Pok p ∧ p.ct < 800000000
abbrev S_fr : Pl → List Dv → Dv → Prop := fun p ps' r => ∃ (p' : Pl) (ab : Int × Int), ps' = pool3 p' ∧ r = ⟨tPair tInt tInt, ab⟩ ∧ Pok p' ∧ p'.ct ≤ p.ct + 50 ∧ Bd 300 ab.1 ∧ Bd 300 ab.2 ∧ ab.2 ≠ 0
abbrev P_se : Pl × (Int × Int) → List Dv → List Dv → Prop := fun g ps ds => ps = pool3 g.1 ∧ ds = [⟨tPair tInt tInt, g.2⟩] ∧ Pok g.1 ∧ g.1.ct < 700000000 ∧ Bd 300 g.2.1 ∧ Bd 300 g.2.2 ∧ g.2.2 ≠ 0
abbrev S_se : Pl × (Int × Int) → List Dv → Dv → Prop := fun g ps' r => ∃ (p' : Pl) (ab : Int × Int), ps' = pool3 p' ∧ r = ⟨tPair tInt tInt, ab⟩ ∧ Pok p' ∧ p'.ct ≤ g.1.ct + 100 ∧ Bd 300 ab.1 ∧ Bd 300 ab.2 ∧ ab.2 ≠ 0
abbrev S_be : Pl × (Int × Int) → List Dv → Dv → Prop := fun g ps' r => ∃ (p' : Pl) (i : Int), ps' = pool3 p' ∧ r = ⟨tInt, i⟩ ∧ Pok p' ∧ p'.ct ≤ g.1.ct + 100 ∧ Bd 300 i
theorem lt58 {x : Int} (h : iabs x < (10 : Int) ^ (58 : Int).toNat) : Bd 200 x := by
  rw [p58] at h
  unfold Bd
  unfold iabs at h
  have e : (2 : Nat) ^ 200 = 1606938044258990275541962092341162602522202993782792835301376 := by decide
  rw [e]
  split at h <;> omega
theorem pow9_le {n : Nat} (h : n ≤ 8) : (1000000000 : Int) ^ n ≤ 1000000000 ^ 8 := by
  rcases (show n = 0 ∨ n = 1 ∨ n = 2 ∨ n = 3 ∨ n = 4 ∨ n = 5 ∨ n = 6 ∨ n = 7 ∨ n = 8 by omega) with rfl | rfl | rfl | rfl | rfl | rfl | rfl | rfl | rfl <;> decide +kernel
/-! rows that are right -/
structure RightP (q : Rt) (ab : Int × Int) : Prop where
  pos : 0 < q.bot
  val : q.top * ab.2 = ab.1 * q.bot
  cop : Nat.gcd q.top.natAbs q.bot.natAbs = 1
  bt : Bd 4000 q.top
  bb : Bd 4000 q.bot
  ba : Bd 4000 ab.1
  bc : Bd 4000 ab.2
  nz : ab.2 ≠ 0
theorem right_of {n d a c : Int} (hd : d ≠ 0) (hv : n * c = a * d) (bn : Bd 4000 n) (bd : Bd 4000 d) (ba : Bd 4000 a) (bc : Bd 4000 c) (hc : c ≠ 0) : RightP (nrm n d) (a, c) :=
  ⟨nrm_pos hd, value_of hd (nrm_val hd) hv, nrm_cop hd, (nrm_bd bn bd).1, (nrm_bd bn bd).2, ba, bc, hc⟩
theorem right_no {q : Rt} {ab : Int × Int} (h : RightP q ab) : (decide (q.bot < 1) || !decide (q.top * ab.2 = ab.1 * q.bot)) = false := by
  have := h.pos
  rw [h.val]
  simp
  omega
theorem b4_mulW {x y : Int} (h : Bd 4000 x) (k : Bd 4000 y) : CMulW x y := h.mulW k (by decide) (by decide) (by decide)
/-- a number of the script, lowered -/
structure Fr (q : Rt) (ab : Int × Int) : Prop where
  e : q = nrm ab.1 ab.2
  a : Bd 300 ab.1
  b : Bd 300 ab.2
  n : ab.2 ≠ 0
section
variable {f s : Rt} {o w : Int × Int} {n : Int}
theorem Fr.bt (h : Fr f o) : Bd 300 f.top := by rw [h.e]; exact (nrm_bd h.a h.b).1
theorem Fr.bb (h : Fr f o) : Bd 300 f.bot := by rw [h.e]; exact (nrm_bd h.a h.b).2
theorem Fr.v (h : Fr f o) : f.top * o.2 = o.1 * f.bot := by rw [h.e]; exact nrm_val h.n
theorem Fr.pos (h : Fr f o) : 0 < f.bot := by rw [h.e]; exact nrm_pos h.n
theorem Fr.ne (h : Fr f o) : f.bot ≠ 0 := by have := h.pos; omega
theorem Fr.rb (h : Fr f o) : Rb f := ⟨h.bt.mono (by decide), h.bb.mono (by decide), h.ne⟩
theorem Fr.right (h : Fr f o) : RightP f o := by
  have := right_of (n := o.1) (d := o.2) (a := o.1) (c := o.2) h.n rfl (h.a.mono (by decide)) (h.b.mono (by decide)) (h.a.mono (by decide)) (h.b.mono (by decide)) h.n
  rw [← h.e] at this
  exact this
theorem m300 {x y : Int} (h : Bd 300 x) (k : Bd 300 y) : Bd 600 (x * y) := Bd.mul (n := 300) (m := 300) h k
theorem u300 {x : Int} (h : Bd 300 x) : Bd 600 x := h.mono (by decide)
theorem Fr.raw_add (h : Fr f o) (k : Fr s w) : Bd 700 (f.top * s.bot + s.top * f.bot) ∧ Bd 700 (f.top * s.bot - s.top * f.bot) ∧ Bd 700 (f.bot * s.bot) ∧ Bd 700 (f.top * s.top) ∧ f.bot * s.bot ≠ 0 :=
  ⟨Bd.mono (n := 601) (Bd.add (n := 600) (m300 h.bt k.bb) (m300 k.bt h.bb)) (by decide), Bd.mono (n := 601) (Bd.sub (n := 600) (m300 h.bt k.bb) (m300 k.bt h.bb)) (by decide), (m300 h.bb k.bb).mono (by decide), (m300 h.bt k.bt).mono (by decide), mul_ne h.ne k.ne⟩
theorem Fr.dues (h : Fr f o) (k : Fr s w) : Bd 700 (o.1 * w.2 + w.1 * o.2) ∧ Bd 700 (o.1 * w.2 - w.1 * o.2) ∧ Bd 700 (w.1 * o.2 - o.1 * w.2) ∧ Bd 700 (o.2 * w.2) ∧ Bd 700 (o.1 * w.1) ∧ o.2 * w.2 ≠ 0 :=
  ⟨Bd.mono (n := 601) (Bd.add (n := 600) (m300 h.a k.b) (m300 k.a h.b)) (by decide), Bd.mono (n := 601) (Bd.sub (n := 600) (m300 h.a k.b) (m300 k.a h.b)) (by decide), Bd.mono (n := 601) (Bd.sub (n := 600) (m300 k.a h.b) (m300 h.a k.b)) (by decide), (m300 h.b k.b).mono (by decide), (m300 h.a k.a).mono (by decide), mul_ne h.n k.n⟩
theorem b74 {x : Int} (h : Bd 700 x) : Bd 4000 x := h.mono (by decide)
theorem b715 {x : Int} (h : Bd 700 x) : Bd 1500 x := h.mono (by decide)
theorem b34 {x : Int} (h : Bd 300 x) : Bd 4000 x := h.mono (by decide)
theorem r_add (h : Fr f o) (k : Fr s w) : RightP (addR f s) (o.1 * w.2 + w.1 * o.2, o.2 * w.2) := by
  obtain ⟨a1, a2, a3, a4, a5⟩ := h.raw_add k
  obtain ⟨d1, d2, d3, d4, d5, d6⟩ := h.dues k
  have e1 := h.v
  have e2 := k.v
  exact right_of a5 (by grind) (b74 a1) (b74 a3) (b74 d1) (b74 d4) d6
theorem r_sub (h : Fr f o) (k : Fr s w) : RightP (subR f s) (o.1 * w.2 - w.1 * o.2, o.2 * w.2) := by
  obtain ⟨a1, a2, a3, a4, a5⟩ := h.raw_add k
  obtain ⟨d1, d2, d3, d4, d5, d6⟩ := h.dues k
  have e1 := h.v
  have e2 := k.v
  exact right_of a5 (by grind) (b74 a2) (b74 a3) (b74 d2) (b74 d4) d6
theorem r_sub' (h : Fr f o) (k : Fr s w) : RightP (subR s f) (w.1 * o.2 - o.1 * w.2, o.2 * w.2) := by
  have := r_sub k h
  rw [Int.mul_comm w.2 o.2] at this
  exact this
theorem r_mul (h : Fr f o) (k : Fr s w) : RightP (mulR f s) (o.1 * w.1, o.2 * w.2) := by
  obtain ⟨a1, a2, a3, a4, a5⟩ := h.raw_add k
  obtain ⟨d1, d2, d3, d4, d5, d6⟩ := h.dues k
  have e1 := h.v
  have e2 := k.v
  exact right_of a5 (by grind) (b74 a4) (b74 a3) (b74 d5) (b74 d4) d6
theorem rb_add (h : Fr f o) (k : Fr s w) : Rb (addR f s) := by
  obtain ⟨a1, a2, a3, a4, a5⟩ := h.raw_add k
  exact nrm_rb (b715 a1) (b715 a3) a5
theorem rb_sub (h : Fr f o) (k : Fr s w) : Rb (subR f s) := by
  obtain ⟨a1, a2, a3, a4, a5⟩ := h.raw_add k
  exact nrm_rb (b715 a2) (b715 a3) a5
theorem rb_mul (h : Fr f o) (k : Fr s w) : Rb (mulR f s) := by
  obtain ⟨a1, a2, a3, a4, a5⟩ := h.raw_add k
  exact nrm_rb (b715 a4) (b715 a3) a5
theorem bA {x y z : Int} (h : Bd 300 x) (k : Bd 300 y) (l : Bd 300 z) : Bd 700 (x + y * z) ∧ Bd 700 (x - y * z) ∧ Bd 700 (y * z - x) :=
  ⟨Bd.mono (n := 601) (Bd.add (n := 600) (u300 h) (m300 k l)) (by decide), Bd.mono (n := 601) (Bd.sub (n := 600) (u300 h) (m300 k l)) (by decide), Bd.mono (n := 601) (Bd.sub (n := 600) (m300 k l) (u300 h)) (by decide)⟩
theorem r_addI (h : Fr f o) (hn : Bd 300 n) : RightP (addI f n) (o.1 + n * o.2, o.2) := by
  have e1 := h.v
  exact right_of h.ne (by grind) (b74 (bA h.bt hn h.bb).1) (b34 h.bb) (b74 (bA h.a hn h.b).1) (b34 h.b) h.n
theorem r_subI (h : Fr f o) (hn : Bd 300 n) : RightP (subI f n) (o.1 - n * o.2, o.2) := by
  have e1 := h.v
  exact right_of h.ne (by grind) (b74 (bA h.bt hn h.bb).2.1) (b34 h.bb) (b74 (bA h.a hn h.b).2.1) (b34 h.b) h.n
theorem r_neg (h : Fr f o) : RightP (negR f) (-o.1, o.2) := by
  have e1 := h.v
  exact right_of h.ne (by grind) (b34 h.bt.neg) (b34 h.bb) (b34 h.a.neg) (b34 h.b) h.n
theorem neg_bd (h : Fr f o) : Bd 300 (negR f).top ∧ Bd 300 (negR f).bot ∧ (negR f).bot ≠ 0 := ⟨(nrm_bd h.bt.neg h.bb).1, (nrm_bd h.bt.neg h.bb).2, by
  have := nrm_pos (n := -f.top) h.ne
  show (nrm (-f.top) f.bot).bot ≠ 0
  omega⟩
theorem r_rsub (h : Fr f o) (hn : Bd 300 n) : RightP (addI (negR f) n) (n * o.2 - o.1, o.2) := by
  have e1 := (r_neg h).val
  have e1 : (negR f).top * o.2 = -o.1 * (negR f).bot := e1
  obtain ⟨b1, b2, b3⟩ := neg_bd h
  exact right_of b3 (by grind) (b74 (bA b1 hn b2).1) (b34 b2) (b74 (bA h.a hn h.b).2.2) (b34 h.b) h.n
theorem r_mulI (h : Fr f o) (hn : Bd 300 n) : RightP (mulI f n) (o.1 * n, o.2) := by
  have e1 := h.v
  exact right_of h.ne (by grind) ((m300 h.bt hn).mono (by decide)) (b34 h.bb) ((m300 h.a hn).mono (by decide)) (b34 h.b) h.n
theorem r_int (hn : Bd 300 n) : RightP (nrm n 1) (n, 1) := right_of (by decide) (by omega) (b34 hn) (bd1 (by decide)) (b34 hn) (bd1 (by decide)) (by decide)
theorem r_abs (h : Fr f o) : RightP (absR f) (iabs o.1, iabs o.2) := by
  have e1 := h.v
  have hp := h.pos
  have hn := h.n
  refine right_of h.ne ?_ (b34 h.bt.abs) (b34 h.bb) (b34 h.a.abs) (b34 h.b.abs) (by unfold iabs; split <;> omega)
  have e : ∀ x : Int, iabs x = ((x.natAbs : Nat) : Int) := fun x => by unfold iabs; split <;> omega
  have e2 : f.bot = ((f.bot.natAbs : Nat) : Int) := by omega
  rw [e, e, e]
  have e3 : (f.top * o.2).natAbs = (o.1 * f.bot).natAbs := by rw [e1]
  rw [Int.natAbs_mul, Int.natAbs_mul] at e3
  have e4 : ((f.top.natAbs * o.2.natAbs : Nat) : Int) = ((o.1.natAbs * f.bot.natAbs : Nat) : Int) := by rw [e3]
  rw [Int.natCast_mul, Int.natCast_mul] at e4
  rw [e4, ← e2]
theorem canc1 {x y c : Int} (hc : c ≠ 0) (h : (x - y) * c = 0) : x = y := by
  rcases Int.mul_eq_zero.mp h with h | h <;> omega
theorem r_back (h : Fr f o) (k : Fr s w) : RightP (subR (addR f s) s) o := by
  have e1 := (r_add h k).val
  have e2 := k.v
  have r := rb_add h k
  have hn := r.n
  generalize hg : addR f s = g at *
  have bg : Bd 700 g.top ∧ Bd 700 g.bot := by
    obtain ⟨a1, a2, a3, a4, a5⟩ := h.raw_add k
    rw [← hg]
    exact nrm_bd a1 a3
  have e1 : g.top * (o.2 * w.2) = (o.1 * w.2 + w.1 * o.2) * g.bot := e1
  refine right_of (a := o.1) (c := o.2) (mul_ne hn k.ne) (canc1 k.n ?_) ?_ ?_ (b34 h.a) (b34 h.b) h.n
  · grind
  · exact Bd.mono (n := 1001) (Bd.sub (n := 1000) (Bd.mul (n := 700) (m := 300) bg.1 k.bb) (Bd.mono (n := 1000) (Bd.mul (n := 300) (m := 700) k.bt bg.2) (by decide))) (by decide)
  · exact Bd.mono (n := 1000) (Bd.mul (n := 700) (m := 300) bg.2 k.bb) (by decide)
theorem r_prod (h : Fr f o) (k : Fr s w) : RightP (mulR (addR f s) (subR f s)) (o.1 * w.2 * (o.1 * w.2) - w.1 * o.2 * (w.1 * o.2), o.2 * w.2 * (o.2 * w.2)) := by
  have e1 := (r_add h k).val
  have e2 := (r_sub h k).val
  have n1 := (rb_add h k).n
  have n2 := (rb_sub h k).n
  obtain ⟨a1, a2, a3, a4, a5⟩ := h.raw_add k
  obtain ⟨d1, d2, d3, d4, d5, d6⟩ := h.dues k
  have bg : Bd 700 (addR f s).top ∧ Bd 700 (addR f s).bot := nrm_bd a1 a3
  have bh : Bd 700 (subR f s).top ∧ Bd 700 (subR f s).bot := nrm_bd a2 a3
  generalize addR f s = g at *
  generalize subR f s = j at *
  have e1 : g.top * (o.2 * w.2) = (o.1 * w.2 + w.1 * o.2) * g.bot := e1
  have e2 : j.top * (o.2 * w.2) = (o.1 * w.2 - w.1 * o.2) * j.bot := e2
  have m1 := m300 h.a k.b
  have m2 := m300 k.a h.b
  refine right_of (mul_ne n1 n2) ?_ (Bd.mono (n := 1400) (Bd.mul (n := 700) (m := 700) bg.1 bh.1) (by decide)) (Bd.mono (n := 1400) (Bd.mul (n := 700) (m := 700) bg.2 bh.2) (by decide))
    (Bd.mono (n := 1201) (Bd.sub (n := 1200) (Bd.mul (n := 600) (m := 600) m1 m1) (Bd.mul (n := 600) (m := 600) m2 m2)) (by decide)) (Bd.mono (n := 1400) (Bd.mul (n := 700) (m := 700) d4 d4) (by decide)) (mul_ne d6 d6)
  grind
theorem Fr.top_ne (k : Fr s w) (h : w.1 ≠ 0) : s.top ≠ 0 := fun e => by
  have := k.v
  rw [e, Int.zero_mul] at this
  exact mul_ne h k.ne this.symm
theorem Fr.top_z (k : Fr s w) (h : w.1 = 0) : s.top = 0 := by
  have := k.v
  rw [h, Int.zero_mul] at this
  rcases Int.mul_eq_zero.mp this with h | h
  · exact h
  · exact absurd h k.n
theorem r_over (h : Fr f o) (k : Fr s w) (hw : w.1 ≠ 0) : RightP (overR f s) (o.1 * w.2, w.1 * o.2) := by
  have e1 := h.v
  have e2 := k.v
  exact right_of (mul_ne h.ne (k.top_ne hw)) (by grind) ((m300 h.bt k.bb).mono (by decide)) ((m300 h.bb k.bt).mono (by decide)) ((m300 h.a k.b).mono (by decide)) ((m300 k.a h.b).mono (by decide)) (mul_ne hw h.n)
theorem r_over2 (h : Fr f o) (k : Fr s w) (hw : w.1 ≠ 0) : RightP (overR (mulR f s) s) o := by
  have e1 := (r_mul h k).val
  have e2 := k.v
  have hn := (rb_mul h k).n
  obtain ⟨a1, a2, a3, a4, a5⟩ := h.raw_add k
  have bg : Bd 700 (mulR f s).top ∧ Bd 700 (mulR f s).bot := nrm_bd a4 a3
  generalize mulR f s = g at *
  have e1 : g.top * (o.2 * w.2) = o.1 * w.1 * g.bot := e1
  refine right_of (a := o.1) (c := o.2) (mul_ne hn (k.top_ne hw)) (canc1 k.n ?_) ?_ ?_ (b34 h.a) (b34 h.b) h.n
  · grind
  · exact Bd.mono (n := 1000) (Bd.mul (n := 700) (m := 300) bg.1 k.bb) (by decide)
  · exact Bd.mono (n := 1000) (Bd.mul (n := 700) (m := 300) bg.2 k.bt) (by decide)
theorem r_overI (h : Fr f o) (hn : Bd 300 n) (hz : n ≠ 0) : RightP (overI f n) (o.1, n * o.2) := by
  have e1 := h.v
  exact right_of (mul_ne h.ne hz) (by grind) (b34 h.bt) ((m300 h.bb hn).mono (by decide)) (b34 h.a) ((m300 hn h.b).mono (by decide)) (mul_ne hz h.n)
end
/-! signs -/
def sideI (a b : Int) : Int := if a = 0 then 0 else if decide (a > 0) = decide (b > 0) then 1 else -1
theorem signR_eq (q : Rt) : signR q = q.top.sign := by
  unfold signR
  split
  · rename_i h
    exact (Int.sign_eq_neg_one_of_neg h).symm
  · split
    · rename_i h
      exact (Int.sign_eq_one_of_pos h).symm
    · have : q.top = 0 := by omega
      rw [this] <;> rfl
theorem sideI_eq {a b : Int} (h : b ≠ 0) : sideI a b = a.sign * b.sign := by
  unfold sideI
  rcases Int.lt_trichotomy a 0 with ha | ha | ha
  · rw [if_neg (by omega), Int.sign_eq_neg_one_of_neg ha]
    rcases Int.lt_or_gt_of_ne h with hb | hb
    · rw [Int.sign_eq_neg_one_of_neg hb, if_pos (by rw [decide_eq_false (by omega), decide_eq_false (by omega)])] <;> rfl
    · rw [Int.sign_eq_one_of_pos hb, if_neg (by rw [decide_eq_false (by omega), decide_eq_true hb]; decide)] <;> rfl
  · rw [if_pos ha, ha]
    simp
  · rw [if_neg (by omega), Int.sign_eq_one_of_pos ha]
    rcases Int.lt_or_gt_of_ne h with hb | hb
    · rw [Int.sign_eq_neg_one_of_neg hb, if_neg (by rw [decide_eq_true ha, decide_eq_false (by omega)]; decide)] <;> rfl
    · rw [Int.sign_eq_one_of_pos hb, if_pos (by rw [decide_eq_true ha, decide_eq_true hb])] <;> rfl
theorem sign_sq {b : Int} (h : b ≠ 0) : b.sign * b.sign = 1 := by
  rcases Int.lt_or_gt_of_ne h with hb | hb
  · rw [Int.sign_eq_neg_one_of_neg hb] <;> rfl
  · rw [Int.sign_eq_one_of_pos hb] <;> rfl
theorem sign_of {q : Rt} {ab : Int × Int} (h : RightP q ab) : signR q = sideI ab.1 ab.2 := by
  rw [signR_eq, sideI_eq h.nz]
  have e : (q.top * ab.2).sign = (ab.1 * q.bot).sign := by rw [h.val]
  rw [Int.sign_mul, Int.sign_mul, Int.sign_eq_one_of_pos h.pos, Int.mul_one] at e
  rw [← e, Int.mul_assoc, sign_sq h.nz, Int.mul_one]
theorem sign_neg {a b c : Int} (h : b ≠ 0) (e : c = -a) : sideI c b = -sideI a b := by
  rw [sideI_eq h, sideI_eq h, e, Int.sign_neg, Int.neg_mul]
/-! lowest terms are unique -/
theorem low_eq {t b t' b' : Int} (hb : 0 < b) (hb' : 0 < b') (c : Nat.gcd t.natAbs b.natAbs = 1) (c' : Nat.gcd t'.natAbs b'.natAbs = 1) (h : t * b' = t' * b) : t = t' ∧ b = b' := by
  have e : t.natAbs * b'.natAbs = t'.natAbs * b.natAbs := by rw [← Int.natAbs_mul, h, Int.natAbs_mul]
  have d1 : b.natAbs ∣ b'.natAbs := (Nat.Coprime.dvd_of_dvd_mul_left (Nat.Coprime.symm c) (by rw [e]; exact Nat.dvd_mul_left _ _))
  have d2 : b'.natAbs ∣ b.natAbs := (Nat.Coprime.dvd_of_dvd_mul_left (Nat.Coprime.symm c') (by rw [← e]; exact Nat.dvd_mul_left _ _))
  have e2 := Nat.dvd_antisymm d1 d2
  have e3 : b = b' := by omega
  refine ⟨?_, e3⟩
  rw [← e3] at h
  exact Int.eq_of_mul_eq_mul_right (by omega) h
theorem eq_right {q p : Rt} {o w : Int × Int} (h : RightP q o) (k : RightP p w) : (decide (q.top = p.top) && decide (q.bot = p.bot)) = decide (o.1 * w.2 = w.1 * o.2) := by
  have e1 := h.val
  have e2 := k.val
  have hb := h.pos
  have kb := k.pos
  rw [Bool.eq_iff_iff, Bool.and_eq_true, decide_eq_true_iff, decide_eq_true_iff, decide_eq_true_iff]
  constructor
  · rintro ⟨t, b⟩
    refine canc1 (c := q.bot) (by omega) ?_
    rw [← t, ← b] at e2
    grind
  · intro e
    refine low_eq h.pos k.pos h.cop k.cop (canc1 (c := o.2 * w.2) (mul_ne h.nz k.nz) ?_)
    grind
theorem eq_rightI {q : Rt} {o : Int × Int} {n : Int} (h : RightP q o) (hn : Bd 4000 n) : (decide (q.top = n) && decide (q.bot = 1)) = decide (o.1 = n * o.2) := by
  have := eq_right (p := ⟨n, 1⟩) (w := (n, 1)) h ⟨(by decide : (0 : Int) < 1), by show n * 1 = n * 1; rfl, by show Nat.gcd n.natAbs 1 = 1; simp, hn, bd1 (by decide), hn, bd1 (by decide), (by decide : (1 : Int) ≠ 0)⟩
  simpa using this
abbrev S_right (C : Addr) : List Dv → Dv → Prop := fun ds r => ∃ q ab, ds = [⟨tRat C, q⟩, ⟨tPair tInt tInt, ab⟩] ∧ RightP q ab ∧ r = ⟨tBool, true⟩
abbrev S_results (C : Addr) : List Dv → Dv → Prop := fun ds r => ∃ f s n o w, ds = [⟨tRat C, f⟩, ⟨tRat C, s⟩, ⟨tInt, n⟩, ⟨tPair tInt tInt, o⟩, ⟨tPair tInt tInt, w⟩] ∧ Fr f o ∧ Fr s w ∧ Bd 300 n ∧ r = ⟨tBool, true⟩
abbrev S_signs (C : Addr) : List Dv → Dv → Prop := fun ds r => ∃ f s o w, ds = [⟨tRat C, f⟩, ⟨tRat C, s⟩, ⟨tPair tInt tInt, o⟩, ⟨tPair tInt tInt, w⟩] ∧ Fr f o ∧ Fr s w ∧ r = ⟨tBool, true⟩
abbrev S_side : List Dv → Dv → Prop := fun ds r => ∃ a b, ds = [⟨tInt, a⟩, ⟨tInt, b⟩] ∧ r = ⟨tInt, sideI a b⟩
abbrev S_refused (C : Addr) : List Dv → Dv → Prop := fun ds r => ∃ f a k, ds = [⟨tRat C, f⟩, ⟨tInt, a⟩, ⟨tInt, k⟩] ∧ Rb f ∧ Bd 1500 a ∧ 0 ≤ k ∧ k < 4 ∧ r = ⟨tBool, true⟩
section
variable {α β γ : Type} {t : Ty α} {u : Ty β} {x : α} {Z : En} {Γ Γ1 : List Slot} {te : TE} {K : PySem.W.Frag} {D : Ends} {i : Nat}
/-- an item more that is as the others -/
theorem s_appA {xs : List α} {n : Nat} {P : α → Prop} (e : Γ[i]? = some (.lst t xs)) (h : Den te Γ t x Γ1) (e1 : Γ1[i]? = some (.lst t xs)) (hl : xs.length ≤ n) (hn : n < 1000) (hx : ∀ r ∈ xs, P r) (px : P x)
    (k : ∀ ys : List α, ys.length ≤ n + 1 → (∀ r ∈ ys, P r) → OK Z (Γ1.set i (.lst t ys)) D.nx) : OK Z Γ (tDrop (tBM K "list" rAppend (tVar i) (tCons te tNil)) D) :=
  s_app e h e1 (by omega) (k (xs ++ [x]) (by rw [List.length_append, List.length_singleton]; omega) fun r hr => by
    rcases List.mem_append.mp hr with h1 | h1
    · exact hx r h1
    · cases List.mem_singleton.mp h1
      exact px)
end
theorem Fr.nz_iff {s : Rt} {w : Int × Int} (k : Fr s w) : (s.top != 0) = !decide (w.1 = 0) := by
  by_cases h : w.1 = 0
  · rw [k.top_z h, h] <;> rfl
  · rw [decide_eq_false h]
    simp [k.top_ne h]
theorem nrm_zero {d : Int} : (nrm 0 d).top = 0 := by
  show (0 : Int).fdiv (cmn 0 d) = 0
  exact Int.zero_fdiv _
theorem sub_self_top (f : Rt) : (subR f f).top = 0 := by
  unfold subR
  rw [Int.sub_self]
  exact nrm_zero
theorem rb_07 : Rb (nrm 0 7) := nrm_rb Bd.zero (bd_small (by decide) (by decide) (by decide)) (by decide)
theorem pool_ok {ns : List Int} (h : ns.length ≤ 63) : Pok (pool ns) ∧ (pool ns).ct = 0 := by
  have hl := poolSplit_len ns
  have hn : ∀ x ∈ (poolSplit ns).2, 0 ≤ x ∧ x < 1000000000000000000 := fun x hx => by
    unfold poolSplit at hx
    obtain ⟨h1, h2⟩ := List.mem_filter.mp hx
    obtain ⟨y, _, rfl⟩ := List.mem_map.mp h1
    have : 0 ≤ iabs y := by
      unfold iabs
      split <;> omega
    simp at h2
    omega
  refine ⟨⟨?_, ?_, Int.le_refl 0, by show (poolSplit ns).1.length ≤ 1000; omega, ?_⟩, rfl⟩
  · show (if (poolSplit ns).2 = [] then [((poolSplit ns).1.length : Int)] else (poolSplit ns).2) ≠ []
    split
    · exact fun e => nomatch e
    · assumption
  · show ∀ x ∈ (if (poolSplit ns).2 = [] then [((poolSplit ns).1.length : Int)] else (poolSplit ns).2), 0 ≤ x ∧ x < 1000000000000000000
    split
    · intro x hx
      rw [List.mem_singleton.mp hx]
      omega
    · exact hn
  · show (if (poolSplit ns).2 = [] then [((poolSplit ns).1.length : Int)] else (poolSplit ns).2).length ≤ 1000
    split
    · show 1 ≤ 1000; decide
    · omega
abbrev S_compared (C : Addr) : List Dv → Dv → Prop := S_results C
abbrev S_refusedF (C : Addr) : List Dv → Dv → Prop := fun ds r => ∃ f o k, ds = [⟨tRat C, f⟩, ⟨tInt, o.1⟩, ⟨tInt, k⟩] ∧ Fr f o ∧ 0 ≤ k ∧ k < 4 ∧ r = ⟨tBool, true⟩
abbrev S_law (K : PySem.W.Frag) : List Dv → Dv → Prop := fun ds r => ∃ ns : List Int, ds = [⟨tScr K, ns⟩] ∧ ns.length ≤ 63 ∧ r = ⟨tBool, true⟩


local macro_rules | `(tactic| exists "side") => `(tactic| first | assumption | (apply bt_mulW <;> assumption) | (apply bt_mul <;> assumption) | (apply bt_add <;> assumption) | (apply bt_sub <;> assumption) | (apply bt_add1 <;> assumption) | (apply bt_sub1 <;> assumption) | (apply bt_one; assumption) | (apply mul_ne <;> assumption) | (apply Bd.neg; assumption) | (apply Bd.abs; assumption))
local macro_rules | `(tactic| exists "sl") => `(tactic| first | (refine Or.inl ?_; exists "s"; done) | (exists "s"))
local macro_rules | `(tactic| exists "sr") => `(tactic| first | (refine Or.inr ?_; exists "s"; done) | (exists "s"))
local macro_rules | `(tactic| exists "d") => `(tactic| first
  | ((with_reducible apply den_isi); (exists "d"); constructor; (first | exact ty_int | exact ty_bool | exact ty_rat (by assumption)); (first | exact kit_self | exact RatW.ni (by assumption) | exact kit_ty (r := false) (by decide +kernel) | exact kit_ty (r := true) (by decide +kernel)))
  | ((with_reducible apply den_fld); (exists "d"); (first | exact fld_top (by assumption) | exact fld_bot (by assumption)))
  | ((with_reducible apply den_make0); (exists "d"); (exists "s"); exact mk_rat)
  | ((with_reducible apply den_make (es := [⟨tInt, 1⟩])); (exists "d"); exact (fun _ => .cons rfl .nil); (exists "s"); exact mk_rat)
  | ((with_reducible apply den_makeS); (exists "d"); (exists "s"); exact mk_rat)
  | ((with_reducible apply den_meth); (exists "d"); exact ins_rat; (exists "d"); (apply spP_v); first | (refine Or.inl ?_; exists "s"; done) | (refine Or.inr ?_; exists "s"; done) | exists "s")
  | ((with_reducible apply op2_own); exists "sl")
  | ((with_reducible apply op2_ownI); exists "sr")
  | ((with_reducible apply op2_ownR); exists "sr")
  | ((with_reducible apply op1_own); exists "s")
  | ((with_reducible apply on_own1); exists "s")
  | ((with_reducible apply op2_eq); exists "sl")
  | ((with_reducible apply op2_eqI); exists "sr")
  | ((with_reducible apply on_ownB); exists "s")
  | (with_reducible apply on_gcd)
  | ((with_reducible apply den_tup2) <;> exists "d")
  | ((with_reducible apply den_fst); exists "d")
  | ((with_reducible apply den_snd); exists "d"))

local macro_rules | `(tactic| exists "side") => `(tactic| (decide +kernel))
local macro_rules | `(tactic| exists "ifset") => `(tactic| ((exists "n"); (with_reducible apply s_ifSet); (exists "d"); rfl; (intro h_; exists "d"); dsimp only [List.set_cons_zero, List.set_cons_succ]))

local macro_rules | `(tactic| exists "wk") => `(tactic| (show Al _ _ _; repeat (first | exact Al.nil | refine Al.cons (.inr rfl) ?_ | refine Al.cons (.inl rfl) ?_)))
local macro_rules | `(tactic| exists "side") => `(tactic| first | (apply b4_mulW <;> assumption) | (apply Int.mul_ne_zero <;> assumption))

local macro_rules | `(tactic| exists "d") => `(tactic| ((with_reducible apply den_isE); rfl; constructor; (first | exact kit_self | assumption)))

section
variable {W : Wd} {f : Addr} {fd : FuncData} {C_Ratio C_ZeroDivisor C_SpotError C_BadNumber C_TooLarge a_Ratio_add a_Ratio_radd a_Ratio_sub a_Ratio_rsub a_Ratio_mul a_Ratio_rmul a_Ratio_neg a_Ratio_abs a_Ratio_eq a_Ratio_bool : Addr}
theorem sc__law_pool : FnScope ["script", "greats", "smalls", "cell"] ["script"] (defScope s__law_pool) := ⟨rfl, rfl, rfl, by decide +kernel, rfl, by decide +kernel, by decide +kernel⟩
set_option maxHeartbeats 4000000 in
theorem ok__law_pool (F : FunD W.K "_law_pool" "_law_pool" (defArgs s__law_pool) (defBody s__law_pool) (defScope s__law_pool) [] [] f fd)(g : W.mg "_law_pool" = some (.ref f))
    (z_int : W.mg "int" = none)
    (z_abs : W.mg "abs" = none)
    (z_len : W.mg "len" = none) : DefOk W "_law_pool" 1 ["script"] (spN (S_pool W.K)) := by
  refine defOk_of F g sc__law_pool (spN_len (n := 1) fun ds r ⟨_, e, _⟩ => by rw [e]; rfl) (fun _ _ _ _ _ _ us hl => match us, hl with | [_], _ => rfl) (fun cdv A outer s H vs Q E hr h => ⟨_, (pss_cons (ps_set (i := 1) sc__law_pool.nd rfl (Or.inl rfl) (pe_lst pa_nil))
    (pss_cons (ps_set (i := 2) sc__law_pool.nd rfl (Or.inl rfl) (pe_lst pa_nil))
    (pss_cons (ps_for (passes_of rfl) rfl (pi_list (pv 0)) (pg_name (i := 3) sc__law_pool.nd rfl (Or.inl rfl)) (pss_one (ps_if (pt_cmpR op_ge (pe_callB call_abs (by rfl) z_abs (by decide +kernel) (pa_cons (pe_callTy call_int1 (by rfl) z_int (by decide +kernel) (pa_cons (pv 3) pa_nil)) pa_nil)) (pe_op op_pow pe_int pe_int) (nomark _)) (pss_one (ps_expr (pe_bm PySem.F.plainAttrs_list PySem.F.slot_list_append PySem.F.type_list_append mt_append (pv 1) (pa_cons (pe_callB call_abs (by rfl) z_abs (by decide +kernel) (pa_cons (pe_callTy call_int1 (by rfl) z_int (by decide +kernel) (pa_cons (pv 3) pa_nil)) pa_nil)) pa_nil)))) (pss_one (ps_expr (pe_bm PySem.F.plainAttrs_list PySem.F.slot_list_append PySem.F.type_list_append mt_append (pv 2) (pa_cons (pe_callB call_abs (by rfl) z_abs (by decide +kernel) (pa_cons (pe_callTy call_int1 (by rfl) z_int (by decide +kernel) (pa_cons (pv 3) pa_nil)) pa_nil)) pa_nil)))))))
    (pss_cons (ps_if (pt_cmpR op_eq (pe_callB call_len_seq (by rfl) z_len PySem.boot_len (pa_cons (pv 2) pa_nil)) pe_int (nomark _)) (pss_one (ps_expr (pe_bm PySem.F.plainAttrs_list PySem.F.slot_list_append PySem.F.type_list_append mt_append (pv 2) (pa_cons (pe_callB call_len_seq (by rfl) z_len PySem.boot_len (pa_cons (pv 1) pa_nil)) pa_nil)))) pss_nil)
    (pss_one (ps_ret (pe_lst (pa_cons (pv 1) (pa_cons (pv 2) (pa_cons pe_int pa_nil)))))))))), ?_⟩)
  refine body_N h fun F ds r _ hS q => ?_
  obtain ⟨ns, rfl, hl, rfl⟩ := hS
  refine (show OK _ [_, _, _, _] _ from ?_)
  exists "n"
  apply s_setN (t := tInt) (xs := [])
  · exists "d"
  exists "n"
  apply s_setN (t := tInt) (xs := [])
  · exists "d"
  exists "n"
  refine s_forScr (s0 := (([], []) : List Int × List Int)) (fun s => [.val ⟨tScr W.K, ns⟩, .lst tInt s.1, .lst tInt s.2, .any]) (fun n s => s = poolSplit (ns.take n)) (by exists "d") rfl (by exact Wk.refl _) ?_ ?_
  · intro Z' hZ n x s hx hs
    subst hs
    have hn : n < 63 := by
      have := (List.getElem?_eq_some_iff.mp hx).1
      omega
    have l1 := poolSplit_len (ns.take n)
    have l2 : (ns.take n).length ≤ n := by
      rw [List.length_take]
      omega
    exists "if"
    · intro hc
      have hc : 1000000000000000000 ≤ iabs x := of_decide_eq_true hc
      exists "n"
      apply s_app
      · rfl
      · exists "d"
      · rfl
      · show (poolSplit (ns.take n)).1.length < 100000
        omega
      exists "n"
      apply s_next (poolSplit (ns.take (n + 1)))
      · rfl
      rw [poolSplit_yes hx hc]
      exact .cons (.inr rfl) (.cons (.inr rfl) (.cons (.inr rfl) (.cons (.inl rfl) .nil)))
    · intro hc
      have hc : ¬ 1000000000000000000 ≤ iabs x := of_decide_eq_false hc
      exists "n"
      apply s_app
      · rfl
      · exists "d"
      · rfl
      · show (poolSplit (ns.take n)).2.length < 100000
        omega
      exists "n"
      apply s_next (poolSplit (ns.take (n + 1)))
      · rfl
      rw [poolSplit_no hx hc]
      exact .cons (.inr rfl) (.cons (.inr rfl) (.cons (.inr rfl) (.cons (.inl rfl) .nil)))
  · intro s hs
    subst hs
    rw [List.take_length]
    exists "if"
    · intro hc
      have e0 : (poolSplit ns).2 = [] := by
        have := of_decide_eq_true hc
        have h0 : (poolSplit ns).2.length = 0 := by omega
        exact List.eq_nil_of_length_eq_zero h0
      exists "n"
      apply s_app
      · rfl
      · exists "d"
      · rfl
      · show (poolSplit ns).2.length < 100000
        rw [e0]
        decide
      have ep : pool ns = ⟨(poolSplit ns).1, [((poolSplit ns).1.length : Int)], 0⟩ := by
        unfold pool
        rw [if_pos e0]
      rw [ep] at q
      exists "n"
      refine s_freeze (i := 1) (t := tInt) rfl (fun _ _ _ _ z => z) ?_
      refine s_freeze (i := 2) (t := tInt) rfl (fun _ _ _ _ z => z) ?_
      apply s_retNP ⟨rfl, rfl, rfl⟩ rfl q
      · with_reducible apply dn_lst
        · exists "d"
        · show 3 ≤ 100000; decide
      · show pool3 _ = _
        rw [e0]
        rfl
    · intro hc
      have e0 : (poolSplit ns).2 ≠ [] := fun e => by
        rw [e] at hc
        exact absurd hc (by decide)
      have ep : pool ns = ⟨(poolSplit ns).1, (poolSplit ns).2, 0⟩ := by
        unfold pool
        rw [if_neg e0]
      rw [ep] at q
      exists "n"
      refine s_freeze (i := 1) (t := tInt) rfl (fun _ _ _ _ z => z) ?_
      refine s_freeze (i := 2) (t := tInt) rfl (fun _ _ _ _ z => z) ?_
      apply s_retNP ⟨rfl, rfl, rfl⟩ rfl q
      · with_reducible apply dn_lst
        · exists "d"
        · show 3 ≤ 100000; decide
      · rfl

theorem sc__law_take : FnScope ["pool", "most", "value", "rest", "count", "seed", "mixed"] ["pool", "most"] (defScope s__law_take) := ⟨rfl, rfl, rfl, by decide +kernel, rfl, by decide +kernel, by decide +kernel⟩
set_option maxHeartbeats 4000000 in
theorem ok__law_take (F : FunD W.K "_law_take" "_law_take" (defArgs s__law_take) (defBody s__law_take) (defScope s__law_take) [] [] f fd)(g : W.mg "_law_take" = some (.ref f))
    (z_len : W.mg "len" = none)
    (z_list : W.mg "list" = none)
    (z_int : W.mg "int" = none) : DefOk W "_law_take" 1 ["pool", "most"] (spM S_take) := by
  refine defOk_of F g sc__law_take (spM_len (n := 1) fun ps ds ps' r ⟨_, _, _, e, _⟩ => by rw [e]; rfl) (fun _ _ _ _ _ _ us hl => match us, hl with | [_, _], _ => rfl) (fun cdv A outer s H vs Q E hr h => ⟨_, (pss_cons (ps_if (pt_cmpR op_lt (pv 1) pe_int (nomark _)) (pss_one (ps_ret pe_int)) pss_nil)
    (pss_cons (ps_if (pt_cmpR op_gt (pe_callB call_len_seq (by rfl) z_len PySem.boot_len (pa_cons (pe_ix ix_list (pv 0) pe_int (fun _ _ => rfl)) pa_nil)) pe_int (nomark _)) (pss_cons (ps_set (i := 2) sc__law_take.nd rfl (Or.inl rfl) (pe_ix ix_list (pe_ix ix_list (pv 0) pe_int (fun _ _ => rfl)) pe_int (fun _ _ => rfl)))
    (pss_cons (ps_set (i := 3) sc__law_take.nd rfl (Or.inl rfl) (pe_callTy call_list_of (by rfl) z_list (by decide +kernel) (pa_cons (pe_slice sl_list (pe_ix ix_list (pv 0) pe_int (fun _ _ => rfl)) (po_some pe_int) po_none) pa_nil)))
    (pss_cons (ps_if (pt_cmpR op_gt (pe_op op_fdivX (pv 2) (pv 1)) pe_int (nomark _)) (pss_one (ps_set (i := 3) sc__law_take.nd rfl (Or.inl rfl) (pe_op op_cat (pe_lst (pa_cons (pe_op op_fdivX (pv 2) (pv 1)) pa_nil)) (pv 3)))) pss_nil)
    (pss_cons (ps_asg (pv 3) (pg_sub (pv 0) pe_int set_list))
    (pss_one (ps_ret (pe_op op_mod (pe_callTy call_int1 (by rfl) z_int (by decide +kernel) (pa_cons (pv 2) pa_nil)) (pv 1)))))))) pss_nil)
    (pss_cons (ps_set (i := 4) sc__law_take.nd rfl (Or.inl rfl) (pe_ix ix_list (pv 0) pe_int (fun _ _ => rfl)))
    (pss_cons (ps_asg (pe_op op_add (pv 4) pe_int) (pg_sub (pv 0) pe_int set_list))
    (pss_cons (ps_set (i := 5) sc__law_take.nd rfl (Or.inl rfl) (pe_ix ix_list (pe_ix ix_list (pv 0) pe_int (fun _ _ => rfl)) (pe_op op_mod (pe_callTy call_int1 (by rfl) z_int (by decide +kernel) (pa_cons (pe_op op_fdivX (pv 4) pe_int) pa_nil)) (pe_callB call_len_seq (by rfl) z_len PySem.boot_len (pa_cons (pe_ix ix_list (pv 0) pe_int (fun _ _ => rfl)) pa_nil))) (fun _ _ => rfl)))
    (pss_cons (ps_set (i := 6) sc__law_take.nd rfl (Or.inl rfl) (pe_op op_mod (pe_callTy call_int1 (by rfl) z_int (by decide +kernel) (pa_cons (pe_op op_add (pe_op op_add (pe_op op_mulW (pv 5) pe_int) (pe_op op_mulW (pv 4) pe_int)) pe_int) pa_nil)) pe_int))
    (pss_cons (ps_set (i := 6) sc__law_take.nd rfl (Or.inl rfl) (pe_op op_mod (pe_callTy call_int1 (by rfl) z_int (by decide +kernel) (pa_cons (pe_op op_add (pe_op op_add (pe_op op_mulW (pv 6) (pv 6)) (pe_op op_mulW (pv 4) pe_int)) pe_int) pa_nil)) pe_int))
    (pss_cons (ps_set (i := 6) sc__law_take.nd rfl (Or.inl rfl) (pe_op op_mod (pe_callTy call_int1 (by rfl) z_int (by decide +kernel) (pa_cons (pe_op op_add (pe_op op_add (pe_op op_mulW (pv 6) (pv 6)) (pv 5)) pe_int) pa_nil)) pe_int))
    (pss_one (ps_ret (pe_op op_mod (pe_callTy call_int1 (by rfl) z_int (by decide +kernel) (pa_cons (pe_op op_fdivX (pv 6) pe_int) pa_nil)) (pv 1)))))))))))), ?_⟩)
  refine body_M h fun F a ps ds ps' r _ hS q => ?_
  obtain ⟨p, m, rfl, rfl, hp, hc, hm, rfl, rfl⟩ := hS
  refine (show OK _ [_, _, _, _, _, _, _] _ from ?_)
  exists "if"
  · intro hb
    rw [take_low (of_decide_eq_true hb)] at q
    apply s_retM ⟨rfl, rfl, rfl⟩ rfl q
    · exists "d"
    · rfl
    · rfl
  intro hb
  have hb : 2 ≤ m := by
    have := of_decide_eq_false hb
    omega
  obtain ⟨gr, sm, ct⟩ := p
  cases gr with
  | cons v r =>
    exists "if"
    rotate_left
    · intro hb
      exact absurd (of_decide_eq_false hb) (by simp)
    intro _
    exists "set"
    exists "let"
    intro rest hrest
    have hrest : rest = r := by
      rw [hrest]
      simp [HT.sIx]
    subst hrest
    have hl : rest.length ≤ 1000 := by
      have := hp.gl
      rw [List.length_cons] at this
      omega
    exists "if"
    · intro hc
      rw [take_yes hb (of_decide_eq_true hc)] at q
      exists "set"
      exists "n"
      apply s_setIxH
      · exists "d"
      · rfl
      · decide
      · show 0 < 3; decide
      exists "n"
      apply s_retM ⟨rfl, rfl, rfl⟩ rfl q
      · exists "d"
      · rfl
      · rfl
    · intro hc
      rw [take_no hb (of_decide_eq_false hc)] at q
      exists "n"
      apply s_setIxH
      · exists "d"
      · rfl
      · decide
      · show 0 < 3; decide
      exists "n"
      apply s_retM ⟨rfl, rfl, rfl⟩ rfl q
      · exists "d"
      · rfl
      · rfl
  | nil =>
    obtain ⟨x0, xs, x1, x2⟩ := seed_at hp
    rw [take_nil hb] at q
    generalize hseed : seedOf ⟨[], sm, ct⟩ = seed at *
    have hct : 0 ≤ ct := hp.ct
    have hsl : 0 < (sm.length : Int) := by
      have := List.length_pos_iff.mpr (show sm ≠ [] from hp.sm)
      omega
    have hc : ct < 1000000000 := hc
    exists "if"
    · intro hb
      exact absurd (of_decide_eq_true hb) (by simp)
    intro _
    exists "set"
    exists "n"
    apply s_setIxH
    · exists "d"
    · rfl
    · decide
    · show 2 < 3; decide
    exists "set"
    exists "let"
    intro m0 h0
    have b0 := emod_r (seed * 48271 + ct * 69621 + 12345) (m := 2147483647) (by decide)
    rw [← h0] at b0
    exists "let"
    intro m1 h1
    have b1 := emod_r (m0 * m0 + ct * 40692 + 7) (m := 2147483399) (by decide)
    rw [← h1] at b1
    exists "let"
    intro m2 h2
    have b2 := emod_r (m1 * m1 + seed + 3) (m := 2147483563) (by decide)
    rw [← h2] at b2
    have e : mix2 (mix1 (mix0 seed ct) ct) seed = m2 := by
      rw [h2, h1, h0] <;> rfl
    rw [e] at q
    exists "n"
    apply s_retM ⟨rfl, rfl, rfl⟩ rfl q
    · exists "d"
    · rfl
    · rfl

theorem sc_Ratio___init__ : FnScope ["self", "top", "bottom", "common"] ["self", "top", "bottom"] (defScope s_Ratio___init__) := ⟨rfl, rfl, rfl, by decide +kernel, rfl, by decide +kernel, by decide +kernel⟩
set_option maxHeartbeats 4000000 in
theorem ok_Ratio___init__ (F : FunD W.K "__init__" "Ratio.__init__" (defArgs s_Ratio___init__) (defBody s_Ratio___init__) (defScope s_Ratio___init__) [.int 1] [] f fd)(g : Mk W.K C_Ratio f)
    (xc_ZeroDivisor : ExcOk W "ZeroDivisor" C_ZeroDivisor)
    (q_gcd : W.mg "gcd" = some (.builtin "math.gcd"))
    (RW_ : RatW W.K C_Ratio) : InitOkD W C_Ratio 1 ["self", "top", "bottom"] (spI C_Ratio S_init (R_init C_ZeroDivisor)) [.int 1] := by
  refine initOkD_of F g sc_Ratio___init__ (spI_len (n := 2) (fun ds r ⟨_, _, e, _⟩ => by rw [e]; rfl) (fun ds r ⟨_, e, _⟩ => by rw [e]; rfl)) (by decide) (fun _ _ _ _ _ _ _ us its hl hl2 => match us, its, hl, hl2 with | [_, _, _], [_], _, _ => ⟨_, rfl, rfl⟩) (fun _ _ _ _ _ _ _ us its hl hl2 => match us, its, hl, hl2 with | [_, _], [_], _, _ => ⟨_, rfl, rfl⟩) (fun cdv A outer s H vs Q E hr h => ⟨_, (pss_cons (ps_if (pt_cmpR op_eq (pv 2) pe_int (nomark _)) (pss_one (ps_raise rfl (takes_of rfl rfl rfl rfl) (pmk_own PySem.F.excBase_ValueError xc_ZeroDivisor.x xc_ZeroDivisor.g xc_ZeroDivisor.k (raises_own xc_ZeroDivisor.b xc_ZeroDivisor.t) rfl))) pss_nil)
    (pss_cons (ps_set (i := 3) sc_Ratio___init__.nd rfl (Or.inl rfl) (pe_callBfun cr_gcd rfl q_gcd (pa_cons (pv 1) (pa_cons (pv 2) pa_nil))))
    (pss_cons (ps_if (pt_cmpR op_lt (pv 2) pe_int (nomark _)) (pss_one (ps_set (i := 3) sc_Ratio___init__.nd rfl (Or.inl rfl) (pe_un un_neg (pv 3)))) pss_nil)
    (pss_cons (ps_fld (pv 0) (pe_op op_fdivX (pv 1) (pv 3)) rfl)
    (pss_one (ps_fld (pv 0) (pe_op op_fdivX (pv 2) (pv 3)) rfl)))))), ?_⟩)
  refine body_I h fun F x ds _ hS => ?_
  rcases hS with ⟨fs, hS, q⟩ | ⟨c, hR, q⟩
  · obtain ⟨n, d, rfl, hd, hn, hb, rfl⟩ := hS
    refine (show OK _ [_, _, _, _] _ from ?_)
    exists "if"
    · intro hc
      exact absurd (of_decide_eq_true hc) hd
    intro _
    exists "set"
    exists "if"
    · intro hc
      have hc := of_decide_eq_true hc
      have e : cmn n d = -((Nat.gcd n.natAbs d.natAbs : Nat) : Int) := if_pos hc
      have z1 : CDivX n (-((Nat.gcd n.natAbs d.natAbs : Nat) : Int)) := by rw [← e]; exact cmn_div hd hb
      have z2 : CDivX d (-((Nat.gcd n.natAbs d.natAbs : Nat) : Int)) := by rw [← e]; exact cmn_div hd hb
      have ef : nrm n d = ⟨n.fdiv (-((Nat.gcd n.natAbs d.natAbs : Nat) : Int)), d.fdiv (-((Nat.gcd n.natAbs d.natAbs : Nat) : Int))⟩ := by rw [← e]; rfl
      rw [ef] at q
      exists "set"
      exists "n"
      apply s_fld
      · exists "d"
      · rfl
      · exact RW_.cls
      · exact RW_.nt
      · decide
      exists "n"
      apply s_fld
      · exists "d"
      · rfl
      · exact RW_.cls
      · exact RW_.nb
      · exact (by decide : 1 < 1000)
      exists "n"
      exact s_endI ⟨rfl, rfl, rfl⟩ (fun σ H h => h) q (by rfl)
    · intro hc
      have hc := of_decide_eq_false hc
      have e : cmn n d = ((Nat.gcd n.natAbs d.natAbs : Nat) : Int) := if_neg hc
      have z1 : CDivX n (((Nat.gcd n.natAbs d.natAbs : Nat) : Int)) := by rw [← e]; exact cmn_div hd hb
      have z2 : CDivX d (((Nat.gcd n.natAbs d.natAbs : Nat) : Int)) := by rw [← e]; exact cmn_div hd hb
      have ef : nrm n d = ⟨n.fdiv (((Nat.gcd n.natAbs d.natAbs : Nat) : Int)), d.fdiv (((Nat.gcd n.natAbs d.natAbs : Nat) : Int))⟩ := by rw [← e]; rfl
      rw [ef] at q
      exists "n"
      apply s_fld
      · exists "d"
      · rfl
      · exact RW_.cls
      · exact RW_.nt
      · decide
      exists "n"
      apply s_fld
      · exists "d"
      · rfl
      · exact RW_.cls
      · exact RW_.nb
      · exact (by decide : 1 < 1000)
      exists "n"
      exact s_endI ⟨rfl, rfl, rfl⟩ (fun σ H h => h) q (by rfl)
  · obtain ⟨n, rfl, rfl⟩ := hR
    refine (show OK _ [_, _, _, _] _ from ?_)
    exists "if"
    · intro _
      exists "n"
      exact s_raise ⟨rfl, rfl, rfl⟩ q (fun σ H h => h)
    · intro hc
      exact absurd rfl (of_decide_eq_false hc)

theorem sc_Ratio___add__ : FnScope ["self", "other"] ["self", "other"] (defScope s_Ratio___add__) := ⟨rfl, rfl, rfl, by decide +kernel, rfl, by decide +kernel, by decide +kernel⟩
set_option maxHeartbeats 4000000 in
theorem ok_Ratio___add__ (F : FunD W.K "__add__" "Ratio.__add__" (defArgs s_Ratio___add__) (defBody s_Ratio___add__) (defScope s_Ratio___add__) [] [] f fd)
    (gc_Ratio : W.mg "Ratio" = some (.ref C_Ratio))
    (z_isinstance : W.mg "isinstance" = none)
    (RW_ : RatW W.K C_Ratio)
    (h_Ratio_init : InitOkD W C_Ratio 1 ["self", "top", "bottom"] (spI C_Ratio S_init (R_init C_ZeroDivisor)) [.int 1])
    (z_int : W.mg "int" = none) : FnAt W f 3 ["self", "other"] (spP (S_two C_Ratio addR addI) NoR) := by
  obtain ⟨f_Ratio_init, fd_Ratio_init, ds_Ratio_init, G_Ratio_init, M_Ratio, b_Ratio_init, bD_Ratio, vD_Ratio⟩ := h_Ratio_init
  refine fnAt_of F sc_Ratio___add__ (spP_len (n := 2) (fun ds r h => by rcases h with ⟨_, _, rfl, _⟩ | ⟨_, _, rfl, _⟩ <;> rfl) (fun _ _ h => h.elim)) (fun _ _ _ _ _ _ us hl => match us, hl with | [_, _], _ => rfl) (fun cdv A outer s H vs Q E hr h => ⟨_, (pss_cons (ps_if (pt_val (pe_callB call_isi (by rfl) z_isinstance (by decide +kernel) (pa_cons (pv 1) (pa_cons (pe_glob (v := .ref C_Ratio) rfl gc_Ratio rfl) pa_nil)))) (pss_one (ps_ret (pe_make M_Ratio G_Ratio_init (hr.mono (by decide)) (by rfl) gc_Ratio b_Ratio_init .nil (passes_call (takes_of rfl rfl rfl rfl) (fun _ _ _ _ h => h)) (pa_cons (pe_op op_add (pe_op op_mulW (pe_fld (pv 0) rfl) (pe_fld (pv 1) rfl)) (pe_op op_mulW (pe_fld (pv 1) rfl) (pe_fld (pv 0) rfl))) (pa_cons (pe_op op_mulW (pe_fld (pv 0) rfl) (pe_fld (pv 1) rfl)) pa_nil))))) pss_nil)
    (pss_cons (ps_if (pt_val (pe_callB call_isi (by rfl) z_isinstance (by decide +kernel) (pa_cons (pv 1) (pa_cons (pe_bltn (v := .ty "int") (u := .type "int") (by rfl) z_int (by decide +kernel) rfl) pa_nil)))) (pss_one (ps_ret (pe_make M_Ratio G_Ratio_init (hr.mono (by decide)) (by rfl) gc_Ratio b_Ratio_init .nil (passes_call (takes_of rfl rfl rfl rfl) (fun _ _ _ _ h => h)) (pa_cons (pe_op op_add (pe_fld (pv 0) rfl) (pe_op op_mulW (pv 1) (pe_fld (pv 0) rfl))) (pa_cons (pe_fld (pv 0) rfl) pa_nil))))) pss_nil)
    (pss_one ps_dead))), ?_⟩)
  refine body_P h fun F ds _ hS => ?_
  rcases hS with ⟨r, ⟨p, p2, rfl, hp, hq, rfl⟩ | ⟨p, i, rfl, hp, hi, rfl⟩, q⟩ | ⟨c, hR, _⟩
  · refine (show OK _ [_, _] _ from ?_)
    obtain ⟨pt, pb, pn⟩ := hp
    obtain ⟨qt, qb, qn⟩ := hq
    exists "if"
    rotate_left
    · intro hc; cases hc
    intro _
    exists "n"
    apply s_retP ⟨rfl, rfl, rfl⟩ rfl q
    · exists "d"
    · rfl
  · refine (show OK _ [_, _] _ from ?_)
    obtain ⟨pt, pb, pn⟩ := hp
    exists "if"
    · intro hc; cases hc
    intro _
    exists "if"
    rotate_left
    · intro hc; cases hc
    intro _
    exists "n"
    apply s_retP ⟨rfl, rfl, rfl⟩ rfl q
    · exists "d"
    · rfl
  · exact hR.elim

theorem sc_Ratio___sub__ : FnScope ["self", "other"] ["self", "other"] (defScope s_Ratio___sub__) := ⟨rfl, rfl, rfl, by decide +kernel, rfl, by decide +kernel, by decide +kernel⟩
set_option maxHeartbeats 4000000 in
theorem ok_Ratio___sub__ (F : FunD W.K "__sub__" "Ratio.__sub__" (defArgs s_Ratio___sub__) (defBody s_Ratio___sub__) (defScope s_Ratio___sub__) [] [] f fd)
    (gc_Ratio : W.mg "Ratio" = some (.ref C_Ratio))
    (z_isinstance : W.mg "isinstance" = none)
    (RW_ : RatW W.K C_Ratio)
    (h_Ratio_init : InitOkD W C_Ratio 1 ["self", "top", "bottom"] (spI C_Ratio S_init (R_init C_ZeroDivisor)) [.int 1])
    (z_int : W.mg "int" = none) : FnAt W f 3 ["self", "other"] (spP (S_two C_Ratio subR subI) NoR) := by
  obtain ⟨f_Ratio_init, fd_Ratio_init, ds_Ratio_init, G_Ratio_init, M_Ratio, b_Ratio_init, bD_Ratio, vD_Ratio⟩ := h_Ratio_init
  refine fnAt_of F sc_Ratio___sub__ (spP_len (n := 2) (fun ds r h => by rcases h with ⟨_, _, rfl, _⟩ | ⟨_, _, rfl, _⟩ <;> rfl) (fun _ _ h => h.elim)) (fun _ _ _ _ _ _ us hl => match us, hl with | [_, _], _ => rfl) (fun cdv A outer s H vs Q E hr h => ⟨_, (pss_cons (ps_if (pt_val (pe_callB call_isi (by rfl) z_isinstance (by decide +kernel) (pa_cons (pv 1) (pa_cons (pe_glob (v := .ref C_Ratio) rfl gc_Ratio rfl) pa_nil)))) (pss_one (ps_ret (pe_make M_Ratio G_Ratio_init (hr.mono (by decide)) (by rfl) gc_Ratio b_Ratio_init .nil (passes_call (takes_of rfl rfl rfl rfl) (fun _ _ _ _ h => h)) (pa_cons (pe_op op_sub (pe_op op_mulW (pe_fld (pv 0) rfl) (pe_fld (pv 1) rfl)) (pe_op op_mulW (pe_fld (pv 1) rfl) (pe_fld (pv 0) rfl))) (pa_cons (pe_op op_mulW (pe_fld (pv 0) rfl) (pe_fld (pv 1) rfl)) pa_nil))))) pss_nil)
    (pss_cons (ps_if (pt_val (pe_callB call_isi (by rfl) z_isinstance (by decide +kernel) (pa_cons (pv 1) (pa_cons (pe_bltn (v := .ty "int") (u := .type "int") (by rfl) z_int (by decide +kernel) rfl) pa_nil)))) (pss_one (ps_ret (pe_make M_Ratio G_Ratio_init (hr.mono (by decide)) (by rfl) gc_Ratio b_Ratio_init .nil (passes_call (takes_of rfl rfl rfl rfl) (fun _ _ _ _ h => h)) (pa_cons (pe_op op_sub (pe_fld (pv 0) rfl) (pe_op op_mulW (pv 1) (pe_fld (pv 0) rfl))) (pa_cons (pe_fld (pv 0) rfl) pa_nil))))) pss_nil)
    (pss_one ps_dead))), ?_⟩)
  refine body_P h fun F ds _ hS => ?_
  rcases hS with ⟨r, ⟨p, p2, rfl, hp, hq, rfl⟩ | ⟨p, i, rfl, hp, hi, rfl⟩, q⟩ | ⟨c, hR, _⟩
  · refine (show OK _ [_, _] _ from ?_)
    obtain ⟨pt, pb, pn⟩ := hp
    obtain ⟨qt, qb, qn⟩ := hq
    exists "if"
    rotate_left
    · intro hc; cases hc
    intro _
    exists "n"
    apply s_retP ⟨rfl, rfl, rfl⟩ rfl q
    · exists "d"
    · rfl
  · refine (show OK _ [_, _] _ from ?_)
    obtain ⟨pt, pb, pn⟩ := hp
    exists "if"
    · intro hc; cases hc
    intro _
    exists "if"
    rotate_left
    · intro hc; cases hc
    intro _
    exists "n"
    apply s_retP ⟨rfl, rfl, rfl⟩ rfl q
    · exists "d"
    · rfl
  · exact hR.elim

theorem sc_Ratio___mul__ : FnScope ["self", "other"] ["self", "other"] (defScope s_Ratio___mul__) := ⟨rfl, rfl, rfl, by decide +kernel, rfl, by decide +kernel, by decide +kernel⟩
set_option maxHeartbeats 4000000 in
theorem ok_Ratio___mul__ (F : FunD W.K "__mul__" "Ratio.__mul__" (defArgs s_Ratio___mul__) (defBody s_Ratio___mul__) (defScope s_Ratio___mul__) [] [] f fd)
    (gc_Ratio : W.mg "Ratio" = some (.ref C_Ratio))
    (z_isinstance : W.mg "isinstance" = none)
    (RW_ : RatW W.K C_Ratio)
    (h_Ratio_init : InitOkD W C_Ratio 1 ["self", "top", "bottom"] (spI C_Ratio S_init (R_init C_ZeroDivisor)) [.int 1])
    (z_int : W.mg "int" = none) : FnAt W f 3 ["self", "other"] (spP (S_two C_Ratio mulR mulI) NoR) := by
  obtain ⟨f_Ratio_init, fd_Ratio_init, ds_Ratio_init, G_Ratio_init, M_Ratio, b_Ratio_init, bD_Ratio, vD_Ratio⟩ := h_Ratio_init
  refine fnAt_of F sc_Ratio___mul__ (spP_len (n := 2) (fun ds r h => by rcases h with ⟨_, _, rfl, _⟩ | ⟨_, _, rfl, _⟩ <;> rfl) (fun _ _ h => h.elim)) (fun _ _ _ _ _ _ us hl => match us, hl with | [_, _], _ => rfl) (fun cdv A outer s H vs Q E hr h => ⟨_, (pss_cons (ps_if (pt_val (pe_callB call_isi (by rfl) z_isinstance (by decide +kernel) (pa_cons (pv 1) (pa_cons (pe_glob (v := .ref C_Ratio) rfl gc_Ratio rfl) pa_nil)))) (pss_one (ps_ret (pe_make M_Ratio G_Ratio_init (hr.mono (by decide)) (by rfl) gc_Ratio b_Ratio_init .nil (passes_call (takes_of rfl rfl rfl rfl) (fun _ _ _ _ h => h)) (pa_cons (pe_op op_mulW (pe_fld (pv 0) rfl) (pe_fld (pv 1) rfl)) (pa_cons (pe_op op_mulW (pe_fld (pv 0) rfl) (pe_fld (pv 1) rfl)) pa_nil))))) pss_nil)
    (pss_cons (ps_if (pt_val (pe_callB call_isi (by rfl) z_isinstance (by decide +kernel) (pa_cons (pv 1) (pa_cons (pe_bltn (v := .ty "int") (u := .type "int") (by rfl) z_int (by decide +kernel) rfl) pa_nil)))) (pss_one (ps_ret (pe_make M_Ratio G_Ratio_init (hr.mono (by decide)) (by rfl) gc_Ratio b_Ratio_init .nil (passes_call (takes_of rfl rfl rfl rfl) (fun _ _ _ _ h => h)) (pa_cons (pe_op op_mulW (pe_fld (pv 0) rfl) (pv 1)) (pa_cons (pe_fld (pv 0) rfl) pa_nil))))) pss_nil)
    (pss_one ps_dead))), ?_⟩)
  refine body_P h fun F ds _ hS => ?_
  rcases hS with ⟨r, ⟨p, p2, rfl, hp, hq, rfl⟩ | ⟨p, i, rfl, hp, hi, rfl⟩, q⟩ | ⟨c, hR, _⟩
  · refine (show OK _ [_, _] _ from ?_)
    obtain ⟨pt, pb, pn⟩ := hp
    obtain ⟨qt, qb, qn⟩ := hq
    exists "if"
    rotate_left
    · intro hc; cases hc
    intro _
    exists "n"
    apply s_retP ⟨rfl, rfl, rfl⟩ rfl q
    · exists "d"
    · rfl
  · refine (show OK _ [_, _] _ from ?_)
    obtain ⟨pt, pb, pn⟩ := hp
    exists "if"
    · intro hc; cases hc
    intro _
    exists "if"
    rotate_left
    · intro hc; cases hc
    intro _
    exists "n"
    apply s_retP ⟨rfl, rfl, rfl⟩ rfl q
    · exists "d"
    · rfl
  · exact hR.elim

theorem sc_Ratio___neg__ : FnScope ["self"] ["self"] (defScope s_Ratio___neg__) := ⟨rfl, rfl, rfl, by decide +kernel, rfl, by decide +kernel, by decide +kernel⟩
set_option maxHeartbeats 4000000 in
theorem ok_Ratio___neg__ (F : FunD W.K "__neg__" "Ratio.__neg__" (defArgs s_Ratio___neg__) (defBody s_Ratio___neg__) (defScope s_Ratio___neg__) [] [] f fd)
    (RW_ : RatW W.K C_Ratio)
    (h_Ratio_init : InitOkD W C_Ratio 1 ["self", "top", "bottom"] (spI C_Ratio S_init (R_init C_ZeroDivisor)) [.int 1])
    (gc_Ratio : W.mg "Ratio" = some (.ref C_Ratio)) : FnAt W f 3 ["self"] (spP (S_oneR C_Ratio negR) NoR) := by
  obtain ⟨f_Ratio_init, fd_Ratio_init, ds_Ratio_init, G_Ratio_init, M_Ratio, b_Ratio_init, bD_Ratio, vD_Ratio⟩ := h_Ratio_init
  refine fnAt_of F sc_Ratio___neg__ (spP_len (n := 1) (fun ds r h => by obtain ⟨_, rfl, _⟩ := h; rfl) (fun _ _ h => h.elim)) (fun _ _ _ _ _ _ us hl => match us, hl with | [_], _ => rfl) (fun cdv A outer s H vs Q E hr h => ⟨_, (pss_one (ps_ret (pe_make M_Ratio G_Ratio_init (hr.mono (by decide)) (by rfl) gc_Ratio b_Ratio_init .nil (passes_call (takes_of rfl rfl rfl rfl) (fun _ _ _ _ h => h)) (pa_cons (pe_un un_neg (pe_fld (pv 0) rfl)) (pa_cons (pe_fld (pv 0) rfl) pa_nil))))), ?_⟩)
  refine body_P h fun F ds _ hS => ?_
  rcases hS with ⟨r, ⟨p, rfl, hp, rfl⟩, q⟩ | ⟨c, hR, _⟩
  · refine (show OK _ [_] _ from ?_)
    obtain ⟨pt, pb, pn⟩ := hp
    have b1 : Bd 4000 p.top := bt_one pt
    have b2 : Bd 4000 p.bot := bt_one pb
    exists "n"
    apply s_retP ⟨rfl, rfl, rfl⟩ rfl q
    · exists "d"
    · rfl
  · exact hR.elim

theorem sc_Ratio___abs__ : FnScope ["self"] ["self"] (defScope s_Ratio___abs__) := ⟨rfl, rfl, rfl, by decide +kernel, rfl, by decide +kernel, by decide +kernel⟩
set_option maxHeartbeats 4000000 in
theorem ok_Ratio___abs__ (F : FunD W.K "__abs__" "Ratio.__abs__" (defArgs s_Ratio___abs__) (defBody s_Ratio___abs__) (defScope s_Ratio___abs__) [] [] f fd)
    (z_abs : W.mg "abs" = none)
    (RW_ : RatW W.K C_Ratio)
    (h_Ratio_init : InitOkD W C_Ratio 1 ["self", "top", "bottom"] (spI C_Ratio S_init (R_init C_ZeroDivisor)) [.int 1])
    (gc_Ratio : W.mg "Ratio" = some (.ref C_Ratio)) : FnAt W f 3 ["self"] (spP (S_oneR C_Ratio absR) NoR) := by
  obtain ⟨f_Ratio_init, fd_Ratio_init, ds_Ratio_init, G_Ratio_init, M_Ratio, b_Ratio_init, bD_Ratio, vD_Ratio⟩ := h_Ratio_init
  refine fnAt_of F sc_Ratio___abs__ (spP_len (n := 1) (fun ds r h => by obtain ⟨_, rfl, _⟩ := h; rfl) (fun _ _ h => h.elim)) (fun _ _ _ _ _ _ us hl => match us, hl with | [_], _ => rfl) (fun cdv A outer s H vs Q E hr h => ⟨_, (pss_one (ps_ret (pe_make M_Ratio G_Ratio_init (hr.mono (by decide)) (by rfl) gc_Ratio b_Ratio_init .nil (passes_call (takes_of rfl rfl rfl rfl) (fun _ _ _ _ h => h)) (pa_cons (pe_callB call_abs (by rfl) z_abs (by decide +kernel) (pa_cons (pe_fld (pv 0) rfl) pa_nil)) (pa_cons (pe_fld (pv 0) rfl) pa_nil))))), ?_⟩)
  refine body_P h fun F ds _ hS => ?_
  rcases hS with ⟨r, ⟨p, rfl, hp, rfl⟩, q⟩ | ⟨c, hR, _⟩
  · refine (show OK _ [_] _ from ?_)
    obtain ⟨pt, pb, pn⟩ := hp
    have b1 : Bd 4000 p.top := bt_one pt
    have b2 : Bd 4000 p.bot := bt_one pb
    exists "n"
    apply s_retP ⟨rfl, rfl, rfl⟩ rfl q
    · exists "d"
    · rfl
  · exact hR.elim

theorem sc_Ratio___radd__ : FnScope ["self", "other"] ["self", "other"] (defScope s_Ratio___radd__) := ⟨rfl, rfl, rfl, by decide +kernel, rfl, by decide +kernel, by decide +kernel⟩
set_option maxHeartbeats 4000000 in
theorem ok_Ratio___radd__ (F : FunD W.K "__radd__" "Ratio.__radd__" (defArgs s_Ratio___radd__) (defBody s_Ratio___radd__) (defScope s_Ratio___radd__) [] [] f fd)
    (RW_ : RatW W.K C_Ratio)
    (O_Ratio_add : OwnB W.K C_Ratio "add" a_Ratio_add a_Ratio_radd)
    (OI_Ratio_add : OwnInt W.K C_Ratio "add")
    (h_Ratio_add : FnAt W a_Ratio_add 3 ["self", "other"] (spP (S_two C_Ratio addR addI) NoR)) : FnAt W f 4 ["self", "other"] (spP (S_twoI C_Ratio addI) NoR) := by
  obtain ⟨fd_Ratio_add, G_Ratio_add, b_Ratio_add⟩ := h_Ratio_add
  refine fnAt_of F sc_Ratio___radd__ (spP_len (n := 2) (fun ds r h => by obtain ⟨_, _, rfl, _⟩ := h; rfl) (fun _ _ h => h.elim)) (fun _ _ _ _ _ _ us hl => match us, hl with | [_, _], _ => rfl) (fun cdv A outer s H vs Q E hr h => ⟨_, (pss_one (ps_ret (pe_op (op_ownI O_Ratio_add OI_Ratio_add G_Ratio_add b_Ratio_add passL (hr.mono (by decide))) (pv 0) (pv 1)))), ?_⟩)
  refine body_P h fun F ds _ hS => ?_
  rcases hS with ⟨r, ⟨p, i, rfl, hp, hi, rfl⟩, q⟩ | ⟨c, hR, _⟩
  · refine (show OK _ [_, _] _ from ?_)
    have hn : Rb (negR p) := nrm_rb hp.t.neg hp.b hp.n
    exists "n"
    apply s_retP ⟨rfl, rfl, rfl⟩ rfl q
    · exists "d"
    · rfl
  · exact hR.elim

theorem sc_Ratio___rsub__ : FnScope ["self", "other"] ["self", "other"] (defScope s_Ratio___rsub__) := ⟨rfl, rfl, rfl, by decide +kernel, rfl, by decide +kernel, by decide +kernel⟩
set_option maxHeartbeats 4000000 in
theorem ok_Ratio___rsub__ (F : FunD W.K "__rsub__" "Ratio.__rsub__" (defArgs s_Ratio___rsub__) (defBody s_Ratio___rsub__) (defScope s_Ratio___rsub__) [] [] f fd)
    (RW_ : RatW W.K C_Ratio)
    (O_Ratio_neg : OwnM W.K C_Ratio "__neg__" a_Ratio_neg)
    (h_Ratio_neg : FnAt W a_Ratio_neg 3 ["self"] (spP (S_oneR C_Ratio negR) NoR))
    (O_Ratio_add : OwnB W.K C_Ratio "add" a_Ratio_add a_Ratio_radd)
    (OI_Ratio_add : OwnInt W.K C_Ratio "add")
    (h_Ratio_add : FnAt W a_Ratio_add 3 ["self", "other"] (spP (S_two C_Ratio addR addI) NoR)) : FnAt W f 4 ["self", "other"] (spP (S_twoI C_Ratio (fun p i => addI (negR p) i)) NoR) := by
  obtain ⟨fd_Ratio_neg, G_Ratio_neg, b_Ratio_neg⟩ := h_Ratio_neg
  obtain ⟨fd_Ratio_add, G_Ratio_add, b_Ratio_add⟩ := h_Ratio_add
  refine fnAt_of F sc_Ratio___rsub__ (spP_len (n := 2) (fun ds r h => by obtain ⟨_, _, rfl, _⟩ := h; rfl) (fun _ _ h => h.elim)) (fun _ _ _ _ _ _ us hl => match us, hl with | [_, _], _ => rfl) (fun cdv A outer s H vs Q E hr h => ⟨_, (pss_one (ps_ret (pe_op (op_ownI O_Ratio_add OI_Ratio_add G_Ratio_add b_Ratio_add passL (hr.mono (by decide))) (pe_un (un_ownNeg O_Ratio_neg G_Ratio_neg b_Ratio_neg passL (hr.mono (by decide))) (pv 0)) (pv 1)))), ?_⟩)
  refine body_P h fun F ds _ hS => ?_
  rcases hS with ⟨r, ⟨p, i, rfl, hp, hi, rfl⟩, q⟩ | ⟨c, hR, _⟩
  · refine (show OK _ [_, _] _ from ?_)
    have hn : Rb (negR p) := nrm_rb hp.t.neg hp.b hp.n
    exists "n"
    apply s_retP ⟨rfl, rfl, rfl⟩ rfl q
    · exists "d"
    · rfl
  · exact hR.elim

theorem sc_Ratio___rmul__ : FnScope ["self", "other"] ["self", "other"] (defScope s_Ratio___rmul__) := ⟨rfl, rfl, rfl, by decide +kernel, rfl, by decide +kernel, by decide +kernel⟩
set_option maxHeartbeats 4000000 in
theorem ok_Ratio___rmul__ (F : FunD W.K "__rmul__" "Ratio.__rmul__" (defArgs s_Ratio___rmul__) (defBody s_Ratio___rmul__) (defScope s_Ratio___rmul__) [] [] f fd)
    (RW_ : RatW W.K C_Ratio)
    (O_Ratio_mul : OwnB W.K C_Ratio "mul" a_Ratio_mul a_Ratio_rmul)
    (OI_Ratio_mul : OwnInt W.K C_Ratio "mul")
    (h_Ratio_mul : FnAt W a_Ratio_mul 3 ["self", "other"] (spP (S_two C_Ratio mulR mulI) NoR)) : FnAt W f 4 ["self", "other"] (spP (S_twoI C_Ratio mulI) NoR) := by
  obtain ⟨fd_Ratio_mul, G_Ratio_mul, b_Ratio_mul⟩ := h_Ratio_mul
  refine fnAt_of F sc_Ratio___rmul__ (spP_len (n := 2) (fun ds r h => by obtain ⟨_, _, rfl, _⟩ := h; rfl) (fun _ _ h => h.elim)) (fun _ _ _ _ _ _ us hl => match us, hl with | [_, _], _ => rfl) (fun cdv A outer s H vs Q E hr h => ⟨_, (pss_one (ps_ret (pe_op (op_ownI O_Ratio_mul OI_Ratio_mul G_Ratio_mul b_Ratio_mul passL (hr.mono (by decide))) (pv 0) (pv 1)))), ?_⟩)
  refine body_P h fun F ds _ hS => ?_
  rcases hS with ⟨r, ⟨p, i, rfl, hp, hi, rfl⟩, q⟩ | ⟨c, hR, _⟩
  · refine (show OK _ [_, _] _ from ?_)
    have hn : Rb (negR p) := nrm_rb hp.t.neg hp.b hp.n
    exists "n"
    apply s_retP ⟨rfl, rfl, rfl⟩ rfl q
    · exists "d"
    · rfl
  · exact hR.elim

theorem sc_Ratio___eq__ : FnScope ["self", "other"] ["self", "other"] (defScope s_Ratio___eq__) := ⟨rfl, rfl, rfl, by decide +kernel, rfl, by decide +kernel, by decide +kernel⟩
set_option maxHeartbeats 4000000 in
theorem ok_Ratio___eq__ (F : FunD W.K "__eq__" "Ratio.__eq__" (defArgs s_Ratio___eq__) (defBody s_Ratio___eq__) (defScope s_Ratio___eq__) [] [] f fd)
    (gc_Ratio : W.mg "Ratio" = some (.ref C_Ratio))
    (z_isinstance : W.mg "isinstance" = none)
    (z_int : W.mg "int" = none)
    (RW_ : RatW W.K C_Ratio) : FnAt W f 1 ["self", "other"] (spP (S_eq C_Ratio) NoR) := by
  refine fnAt_of F sc_Ratio___eq__ (spP_len (n := 2) (fun ds r h => by rcases h with ⟨_, _, rfl, _⟩ | ⟨_, _, rfl, _⟩ <;> rfl) (fun _ _ h => h.elim)) (fun _ _ _ _ _ _ us hl => match us, hl with | [_, _], _ => rfl) (fun cdv A outer s H vs Q E hr h => ⟨_, (pss_cons (ps_if (pt_val (pe_callB call_isi (by rfl) z_isinstance (by decide +kernel) (pa_cons (pv 1) (pa_cons (pe_glob (v := .ref C_Ratio) rfl gc_Ratio rfl) pa_nil)))) (pss_one (ps_ret (pe_and (pe_cmpR op_eq (pe_fld (pv 0) rfl) (pe_fld (pv 1) rfl) (nomark _)) (pe_one (pe_cmpR op_eq (pe_fld (pv 0) rfl) (pe_fld (pv 1) rfl) (nomark _)))))) pss_nil)
    (pss_cons (ps_if (pt_val (pe_callB call_isi (by rfl) z_isinstance (by decide +kernel) (pa_cons (pv 1) (pa_cons (pe_bltn (v := .ty "int") (u := .type "int") (by rfl) z_int (by decide +kernel) rfl) pa_nil)))) (pss_one (ps_ret (pe_and (pe_cmpR op_eq (pe_fld (pv 0) rfl) (pv 1) (nomark _)) (pe_one (pe_cmpR op_eq (pe_fld (pv 0) rfl) pe_int (nomark _)))))) pss_nil)
    (pss_one (ps_ret pe_bl)))), ?_⟩)
  refine body_P h fun F ds _ hS => ?_
  rcases hS with ⟨r, ⟨p, p2, rfl, rfl⟩ | ⟨p, i, rfl, rfl⟩, q⟩ | ⟨c, hR, _⟩
  · refine (show OK _ [_, _] _ from ?_)
    exists "if"
    rotate_left
    · intro hc; cases hc
    intro _
    exists "n"
    apply s_retP ⟨rfl, rfl, rfl⟩ rfl q
    · exists "d"
    · rfl
  · refine (show OK _ [_, _] _ from ?_)
    exists "if"
    · intro hc; cases hc
    intro _
    exists "if"
    rotate_left
    · intro hc; cases hc
    intro _
    exists "n"
    apply s_retP ⟨rfl, rfl, rfl⟩ rfl q
    · exists "d"
    · rfl
  · exact hR.elim

theorem sc_Ratio___bool__ : FnScope ["self"] ["self"] (defScope s_Ratio___bool__) := ⟨rfl, rfl, rfl, by decide +kernel, rfl, by decide +kernel, by decide +kernel⟩
set_option maxHeartbeats 4000000 in
theorem ok_Ratio___bool__ (F : FunD W.K "__bool__" "Ratio.__bool__" (defArgs s_Ratio___bool__) (defBody s_Ratio___bool__) (defScope s_Ratio___bool__) [] [] f fd)
    (z_bool : W.mg "bool" = none)
    (RW_ : RatW W.K C_Ratio) : FnAt W f 1 ["self"] (spP (S_bool C_Ratio) NoR) := by
  refine fnAt_of F sc_Ratio___bool__ (spP_len (n := 1) (fun ds r h => by obtain ⟨_, rfl, _⟩ := h; rfl) (fun _ _ h => h.elim)) (fun _ _ _ _ _ _ us hl => match us, hl with | [_], _ => rfl) (fun cdv A outer s H vs Q E hr h => ⟨_, (pss_one (ps_ret (pe_callTy call_bool1 (by rfl) z_bool (by decide +kernel) (pa_cons (pe_fld (pv 0) rfl) pa_nil)))), ?_⟩)
  refine body_P h fun F ds _ hS => ?_
  rcases hS with ⟨r, ⟨p, rfl, rfl⟩, q⟩ | ⟨c, hR, _⟩
  · refine (show OK _ [_] _ from ?_)
    exists "n"
    apply s_retP ⟨rfl, rfl, rfl⟩ rfl q
    · exists "d"
    · rfl
  · exact hR.elim

theorem sc_Ratio_over : FnScope ["self", "other"] ["self", "other"] (defScope s_Ratio_over) := ⟨rfl, rfl, rfl, by decide +kernel, rfl, by decide +kernel, by decide +kernel⟩
set_option maxHeartbeats 4000000 in
theorem ok_Ratio_over (F : FunD W.K "over" "Ratio.over" (defArgs s_Ratio_over) (defBody s_Ratio_over) (defScope s_Ratio_over) [] [] f fd)(g : Meth W.K C_Ratio "over" f)
    (gc_Ratio : W.mg "Ratio" = some (.ref C_Ratio))
    (z_isinstance : W.mg "isinstance" = none)
    (RW_ : RatW W.K C_Ratio)
    (h_Ratio_init : InitOkD W C_Ratio 1 ["self", "top", "bottom"] (spI C_Ratio S_init (R_init C_ZeroDivisor)) [.int 1]) : MethOk W C_Ratio "over" 3 ["self", "other"] (spP (S_over C_Ratio) (R_over C_Ratio C_ZeroDivisor)) := by
  obtain ⟨f_Ratio_init, fd_Ratio_init, ds_Ratio_init, G_Ratio_init, M_Ratio, b_Ratio_init, bD_Ratio, vD_Ratio⟩ := h_Ratio_init
  refine methOk_of F g sc_Ratio_over (spP_len (n := 2) (fun ds r h => by rcases h with ⟨_, _, rfl, _⟩ | ⟨_, _, rfl, _⟩ <;> rfl) (fun _ _ h => by rcases h with ⟨_, _, rfl, _⟩ | ⟨_, rfl, _⟩ <;> rfl)) (fun _ _ _ _ _ _ us hl => match us, hl with | [_, _], _ => rfl) (fun cdv A outer s H vs Q E hr h => ⟨_, (pss_cons (ps_if (pt_val (pe_callB call_isi (by rfl) z_isinstance (by decide +kernel) (pa_cons (pv 1) (pa_cons (pe_glob (v := .ref C_Ratio) rfl gc_Ratio rfl) pa_nil)))) (pss_one (ps_ret (pe_make M_Ratio G_Ratio_init (hr.mono (by decide)) (by rfl) gc_Ratio b_Ratio_init .nil (passes_call (takes_of rfl rfl rfl rfl) (fun _ _ _ _ h => h)) (pa_cons (pe_op op_mulW (pe_fld (pv 0) rfl) (pe_fld (pv 1) rfl)) (pa_cons (pe_op op_mulW (pe_fld (pv 0) rfl) (pe_fld (pv 1) rfl)) pa_nil))))) pss_nil)
    (pss_one (ps_ret (pe_make M_Ratio G_Ratio_init (hr.mono (by decide)) (by rfl) gc_Ratio b_Ratio_init .nil (passes_call (takes_of rfl rfl rfl rfl) (fun _ _ _ _ h => h)) (pa_cons (pe_fld (pv 0) rfl) (pa_cons (pe_op op_mulW (pe_fld (pv 0) rfl) (pv 1)) pa_nil)))))), ?_⟩)
  refine body_P h fun F ds _ hS => ?_
  rcases hS with ⟨r, ⟨p, p2, rfl, hp, hq, hz, rfl⟩ | ⟨p, i, rfl, hp, hi, hz, rfl⟩, q⟩ | ⟨c, ⟨p, p2, rfl, hp, hq, hz, rfl⟩ | ⟨p, rfl, hp, rfl⟩, q⟩
  · refine (show OK _ [_, _] _ from ?_)
    obtain ⟨pt, pb, pn⟩ := hp
    obtain ⟨qt, qb, qn⟩ := hq
    exists "if"
    rotate_left
    · intro hc; cases hc
    intro _
    exists "n"
    apply s_retP ⟨rfl, rfl, rfl⟩ rfl q
    · exists "d"
    · rfl
  · refine (show OK _ [_, _] _ from ?_)
    obtain ⟨pt, pb, pn⟩ := hp
    exists "if"
    · intro hc; cases hc
    intro _
    exists "n"
    apply s_retP ⟨rfl, rfl, rfl⟩ rfl q
    · exists "d"
    · rfl
  · refine (show OK _ [_, _] _ from ?_)
    obtain ⟨pt, pb, pn⟩ := hp
    obtain ⟨qt, qb, qn⟩ := hq
    exists "if"
    rotate_left
    · intro hc; cases hc
    intro _
    exists "n"
    apply s_botR (c := .ref C_ZeroDivisor)
    · apply bot_make (ds := [⟨tInt, p.top * p2.bot⟩, ⟨tInt, p.bot * p2.top⟩]) (es := [])
      · exists "d"
      · exact fun _ => .nil
      · rw [hz, Int.mul_zero]
        exact ⟨_, rfl, rfl⟩
    · exact fun F' σ H' hh => q F' H' hh.st
  · refine (show OK _ [_, _] _ from ?_)
    obtain ⟨pt, pb, pn⟩ := hp
    have i0 : Bd 1500 0 := Bd.zero
    exists "if"
    · intro hc; cases hc
    intro _
    exists "n"
    apply s_botR (c := .ref C_ZeroDivisor)
    · apply bot_make (ds := [⟨tInt, p.top⟩, ⟨tInt, p.bot * 0⟩]) (es := [])
      · exists "d"
      · exact fun _ => .nil
      · rw [Int.mul_zero]
        exact ⟨_, rfl, rfl⟩
    · exact fun F' σ H' hh => q F' H' hh.st

theorem sc_Ratio_sign : FnScope ["self"] ["self"] (defScope s_Ratio_sign) := ⟨rfl, rfl, rfl, by decide +kernel, rfl, by decide +kernel, by decide +kernel⟩
set_option maxHeartbeats 4000000 in
theorem ok_Ratio_sign (F : FunD W.K "sign" "Ratio.sign" (defArgs s_Ratio_sign) (defBody s_Ratio_sign) (defScope s_Ratio_sign) [] [] f fd)(g : Meth W.K C_Ratio "sign" f)
    (RW_ : RatW W.K C_Ratio) : MethOk W C_Ratio "sign" 1 ["self"] (spP (S_sign C_Ratio) NoR) := by
  refine methOk_of F g sc_Ratio_sign (spP_len (n := 1) (fun ds r h => by obtain ⟨_, rfl, _⟩ := h; rfl) (fun _ _ h => h.elim)) (fun _ _ _ _ _ _ us hl => match us, hl with | [_], _ => rfl) (fun cdv A outer s H vs Q E hr h => ⟨_, (pss_cons (ps_if (pt_cmpR op_lt (pe_fld (pv 0) rfl) pe_int (nomark _)) (pss_one (ps_ret (pe_un un_neg pe_int))) pss_nil)
    (pss_cons (ps_if (pt_cmpR op_gt (pe_fld (pv 0) rfl) pe_int (nomark _)) (pss_one (ps_ret pe_int)) pss_nil)
    (pss_one (ps_ret pe_int)))), ?_⟩)
  refine body_P h fun F ds _ hS => ?_
  rcases hS with ⟨r, ⟨p, rfl, rfl⟩, q⟩ | ⟨c, hR, _⟩
  · refine (show OK _ [_] _ from ?_)
    exists "if"
    · intro hc
      have hc : p.top < 0 := of_decide_eq_true hc
      have e : signR p = -1 := if_pos hc
      rw [e] at q
      exists "n"
      apply s_retP ⟨rfl, rfl, rfl⟩ rfl q
      · exists "d"
      · rfl
    intro hc
    have hc : ¬ p.top < 0 := of_decide_eq_false hc
    exists "if"
    · intro hd
      have hd : p.top > 0 := of_decide_eq_true hd
      have e : signR p = 1 := by unfold signR; rw [if_neg hc, if_pos hd]
      rw [e] at q
      exists "n"
      apply s_retP ⟨rfl, rfl, rfl⟩ rfl q
      · exists "d"
      · rfl
    intro hd
    have hd : ¬ p.top > 0 := of_decide_eq_false hd
    have e : signR p = 0 := by unfold signR; rw [if_neg hc, if_neg hd]
    rw [e] at q
    exists "n"
    apply s_retP ⟨rfl, rfl, rfl⟩ rfl q
    · exists "d"
    · rfl
  · exact hR.elim

theorem sc_compare : FnScope ["first", "second"] ["first", "second"] (defScope s_compare) := ⟨rfl, rfl, rfl, by decide +kernel, rfl, by decide +kernel, by decide +kernel⟩
set_option maxHeartbeats 4000000 in
theorem ok_compare (F : FunD W.K "compare" "compare" (defArgs s_compare) (defBody s_compare) (defScope s_compare) [] [] f fd)(g : W.mg "compare" = some (.ref f))
    (RW_ : RatW W.K C_Ratio)
    (O_Ratio_sub : OwnB W.K C_Ratio "sub" a_Ratio_sub a_Ratio_rsub)
    (OI_Ratio_sub : OwnInt W.K C_Ratio "sub")
    (h_Ratio_sub : FnAt W a_Ratio_sub 3 ["self", "other"] (spP (S_two C_Ratio subR subI) NoR))
    (h_Ratio_sign : MethOk W C_Ratio "sign" 1 ["self"] (spP (S_sign C_Ratio) NoR))
    (cl_Ratio : Cls W.K C_Ratio) : DefOk W "compare" 4 ["first", "second"] (spP (S_cmp C_Ratio) NoR) := by
  obtain ⟨fd_Ratio_sub, G_Ratio_sub, b_Ratio_sub⟩ := h_Ratio_sub
  obtain ⟨f_Ratio_sign, fd_Ratio_sign, G_Ratio_sign, M_Ratio_sign, b_Ratio_sign⟩ := h_Ratio_sign
  refine defOk_of F g sc_compare (spP_len (n := 2) (fun ds r h => by obtain ⟨_, _, rfl, _⟩ := h; rfl) (fun _ _ h => h.elim)) (fun _ _ _ _ _ _ us hl => match us, hl with | [_, _], _ => rfl) (fun cdv A outer s H vs Q E hr h => ⟨_, (pss_one (ps_ret (pe_meth0 (pe_op (op_own2 O_Ratio_sub G_Ratio_sub b_Ratio_sub passL (hr.mono (by decide))) (pv 0) (pv 1)) cl_Ratio M_Ratio_sign G_Ratio_sign (hr.mono (by decide)) b_Ratio_sign .nil passL))), ?_⟩)
  refine body_P h fun F ds _ hS => ?_
  rcases hS with ⟨r, ⟨p, p2, rfl, hp, hq, rfl⟩, q⟩ | ⟨c, hR, _⟩
  · refine (show OK _ [_, _] _ from ?_)
    exists "n"
    apply s_retP ⟨rfl, rfl, rfl⟩ rfl q
    · exists "d"
    · rfl
  · exact hR.elim

theorem sc__law_integer : FnScope ["thing"] ["thing"] (defScope s__law_integer) := ⟨rfl, rfl, rfl, by decide +kernel, rfl, by decide +kernel, by decide +kernel⟩
set_option maxHeartbeats 4000000 in
theorem ok__law_integer (F : FunD W.K "_law_integer" "_law_integer" (defArgs s__law_integer) (defBody s__law_integer) (defScope s__law_integer) [] [] f fd)(g : W.mg "_law_integer" = some (.ref f))
    (z_int : W.mg "int" = none)
    (z_isinstance : W.mg "isinstance" = none)
    (z_bool : W.mg "bool" = none)
    (RW_ : RatW W.K C_Ratio) : DefOk W "_law_integer" 3 ["thing"] (spP S_isint NoR) := by
  refine defOk_of F g sc__law_integer (spP_len (n := 1) (fun ds r h => by obtain ⟨_, rfl, _⟩ := h; rfl) (fun _ _ h => h.elim)) (fun _ _ _ _ _ _ us hl => match us, hl with | [_], _ => rfl) (fun cdv A outer s H vs Q E hr h => ⟨_, (pss_one (ps_ret (pe_and (pe_callB call_isi (by rfl) z_isinstance (by decide +kernel) (pa_cons (pv 0) (pa_cons (pe_bltn (v := .ty "int") (u := .type "int") (by rfl) z_int (by decide +kernel) rfl) pa_nil))) (pe_one (pe_not (pe_callB call_isi (by rfl) z_isinstance (by decide +kernel) (pa_cons (pv 0) (pa_cons (pe_bltn (v := .ty "bool") (u := .type "bool") (by rfl) z_bool (by decide +kernel) rfl) pa_nil)))))))), ?_⟩)
  refine body_P h fun F ds _ hS => ?_
  rcases hS with ⟨r, ⟨i, rfl, rfl⟩, q⟩ | ⟨c, hR, _⟩
  · refine (show OK _ [_] _ from ?_)
    exists "n"
    apply s_retP ⟨rfl, rfl, rfl⟩ rfl q
    · exists "d"
    · rfl
  · exact hR.elim

theorem sc__law_common : FnScope ["one", "two", "k", "rest"] ["one", "two"] (defScope s__law_common) := ⟨rfl, rfl, rfl, by decide +kernel, rfl, by decide +kernel, by decide +kernel⟩
set_option maxHeartbeats 4000000 in
theorem ok__law_common (F : FunD W.K "_law_common" "_law_common" (defArgs s__law_common) (defBody s__law_common) (defScope s__law_common) [] [] f fd)(g : W.mg "_law_common" = some (.ref f))
    (z_abs : W.mg "abs" = none)
    (z_range : W.mg "range" = none)
    (z_int : W.mg "int" = none)
    (RW_ : RatW W.K C_Ratio) : DefOk W "_law_common" 3 ["one", "two"] (spP S_common NoR) := by
  refine defOk_of F g sc__law_common (spP_len (n := 2) (fun ds r h => by obtain ⟨_, _, rfl, _⟩ := h; rfl) (fun _ _ h => h.elim)) (fun _ _ _ _ _ _ us hl => match us, hl with | [_, _], _ => rfl) (fun cdv A outer s H vs Q E hr h => ⟨_, (pss_cons (ps_set (i := 0) sc__law_common.nd rfl (Or.inl rfl) (pe_callB call_abs (by rfl) z_abs (by decide +kernel) (pa_cons (pv 0) pa_nil)))
    (pss_cons (ps_set (i := 1) sc__law_common.nd rfl (Or.inl rfl) (pe_callB call_abs (by rfl) z_abs (by decide +kernel) (pa_cons (pv 1) pa_nil)))
    (pss_cons (ps_for (passes_of rfl) rfl (pi_range1 (by rfl) z_range (pa_cons (pe_op op_add (pe_op op_mulW pe_int (pe_bits (pv 1))) pe_int) pa_nil)) (pg_name (i := 2) sc__law_common.nd rfl (Or.inl rfl)) (pss_cons (ps_if (pt_cmpR op_eq (pv 1) pe_int (nomark _)) (pss_one (ps_ret (pv 0))) pss_nil)
    (pss_cons (ps_set (i := 3) sc__law_common.nd rfl (Or.inl rfl) (pe_op op_mod (pe_callTy call_int1 (by rfl) z_int (by decide +kernel) (pa_cons (pv 0) pa_nil)) (pv 1)))
    (pss_cons (ps_set (i := 0) sc__law_common.nd rfl (Or.inl rfl) (pv 1))
    (pss_one (ps_set (i := 1) sc__law_common.nd rfl (Or.inl rfl) (pv 3)))))))
    (pss_one (ps_ret (pv 0)))))), ?_⟩)
  refine body_P h fun F ds _ hS => ?_
  rcases hS with ⟨r, ⟨a, b, rfl, ha, hb, rfl⟩, q⟩ | ⟨c, hR, _⟩
  · refine (show OK _ [_, _, _, _] _ from ?_)
    exists "set"
    exists "set"
    exists "n"
    have hE := eu_start ha hb
    have hL : Builtin.Int.intBits (iabs b) ≤ 4000 := intBits_le hb.abs (by decide)
    apply s_forR (iabs a, iabs b) (fun s => [.val ⟨tInt, s.1⟩, .val ⟨tInt, s.2⟩, .any, .any]) (fun n s => Eu (Nat.gcd a.natAbs b.natAbs) (Builtin.Int.intBits (iabs b)) n s)
    · exists "d"
    · omega
    · omega
    · exact hE
    · exact Wk.refl _
    · intro k s hk hs
      exists "if"
      · intro hz
        have hz := of_decide_eq_true hz
        exists "n"
        apply s_retP ⟨rfl, rfl, rfl⟩ rfl q
        · exists "d"
        · rw [← eu_done hs hz] <;> rfl
      · intro hz
        have hz := of_decide_eq_false hz
        have hp : 0 < s.2 := by
          have := hs.b
          omega
        exists "set"
        exists "set"
        exists "set"
        exists "n"
        apply s_next (s.2, s.1 % s.2)
        · exact eu_next hs hz
        · exact .cons (.inr rfl) (.cons (.inr rfl) (.cons (.inl rfl) (.cons (.inl rfl) .nil)))
    · intro s hs
      exists "n"
      apply s_retP ⟨rfl, rfl, rfl⟩ rfl q
      · exists "d"
      · rw [← eu_done hs (eu_end hs (by omega))] <;> rfl
  · exact hR.elim

theorem sc__law_size : FnScope ["pool", "kind", "number", "k"] ["pool"] (defScope s__law_size) := ⟨rfl, rfl, rfl, by decide +kernel, rfl, by decide +kernel, by decide +kernel⟩
set_option maxHeartbeats 4000000 in
theorem ok__law_size (F : FunD W.K "_law_size" "_law_size" (defArgs s__law_size) (defBody s__law_size) (defScope s__law_size) [] [] f fd)(g : W.mg "_law_size" = some (.ref f))
    (h__law_take : DefOk W "_law_take" 1 ["pool", "most"] (spM S_take))
    (z_range : W.mg "range" = none)
    (z_int : W.mg "int" = none)
    (RW_ : RatW W.K C_Ratio) : DefOk W "_law_size" 2 ["pool"] (spM S_size) := by
  obtain ⟨f__law_take, fd__law_take, G__law_take, g__law_take, k__law_take, b__law_take⟩ := h__law_take
  refine defOk_of F g sc__law_size (spM_len (n := 0) fun ps ds ps' r ⟨_, _, e, _⟩ => by rw [e]; rfl) (fun _ _ _ _ _ _ us hl => match us, hl with | [_], _ => rfl) (fun cdv A outer s H vs Q E hr h => ⟨_, (pss_cons (ps_set (i := 1) sc__law_size.nd rfl (Or.inl rfl) (pe_call G__law_take (hr.mono (by decide)) rfl g__law_take k__law_take b__law_take .nil passL (pa_cons (pv 0) (pa_cons pe_int pa_nil))))
    (pss_cons (ps_if (pt_cmpR op_eq (pv 1) pe_int (nomark _)) (pss_one (ps_ret (pe_call G__law_take (hr.mono (by decide)) rfl g__law_take k__law_take b__law_take .nil passL (pa_cons (pv 0) (pa_cons pe_int pa_nil))))) pss_nil)
    (pss_cons (ps_if (pt_cmpR op_eq (pv 1) pe_int (nomark _)) (pss_one (ps_ret (pe_call G__law_take (hr.mono (by decide)) rfl g__law_take k__law_take b__law_take .nil passL (pa_cons (pv 0) (pa_cons pe_int pa_nil))))) pss_nil)
    (pss_cons (ps_if (pt_cmpR op_eq (pv 1) pe_int (nomark _)) (pss_one (ps_ret (pe_call G__law_take (hr.mono (by decide)) rfl g__law_take k__law_take b__law_take .nil passL (pa_cons (pv 0) (pa_cons (pe_op op_pow pe_int pe_int) pa_nil))))) pss_nil)
    (pss_cons (ps_set (i := 2) sc__law_size.nd rfl (Or.inl rfl) pe_int)
    (pss_cons (ps_for (passes_of rfl) rfl (pi_range1 (by rfl) z_range (pa_cons pe_int pa_nil)) (pg_name (i := 3) sc__law_size.nd rfl (Or.inl rfl)) (pss_one (ps_set (i := 2) sc__law_size.nd rfl (Or.inl rfl) (pe_op op_add (pe_op op_mulW (pv 2) (pe_op op_pow pe_int pe_int)) (pe_call G__law_take (hr.mono (by decide)) rfl g__law_take k__law_take b__law_take .nil passL (pa_cons (pv 0) (pa_cons (pe_op op_pow pe_int pe_int) pa_nil)))))))
    (pss_one (ps_ret (pe_op op_mod (pe_callTy call_int1 (by rfl) z_int (by decide +kernel) (pa_cons (pv 2) pa_nil)) (pe_op op_pow pe_int pe_int)))))))))), ?_⟩)
  refine body_M h fun F a ps ds ps' r _ hS q => ?_
  obtain ⟨p, rfl, rfl, hp, hc, rfl, rfl⟩ := hS
  refine (show OK _ [_, _, _, _] _ from ?_)
  have c1 := take_ct (p := p) (m := 4)
  have o1 := take_ok (m := 4) hp
  have hc0 : p.ct < 1000000000 := by omega
  exists "let"
  intro k hk
  have c1' : (take p 4).2.ct < 1000000000 := by omega
  exists "if"
  · intro h0
    have h0 := of_decide_eq_true h0
    have e : size p = take (take p 4).2 10 := if_pos (by rw [← hk]; exact h0)
    rw [e] at q
    exists "n"
    apply s_retM ⟨rfl, rfl, rfl⟩ rfl q
    · exists "d"
    · rfl
    · rfl
  intro h0
  have h0 := of_decide_eq_false h0
  exists "if"
  · intro h1
    have h1 := of_decide_eq_true h1
    have e : size p = take (take p 4).2 1000 := (if_neg (by rw [← hk]; exact h0)).trans (if_pos (by rw [← hk]; exact h1))
    rw [e] at q
    exists "n"
    apply s_retM ⟨rfl, rfl, rfl⟩ rfl q
    · exists "d"
    · rfl
    · rfl
  intro h1
  have h1 := of_decide_eq_false h1
  exists "if"
  · intro h2
    have h2 := of_decide_eq_true h2
    have e : size p = take (take p 4).2 ((10 : Int) ^ (60 : Int).toNat) := ((if_neg (by rw [← hk]; exact h0)).trans (if_neg (by rw [← hk]; exact h1))).trans (if_pos (by rw [← hk]; exact h2))
    rw [e] at q
    exists "n"
    apply s_retM ⟨rfl, rfl, rfl⟩ rfl q
    · exists "d"
    · rfl
    · rfl
  intro h2
  have h2 := of_decide_eq_false h2
  have e : size p = ((sizeLoop (take p 4).2 7).1 % (10 : Int) ^ (60 : Int).toNat, (sizeLoop (take p 4).2 7).2) := ((if_neg (by rw [← hk]; exact h0)).trans (if_neg (by rw [← hk]; exact h1))).trans (if_neg (by rw [← hk]; exact h2))
  rw [e] at q
  exists "set"
  exists "n"
  apply s_forR ((0, (take p 4).2) : Int × Pl) (fun s => [.own (some a) (pool3 s.2), .val ⟨tInt, k⟩, .val ⟨tInt, s.1⟩, .any]) (fun n s => s = sizeLoop (take p 4).2 n)
  · exists "d"
  · decide
  · decide
  · rfl
  · exact Wk.refl _
  · intro n s hn hs
    obtain ⟨l1, l2, l3, l4⟩ := sizeLoop_ok o1 n
    have hb : Bd 1500 s.1 := by
      rw [hs]
      exact (bd_of (n := 240) (m := 1000000000 ^ 8) l3 (Int.lt_of_lt_of_le l4 (pow9_le (by omega))) (by decide +kernel)).mono (by decide)
    have h9 : Bd 1500 ((10 : Int) ^ (9 : Int).toNat) := by
      rw [p9]
      exact bd_of (n := 30) (m := 1000000001) (by decide) (by decide) (by decide) |>.mono (by decide)
    have l5 : Pok s.2 := by rw [hs]; exact l1
    have l6 : s.2.ct < 1000000000 := by rw [hs]; omega
    exists "set"
    exists "n"
    apply s_next (sizeLoop (take p 4).2 (n + 1))
    · rfl
    · rw [hs]
      exact .cons (.inr rfl) (.cons (.inr rfl) (.cons (.inr rfl) (.cons (.inl rfl) .nil)))
  · intro s hs
    have hs : s = sizeLoop (take p 4).2 7 := hs
    subst hs
    exists "n"
    apply s_retM ⟨rfl, rfl, rfl⟩ rfl q
    · exists "d"
    · rfl
    · rfl

theorem sc__law_fraction : FnScope ["pool", "above", "below", "kind", "factor"] ["pool"] (defScope s__law_fraction) := ⟨rfl, rfl, rfl, by decide +kernel, rfl, by decide +kernel, by decide +kernel⟩
set_option maxHeartbeats 4000000 in
theorem ok__law_fraction (F : FunD W.K "_law_fraction" "_law_fraction" (defArgs s__law_fraction) (defBody s__law_fraction) (defScope s__law_fraction) [] [] f fd)(g : W.mg "_law_fraction" = some (.ref f))
    (h__law_size : DefOk W "_law_size" 2 ["pool"] (spM S_size))
    (z_max : W.mg "max" = none)
    (h__law_take : DefOk W "_law_take" 1 ["pool", "most"] (spM S_take))
    (z_int : W.mg "int" = none)
    (RW_ : RatW W.K C_Ratio) : DefOk W "_law_fraction" 3 ["pool"] (spMA P_fr S_fr) := by
  obtain ⟨f__law_size, fd__law_size, G__law_size, g__law_size, k__law_size, b__law_size⟩ := h__law_size
  obtain ⟨f__law_take, fd__law_take, G__law_take, g__law_take, k__law_take, b__law_take⟩ := h__law_take
  refine defOk_of F g sc__law_fraction (spMA_len (n := 0) fun g ps ds h => by rw [h.2.1]; rfl) (fun _ _ _ _ _ _ us hl => match us, hl with | [_], _ => rfl) (fun cdv A outer s H vs Q E hr h => ⟨_, (pss_cons (ps_set (i := 1) sc__law_fraction.nd rfl (Or.inl rfl) (pe_call G__law_size (hr.mono (by decide)) rfl g__law_size k__law_size b__law_size .nil passL (pa_cons (pv 0) pa_nil)))
    (pss_cons (ps_set (i := 2) sc__law_fraction.nd rfl (Or.inl rfl) (pe_callB (call_max2 rfl) (by rfl) z_max (by decide +kernel) (pa_cons pe_int (pa_cons (pe_call G__law_size (hr.mono (by decide)) rfl g__law_size k__law_size b__law_size .nil passL (pa_cons (pv 0) pa_nil)) pa_nil))))
    (pss_cons (ps_set (i := 3) sc__law_fraction.nd rfl (Or.inl rfl) (pe_call G__law_take (hr.mono (by decide)) rfl g__law_take k__law_take b__law_take .nil passL (pa_cons (pv 0) (pa_cons pe_int pa_nil))))
    (pss_cons (ps_if (pt_cmpR op_eq (pv 3) pe_int (nomark _)) (pss_one (ps_set (i := 1) sc__law_fraction.nd rfl (Or.inl rfl) pe_int)) pss_nil)
    (pss_cons (ps_if (PW.pt (pw_or (pt_cmpR op_eq (pv 3) pe_int (nomark _)) (pw_or1 (pt_cmpR op_eq (pv 3) pe_int (nomark _))))) (pss_cons (ps_set (i := 4) sc__law_fraction.nd rfl (Or.inl rfl) (pe_callB (call_max2 rfl) (by rfl) z_max (by decide +kernel) (pa_cons pe_int (pa_cons (pe_op op_mod (pe_callTy call_int1 (by rfl) z_int (by decide +kernel) (pa_cons (pe_call G__law_size (hr.mono (by decide)) rfl g__law_size k__law_size b__law_size .nil passL (pa_cons (pv 0) pa_nil)) pa_nil)) (pe_op op_pow pe_int pe_int)) pa_nil))))
    (pss_cons (ps_set (i := 1) sc__law_fraction.nd rfl (Or.inl rfl) (pe_op op_mulW (pe_op op_mod (pe_callTy call_int1 (by rfl) z_int (by decide +kernel) (pa_cons (pv 1) pa_nil)) (pe_op op_pow pe_int pe_int)) (pv 4)))
    (pss_one (ps_set (i := 2) sc__law_fraction.nd rfl (Or.inl rfl) (pe_op op_mulW (pe_callB (call_max2 rfl) (by rfl) z_max (by decide +kernel) (pa_cons pe_int (pa_cons (pe_op op_mod (pe_callTy call_int1 (by rfl) z_int (by decide +kernel) (pa_cons (pv 2) pa_nil)) (pe_op op_pow pe_int pe_int)) pa_nil))) (pv 4)))))) pss_nil)
    (pss_cons (ps_if (pt_cmpR op_eq (pv 3) pe_int (nomark _)) (pss_one (ps_set (i := 2) sc__law_fraction.nd rfl (Or.inl rfl) pe_int)) pss_nil)
    (pss_cons (ps_if (pt_cmpR op_eq (pe_call G__law_take (hr.mono (by decide)) rfl g__law_take k__law_take b__law_take .nil passL (pa_cons (pv 0) (pa_cons pe_int pa_nil))) pe_int (nomark _)) (pss_one (ps_set (i := 1) sc__law_fraction.nd rfl (Or.inl rfl) (pe_un un_neg (pv 1)))) pss_nil)
    (pss_cons (ps_if (pt_cmpR op_eq (pe_call G__law_take (hr.mono (by decide)) rfl g__law_take k__law_take b__law_take .nil passL (pa_cons (pv 0) (pa_cons pe_int pa_nil))) pe_int (nomark _)) (pss_one (ps_set (i := 2) sc__law_fraction.nd rfl (Or.inl rfl) (pe_un un_neg (pv 2)))) pss_nil)
    (pss_one (ps_ret (pe_tup (pa_cons (pv 1) (pa_cons (pv 2) pa_nil))))))))))))), ?_⟩)
  refine body_MA h fun F a ps ds p _ hS q => ?_
  obtain ⟨rfl, rfl, hp, hc⟩ := hS
  refine (show OK _ [_, _, _, _, _] _ from ?_)
  have hc0 : p.ct < 900000000 := by omega
  obtain ⟨o1, c1, g1, _⟩ := size_ok hp
  exists "let"
  intro x0 hx0
  have bx0 : Bd 200 x0 := hx0 ▸ size_bd hp
  generalize (size p).2 = p1 at *
  have hc1 : p1.ct < 900000000 := by omega
  obtain ⟨o2, c2, g2, _⟩ := size_ok o1
  exists "let"
  intro y0 hy0
  have by0 : Bd 200 y0 ∧ 1 ≤ y0 := by
    rw [hy0]
    exact ⟨bd_max (bd1 (by decide)) (size_bd o1), imax_pos⟩
  generalize (size p1).2 = p2 at *
  have hc2 : p2.ct < 1000000000 := by omega
  have o3 := take_ok (m := 6) o2
  have c3 := take_ct (p := p2) (m := 6)
  exists "let"
  intro k hk
  generalize (take p2 6).2 = p3 at *
  exists "n"
  apply s_ifSet
  · exists "d"
  · rfl
  · intro _
    exists "d"
  dsimp only [List.set_cons_zero, List.set_cons_succ]
  intro x1 hx1
  have bx1 : Bd 200 x1 := by
    rcases hx1 with ⟨_, rfl⟩ | ⟨_, rfl⟩
    · exact Bd.zero
    · exact bx0
  exists "if"
  · intro _
    have hc3 : p3.ct < 900000000 := by omega
    obtain ⟨o3', c3', g3, _⟩ := size_ok o3
    exists "let"
    intro f hf
    have bf : Bd 100 f ∧ 1 ≤ f := by
      rw [hf]
      exact ⟨bd_max (bd1 (by decide)) m30, imax_pos⟩
    have bf' : Bd 1500 f := bf.1.mono (by decide)
    generalize (size p3).2 = p3' at *
    have e1 : Bd 1500 (x1 % (10 : Int) ^ (30 : Int).toNat) := m30.mono (by decide)
    exists "let"
    intro x2 hx2
    have bx2 : Bd 200 x2 := by
      rw [hx2]
      exact Bd.mul (n := 100) (m := 100) m30 bf.1
    have e2 : Bd 1500 (imax 1 (y0 % (10 : Int) ^ (30 : Int).toNat)) := bd_max (bd1 (by decide)) (m30.mono (by decide))
    exists "let"
    intro y1 hy1
    have by1 : Bd 200 y1 := by
      rw [hy1]
      exact Bd.mul (n := 100) (m := 100) (bd_max (bd1 (by decide)) m30) bf.1
    have ny1 : y1 ≠ 0 := by
      rw [hy1]
      have := imax_pos (x := y0 % (10 : Int) ^ (30 : Int).toNat)
      exact mul_ne (by omega) (by omega)
    have c3n : p3'.ct ≤ p.ct + 26 := by omega
    clear o3 c3 hc3 c3'
    have o3 := o3'
    have c3 := c3n
    clear o3' c3n g3
    generalize p3' = p3q at *
    exists "n"
    apply s_ifSet
    · exists "d"
    · rfl
    · intro _
      exists "d"
    dsimp only [List.set_cons_zero, List.set_cons_succ]
    intro y2 hy2
    have by2 : Bd 200 y2 ∧ y2 ≠ 0 := by
      rcases hy2 with ⟨_, rfl⟩ | ⟨_, rfl⟩
      · exact ⟨bd1 (by decide), by decide⟩
      · exact ⟨by1, ny1⟩
    exists "n"
    have o4 := take_ok (m := 2) o3
    have c4 := take_ct (p := p3q) (m := 2)
    have c3' : p3q.ct < 1000000000 := by omega
    apply s_ifSet
    · exists "d"
    · rfl
    · intro _
      exists "d"
    dsimp only [List.set_cons_zero, List.set_cons_succ]
    intro x3 hx3
    have bx3 : Bd 200 x3 := by
      rcases hx3 with ⟨_, rfl⟩ | ⟨_, rfl⟩
      · exact bx2.neg
      · exact bx2
    generalize (take p3q 2).2 = p4 at *
    exists "n"
    have o5 := take_ok (m := 4) o4
    have c5 := take_ct (p := p4) (m := 4)
    have c4' : p4.ct < 1000000000 := by omega
    apply s_ifSet
    · exists "d"
    · rfl
    · intro _
      exists "d"
    dsimp only [List.set_cons_zero, List.set_cons_succ]
    intro y3 hy3
    have by3 : Bd 200 y3 ∧ y3 ≠ 0 := by
      rcases hy3 with ⟨_, rfl⟩ | ⟨_, rfl⟩
      · exact ⟨by2.1.neg, by have := by2.2; omega⟩
      · exact by2
    generalize (take p4 4).2 = p5 at *
    exists "n"
    apply s_retM ⟨rfl, rfl, rfl⟩ rfl (q (pool3 p5) ⟨tPair tInt tInt, (x3, y3)⟩ ⟨p5, (x3, y3), rfl, rfl, o5, by omega, bx3.mono (by decide), by3.1.mono (by decide), by3.2⟩)
    · exists "d"
    · rfl
    · rfl
  · intro _
    have bx2 := bx1
    have by1 := by0.1
    have ny1 : y0 ≠ 0 := by omega
    exists "n"
    apply s_ifSet
    · exists "d"
    · rfl
    · intro _
      exists "d"
    dsimp only [List.set_cons_zero, List.set_cons_succ]
    intro y2 hy2
    have by2 : Bd 200 y2 ∧ y2 ≠ 0 := by
      rcases hy2 with ⟨_, rfl⟩ | ⟨_, rfl⟩
      · exact ⟨bd1 (by decide), by decide⟩
      · exact ⟨by1, ny1⟩
    exists "n"
    have o4 := take_ok (m := 2) o3
    have c4 := take_ct (p := p3) (m := 2)
    have c3' : p3.ct < 1000000000 := by omega
    apply s_ifSet
    · exists "d"
    · rfl
    · intro _
      exists "d"
    dsimp only [List.set_cons_zero, List.set_cons_succ]
    intro x3 hx3
    have bx3 : Bd 200 x3 := by
      rcases hx3 with ⟨_, rfl⟩ | ⟨_, rfl⟩
      · exact bx2.neg
      · exact bx2
    generalize (take p3 2).2 = p4 at *
    exists "n"
    have o5 := take_ok (m := 4) o4
    have c5 := take_ct (p := p4) (m := 4)
    have c4' : p4.ct < 1000000000 := by omega
    apply s_ifSet
    · exists "d"
    · rfl
    · intro _
      exists "d"
    dsimp only [List.set_cons_zero, List.set_cons_succ]
    intro y3 hy3
    have by3 : Bd 200 y3 ∧ y3 ≠ 0 := by
      rcases hy3 with ⟨_, rfl⟩ | ⟨_, rfl⟩
      · exact ⟨by2.1.neg, by have := by2.2; omega⟩
      · exact by2
    generalize (take p4 4).2 = p5 at *
    exists "n"
    apply s_retM ⟨rfl, rfl, rfl⟩ rfl (q (pool3 p5) ⟨tPair tInt tInt, (x3, y3)⟩ ⟨p5, (x3, y3), rfl, rfl, o5, by omega, bx3.mono (by decide), by3.1.mono (by decide), by3.2⟩)
    · exists "d"
    · rfl
    · rfl

theorem sc__law_second : FnScope ["pool", "one", "kind", "factor"] ["pool", "one"] (defScope s__law_second) := ⟨rfl, rfl, rfl, by decide +kernel, rfl, by decide +kernel, by decide +kernel⟩
set_option maxHeartbeats 4000000 in
theorem ok__law_second (F : FunD W.K "_law_second" "_law_second" (defArgs s__law_second) (defBody s__law_second) (defScope s__law_second) [] [] f fd)(g : W.mg "_law_second" = some (.ref f))
    (h__law_take : DefOk W "_law_take" 1 ["pool", "most"] (spM S_take))
    (z_abs : W.mg "abs" = none)
    (h__law_fraction : DefOk W "_law_fraction" 3 ["pool"] (spMA P_fr S_fr))
    (RW_ : RatW W.K C_Ratio) : DefOk W "_law_second" 4 ["pool", "one"] (spMA P_se S_se) := by
  obtain ⟨f__law_take, fd__law_take, G__law_take, g__law_take, k__law_take, b__law_take⟩ := h__law_take
  obtain ⟨f__law_fraction, fd__law_fraction, G__law_fraction, g__law_fraction, k__law_fraction, b__law_fraction⟩ := h__law_fraction
  refine defOk_of F g sc__law_second (spMA_len (n := 1) fun g ps ds h => by rw [h.2.1]; rfl) (fun _ _ _ _ _ _ us hl => match us, hl with | [_, _], _ => rfl) (fun cdv A outer s H vs Q E hr h => ⟨_, (pss_cons (ps_set (i := 2) sc__law_second.nd rfl (Or.inl rfl) (pe_call G__law_take (hr.mono (by decide)) rfl g__law_take k__law_take b__law_take .nil passL (pa_cons (pv 0) (pa_cons pe_int pa_nil))))
    (pss_cons (ps_if (PW.pt (pw_and (pt_cmpR op_lt (pv 2) pe_int (nomark _)) (pw_and (pt_cmpR op_lt (pe_callB call_abs (by rfl) z_abs (by decide +kernel) (pa_cons (pe_ix ix_tup (pv 1) pe_int (fun _ _ => rfl)) pa_nil)) (pe_op op_pow pe_int pe_int) (nomark _)) (pw_and1 (pt_cmpR op_lt (pe_callB call_abs (by rfl) z_abs (by decide +kernel) (pa_cons (pe_ix ix_tup (pv 1) pe_int (fun _ _ => rfl)) pa_nil)) (pe_op op_pow pe_int pe_int) (nomark _)))))) (pss_cons (ps_set (i := 3) sc__law_second.nd rfl (Or.inl rfl) (pe_op op_add pe_int (pe_call G__law_take (hr.mono (by decide)) rfl g__law_take k__law_take b__law_take .nil passL (pa_cons (pv 0) (pa_cons pe_int pa_nil)))))
    (pss_one (ps_ret (pe_tup (pa_cons (pe_op op_sub (pe_op op_add (pe_op op_mulW (pe_ix ix_tup (pv 1) pe_int (fun _ _ => rfl)) (pv 3)) (pe_call G__law_take (hr.mono (by decide)) rfl g__law_take k__law_take b__law_take .nil passL (pa_cons (pv 0) (pa_cons pe_int pa_nil)))) pe_int) (pa_cons (pe_op op_mulW (pe_ix ix_tup (pv 1) pe_int (fun _ _ => rfl)) (pv 3)) pa_nil)))))) pss_nil)
    (pss_cons (ps_if (pt_cmpR op_lt (pv 2) pe_int (nomark _)) (pss_one (ps_ret (pe_tup (pa_cons (pe_un un_neg (pe_ix ix_tup (pv 1) pe_int (fun _ _ => rfl))) (pa_cons (pe_un un_neg (pe_ix ix_tup (pv 1) pe_int (fun _ _ => rfl))) pa_nil))))) pss_nil)
    (pss_cons (ps_if (pt_cmpR op_eq (pv 2) pe_int (nomark _)) (pss_one (ps_ret (pe_tup (pa_cons (pe_un un_neg (pe_ix ix_tup (pv 1) pe_int (fun _ _ => rfl))) (pa_cons (pe_ix ix_tup (pv 1) pe_int (fun _ _ => rfl)) pa_nil))))) pss_nil)
    (pss_cons (ps_if (PW.pt (pw_and (pt_cmpR op_eq (pv 2) pe_int (nomark _)) (pw_and1 (pt_cmpR op_ne (pe_ix ix_tup (pv 1) pe_int (fun _ _ => rfl)) pe_int (nomark _))))) (pss_one (ps_ret (pe_tup (pa_cons (pe_ix ix_tup (pv 1) pe_int (fun _ _ => rfl)) (pa_cons (pe_ix ix_tup (pv 1) pe_int (fun _ _ => rfl)) pa_nil))))) pss_nil)
    (pss_one (ps_ret (pe_call G__law_fraction (hr.mono (by decide)) rfl g__law_fraction k__law_fraction b__law_fraction .nil passL (pa_cons (pv 0) pa_nil))))))))), ?_⟩)
  refine body_MA h fun F a ps ds g _ hS q => ?_
  obtain ⟨p, o⟩ := g
  obtain ⟨rfl, rfl, hp, hc, bo1, bo2, no⟩ := hS
  have hp : Pok p := hp
  have hc : p.ct < 700000000 := hc
  have hc0 : p.ct < 1000000000 := by omega
  have bo1 : Bd 300 o.1 := bo1
  have bo2 : Bd 300 o.2 := bo2
  have no : o.2 ≠ 0 := no
  refine (show OK _ [_, _, _, _] _ from ?_)
  have o1 := take_ok (m := 8) hp
  have c1 := take_ct (p := p) (m := 8)
  exists "let"
  intro k hk
  generalize (take p 8).2 = p1 at *
  have hc1 : p1.ct < 1000000000 := by omega
  exists "if"
  · intro hb
    rw [Bool.and_eq_true, Bool.and_eq_true] at hb
    obtain ⟨_, h1, h2⟩ := hb
    have h1 := lt58 (of_decide_eq_true h1)
    have h2 := lt58 (of_decide_eq_true h2)
    have o2 := take_ok (m := 98) o1
    have c2 := take_ct (p := p1) (m := 98)
    have t2 := take_lt (p := p1) (m := 98) (by decide)
    exists "let"
    intro f hf
    have bf : Bd 7 f := bd_of (m := 128) (by omega) (by omega) (by decide)
    have nf : f ≠ 0 := by omega
    generalize (take p1 98).2 = p2 at *
    have hc2 : p2.ct < 1000000000 := by omega
    have o3 := take_ok (m := 3) o2
    have c3 := take_ct (p := p2) (m := 3)
    have t3 := take_lt (p := p2) (m := 3) (by decide)
    have b1 : Bd 1500 o.1 := bo1.mono (by decide)
    have b2 : Bd 1500 o.2 := bo2.mono (by decide)
    have b3 : Bd 1500 f := bf.mono (by decide)
    have q1 : Bd 300 (o.1 * f + (take p2 3).1 - 1) := by
      have r1 : Bd 207 (o.1 * f) := Bd.mul (n := 200) (m := 7) h1 bf
      have r2 : Bd 207 ((take p2 3).1) := bd_small t3.1 (by omega) (by decide)
      have r3 : Bd 208 (o.1 * f + (take p2 3).1) := Bd.add (n := 207) r1 r2
      exact Bd.mono (n := 209) (Bd.sub (n := 208) r3 (bd1 (by decide))) (by decide)
    have q2 : Bd 300 (o.2 * f) := Bd.mono (n := 207) (Bd.mul (n := 200) (m := 7) h2 bf) (by decide)
    exists "n"
    apply s_retM ⟨rfl, rfl, rfl⟩ rfl (q (pool3 (take p2 3).2) ⟨tPair tInt tInt, (o.1 * f + (take p2 3).1 - 1, o.2 * f)⟩ ⟨_, _, rfl, rfl, o3, by show (take p2 3).2.ct ≤ p.ct + 100; omega, q1, q2, mul_ne no nf⟩)
    · exists "d"
    · rfl
    · rfl
  intro _
  exists "if"
  · intro _
    exists "n"
    apply s_retM ⟨rfl, rfl, rfl⟩ rfl (q (pool3 p1) ⟨tPair tInt tInt, (-o.1, -o.2)⟩ ⟨_, _, rfl, rfl, o1, by show p1.ct ≤ p.ct + 100; omega, bo1.neg, bo2.neg, by show -o.2 ≠ 0; omega⟩)
    · exists "d"
    · rfl
    · rfl
  intro _
  exists "if"
  · intro _
    exists "n"
    apply s_retM ⟨rfl, rfl, rfl⟩ rfl (q (pool3 p1) ⟨tPair tInt tInt, (-o.1, o.2)⟩ ⟨_, _, rfl, rfl, o1, by show p1.ct ≤ p.ct + 100; omega, bo1.neg, bo2, no⟩)
    · exists "d"
    · rfl
    · rfl
  intro _
  exists "if"
  · intro hb
    rw [Bool.and_eq_true] at hb
    have hz : o.1 ≠ 0 := by
      intro e
      have := hb.2
      rw [e] at this
      cases this
    exists "n"
    apply s_retM ⟨rfl, rfl, rfl⟩ rfl (q (pool3 p1) ⟨tPair tInt tInt, (o.2, o.1)⟩ ⟨_, _, rfl, rfl, o1, by show p1.ct ≤ p.ct + 100; omega, bo2, bo1, hz⟩)
    · exists "d"
    · rfl
    · rfl
  intro _
  exists "n"
  apply s_retA (den_callMA p1 rfl da_nil ⟨rfl, rfl, o1, by omega⟩)
  rintro Γ' r ⟨ps', ⟨p', ab, rfl, rfl, h1, h2, h3, h4, h5⟩, rfl⟩ F' σ' H' v hh rv
  exact ret_MA ⟨rfl, rfl, rfl⟩ (q (pool3 p') ⟨tPair tInt tInt, ab⟩ ⟨p', ab, rfl, rfl, h1, by show p'.ct ≤ p.ct + 100; omega, h3, h4, h5⟩) rfl hh rv

theorem sc__law_beside : FnScope ["pool", "one", "kind", "number"] ["pool", "one"] (defScope s__law_beside) := ⟨rfl, rfl, rfl, by decide +kernel, rfl, by decide +kernel, by decide +kernel⟩
set_option maxHeartbeats 4000000 in
theorem ok__law_beside (F : FunD W.K "_law_beside" "_law_beside" (defArgs s__law_beside) (defBody s__law_beside) (defScope s__law_beside) [] [] f fd)(g : W.mg "_law_beside" = some (.ref f))
    (h__law_take : DefOk W "_law_take" 1 ["pool", "most"] (spM S_take))
    (h__law_size : DefOk W "_law_size" 2 ["pool"] (spM S_size))
    (RW_ : RatW W.K C_Ratio) : DefOk W "_law_beside" 4 ["pool", "one"] (spMA P_se S_be) := by
  obtain ⟨f__law_take, fd__law_take, G__law_take, g__law_take, k__law_take, b__law_take⟩ := h__law_take
  obtain ⟨f__law_size, fd__law_size, G__law_size, g__law_size, k__law_size, b__law_size⟩ := h__law_size
  refine defOk_of F g sc__law_beside (spMA_len (n := 1) fun g ps ds h => by rw [h.2.1]; rfl) (fun _ _ _ _ _ _ us hl => match us, hl with | [_, _], _ => rfl) (fun cdv A outer s H vs Q E hr h => ⟨_, (pss_cons (ps_set (i := 2) sc__law_beside.nd rfl (Or.inl rfl) (pe_call G__law_take (hr.mono (by decide)) rfl g__law_take k__law_take b__law_take .nil passL (pa_cons (pv 0) (pa_cons pe_int pa_nil))))
    (pss_cons (ps_if (pt_cmpR op_eq (pv 2) pe_int (nomark _)) (pss_one (ps_ret (pe_ix ix_tup (pv 1) pe_int (fun _ _ => rfl)))) pss_nil)
    (pss_cons (ps_if (pt_cmpR op_eq (pv 2) pe_int (nomark _)) (pss_one (ps_ret (pe_op op_fdivX (pe_ix ix_tup (pv 1) pe_int (fun _ _ => rfl)) (pe_ix ix_tup (pv 1) pe_int (fun _ _ => rfl))))) pss_nil)
    (pss_cons (ps_if (pt_cmpR op_eq (pv 2) pe_int (nomark _)) (pss_one (ps_ret pe_int)) pss_nil)
    (pss_cons (ps_set (i := 3) sc__law_beside.nd rfl (Or.inl rfl) (pe_call G__law_size (hr.mono (by decide)) rfl g__law_size k__law_size b__law_size .nil passL (pa_cons (pv 0) pa_nil)))
    (pss_cons (ps_if (pt_cmpR op_eq (pe_call G__law_take (hr.mono (by decide)) rfl g__law_take k__law_take b__law_take .nil passL (pa_cons (pv 0) (pa_cons pe_int pa_nil))) pe_int (nomark _)) (pss_one (ps_ret (pe_un un_neg (pv 3)))) pss_nil)
    (pss_one (ps_ret (pv 3))))))))), ?_⟩)
  refine body_MA h fun F a ps ds g _ hS q => ?_
  obtain ⟨p, o⟩ := g
  obtain ⟨rfl, rfl, hp, hc, bo1, bo2, no⟩ := hS
  have hp : Pok p := hp
  have hc : p.ct < 700000000 := hc
  have hc0 : p.ct < 1000000000 := by omega
  have bo1 : Bd 300 o.1 := bo1
  have bo2 : Bd 300 o.2 := bo2
  have no : o.2 ≠ 0 := no
  refine (show OK _ [_, _, _, _] _ from ?_)
  have o1 := take_ok (m := 6) hp
  have c1 := take_ct (p := p) (m := 6)
  exists "let"
  intro k hk
  generalize (take p 6).2 = p1 at *
  have hc1 : p1.ct < 900000000 := by omega
  exists "if"
  · intro _
    exists "n"
    apply s_retM ⟨rfl, rfl, rfl⟩ rfl (q (pool3 p1) ⟨tInt, o.1⟩ ⟨_, _, rfl, rfl, o1, by show p1.ct ≤ p.ct + 100; omega, bo1⟩)
    · exists "d"
    · rfl
    · rfl
  intro _
  exists "if"
  · intro _
    have z : CDivX o.1 o.2 := ⟨no, Bd.log (n := 300) (m := 9000) bo2 (by decide) (by decide)⟩
    exists "n"
    apply s_retM ⟨rfl, rfl, rfl⟩ rfl (q (pool3 p1) ⟨tInt, o.1.fdiv o.2⟩ ⟨_, _, rfl, rfl, o1, by show p1.ct ≤ p.ct + 100; omega, bd_fdiv bo1⟩)
    · exists "d"
    · rfl
    · rfl
  intro _
  exists "if"
  · intro _
    exists "n"
    apply s_retM ⟨rfl, rfl, rfl⟩ rfl (q (pool3 p1) ⟨tInt, 0⟩ ⟨_, _, rfl, rfl, o1, by show p1.ct ≤ p.ct + 100; omega, Bd.zero⟩)
    · exists "d"
    · rfl
    · rfl
  intro _
  obtain ⟨o2, c2, g2, _⟩ := size_ok o1
  exists "let"
  intro n hn
  have bn : Bd 300 n := by
    rw [hn]
    exact (size_bd o1).mono (by decide)
  generalize (size p1).2 = p2 at *
  have hc2 : p2.ct < 1000000000 := by omega
  have o3 := take_ok (m := 2) o2
  have c3 := take_ct (p := p2) (m := 2)
  exists "if"
  · intro _
    exists "n"
    apply s_retM ⟨rfl, rfl, rfl⟩ rfl (q (pool3 (take p2 2).2) ⟨tInt, -n⟩ ⟨_, _, rfl, rfl, o3, by show (take p2 2).2.ct ≤ p.ct + 100; omega, bn.neg⟩)
    · exists "d"
    · rfl
    · rfl
  intro _
  exists "n"
  apply s_retM ⟨rfl, rfl, rfl⟩ rfl (q (pool3 (take p2 2).2) ⟨tInt, n⟩ ⟨_, _, rfl, rfl, o3, by show (take p2 2).2.ct ≤ p.ct + 100; omega, bn⟩)
  · exists "d"
  · rfl
  · rfl

theorem sc__law_right : FnScope ["told", "due"] ["told", "due"] (defScope s__law_right) := ⟨rfl, rfl, rfl, by decide +kernel, rfl, by decide +kernel, by decide +kernel⟩
set_option maxHeartbeats 4000000 in
theorem ok__law_right (F : FunD W.K "_law_right" "_law_right" (defArgs s__law_right) (defBody s__law_right) (defScope s__law_right) [] [] f fd)(g : W.mg "_law_right" = some (.ref f))
    (gc_Ratio : W.mg "Ratio" = some (.ref C_Ratio))
    (z_isinstance : W.mg "isinstance" = none)
    (h__law_integer : DefOk W "_law_integer" 3 ["thing"] (spP S_isint NoR))
    (h__law_common : DefOk W "_law_common" 3 ["one", "two"] (spP S_common NoR))
    (RW_ : RatW W.K C_Ratio) : DefOk W "_law_right" 4 ["told", "due"] (spP (S_right C_Ratio) NoR) := by
  obtain ⟨f__law_integer, fd__law_integer, G__law_integer, g__law_integer, k__law_integer, b__law_integer⟩ := h__law_integer
  obtain ⟨f__law_common, fd__law_common, G__law_common, g__law_common, k__law_common, b__law_common⟩ := h__law_common
  refine defOk_of F g sc__law_right (spP_len (n := 2) (fun ds r h => by obtain ⟨_, _, rfl, _⟩ := h; rfl) (fun _ _ h => h.elim)) (fun _ _ _ _ _ _ us hl => match us, hl with | [_, _], _ => rfl) (fun cdv A outer s H vs Q E hr h => ⟨_, (pss_cons (ps_if (PW.pt (pw_or (pt_not (pt_val (pe_callB call_isi (by rfl) z_isinstance (by decide +kernel) (pa_cons (pv 0) (pa_cons (pe_glob (v := .ref C_Ratio) rfl gc_Ratio rfl) pa_nil))))) (pw_or (pt_not (pt_val (pe_call G__law_integer (hr.mono (by decide)) rfl g__law_integer k__law_integer b__law_integer .nil passL (pa_cons (pe_fld (pv 0) rfl) pa_nil)))) (pw_or1 (pt_not (pt_val (pe_call G__law_integer (hr.mono (by decide)) rfl g__law_integer k__law_integer b__law_integer .nil passL (pa_cons (pe_fld (pv 0) rfl) pa_nil)))))))) (pss_one (ps_ret pe_bl)) pss_nil)
    (pss_cons (ps_if (PW.pt (pw_or (pt_cmpR op_lt (pe_fld (pv 0) rfl) pe_int (nomark _)) (pw_or1 (pt_cmpR op_ne (pe_op op_mulW (pe_fld (pv 0) rfl) (pe_ix ix_tup (pv 1) pe_int (fun _ _ => rfl))) (pe_op op_mulW (pe_ix ix_tup (pv 1) pe_int (fun _ _ => rfl)) (pe_fld (pv 0) rfl)) (nomark _))))) (pss_one (ps_ret pe_bl)) pss_nil)
    (pss_one (ps_ret (pe_cmpR op_eq (pe_call G__law_common (hr.mono (by decide)) rfl g__law_common k__law_common b__law_common .nil passL (pa_cons (pe_fld (pv 0) rfl) (pa_cons (pe_fld (pv 0) rfl) pa_nil))) pe_int (nomark _)))))), ?_⟩)
  refine body_P h fun F ds _ hS => ?_
  rcases hS with ⟨r, ⟨p, ab, rfl, hR, rfl⟩, q⟩ | ⟨c, hR, _⟩
  · refine (show OK _ [_, _] _ from ?_)
    have b1 := hR.bt
    have b2 := hR.bb
    have b3 := hR.ba
    have b4 := hR.bc
    exists "if"
    · intro hc
      exact absurd hc (by decide)
    intro _
    exists "if"
    · intro hc
      rw [right_no hR] at hc
      cases hc
    intro _
    exists "n"
    apply s_retP ⟨rfl, rfl, rfl⟩ rfl q
    · exists "d"
    · rw [hR.cop] <;> rfl
  · exact hR.elim

theorem sc__law_side : FnScope ["above", "below"] ["above", "below"] (defScope s__law_side) := ⟨rfl, rfl, rfl, by decide +kernel, rfl, by decide +kernel, by decide +kernel⟩
set_option maxHeartbeats 4000000 in
theorem ok__law_side (F : FunD W.K "_law_side" "_law_side" (defArgs s__law_side) (defBody s__law_side) (defScope s__law_side) [] [] f fd)(g : W.mg "_law_side" = some (.ref f))
    (RW_ : RatW W.K C_Ratio) : DefOk W "_law_side" 1 ["above", "below"] (spP S_side NoR) := by
  refine defOk_of F g sc__law_side (spP_len (n := 2) (fun ds r h => by obtain ⟨_, _, rfl, _⟩ := h; rfl) (fun _ _ h => h.elim)) (fun _ _ _ _ _ _ us hl => match us, hl with | [_, _], _ => rfl) (fun cdv A outer s H vs Q E hr h => ⟨_, (pss_cons (ps_if (pt_cmpR op_eq (pv 0) pe_int (nomark _)) (pss_one (ps_ret pe_int)) pss_nil)
    (pss_cons (ps_if (pt_cmpR op_eq (pe_cmpR op_gt (pv 0) pe_int (nomark _)) (pe_cmpR op_gt (pv 1) pe_int (nomark _)) (nomark _)) (pss_one (ps_ret pe_int)) pss_nil)
    (pss_one (ps_ret (pe_un un_neg pe_int))))), ?_⟩)
  refine body_P h fun F ds _ hS => ?_
  rcases hS with ⟨r, ⟨a, b, rfl, rfl⟩, q⟩ | ⟨c, hR, _⟩
  · refine (show OK _ [_, _] _ from ?_)
    exists "if"
    · intro h0
      have h0 := of_decide_eq_true h0
      have e : sideI a b = 0 := if_pos h0
      rw [e] at q
      exists "n"
      apply s_retP ⟨rfl, rfl, rfl⟩ rfl q
      · exists "d"
      · rfl
    intro h0
    have h0 := of_decide_eq_false h0
    exists "if"
    · intro h1
      have h1 := of_decide_eq_true h1
      have e : sideI a b = 1 := (if_neg h0).trans (if_pos h1)
      rw [e] at q
      exists "n"
      apply s_retP ⟨rfl, rfl, rfl⟩ rfl q
      · exists "d"
      · rfl
    intro h1
    have h1 := of_decide_eq_false h1
    have e : sideI a b = -1 := (if_neg h0).trans (if_neg h1)
    rw [e] at q
    exists "n"
    apply s_retP ⟨rfl, rfl, rfl⟩ rfl q
    · exists "d"
    · rfl
  · exact hR.elim

theorem sc__law_results : FnScope ["first", "second", "number", "one", "two", "left", "right", "ends", "moved", "rows", "row"] ["first", "second", "number", "one", "two"] (defScope s__law_results) := ⟨rfl, rfl, rfl, by decide +kernel, rfl, by decide +kernel, by decide +kernel⟩
set_option maxHeartbeats 4000000 in
theorem ok__law_results (F : FunD W.K "_law_results" "_law_results" (defArgs s__law_results) (defBody s__law_results) (defScope s__law_results) [] [] f fd)(g : W.mg "_law_results" = some (.ref f))
    (RW_ : RatW W.K C_Ratio)
    (O_Ratio_add : OwnB W.K C_Ratio "add" a_Ratio_add a_Ratio_radd)
    (OI_Ratio_add : OwnInt W.K C_Ratio "add")
    (h_Ratio_add : FnAt W a_Ratio_add 3 ["self", "other"] (spP (S_two C_Ratio addR addI) NoR))
    (O_Ratio_sub : OwnB W.K C_Ratio "sub" a_Ratio_sub a_Ratio_rsub)
    (OI_Ratio_sub : OwnInt W.K C_Ratio "sub")
    (h_Ratio_sub : FnAt W a_Ratio_sub 3 ["self", "other"] (spP (S_two C_Ratio subR subI) NoR))
    (O_Ratio_mul : OwnB W.K C_Ratio "mul" a_Ratio_mul a_Ratio_rmul)
    (OI_Ratio_mul : OwnInt W.K C_Ratio "mul")
    (h_Ratio_mul : FnAt W a_Ratio_mul 3 ["self", "other"] (spP (S_two C_Ratio mulR mulI) NoR))
    (h_Ratio_radd : FnAt W a_Ratio_radd 4 ["self", "other"] (spP (S_twoI C_Ratio addI) NoR))
    (h_Ratio_rsub : FnAt W a_Ratio_rsub 4 ["self", "other"] (spP (S_twoI C_Ratio (fun p i => addI (negR p) i)) NoR))
    (h_Ratio_rmul : FnAt W a_Ratio_rmul 4 ["self", "other"] (spP (S_twoI C_Ratio mulI) NoR))
    (O_Ratio_neg : OwnM W.K C_Ratio "__neg__" a_Ratio_neg)
    (h_Ratio_neg : FnAt W a_Ratio_neg 3 ["self"] (spP (S_oneR C_Ratio negR) NoR))
    (O_Ratio_abs : OwnM W.K C_Ratio "__abs__" a_Ratio_abs)
    (h_Ratio_abs : FnAt W a_Ratio_abs 3 ["self"] (spP (S_oneR C_Ratio absR) NoR))
    (z_abs : W.mg "abs" = none)
    (h_Ratio_init : InitOkD W C_Ratio 1 ["self", "top", "bottom"] (spI C_Ratio S_init (R_init C_ZeroDivisor)) [.int 1])
    (gc_Ratio : W.mg "Ratio" = some (.ref C_Ratio))
    (h_Ratio_over : MethOk W C_Ratio "over" 3 ["self", "other"] (spP (S_over C_Ratio) (R_over C_Ratio C_ZeroDivisor)))
    (cl_Ratio : Cls W.K C_Ratio)
    (h__law_right : DefOk W "_law_right" 4 ["told", "due"] (spP (S_right C_Ratio) NoR)) : DefOk W "_law_results" 6 ["first", "second", "number", "one", "two"] (spP (S_results C_Ratio) NoR) := by
  obtain ⟨fd_Ratio_add, G_Ratio_add, b_Ratio_add⟩ := h_Ratio_add
  obtain ⟨fd_Ratio_sub, G_Ratio_sub, b_Ratio_sub⟩ := h_Ratio_sub
  obtain ⟨fd_Ratio_mul, G_Ratio_mul, b_Ratio_mul⟩ := h_Ratio_mul
  obtain ⟨fd_Ratio_radd, G_Ratio_radd, b_Ratio_radd⟩ := h_Ratio_radd
  obtain ⟨fd_Ratio_rsub, G_Ratio_rsub, b_Ratio_rsub⟩ := h_Ratio_rsub
  obtain ⟨fd_Ratio_rmul, G_Ratio_rmul, b_Ratio_rmul⟩ := h_Ratio_rmul
  obtain ⟨fd_Ratio_neg, G_Ratio_neg, b_Ratio_neg⟩ := h_Ratio_neg
  obtain ⟨fd_Ratio_abs, G_Ratio_abs, b_Ratio_abs⟩ := h_Ratio_abs
  obtain ⟨f_Ratio_init, fd_Ratio_init, ds_Ratio_init, G_Ratio_init, M_Ratio, b_Ratio_init, bD_Ratio, vD_Ratio⟩ := h_Ratio_init
  obtain ⟨f_Ratio_over, fd_Ratio_over, G_Ratio_over, M_Ratio_over, b_Ratio_over⟩ := h_Ratio_over
  obtain ⟨f__law_right, fd__law_right, G__law_right, g__law_right, k__law_right, b__law_right⟩ := h__law_right
  refine defOk_of F g sc__law_results (spP_len (n := 5) (fun ds r h => by obtain ⟨_, _, _, _, _, rfl, _⟩ := h; rfl) (fun _ _ h => h.elim)) (fun _ _ _ _ _ _ us hl => match us, hl with | [_, _, _, _, _], _ => rfl) (fun cdv A outer s H vs Q E hr h => ⟨_, (pss_cons (ps_set (i := 5) sc__law_results.nd rfl (Or.inl rfl) (pe_op op_mulW (pe_ix ix_tup (pv 3) pe_int (fun _ _ => rfl)) (pe_ix ix_tup (pv 4) pe_int (fun _ _ => rfl))))
    (pss_cons (ps_set (i := 6) sc__law_results.nd rfl (Or.inl rfl) (pe_op op_mulW (pe_ix ix_tup (pv 4) pe_int (fun _ _ => rfl)) (pe_ix ix_tup (pv 3) pe_int (fun _ _ => rfl))))
    (pss_cons (ps_set (i := 7) sc__law_results.nd rfl (Or.inl rfl) (pe_op op_mulW (pe_ix ix_tup (pv 3) pe_int (fun _ _ => rfl)) (pe_ix ix_tup (pv 4) pe_int (fun _ _ => rfl))))
    (pss_cons (ps_set (i := 8) sc__law_results.nd rfl (Or.inl rfl) (pe_op op_mulW (pv 2) (pe_ix ix_tup (pv 3) pe_int (fun _ _ => rfl))))
    (pss_cons (ps_set (i := 9) sc__law_results.nd rfl (Or.inl rfl) (pe_lst (pa_cons (pe_tup (pa_cons (pe_op (op_own2 O_Ratio_add G_Ratio_add b_Ratio_add passL (hr.mono (by decide))) (pv 0) (pv 1)) (pa_cons (pe_tup (pa_cons (pe_op op_add (pv 5) (pv 6)) (pa_cons (pv 7) pa_nil))) pa_nil))) (pa_cons (pe_tup (pa_cons (pe_op (op_own2 O_Ratio_sub G_Ratio_sub b_Ratio_sub passL (hr.mono (by decide))) (pv 0) (pv 1)) (pa_cons (pe_tup (pa_cons (pe_op op_sub (pv 5) (pv 6)) (pa_cons (pv 7) pa_nil))) pa_nil))) pa_nil))))
    (pss_cons (ps_expr (pe_bm PySem.F.plainAttrs_list PySem.F.slot_list_append PySem.F.type_list_append mt_append (pv 9) (pa_cons (pe_tup (pa_cons (pe_op (op_own2 O_Ratio_sub G_Ratio_sub b_Ratio_sub passL (hr.mono (by decide))) (pv 1) (pv 0)) (pa_cons (pe_tup (pa_cons (pe_op op_sub (pv 6) (pv 5)) (pa_cons (pv 7) pa_nil))) pa_nil))) pa_nil)))
    (pss_cons (ps_expr (pe_bm PySem.F.plainAttrs_list PySem.F.slot_list_append PySem.F.type_list_append mt_append (pv 9) (pa_cons (pe_tup (pa_cons (pe_op (op_own2 O_Ratio_mul G_Ratio_mul b_Ratio_mul passL (hr.mono (by decide))) (pv 0) (pv 1)) (pa_cons (pe_tup (pa_cons (pe_op op_mulW (pe_ix ix_tup (pv 3) pe_int (fun _ _ => rfl)) (pe_ix ix_tup (pv 4) pe_int (fun _ _ => rfl))) (pa_cons (pv 7) pa_nil))) pa_nil))) pa_nil)))
    (pss_cons (ps_expr (pe_bm PySem.F.plainAttrs_list PySem.F.slot_list_append PySem.F.type_list_append mt_append (pv 9) (pa_cons (pe_tup (pa_cons (pe_op (op_ownI O_Ratio_add OI_Ratio_add G_Ratio_add b_Ratio_add passL (hr.mono (by decide))) (pv 0) (pv 2)) (pa_cons (pe_tup (pa_cons (pe_op op_add (pe_ix ix_tup (pv 3) pe_int (fun _ _ => rfl)) (pv 8)) (pa_cons (pe_ix ix_tup (pv 3) pe_int (fun _ _ => rfl)) pa_nil))) pa_nil))) pa_nil)))
    (pss_cons (ps_expr (pe_bm PySem.F.plainAttrs_list PySem.F.slot_list_append PySem.F.type_list_append mt_append (pv 9) (pa_cons (pe_tup (pa_cons (pe_op (op_ownR int_add_decl O_Ratio_add OI_Ratio_add G_Ratio_radd b_Ratio_radd passL (hr.mono (by decide))) (pv 2) (pv 0)) (pa_cons (pe_tup (pa_cons (pe_op op_add (pe_ix ix_tup (pv 3) pe_int (fun _ _ => rfl)) (pv 8)) (pa_cons (pe_ix ix_tup (pv 3) pe_int (fun _ _ => rfl)) pa_nil))) pa_nil))) pa_nil)))
    (pss_cons (ps_expr (pe_bm PySem.F.plainAttrs_list PySem.F.slot_list_append PySem.F.type_list_append mt_append (pv 9) (pa_cons (pe_tup (pa_cons (pe_op (op_ownI O_Ratio_sub OI_Ratio_sub G_Ratio_sub b_Ratio_sub passL (hr.mono (by decide))) (pv 0) (pv 2)) (pa_cons (pe_tup (pa_cons (pe_op op_sub (pe_ix ix_tup (pv 3) pe_int (fun _ _ => rfl)) (pv 8)) (pa_cons (pe_ix ix_tup (pv 3) pe_int (fun _ _ => rfl)) pa_nil))) pa_nil))) pa_nil)))
    (pss_cons (ps_expr (pe_bm PySem.F.plainAttrs_list PySem.F.slot_list_append PySem.F.type_list_append mt_append (pv 9) (pa_cons (pe_tup (pa_cons (pe_op (op_ownR int_sub_decl O_Ratio_sub OI_Ratio_sub G_Ratio_rsub b_Ratio_rsub passL (hr.mono (by decide))) (pv 2) (pv 0)) (pa_cons (pe_tup (pa_cons (pe_op op_sub (pv 8) (pe_ix ix_tup (pv 3) pe_int (fun _ _ => rfl))) (pa_cons (pe_ix ix_tup (pv 3) pe_int (fun _ _ => rfl)) pa_nil))) pa_nil))) pa_nil)))
    (pss_cons (ps_expr (pe_bm PySem.F.plainAttrs_list PySem.F.slot_list_append PySem.F.type_list_append mt_append (pv 9) (pa_cons (pe_tup (pa_cons (pe_op (op_ownI O_Ratio_mul OI_Ratio_mul G_Ratio_mul b_Ratio_mul passL (hr.mono (by decide))) (pv 0) (pv 2)) (pa_cons (pe_tup (pa_cons (pe_op op_mulW (pe_ix ix_tup (pv 3) pe_int (fun _ _ => rfl)) (pv 2)) (pa_cons (pe_ix ix_tup (pv 3) pe_int (fun _ _ => rfl)) pa_nil))) pa_nil))) pa_nil)))
    (pss_cons (ps_expr (pe_bm PySem.F.plainAttrs_list PySem.F.slot_list_append PySem.F.type_list_append mt_append (pv 9) (pa_cons (pe_tup (pa_cons (pe_op (op_ownR int_mul_decl O_Ratio_mul OI_Ratio_mul G_Ratio_rmul b_Ratio_rmul passL (hr.mono (by decide))) (pv 2) (pv 0)) (pa_cons (pe_tup (pa_cons (pe_op op_mulW (pe_ix ix_tup (pv 3) pe_int (fun _ _ => rfl)) (pv 2)) (pa_cons (pe_ix ix_tup (pv 3) pe_int (fun _ _ => rfl)) pa_nil))) pa_nil))) pa_nil)))
    (pss_cons (ps_expr (pe_bm PySem.F.plainAttrs_list PySem.F.slot_list_append PySem.F.type_list_append mt_append (pv 9) (pa_cons (pe_tup (pa_cons (pe_un (un_ownNeg O_Ratio_neg G_Ratio_neg b_Ratio_neg passL (hr.mono (by decide))) (pv 0)) (pa_cons (pe_tup (pa_cons (pe_un un_neg (pe_ix ix_tup (pv 3) pe_int (fun _ _ => rfl))) (pa_cons (pe_ix ix_tup (pv 3) pe_int (fun _ _ => rfl)) pa_nil))) pa_nil))) pa_nil)))
    (pss_cons (ps_expr (pe_bm PySem.F.plainAttrs_list PySem.F.slot_list_append PySem.F.type_list_append mt_append (pv 9) (pa_cons (pe_tup (pa_cons (pe_callB (call_ownAbs O_Ratio_abs G_Ratio_abs b_Ratio_abs passL (hr.mono (by decide))) (by rfl) z_abs (by decide +kernel) (pa_cons (pv 0) pa_nil)) (pa_cons (pe_tup (pa_cons (pe_callB call_abs (by rfl) z_abs (by decide +kernel) (pa_cons (pe_ix ix_tup (pv 3) pe_int (fun _ _ => rfl)) pa_nil)) (pa_cons (pe_callB call_abs (by rfl) z_abs (by decide +kernel) (pa_cons (pe_ix ix_tup (pv 3) pe_int (fun _ _ => rfl)) pa_nil)) pa_nil))) pa_nil))) pa_nil)))
    (pss_cons (ps_expr (pe_bm PySem.F.plainAttrs_list PySem.F.slot_list_append PySem.F.type_list_append mt_append (pv 9) (pa_cons (pe_tup (pa_cons (pe_make M_Ratio G_Ratio_init (hr.mono (by decide)) (by rfl) gc_Ratio bD_Ratio vD_Ratio (passes_call (takes_of rfl rfl rfl rfl) (fun _ _ _ _ h => h)) (pa_cons (pv 2) pa_nil)) (pa_cons (pe_tup (pa_cons (pv 2) (pa_cons pe_int pa_nil))) pa_nil))) pa_nil)))
    (pss_cons (ps_expr (pe_bm PySem.F.plainAttrs_list PySem.F.slot_list_append PySem.F.type_list_append mt_append (pv 9) (pa_cons (pe_tup (pa_cons (pe_op (op_own2 O_Ratio_sub G_Ratio_sub b_Ratio_sub passL (hr.mono (by decide))) (pe_op (op_own2 O_Ratio_add G_Ratio_add b_Ratio_add passL (hr.mono (by decide))) (pv 0) (pv 1)) (pv 1)) (pa_cons (pv 3) pa_nil))) pa_nil)))
    (pss_cons (ps_expr (pe_bm PySem.F.plainAttrs_list PySem.F.slot_list_append PySem.F.type_list_append mt_append (pv 9) (pa_cons (pe_tup (pa_cons (pe_op (op_own2 O_Ratio_mul G_Ratio_mul b_Ratio_mul passL (hr.mono (by decide))) (pe_op (op_own2 O_Ratio_add G_Ratio_add b_Ratio_add passL (hr.mono (by decide))) (pv 0) (pv 1)) (pe_op (op_own2 O_Ratio_sub G_Ratio_sub b_Ratio_sub passL (hr.mono (by decide))) (pv 0) (pv 1))) (pa_cons (pe_tup (pa_cons (pe_op op_sub (pe_op op_mulW (pv 5) (pv 5)) (pe_op op_mulW (pv 6) (pv 6))) (pa_cons (pe_op op_mulW (pv 7) (pv 7)) pa_nil))) pa_nil))) pa_nil)))
    (pss_cons (ps_if (pt_cmpR op_ne (pe_ix ix_tup (pv 4) pe_int (fun _ _ => rfl)) pe_int (nomark _)) (pss_cons (ps_expr (pe_bm PySem.F.plainAttrs_list PySem.F.slot_list_append PySem.F.type_list_append mt_append (pv 9) (pa_cons (pe_tup (pa_cons (pe_meth (pv 0) cl_Ratio M_Ratio_over G_Ratio_over (hr.mono (by decide)) b_Ratio_over .nil (passes_call (takes_of rfl rfl rfl rfl) (fun _ _ _ _ h => h)) (pa_cons (pv 1) pa_nil)) (pa_cons (pe_tup (pa_cons (pv 5) (pa_cons (pv 6) pa_nil))) pa_nil))) pa_nil)))
    (pss_one (ps_expr (pe_bm PySem.F.plainAttrs_list PySem.F.slot_list_append PySem.F.type_list_append mt_append (pv 9) (pa_cons (pe_tup (pa_cons (pe_meth (pe_op (op_own2 O_Ratio_mul G_Ratio_mul b_Ratio_mul passL (hr.mono (by decide))) (pv 0) (pv 1)) cl_Ratio M_Ratio_over G_Ratio_over (hr.mono (by decide)) b_Ratio_over .nil (passes_call (takes_of rfl rfl rfl rfl) (fun _ _ _ _ h => h)) (pa_cons (pv 1) pa_nil)) (pa_cons (pv 3) pa_nil))) pa_nil))))) pss_nil)
    (pss_cons (ps_if (pt_cmpR op_ne (pv 2) pe_int (nomark _)) (pss_one (ps_expr (pe_bm PySem.F.plainAttrs_list PySem.F.slot_list_append PySem.F.type_list_append mt_append (pv 9) (pa_cons (pe_tup (pa_cons (pe_meth (pv 0) cl_Ratio M_Ratio_over G_Ratio_over (hr.mono (by decide)) b_Ratio_over .nil (passes_call (takes_of rfl rfl rfl rfl) (fun _ _ _ _ h => h)) (pa_cons (pv 2) pa_nil)) (pa_cons (pe_tup (pa_cons (pe_ix ix_tup (pv 3) pe_int (fun _ _ => rfl)) (pa_cons (pv 8) pa_nil))) pa_nil))) pa_nil)))) pss_nil)
    (pss_cons (ps_for (passes_of rfl) rfl (pi_list (pv 9)) (pg_name (i := 10) sc__law_results.nd rfl (Or.inl rfl)) (pss_one (ps_if (pt_not (pt_val (pe_call G__law_right (hr.mono (by decide)) rfl g__law_right k__law_right b__law_right .nil passL (pa_cons (pe_ix ix_tup (pv 10) pe_int (fun _ _ => rfl)) (pa_cons (pe_ix ix_tup (pv 10) pe_int (fun _ _ => rfl)) pa_nil))))) (pss_one (ps_ret pe_bl)) pss_nil)))
    (pss_one (ps_ret pe_bl))))))))))))))))))))))), ?_⟩)
  refine body_P h fun F ds _ hS => ?_
  rcases hS with ⟨r, ⟨f, s, n, o, w, rfl, hf, hs, hn, rfl⟩, q⟩ | ⟨c, hR, _⟩
  rotate_left
  · exact hR.elim
  refine (show OK _ [_, _, _, _, _, _, _, _, _, _, _] _ from ?_)
  have v1 : Bd 1500 o.1 := hf.a.mono (by decide)
  have v2 : Bd 1500 o.2 := hf.b.mono (by decide)
  have v3 : Bd 1500 w.1 := hs.a.mono (by decide)
  have v4 : Bd 1500 w.2 := hs.b.mono (by decide)
  have v5 : Bd 1500 n := hn.mono (by decide)
  have v6 : Bd 1500 (o.1 * w.2) := (m300 hf.a hs.b).mono (by decide)
  have v7 : Bd 1500 (w.1 * o.2) := (m300 hs.a hf.b).mono (by decide)
  have v8 : Bd 1500 (o.2 * w.2) := (m300 hf.b hs.b).mono (by decide)
  have v9 : Bd 4000 n := hn.mono (by decide)
  have v10 : Bd 4000 1 := bd1 (by decide)
  have v11 : (1 : Int) ≠ 0 := by decide
  have r1 := hf.rb
  have r2 := hs.rb
  have r3 := rb_add hf hs
  have r4 := rb_sub hf hs
  have r5 := rb_mul hf hs
  exists "set"
  exists "set"
  exists "set"
  exists "set"
  exists "n"
  apply s_setN (t := tPair (tRat C_Ratio) (tPair tInt tInt)) (xs := [(addR f s, (o.1 * w.2 + w.1 * o.2, o.2 * w.2)), (subR f s, (o.1 * w.2 - w.1 * o.2, o.2 * w.2))])
  · exists "d"
  have hl : [(addR f s, (o.1 * w.2 + w.1 * o.2, o.2 * w.2)), (subR f s, (o.1 * w.2 - w.1 * o.2, o.2 * w.2))].length ≤ 2 := Nat.le_refl _
  have hx : ∀ r ∈ [(addR f s, (o.1 * w.2 + w.1 * o.2, o.2 * w.2)), (subR f s, (o.1 * w.2 - w.1 * o.2, o.2 * w.2))], RightP r.1 r.2 := by
    intro r hr
    rcases List.mem_cons.mp hr with rfl | h2
    · exact r_add hf hs
    · rcases List.mem_cons.mp h2 with rfl | h3
      · exact r_sub hf hs
      · cases h3
  exists "n"
  apply s_appA (P := fun r : Rt × (Int × Int) => RightP r.1 r.2)
  · rfl
  · exists "d"
  · rfl
  · exact hl
  · decide
  · exact hx
  · exact r_sub' hf hs
  dsimp only [List.set_cons_zero, List.set_cons_succ]
  intro ys hl hx
  exists "n"
  apply s_appA (P := fun r : Rt × (Int × Int) => RightP r.1 r.2)
  · rfl
  · exists "d"
  · rfl
  · exact hl
  · decide
  · exact hx
  · exact r_mul hf hs
  dsimp only [List.set_cons_zero, List.set_cons_succ]
  intro ys hl hx
  exists "n"
  apply s_appA (P := fun r : Rt × (Int × Int) => RightP r.1 r.2)
  · rfl
  · exists "d"
  · rfl
  · exact hl
  · decide
  · exact hx
  · exact r_addI hf hn
  dsimp only [List.set_cons_zero, List.set_cons_succ]
  intro ys hl hx
  exists "n"
  apply s_appA (P := fun r : Rt × (Int × Int) => RightP r.1 r.2)
  · rfl
  · exists "d"
  · rfl
  · exact hl
  · decide
  · exact hx
  · exact r_addI hf hn
  dsimp only [List.set_cons_zero, List.set_cons_succ]
  intro ys hl hx
  exists "n"
  apply s_appA (P := fun r : Rt × (Int × Int) => RightP r.1 r.2)
  · rfl
  · exists "d"
  · rfl
  · exact hl
  · decide
  · exact hx
  · exact r_subI hf hn
  dsimp only [List.set_cons_zero, List.set_cons_succ]
  intro ys hl hx
  exists "n"
  apply s_appA (P := fun r : Rt × (Int × Int) => RightP r.1 r.2)
  · rfl
  · exists "d"
  · rfl
  · exact hl
  · decide
  · exact hx
  · exact r_rsub hf hn
  dsimp only [List.set_cons_zero, List.set_cons_succ]
  intro ys hl hx
  exists "n"
  apply s_appA (P := fun r : Rt × (Int × Int) => RightP r.1 r.2)
  · rfl
  · exists "d"
  · rfl
  · exact hl
  · decide
  · exact hx
  · exact r_mulI hf hn
  dsimp only [List.set_cons_zero, List.set_cons_succ]
  intro ys hl hx
  exists "n"
  apply s_appA (P := fun r : Rt × (Int × Int) => RightP r.1 r.2)
  · rfl
  · exists "d"
  · rfl
  · exact hl
  · decide
  · exact hx
  · exact r_mulI hf hn
  dsimp only [List.set_cons_zero, List.set_cons_succ]
  intro ys hl hx
  exists "n"
  apply s_appA (P := fun r : Rt × (Int × Int) => RightP r.1 r.2)
  · rfl
  · exists "d"
  · rfl
  · exact hl
  · decide
  · exact hx
  · exact r_neg hf
  dsimp only [List.set_cons_zero, List.set_cons_succ]
  intro ys hl hx
  exists "n"
  apply s_appA (P := fun r : Rt × (Int × Int) => RightP r.1 r.2)
  · rfl
  · exists "d"
  · rfl
  · exact hl
  · decide
  · exact hx
  · exact r_abs hf
  dsimp only [List.set_cons_zero, List.set_cons_succ]
  intro ys hl hx
  exists "n"
  apply s_appA (P := fun r : Rt × (Int × Int) => RightP r.1 r.2)
  · rfl
  · exists "d"
  · rfl
  · exact hl
  · decide
  · exact hx
  · exact r_int hn
  dsimp only [List.set_cons_zero, List.set_cons_succ]
  intro ys hl hx
  exists "n"
  apply s_appA (P := fun r : Rt × (Int × Int) => RightP r.1 r.2)
  · rfl
  · exists "d"
  · rfl
  · exact hl
  · decide
  · exact hx
  · exact r_back hf hs
  dsimp only [List.set_cons_zero, List.set_cons_succ]
  intro ys hl hx
  exists "n"
  apply s_appA (P := fun r : Rt × (Int × Int) => RightP r.1 r.2)
  · rfl
  · exists "d"
  · rfl
  · exact hl
  · decide
  · exact hx
  · exact r_prod hf hs
  dsimp only [List.set_cons_zero, List.set_cons_succ]
  intro ys hl hx
  
  exists "if"
  · intro hb
    have hw : w.1 ≠ 0 := by
      intro e
      rw [e] at hb
      cases hb
    have ht := hs.top_ne hw
    exists "n"
    apply s_appA (P := fun r : Rt × (Int × Int) => RightP r.1 r.2)
    · rfl
    · exists "d"
    · rfl
    · exact hl
    · decide
    · exact hx
    · exact r_over hf hs hw
    dsimp only [List.set_cons_zero, List.set_cons_succ]
    intro ys hl hx
    exists "n"
    apply s_appA (P := fun r : Rt × (Int × Int) => RightP r.1 r.2)
    · rfl
    · exists "d"
    · rfl
    · exact hl
    · decide
    · exact hx
    · exact r_over2 hf hs hw
    dsimp only [List.set_cons_zero, List.set_cons_succ]
    intro ys hl hx
    exists "if"
    · intro hb
      have hz : n ≠ 0 := by
        intro e
        rw [e] at hb
        cases hb
      exists "n"
      apply s_appA (P := fun r : Rt × (Int × Int) => RightP r.1 r.2)
      · rfl
      · exists "d"
      · rfl
      · exact hl
      · decide
      · exact hx
      · exact r_overI hf hn hz
      dsimp only [List.set_cons_zero, List.set_cons_succ]
      intro ys hl hx
      exists "n"
      refine s_freeze (i := 9) (t := tPair (tRat C_Ratio) (tPair tInt tInt)) rfl (fun _ _ _ _ z => z) ?_
      dsimp only [List.set_cons_zero, List.set_cons_succ]
      apply s_forC
      · exists "d"
      · rfl
      · intro Z' hZ n r hr
        have hR := hx r (List.mem_of_getElem? hr)
        exists "if"
        · intro hc
          cases hc
        intro _
        exists "n"
        apply s_next ()
        · trivial
        · exists "wk"
      exists "n"
      apply s_retP ⟨rfl, rfl, rfl⟩ rfl q
      · exists "d"
      · rfl
    intro _
    exists "n"
    refine s_freeze (i := 9) (t := tPair (tRat C_Ratio) (tPair tInt tInt)) rfl (fun _ _ _ _ z => z) ?_
    dsimp only [List.set_cons_zero, List.set_cons_succ]
    apply s_forC
    · exists "d"
    · rfl
    · intro Z' hZ n r hr
      have hR := hx r (List.mem_of_getElem? hr)
      exists "if"
      · intro hc
        cases hc
      intro _
      exists "n"
      apply s_next ()
      · trivial
      · exists "wk"
    exists "n"
    apply s_retP ⟨rfl, rfl, rfl⟩ rfl q
    · exists "d"
    · rfl
  intro _
  exists "if"
  · intro hb
    have hz : n ≠ 0 := by
      intro e
      rw [e] at hb
      cases hb
    exists "n"
    apply s_appA (P := fun r : Rt × (Int × Int) => RightP r.1 r.2)
    · rfl
    · exists "d"
    · rfl
    · exact hl
    · decide
    · exact hx
    · exact r_overI hf hn hz
    dsimp only [List.set_cons_zero, List.set_cons_succ]
    intro ys hl hx
    exists "n"
    refine s_freeze (i := 9) (t := tPair (tRat C_Ratio) (tPair tInt tInt)) rfl (fun _ _ _ _ z => z) ?_
    dsimp only [List.set_cons_zero, List.set_cons_succ]
    apply s_forC
    · exists "d"
    · rfl
    · intro Z' hZ n r hr
      have hR := hx r (List.mem_of_getElem? hr)
      exists "if"
      · intro hc
        cases hc
      intro _
      exists "n"
      apply s_next ()
      · trivial
      · exists "wk"
    exists "n"
    apply s_retP ⟨rfl, rfl, rfl⟩ rfl q
    · exists "d"
    · rfl
  intro _
  exists "n"
  refine s_freeze (i := 9) (t := tPair (tRat C_Ratio) (tPair tInt tInt)) rfl (fun _ _ _ _ z => z) ?_
  dsimp only [List.set_cons_zero, List.set_cons_succ]
  apply s_forC
  · exists "d"
  · rfl
  · intro Z' hZ n r hr
    have hR := hx r (List.mem_of_getElem? hr)
    exists "if"
    · intro hc
      cases hc
    intro _
    exists "n"
    apply s_next ()
    · trivial
    · exists "wk"
  exists "n"
  apply s_retP ⟨rfl, rfl, rfl⟩ rfl q
  · exists "d"
  · rfl

theorem sc__law_signs : FnScope ["first", "second", "one", "two", "apart", "rows", "row"] ["first", "second", "one", "two"] (defScope s__law_signs) := ⟨rfl, rfl, rfl, by decide +kernel, rfl, by decide +kernel, by decide +kernel⟩
set_option maxHeartbeats 4000000 in
theorem ok__law_signs (F : FunD W.K "_law_signs" "_law_signs" (defArgs s__law_signs) (defBody s__law_signs) (defScope s__law_signs) [] [] f fd)(g : W.mg "_law_signs" = some (.ref f))
    (h__law_side : DefOk W "_law_side" 1 ["above", "below"] (spP S_side NoR))
    (RW_ : RatW W.K C_Ratio)
    (h_Ratio_sign : MethOk W C_Ratio "sign" 1 ["self"] (spP (S_sign C_Ratio) NoR))
    (cl_Ratio : Cls W.K C_Ratio)
    (h_compare : DefOk W "compare" 4 ["first", "second"] (spP (S_cmp C_Ratio) NoR))
    (h__law_integer : DefOk W "_law_integer" 3 ["thing"] (spP S_isint NoR)) : DefOk W "_law_signs" 6 ["first", "second", "one", "two"] (spP (S_signs C_Ratio) NoR) := by
  obtain ⟨f__law_side, fd__law_side, G__law_side, g__law_side, k__law_side, b__law_side⟩ := h__law_side
  obtain ⟨f_Ratio_sign, fd_Ratio_sign, G_Ratio_sign, M_Ratio_sign, b_Ratio_sign⟩ := h_Ratio_sign
  obtain ⟨f_compare, fd_compare, G_compare, g_compare, k_compare, b_compare⟩ := h_compare
  obtain ⟨f__law_integer, fd__law_integer, G__law_integer, g__law_integer, k__law_integer, b__law_integer⟩ := h__law_integer
  refine defOk_of F g sc__law_signs (spP_len (n := 4) (fun ds r h => by obtain ⟨_, _, _, _, rfl, _⟩ := h; rfl) (fun _ _ h => h.elim)) (fun _ _ _ _ _ _ us hl => match us, hl with | [_, _, _, _], _ => rfl) (fun cdv A outer s H vs Q E hr h => ⟨_, (pss_cons (ps_set (i := 4) sc__law_signs.nd rfl (Or.inl rfl) (pe_call G__law_side (hr.mono (by decide)) rfl g__law_side k__law_side b__law_side .nil passL (pa_cons (pe_op op_sub (pe_op op_mulW (pe_ix ix_tup (pv 2) pe_int (fun _ _ => rfl)) (pe_ix ix_tup (pv 3) pe_int (fun _ _ => rfl))) (pe_op op_mulW (pe_ix ix_tup (pv 3) pe_int (fun _ _ => rfl)) (pe_ix ix_tup (pv 2) pe_int (fun _ _ => rfl)))) (pa_cons (pe_op op_mulW (pe_ix ix_tup (pv 2) pe_int (fun _ _ => rfl)) (pe_ix ix_tup (pv 3) pe_int (fun _ _ => rfl))) pa_nil))))
    (pss_cons (ps_set (i := 5) sc__law_signs.nd rfl (Or.inl rfl) (pe_lst (pa_cons (pe_tup (pa_cons (pe_meth0 (pv 0) cl_Ratio M_Ratio_sign G_Ratio_sign (hr.mono (by decide)) b_Ratio_sign .nil passL) (pa_cons (pe_call G__law_side (hr.mono (by decide)) rfl g__law_side k__law_side b__law_side .nil passL (pa_cons (pe_ix ix_tup (pv 2) pe_int (fun _ _ => rfl)) (pa_cons (pe_ix ix_tup (pv 2) pe_int (fun _ _ => rfl)) pa_nil))) pa_nil))) (pa_cons (pe_tup (pa_cons (pe_meth0 (pv 1) cl_Ratio M_Ratio_sign G_Ratio_sign (hr.mono (by decide)) b_Ratio_sign .nil passL) (pa_cons (pe_call G__law_side (hr.mono (by decide)) rfl g__law_side k__law_side b__law_side .nil passL (pa_cons (pe_ix ix_tup (pv 3) pe_int (fun _ _ => rfl)) (pa_cons (pe_ix ix_tup (pv 3) pe_int (fun _ _ => rfl)) pa_nil))) pa_nil))) pa_nil))))
    (pss_cons (ps_expr (pe_bm PySem.F.plainAttrs_list PySem.F.slot_list_append PySem.F.type_list_append mt_append (pv 5) (pa_cons (pe_tup (pa_cons (pe_call G_compare (hr.mono (by decide)) rfl g_compare k_compare b_compare .nil passL (pa_cons (pv 0) (pa_cons (pv 1) pa_nil))) (pa_cons (pv 4) pa_nil))) pa_nil)))
    (pss_cons (ps_expr (pe_bm PySem.F.plainAttrs_list PySem.F.slot_list_append PySem.F.type_list_append mt_append (pv 5) (pa_cons (pe_tup (pa_cons (pe_call G_compare (hr.mono (by decide)) rfl g_compare k_compare b_compare .nil passL (pa_cons (pv 1) (pa_cons (pv 0) pa_nil))) (pa_cons (pe_un un_neg (pv 4)) pa_nil))) pa_nil)))
    (pss_cons (ps_expr (pe_bm PySem.F.plainAttrs_list PySem.F.slot_list_append PySem.F.type_list_append mt_append (pv 5) (pa_cons (pe_tup (pa_cons (pe_call G_compare (hr.mono (by decide)) rfl g_compare k_compare b_compare .nil passL (pa_cons (pv 0) (pa_cons (pv 0) pa_nil))) (pa_cons pe_int pa_nil))) pa_nil)))
    (pss_cons (ps_for (passes_of rfl) rfl (pi_list (pv 5)) (pg_name (i := 6) sc__law_signs.nd rfl (Or.inl rfl)) (pss_one (ps_if (PW.pt (pw_or (pt_not (pt_val (pe_call G__law_integer (hr.mono (by decide)) rfl g__law_integer k__law_integer b__law_integer .nil passL (pa_cons (pe_ix ix_tup (pv 6) pe_int (fun _ _ => rfl)) pa_nil)))) (pw_or1 (pt_cmpR op_ne (pe_ix ix_tup (pv 6) pe_int (fun _ _ => rfl)) (pe_ix ix_tup (pv 6) pe_int (fun _ _ => rfl)) (nomark _))))) (pss_one (ps_ret pe_bl)) pss_nil)))
    (pss_one (ps_ret pe_bl)))))))), ?_⟩)
  refine body_P h fun F ds _ hS => ?_
  rcases hS with ⟨r, ⟨f, s, o, w, rfl, hf, hs, rfl⟩, q⟩ | ⟨c, hR, _⟩
  rotate_left
  · exact hR.elim
  refine (show OK _ [_, _, _, _, _, _, _] _ from ?_)
  have v1 : Bd 1500 o.1 := hf.a.mono (by decide)
  have v2 : Bd 1500 o.2 := hf.b.mono (by decide)
  have v3 : Bd 1500 w.1 := hs.a.mono (by decide)
  have v4 : Bd 1500 w.2 := hs.b.mono (by decide)
  have r1 := hf.rb
  have r2 := hs.rb
  exists "set"
  exists "n"
  apply s_setN (t := tPair tInt tInt) (xs := [(signR f, sideI o.1 o.2), (signR s, sideI w.1 w.2)])
  · exists "d"
  have hl : [(signR f, sideI o.1 o.2), (signR s, sideI w.1 w.2)].length ≤ 2 := Nat.le_refl _
  have hx : ∀ r ∈ [(signR f, sideI o.1 o.2), (signR s, sideI w.1 w.2)], r.1 = r.2 := by
    intro r hr
    rcases List.mem_cons.mp hr with rfl | h2
    · exact sign_of hf.right
    · rcases List.mem_cons.mp h2 with rfl | h3
      · exact sign_of hs.right
      · cases h3
  exists "n"
  apply s_appA (P := fun r : Int × Int => r.1 = r.2)
  · rfl
  · exists "d"
  · rfl
  · exact hl
  · decide
  · exact hx
  · exact sign_of (r_sub hf hs)
  dsimp only [List.set_cons_zero, List.set_cons_succ]
  intro ys hl hx
  exists "n"
  apply s_appA (P := fun r : Int × Int => r.1 = r.2)
  · rfl
  · exists "d"
  · rfl
  · exact hl
  · decide
  · exact hx
  · exact (sign_of (r_sub' hf hs)).trans (sign_neg (mul_ne hf.n hs.n) (by show w.1 * o.2 - o.1 * w.2 = _; omega))
  dsimp only [List.set_cons_zero, List.set_cons_succ]
  intro ys hl hx
  exists "n"
  apply s_appA (P := fun r : Int × Int => r.1 = r.2)
  · rfl
  · exists "d"
  · rfl
  · exact hl
  · decide
  · exact hx
  · exact (sign_of (r_sub hf hf)).trans (if_pos (Int.sub_self _))
  dsimp only [List.set_cons_zero, List.set_cons_succ]
  intro ys hl hx
  
  exists "n"
  refine s_freeze (i := 5) (t := tPair tInt tInt) rfl (fun _ _ _ _ z => z) ?_
  dsimp only [List.set_cons_zero, List.set_cons_succ]
  apply s_forC
  · exists "d"
  · rfl
  · intro Z' hZ n r hr
    have hR := hx r (List.mem_of_getElem? hr)
    exists "if"
    · intro hc
      rw [hR] at hc
      simp at hc
    intro _
    exists "n"
    apply s_next ()
    · trivial
    · exists "wk"
  exists "n"
  apply s_retP ⟨rfl, rfl, rfl⟩ rfl q
  · exists "d"
  · rfl

theorem sc__law_compared : FnScope ["first", "second", "number", "one", "two", "same", "whole"] ["first", "second", "number", "one", "two"] (defScope s__law_compared) := ⟨rfl, rfl, rfl, by decide +kernel, rfl, by decide +kernel, by decide +kernel⟩
set_option maxHeartbeats 4000000 in
theorem ok__law_compared (F : FunD W.K "_law_compared" "_law_compared" (defArgs s__law_compared) (defBody s__law_compared) (defScope s__law_compared) [] [] f fd)(g : W.mg "_law_compared" = some (.ref f))
    (RW_ : RatW W.K C_Ratio)
    (O_Ratio_eq : OwnM W.K C_Ratio "__eq__" a_Ratio_eq)
    (OI_Ratio_eq : OwnInt W.K C_Ratio "add")
    (h_Ratio_eq : FnAt W a_Ratio_eq 1 ["self", "other"] (spP (S_eq C_Ratio) NoR))
    (h_Ratio_init : InitOkD W C_Ratio 1 ["self", "top", "bottom"] (spI C_Ratio S_init (R_init C_ZeroDivisor)) [.int 1])
    (gc_Ratio : W.mg "Ratio" = some (.ref C_Ratio))
    (O_Ratio_bool : OwnM W.K C_Ratio "__bool__" a_Ratio_bool)
    (h_Ratio_bool : FnAt W a_Ratio_bool 1 ["self"] (spP (S_bool C_Ratio) NoR))
    (z_bool : W.mg "bool" = none) : DefOk W "_law_compared" 6 ["first", "second", "number", "one", "two"] (spP (S_compared C_Ratio) NoR) := by
  obtain ⟨fd_Ratio_eq, G_Ratio_eq, b_Ratio_eq⟩ := h_Ratio_eq
  obtain ⟨f_Ratio_init, fd_Ratio_init, ds_Ratio_init, G_Ratio_init, M_Ratio, b_Ratio_init, bD_Ratio, vD_Ratio⟩ := h_Ratio_init
  obtain ⟨fd_Ratio_bool, G_Ratio_bool, b_Ratio_bool⟩ := h_Ratio_bool
  refine defOk_of F g sc__law_compared (spP_len (n := 5) (fun ds r h => by obtain ⟨_, _, _, _, _, rfl, _⟩ := h; rfl) (fun _ _ h => h.elim)) (fun _ _ _ _ _ _ us hl => match us, hl with | [_, _, _, _, _], _ => rfl) (fun cdv A outer s H vs Q E hr h => ⟨_, (pss_cons (ps_set (i := 5) sc__law_compared.nd rfl (Or.inl rfl) (pe_cmpR op_eq (pe_op op_mulW (pe_ix ix_tup (pv 3) pe_int (fun _ _ => rfl)) (pe_ix ix_tup (pv 4) pe_int (fun _ _ => rfl))) (pe_op op_mulW (pe_ix ix_tup (pv 4) pe_int (fun _ _ => rfl)) (pe_ix ix_tup (pv 3) pe_int (fun _ _ => rfl))) (nomark _)))
    (pss_cons (ps_if (PW.pt (pw_or (pt_cmpR op_ne (pe_cmpR (op_ownEq O_Ratio_eq OI_Ratio_eq.s1 G_Ratio_eq b_Ratio_eq passL (hr.mono (by decide))) (pv 0) (pv 1) (nomark _)) (pv 5) (nomark _)) (pw_or1 (pt_cmpR op_ne (pe_cmpR (op_ownEq O_Ratio_eq OI_Ratio_eq.s1 G_Ratio_eq b_Ratio_eq passL (hr.mono (by decide))) (pv 1) (pv 0) (nomark _)) (pv 5) (nomark _))))) (pss_one (ps_ret pe_bl)) pss_nil)
    (pss_cons (ps_set (i := 6) sc__law_compared.nd rfl (Or.inl rfl) (pe_cmpR op_eq (pe_ix ix_tup (pv 3) pe_int (fun _ _ => rfl)) (pe_op op_mulW (pv 2) (pe_ix ix_tup (pv 3) pe_int (fun _ _ => rfl))) (nomark _)))
    (pss_cons (ps_if (PW.pt (pw_or (pt_cmpR op_ne (pe_cmpR (op_ownEq O_Ratio_eq OI_Ratio_eq.s1 G_Ratio_eq b_Ratio_eq passL (hr.mono (by decide))) (pv 0) (pv 2) (nomark _)) (pv 6) (nomark _)) (pw_or1 (pt_cmpR op_ne (pe_cmpR (op_ownEqR O_Ratio_eq OI_Ratio_eq.s2 G_Ratio_eq b_Ratio_eq passL (hr.mono (by decide))) (pv 2) (pv 0) (nomark _)) (pv 6) (nomark _))))) (pss_one (ps_ret pe_bl)) pss_nil)
    (pss_cons (ps_if (pt_not (pt_cmpR (op_ownEq O_Ratio_eq OI_Ratio_eq.s1 G_Ratio_eq b_Ratio_eq passL (hr.mono (by decide))) (pv 0) (pe_make M_Ratio G_Ratio_init (hr.mono (by decide)) (by rfl) gc_Ratio b_Ratio_init .nil (passes_call (takes_of rfl rfl rfl rfl) (fun _ _ _ _ h => h)) (pa_cons (pe_ix ix_tup (pv 3) pe_int (fun _ _ => rfl)) (pa_cons (pe_ix ix_tup (pv 3) pe_int (fun _ _ => rfl)) pa_nil))) (nomark _))) (pss_one (ps_ret pe_bl)) pss_nil)
    (pss_one (ps_ret (pe_and (pe_cmpR op_eq (pe_callTy (call_ownBool O_Ratio_bool G_Ratio_bool b_Ratio_bool passL (hr.mono (by decide))) (by rfl) z_bool (by decide +kernel) (pa_cons (pv 0) pa_nil)) (pe_cmpR op_ne (pe_ix ix_tup (pv 3) pe_int (fun _ _ => rfl)) pe_int (nomark _)) (nomark _)) (pe_one (pe_cmpR op_eq (pe_callTy (call_ownBool O_Ratio_bool G_Ratio_bool b_Ratio_bool passL (hr.mono (by decide))) (by rfl) z_bool (by decide +kernel) (pa_cons (pv 1) pa_nil)) (pe_cmpR op_ne (pe_ix ix_tup (pv 4) pe_int (fun _ _ => rfl)) pe_int (nomark _)) (nomark _))))))))))), ?_⟩)
  refine body_P h fun F ds _ hS => ?_
  rcases hS with ⟨r, ⟨f, s, n, o, w, rfl, hf, hs, hn, rfl⟩, q⟩ | ⟨c, hR, _⟩
  rotate_left
  · exact hR.elim
  refine (show OK _ [_, _, _, _, _, _, _] _ from ?_)
  have v1 : Bd 1500 o.1 := hf.a.mono (by decide)
  have v2 : Bd 1500 o.2 := hf.b.mono (by decide)
  have v3 : Bd 1500 w.1 := hs.a.mono (by decide)
  have v4 : Bd 1500 w.2 := hs.b.mono (by decide)
  have v5 : Bd 1500 n := hn.mono (by decide)
  have v6 : o.2 ≠ 0 := hf.n
  exists "set"
  have e1 := eq_right hf.right hs.right
  have e2 : (decide (s.top = f.top) && decide (s.bot = f.bot)) = decide (o.1 * w.2 = w.1 * o.2) := by
    rw [eq_right hs.right hf.right]
    exact decide_eq_decide.mpr eq_comm
  have e3 := eq_rightI hf.right (b34 hn)
  have e4 := eq_right hf.right hf.right
  exists "if"
  · intro hc
    rw [e1, e2] at hc
    simp at hc
  intro _
  exists "set"
  exists "if"
  · intro hc
    rw [e3] at hc
    simp at hc
  intro _
  exists "if"
  · intro hc
    rw [← hf.e] at hc
    simp at hc
  intro _
  exists "n"
  apply s_retP ⟨rfl, rfl, rfl⟩ rfl q
  · exists "d"
  · rw [hf.nz_iff, hs.nz_iff]
    simp

theorem sc__law_refused : FnScope ["first", "above", "kind", "flags", "e", "others"] ["first", "above", "kind"] (defScope s__law_refused) := ⟨rfl, rfl, rfl, by decide +kernel, rfl, by decide +kernel, by decide +kernel⟩
set_option maxHeartbeats 4000000 in
theorem ok__law_refused (F : FunD W.K "_law_refused" "_law_refused" (defArgs s__law_refused) (defBody s__law_refused) (defScope s__law_refused) [] [] f fd)(g : W.mg "_law_refused" = some (.ref f))
    (xc_SpotError : ExcOk W "SpotError" C_SpotError)
    (RW_ : RatW W.K C_Ratio)
    (h_Ratio_init : InitOkD W C_Ratio 1 ["self", "top", "bottom"] (spI C_Ratio S_init (R_init C_ZeroDivisor)) [.int 1])
    (gc_Ratio : W.mg "Ratio" = some (.ref C_Ratio))
    (h_Ratio_over : MethOk W C_Ratio "over" 3 ["self", "other"] (spP (S_over C_Ratio) (R_over C_Ratio C_ZeroDivisor)))
    (cl_Ratio : Cls W.K C_Ratio)
    (O_Ratio_sub : OwnB W.K C_Ratio "sub" a_Ratio_sub a_Ratio_rsub)
    (OI_Ratio_sub : OwnInt W.K C_Ratio "sub")
    (h_Ratio_sub : FnAt W a_Ratio_sub 3 ["self", "other"] (spP (S_two C_Ratio subR subI) NoR))
    (gc_BadNumber : W.mg "BadNumber" = some (.ref C_BadNumber))
    (z_isinstance : W.mg "isinstance" = none)
    (gc_TooLarge : W.mg "TooLarge" = some (.ref C_TooLarge))
    (gc_ZeroDivisor : W.mg "ZeroDivisor" = some (.ref C_ZeroDivisor))
    (z_ValueError : W.mg "ValueError" = none)
    (em_ : PySem.W.exmOne W.K (.ref C_ZeroDivisor) (.ref C_SpotError) = some true)
    (XE_ : ExcC W.K C_ZeroDivisor)
    (kz1 : PySem.W.kitOne W.K (.ref C_ZeroDivisor) (.ref C_BadNumber) = some false)
    (kz2 : PySem.W.kitOne W.K (.ref C_ZeroDivisor) (.ref C_TooLarge) = some false)
    (kz3 : PySem.W.kitOne W.K (.ref C_ZeroDivisor) (.type "ValueError") = some true) : DefOk W "_law_refused" 6 ["first", "above", "kind"] (spP (S_refusedF C_Ratio) NoR) := by
  obtain ⟨f_Ratio_init, fd_Ratio_init, ds_Ratio_init, G_Ratio_init, M_Ratio, b_Ratio_init, bD_Ratio, vD_Ratio⟩ := h_Ratio_init
  obtain ⟨f_Ratio_over, fd_Ratio_over, G_Ratio_over, M_Ratio_over, b_Ratio_over⟩ := h_Ratio_over
  obtain ⟨fd_Ratio_sub, G_Ratio_sub, b_Ratio_sub⟩ := h_Ratio_sub
  refine defOk_of F g sc__law_refused (spP_len (n := 3) (fun ds r h => by obtain ⟨_, _, _, rfl, _⟩ := h; rfl) (fun _ _ h => h.elim)) (fun _ _ _ _ _ _ us hl => match us, hl with | [_, _, _], _ => rfl) (fun cdv A outer s H vs Q E hr h => ⟨_, (pss_cons (ps_set (i := 3) sc__law_refused.nd rfl (Or.inl rfl) (pe_lst pa_nil))
    (pss_cons (ps_try_as (i := 4) rfl rfl sc__law_refused.nd rfl rfl ⟨rfl, by decide, .inl xc_SpotError.g⟩ takes0 (fun W_ pn xe tk po_ => (pss_cons (ps_if (pt_cmpR op_eq (pv 2) pe_int (nomark _)) (pss_one (ps_expr (pe_makeS M_Ratio G_Ratio_init (hr.mono (by decide)) (by rfl) gc_Ratio b_Ratio_init .nil (fun σ => passAt tk σ) (pa_cons (pv 1) (pa_cons pe_int pa_nil))))) pss_nil)
    (pss_cons (ps_if (pt_cmpR op_eq (pv 2) pe_int (nomark _)) (pss_one (ps_expr (pe_methS (pv 0) cl_Ratio M_Ratio_over G_Ratio_over (hr.mono (by decide)) b_Ratio_over (fun σ => passAt tk σ) (pa_cons pe_int pa_nil)))) pss_nil)
    (pss_cons (ps_if (pt_cmpR op_eq (pv 2) pe_int (nomark _)) (pss_one (ps_expr (pe_methS (pv 0) cl_Ratio M_Ratio_over G_Ratio_over (hr.mono (by decide)) b_Ratio_over (fun σ => passAt tk σ) (pa_cons (pe_makeS M_Ratio G_Ratio_init (hr.mono (by decide)) (by rfl) gc_Ratio b_Ratio_init .nil (fun σ => passAt tk σ) (pa_cons pe_int (pa_cons pe_int pa_nil))) pa_nil)))) pss_nil)
    (pss_one (ps_if (pt_cmpR op_eq (pv 2) pe_int (nomark _)) (pss_one (ps_expr (pe_methS (pv 0) cl_Ratio M_Ratio_over G_Ratio_over (hr.mono (by decide)) b_Ratio_over (fun σ => passAt tk σ) (pa_cons (pe_op (op_own2 O_Ratio_sub G_Ratio_sub b_Ratio_sub passL (hr.mono (by decide))) (pv 0) (pv 0)) pa_nil)))) pss_nil)))))) (fun a oe cls d pn hz hf => pss_if (P := cls = .ref C_ZeroDivisor ∧ d = none) (fun hP => (pss_cons (ps_set (i := 5) sc__law_refused.nd rfl (Or.inl rfl) (pe_or (pe_callB (call_isE XE_ (zc_of hP hz) hf) (by rfl) z_isinstance (by decide +kernel) (pa_cons (pv 4) (pa_cons (pe_glob (v := .ref C_BadNumber) rfl gc_BadNumber rfl) pa_nil))) (pe_one (pe_callB (call_isE XE_ (zc_of hP hz) hf) (by rfl) z_isinstance (by decide +kernel) (pa_cons (pv 4) (pa_cons (pe_glob (v := .ref C_TooLarge) rfl gc_TooLarge rfl) pa_nil))))))
    (pss_one (ps_set (i := 3) sc__law_refused.nd rfl (Or.inl rfl) (pe_lst (pa_cons (pe_callB (call_isE XE_ (zc_of hP hz) hf) (by rfl) z_isinstance (by decide +kernel) (pa_cons (pv 4) (pa_cons (pe_glob (v := .ref C_ZeroDivisor) rfl gc_ZeroDivisor rfl) pa_nil))) (pa_cons (pe_callB (call_isE XE_ (zc_of hP hz) hf) (by rfl) z_isinstance (by decide +kernel) (pa_cons (pv 4) (pa_cons (pe_bltn (v := .ty "ValueError") (u := .type "ValueError") (by rfl) z_ValueError (by decide +kernel) rfl) pa_nil))) (pa_cons (pv 5) pa_nil))))))))))
    (pss_one (ps_ret (pe_cmpR (op_eqD hr.units) (pv 3) (pe_lst (pa_cons pe_bl (pa_cons pe_bl (pa_cons pe_bl pa_nil)))) (nomark _)))))), ?_⟩)
  refine body_P h fun F ds _ hS => ?_
  rcases hS with ⟨r, ⟨f, o, k, rfl, hf, l0, l4, rfl⟩, q⟩ | ⟨c, hR, _⟩
  rotate_left
  · exact hR.elim
  refine (show OK _ [_, _, _, _, _, _] _ from ?_)
  have r1 := hf.rb
  have r2 := rb_07
  have r3 := rb_sub hf hf
  have i0 : Bd 4000 0 := Bd.zero
  have i7 : Bd 4000 7 := bd_small (by decide) (by decide) (by decide)
  have n7 : (7 : Int) ≠ 0 := by decide
  exists "n"
  apply s_setN (t := tBool) (xs := [])
  · exists "d"
  exists "n"
  exists "if"
  · intro hk
    have hk := of_decide_eq_true hk
    exists "n"
    apply s_botS (c := .ref C_ZeroDivisor)
    · apply bots_make (ds := [⟨tInt, o.1⟩, ⟨tInt, 0⟩])
      · exists "d"
      · exact ⟨_, rfl, rfl⟩
    · apply s_caught em_
      intro ex
      dsimp only [List.set_cons_zero, List.set_cons_succ]
      apply s_prop ⟨rfl, rfl⟩
      exists "set"
      exists "n"
      apply s_setN (t := tBool) (xs := [true, true, false])
      · exists "d"
      exists "n"
      apply s_back
      exists "n"
      apply s_retP ⟨rfl, rfl, rfl⟩ rfl q
      · apply den_eqBL
        · rfl
        · exists "d"
        · rfl
        · decide +kernel
        · decide +kernel
        · rfl
      · rfl
  intro k0
  have k0 := of_decide_eq_false k0
  exists "if"
  · intro hk
    have hk := of_decide_eq_true hk
    exists "n"
    apply s_botS (c := .ref C_ZeroDivisor)
    · apply bots_meth (t := tRat C_Ratio) (x := f) (ds := [⟨tInt, 0⟩])
      · exists "d"
      · exact ins_rat
      · exists "d"
      · exact spP_x (.inr ⟨f, rfl, r1, rfl⟩)
    · apply s_caught em_
      intro ex
      dsimp only [List.set_cons_zero, List.set_cons_succ]
      apply s_prop ⟨rfl, rfl⟩
      exists "set"
      exists "n"
      apply s_setN (t := tBool) (xs := [true, true, false])
      · exists "d"
      exists "n"
      apply s_back
      exists "n"
      apply s_retP ⟨rfl, rfl, rfl⟩ rfl q
      · apply den_eqBL
        · rfl
        · exists "d"
        · rfl
        · decide +kernel
        · decide +kernel
        · rfl
      · rfl
  intro k1
  have k1 := of_decide_eq_false k1
  exists "if"
  · intro hk
    have hk := of_decide_eq_true hk
    exists "n"
    apply s_botS (c := .ref C_ZeroDivisor)
    · apply bots_meth (t := tRat C_Ratio) (x := f) (ds := [⟨tRat C_Ratio, nrm 0 7⟩])
      · exists "d"
      · exact ins_rat
      · exists "d"
      · exact spP_x (.inl ⟨f, nrm 0 7, rfl, r1, r2, nrm_zero, rfl⟩)
    · apply s_caught em_
      intro ex
      dsimp only [List.set_cons_zero, List.set_cons_succ]
      apply s_prop ⟨rfl, rfl⟩
      exists "set"
      exists "n"
      apply s_setN (t := tBool) (xs := [true, true, false])
      · exists "d"
      exists "n"
      apply s_back
      exists "n"
      apply s_retP ⟨rfl, rfl, rfl⟩ rfl q
      · apply den_eqBL
        · rfl
        · exists "d"
        · rfl
        · decide +kernel
        · decide +kernel
        · rfl
      · rfl
  intro k2
  have k2 := of_decide_eq_false k2
  exists "if"
  · intro hk
    have hk := of_decide_eq_true hk
    exists "n"
    apply s_botS (c := .ref C_ZeroDivisor)
    · apply bots_meth (t := tRat C_Ratio) (x := f) (ds := [⟨tRat C_Ratio, subR f f⟩])
      · exists "d"
      · exact ins_rat
      · exists "d"
      · exact spP_x (.inl ⟨f, subR f f, rfl, r1, r3, sub_self_top f, rfl⟩)
    · apply s_caught em_
      intro ex
      dsimp only [List.set_cons_zero, List.set_cons_succ]
      apply s_prop ⟨rfl, rfl⟩
      exists "set"
      exists "n"
      apply s_setN (t := tBool) (xs := [true, true, false])
      · exists "d"
      exists "n"
      apply s_back
      exists "n"
      apply s_retP ⟨rfl, rfl, rfl⟩ rfl q
      · apply den_eqBL
        · rfl
        · exists "d"
        · rfl
        · decide +kernel
        · decide +kernel
        · rfl
      · rfl
  intro k3
  have k3 := of_decide_eq_false k3
  
  exfalso
  omega

theorem sc_law : FnScope ["script", "pool", "one", "two", "number", "first", "second", "kind"] ["script"] (defScope s_law) := ⟨rfl, rfl, rfl, by decide +kernel, rfl, by decide +kernel, by decide +kernel⟩
set_option maxHeartbeats 4000000 in
theorem ok_law (F : FunD W.K "law" "law" (defArgs s_law) (defBody s_law) (defScope s_law) [] [] f fd)
    (h__law_pool : DefOk W "_law_pool" 1 ["script"] (spN (S_pool W.K)))
    (h__law_fraction : DefOk W "_law_fraction" 3 ["pool"] (spMA P_fr S_fr))
    (h__law_second : DefOk W "_law_second" 4 ["pool", "one"] (spMA P_se S_se))
    (h__law_beside : DefOk W "_law_beside" 4 ["pool", "one"] (spMA P_se S_be))
    (RW_ : RatW W.K C_Ratio)
    (h_Ratio_init : InitOkD W C_Ratio 1 ["self", "top", "bottom"] (spI C_Ratio S_init (R_init C_ZeroDivisor)) [.int 1])
    (gc_Ratio : W.mg "Ratio" = some (.ref C_Ratio))
    (h__law_right : DefOk W "_law_right" 4 ["told", "due"] (spP (S_right C_Ratio) NoR))
    (h__law_results : DefOk W "_law_results" 6 ["first", "second", "number", "one", "two"] (spP (S_results C_Ratio) NoR))
    (h__law_compared : DefOk W "_law_compared" 6 ["first", "second", "number", "one", "two"] (spP (S_compared C_Ratio) NoR))
    (h__law_signs : DefOk W "_law_signs" 6 ["first", "second", "one", "two"] (spP (S_signs C_Ratio) NoR))
    (z_range : W.mg "range" = none)
    (h__law_refused : DefOk W "_law_refused" 6 ["first", "above", "kind"] (spP (S_refusedF C_Ratio) NoR))
    (h_Ratio_over : MethOk W C_Ratio "over" 3 ["self", "other"] (spP (S_over C_Ratio) (R_over C_Ratio C_ZeroDivisor)))
    (cl_Ratio : Cls W.K C_Ratio)
    (O_Ratio_add : OwnB W.K C_Ratio "add" a_Ratio_add a_Ratio_radd)
    (OI_Ratio_add : OwnInt W.K C_Ratio "add")
    (h_Ratio_add : FnAt W a_Ratio_add 3 ["self", "other"] (spP (S_two C_Ratio addR addI) NoR)) : FnOk W.P W.w W.K W.mg W.base (L2.CX W.P W.w) 8 f fd ["script"] (spP (S_law W.K) NoR) := by
  obtain ⟨f__law_pool, fd__law_pool, G__law_pool, g__law_pool, k__law_pool, b__law_pool⟩ := h__law_pool
  obtain ⟨f__law_fraction, fd__law_fraction, G__law_fraction, g__law_fraction, k__law_fraction, b__law_fraction⟩ := h__law_fraction
  obtain ⟨f__law_second, fd__law_second, G__law_second, g__law_second, k__law_second, b__law_second⟩ := h__law_second
  obtain ⟨f__law_beside, fd__law_beside, G__law_beside, g__law_beside, k__law_beside, b__law_beside⟩ := h__law_beside
  obtain ⟨f_Ratio_init, fd_Ratio_init, ds_Ratio_init, G_Ratio_init, M_Ratio, b_Ratio_init, bD_Ratio, vD_Ratio⟩ := h_Ratio_init
  obtain ⟨f__law_right, fd__law_right, G__law_right, g__law_right, k__law_right, b__law_right⟩ := h__law_right
  obtain ⟨f__law_results, fd__law_results, G__law_results, g__law_results, k__law_results, b__law_results⟩ := h__law_results
  obtain ⟨f__law_compared, fd__law_compared, G__law_compared, g__law_compared, k__law_compared, b__law_compared⟩ := h__law_compared
  obtain ⟨f__law_signs, fd__law_signs, G__law_signs, g__law_signs, k__law_signs, b__law_signs⟩ := h__law_signs
  obtain ⟨f__law_refused, fd__law_refused, G__law_refused, g__law_refused, k__law_refused, b__law_refused⟩ := h__law_refused
  obtain ⟨f_Ratio_over, fd_Ratio_over, G_Ratio_over, M_Ratio_over, b_Ratio_over⟩ := h_Ratio_over
  obtain ⟨fd_Ratio_add, G_Ratio_add, b_Ratio_add⟩ := h_Ratio_add
  refine lawFn_of (W := W) (k := 7) (sp := (spP (S_law W.K) NoR)) F sc_law (spP_len (n := 1) (fun ds r h => by obtain ⟨_, rfl, _⟩ := h; rfl) (fun _ _ h => h.elim)) (fun cdv A outer s H vs Q E hr h => ⟨_, (pss_cons (ps_set (i := 1) sc_law.nd rfl (Or.inl rfl) (pe_call G__law_pool (hr.mono (by decide)) rfl g__law_pool k__law_pool b__law_pool .nil passL (pa_cons (pv 0) pa_nil)))
    (pss_cons (ps_set (i := 2) sc_law.nd rfl (Or.inl rfl) (pe_call G__law_fraction (hr.mono (by decide)) rfl g__law_fraction k__law_fraction b__law_fraction .nil passL (pa_cons (pv 1) pa_nil)))
    (pss_cons (ps_set (i := 3) sc_law.nd rfl (Or.inl rfl) (pe_call G__law_second (hr.mono (by decide)) rfl g__law_second k__law_second b__law_second .nil passL (pa_cons (pv 1) (pa_cons (pv 2) pa_nil))))
    (pss_cons (ps_set (i := 4) sc_law.nd rfl (Or.inl rfl) (pe_call G__law_beside (hr.mono (by decide)) rfl g__law_beside k__law_beside b__law_beside .nil passL (pa_cons (pv 1) (pa_cons (pv 2) pa_nil))))
    (pss_cons (ps_set (i := 5) sc_law.nd rfl (Or.inl rfl) (pe_make M_Ratio G_Ratio_init (hr.mono (by decide)) (by rfl) gc_Ratio b_Ratio_init .nil (passes_call (takes_of rfl rfl rfl rfl) (fun _ _ _ _ h => h)) (pa_cons (pe_ix ix_tup (pv 2) pe_int (fun _ _ => rfl)) (pa_cons (pe_ix ix_tup (pv 2) pe_int (fun _ _ => rfl)) pa_nil))))
    (pss_cons (ps_set (i := 6) sc_law.nd rfl (Or.inl rfl) (pe_make M_Ratio G_Ratio_init (hr.mono (by decide)) (by rfl) gc_Ratio b_Ratio_init .nil (passes_call (takes_of rfl rfl rfl rfl) (fun _ _ _ _ h => h)) (pa_cons (pe_ix ix_tup (pv 3) pe_int (fun _ _ => rfl)) (pa_cons (pe_ix ix_tup (pv 3) pe_int (fun _ _ => rfl)) pa_nil))))
    (pss_cons (ps_if (PW.pt (pw_or (pt_not (pt_val (pe_call G__law_right (hr.mono (by decide)) rfl g__law_right k__law_right b__law_right .nil passL (pa_cons (pv 5) (pa_cons (pv 2) pa_nil))))) (pw_or1 (pt_not (pt_val (pe_call G__law_right (hr.mono (by decide)) rfl g__law_right k__law_right b__law_right .nil passL (pa_cons (pv 6) (pa_cons (pv 3) pa_nil)))))))) (pss_one (ps_ret pe_bl)) pss_nil)
    (pss_cons (ps_if (pt_not (pt_val (pe_call G__law_results (hr.mono (by decide)) rfl g__law_results k__law_results b__law_results .nil passL (pa_cons (pv 5) (pa_cons (pv 6) (pa_cons (pv 4) (pa_cons (pv 2) (pa_cons (pv 3) pa_nil)))))))) (pss_one (ps_ret pe_bl)) pss_nil)
    (pss_cons (ps_if (PW.pt (pw_or (pt_not (pt_val (pe_call G__law_compared (hr.mono (by decide)) rfl g__law_compared k__law_compared b__law_compared .nil passL (pa_cons (pv 5) (pa_cons (pv 6) (pa_cons (pv 4) (pa_cons (pv 2) (pa_cons (pv 3) pa_nil)))))))) (pw_or1 (pt_not (pt_val (pe_call G__law_signs (hr.mono (by decide)) rfl g__law_signs k__law_signs b__law_signs .nil passL (pa_cons (pv 5) (pa_cons (pv 6) (pa_cons (pv 2) (pa_cons (pv 3) pa_nil)))))))))) (pss_one (ps_ret pe_bl)) pss_nil)
    (pss_cons (ps_for (passes_of rfl) rfl (pi_range1 (by rfl) z_range (pa_cons pe_int pa_nil)) (pg_name (i := 7) sc_law.nd rfl (Or.inl rfl)) (pss_one (ps_if (pt_not (pt_val (pe_call G__law_refused (hr.mono (by decide)) rfl g__law_refused k__law_refused b__law_refused .nil passL (pa_cons (pv 5) (pa_cons (pe_ix ix_tup (pv 2) pe_int (fun _ _ => rfl)) (pa_cons (pv 7) pa_nil)))))) (pss_one (ps_ret pe_bl)) pss_nil)))
    (pss_cons (ps_if (PW.pt (pw_or (pt_not (pt_val (pe_call G__law_right (hr.mono (by decide)) rfl g__law_right k__law_right b__law_right .nil passL (pa_cons (pe_make M_Ratio G_Ratio_init (hr.mono (by decide)) (by rfl) gc_Ratio b_Ratio_init .nil (passes_call (takes_of rfl rfl rfl rfl) (fun _ _ _ _ h => h)) (pa_cons (pe_ix ix_tup (pv 2) pe_int (fun _ _ => rfl)) (pa_cons pe_int pa_nil))) (pa_cons (pe_tup (pa_cons (pe_ix ix_tup (pv 2) pe_int (fun _ _ => rfl)) (pa_cons pe_int pa_nil))) pa_nil))))) (pw_or1 (pt_not (pt_val (pe_call G__law_right (hr.mono (by decide)) rfl g__law_right k__law_right b__law_right .nil passL (pa_cons (pe_make M_Ratio G_Ratio_init (hr.mono (by decide)) (by rfl) gc_Ratio b_Ratio_init .nil (passes_call (takes_of rfl rfl rfl rfl) (fun _ _ _ _ h => h)) (pa_cons (pe_ix ix_tup (pv 2) pe_int (fun _ _ => rfl)) (pa_cons (pe_un un_neg pe_int) pa_nil))) (pa_cons (pe_tup (pa_cons (pe_un un_neg (pe_ix ix_tup (pv 2) pe_int (fun _ _ => rfl))) (pa_cons pe_int pa_nil))) pa_nil)))))))) (pss_one (ps_ret pe_bl)) pss_nil)
    (pss_cons (ps_if (PW.pt (pw_or (pt_not (pt_val (pe_call G__law_right (hr.mono (by decide)) rfl g__law_right k__law_right b__law_right .nil passL (pa_cons (pe_meth (pv 5) cl_Ratio M_Ratio_over G_Ratio_over (hr.mono (by decide)) b_Ratio_over .nil (passes_call (takes_of rfl rfl rfl rfl) (fun _ _ _ _ h => h)) (pa_cons pe_int pa_nil)) (pa_cons (pv 2) pa_nil))))) (pw_or1 (pt_not (pt_val (pe_call G__law_right (hr.mono (by decide)) rfl g__law_right k__law_right b__law_right .nil passL (pa_cons (pe_meth (pv 5) cl_Ratio M_Ratio_over G_Ratio_over (hr.mono (by decide)) b_Ratio_over .nil (passes_call (takes_of rfl rfl rfl rfl) (fun _ _ _ _ h => h)) (pa_cons (pe_un un_neg pe_int) pa_nil)) (pa_cons (pe_tup (pa_cons (pe_un un_neg (pe_ix ix_tup (pv 2) pe_int (fun _ _ => rfl))) (pa_cons (pe_ix ix_tup (pv 2) pe_int (fun _ _ => rfl)) pa_nil))) pa_nil)))))))) (pss_one (ps_ret pe_bl)) pss_nil)
    (pss_cons (ps_if (PW.pt (pw_or (pt_not (pt_val (pe_call G__law_right (hr.mono (by decide)) rfl g__law_right k__law_right b__law_right .nil passL (pa_cons (pv 5) (pa_cons (pv 2) pa_nil))))) (pw_or1 (pt_not (pt_val (pe_call G__law_right (hr.mono (by decide)) rfl g__law_right k__law_right b__law_right .nil passL (pa_cons (pv 6) (pa_cons (pv 3) pa_nil)))))))) (pss_one (ps_ret pe_bl)) pss_nil)
    (pss_one (ps_ret (pe_call G__law_right (hr.mono (by decide)) rfl g__law_right k__law_right b__law_right .nil passL (pa_cons (pe_op (op_own2 O_Ratio_add G_Ratio_add b_Ratio_add passL (hr.mono (by decide))) (pv 5) (pv 6)) (pa_cons (pe_tup (pa_cons (pe_op op_add (pe_op op_mulW (pe_ix ix_tup (pv 2) pe_int (fun _ _ => rfl)) (pe_ix ix_tup (pv 3) pe_int (fun _ _ => rfl))) (pe_op op_mulW (pe_ix ix_tup (pv 3) pe_int (fun _ _ => rfl)) (pe_ix ix_tup (pv 2) pe_int (fun _ _ => rfl)))) (pa_cons (pe_op op_mulW (pe_ix ix_tup (pv 2) pe_int (fun _ _ => rfl)) (pe_ix ix_tup (pv 3) pe_int (fun _ _ => rfl))) pa_nil))) pa_nil)))))))))))))))))), ?_⟩)
  refine body_P h fun F ds _ hS => ?_
  rcases hS with ⟨r, ⟨ns, rfl, hl, rfl⟩, q⟩ | ⟨c, hR, _⟩
  rotate_left
  · exact hR.elim
  refine (show OK _ [_, _, _, _, _, _, _, _] _ from ?_)
  obtain ⟨o0, c0⟩ := pool_ok hl
  exists "n"
  apply s_setH (ds := pool3 (pool ns))
  · apply dn_call
    · exists "d"
    · exact ⟨ns, rfl, hl, rfl⟩
  generalize pool ns = p1 at *
  exists "n"
  apply s_setA (den_callMA p1 rfl da_nil ⟨rfl, rfl, o0, by omega⟩)
  rintro Γ' r ⟨ps', ⟨p2, o, rfl, rfl, o2, c2, bo1, bo2, no⟩, rfl⟩
  exists "n"
  apply s_setA (den_callMA (p2, o) rfl (da_cons (den_var rfl) da_nil) ⟨rfl, rfl, o2, by show p2.ct < 700000000; omega, bo1, bo2, no⟩)
  rintro Γ' r ⟨ps', ⟨p3, w, rfl, rfl, o3, c3, bw1, bw2, nw⟩, rfl⟩
  have c3 : p3.ct ≤ p2.ct + 100 := c3
  exists "n"
  apply s_setA (den_callMA (p3, o) rfl (da_cons (den_var rfl) da_nil) ⟨rfl, rfl, o3, by show p3.ct < 700000000; omega, bo1, bo2, no⟩)
  rintro Γ' r ⟨ps', ⟨p4, n, rfl, rfl, o4, c4, bn⟩, rfl⟩
  have hf : Fr (nrm o.1 o.2) o := ⟨rfl, bo1, bo2, no⟩
  have hs : Fr (nrm w.1 w.2) w := ⟨rfl, bw1, bw2, nw⟩
  have v1 : Bd 4000 o.1 := b34 bo1
  have v2 : Bd 4000 o.2 := b34 bo2
  have v3 : Bd 4000 w.1 := b34 bw1
  have v4 : Bd 4000 w.2 := b34 bw2
  exists "set"
  exists "set"
  have u1 := hf.right
  have u2 := hs.right
  exists "if"
  · intro hc
    cases hc
  intro _
  exists "if"
  · intro hc
    cases hc
  intro _
  exists "if"
  · intro hc
    cases hc
  intro _
  exists "n"
  apply s_forR () (fun _ => [.val ⟨tScr W.K, ns⟩, .own none (pool3 p4), .val ⟨tPair tInt tInt, o⟩, .val ⟨tPair tInt tInt, w⟩, .val ⟨tInt, n⟩, .val ⟨tRat C_Ratio, nrm o.1 o.2⟩, .val ⟨tRat C_Ratio, nrm w.1 w.2⟩, .any]) (fun _ _ => True)
  · exists "d"
  · decide
  · decide
  · trivial
  · exists "wk"
  · intro k s0 hk _
    have hk0 : (0 : Int) ≤ (k : Int) := by omega
    have hk4 : (k : Int) < 4 := hk
    exists "if"
    · intro hc
      cases hc
    intro _
    exists "n"
    apply s_next ()
    · trivial
    · exists "wk"
  · intro s0 _
    have i1 : Bd 4000 1 := bd1 (by decide)
    have i2 : (1 : Int) ≠ 0 := by decide
    have i3 : Bd 4000 (-1) := i1.neg
    have i4 : (-1 : Int) ≠ 0 := by decide
    have u3 : RightP (nrm o.1 1) (o.1, 1) := right_of i2 rfl v1 i1 v1 i1 i2
    have u4 : RightP (nrm o.1 (-1)) (-o.1, 1) := right_of i4 (by omega) v1 i3 v1.neg i1 i2
    have j1 : Bd 1500 1 := bd1 (by decide)
    have j3 : Bd 1500 (-1) := j1.neg
    have rb := hf.rb
    have rs := hs.rb
    have b1 : Bd 300 1 := bd1 (by decide)
    have u5 : RightP (overI (nrm o.1 o.2) 1) o := by
      have := r_overI hf b1 i2
      rw [Int.one_mul] at this
      exact this
    have u6 : RightP (overI (nrm o.1 o.2) (-1)) (-o.1, o.2) := by
      have := r_overI hf b1.neg i4
      have e1 := this.val
      have e1 : (overI (nrm o.1 o.2) (-1)).top * (-1 * o.2) = o.1 * (overI (nrm o.1 o.2) (-1)).bot := e1
      refine ⟨this.pos, ?_, this.cop, this.bt, this.bb, v1.neg, v2, no⟩
      show (overI (nrm o.1 o.2) (-1)).top * o.2 = -o.1 * (overI (nrm o.1 o.2) (-1)).bot
      grind
    have u7 := r_add hf hs
    have y1 : Bd 1500 o.1 := bo1.mono (by decide)
    have y2 : Bd 1500 o.2 := bo2.mono (by decide)
    have y3 : Bd 1500 w.1 := bw1.mono (by decide)
    have y4 : Bd 1500 w.2 := bw2.mono (by decide)
    exists "if"
    · intro hc
      cases hc
    intro _
    exists "if"
    · intro hc
      cases hc
    intro _
    exists "if"
    · intro hc
      cases hc
    intro _
    exists "n"
    apply s_retP ⟨rfl, rfl, rfl⟩ rfl q
    · exists "d"
    · rfl

end

/-! ### the head -/

def q_rat (K : PySem.W.Frag) (x : Str) : Bool := He.eqO (PySem.W.findIn K (.ref (He.ga K x)) "__class__") (some (some (.builtin "object.__class__"))) && (He.eqO (PySem.W.specialIn K (.builtin "object.__class__") "__get__") (some (some (.builtin "getset_descriptor.__get__"))) && (decide (PySem.W.takesIn K (.builtin "object.__class__") = some true) && (decide (PySem.W.mroIn K (He.ga K x) (.type "object") = some true) && decide (PySem.W.kitOne K (.type "int") (.ref (He.ga K x)) = some false))))
def q_own (K : PySem.W.Frag) (x m : Str) : Bool := He.eqO (PySem.W.findIn K (.ref (He.ga K x)) m) (some (some (.ref (He.ma K (He.ga K x) m)))) && PySem.W.isFn K (.ref (He.ma K (He.ga K x) m))
def q_int (K : PySem.W.Frag) (x : Str) (nm : String) : Bool := (PySem.W.findIn K (.type "int") (dunder nm)).isSome && ((PySem.W.findIn K (.type "int") (dunderR nm)).isSome && (decide (PySem.W.subIn K (.type "int") (.ref (He.ga K x)) = some false) && decide (PySem.W.subIn K (.ref (He.ga K x)) (.type "int") = some false)))
def q_exc (K : PySem.W.Frag) (x : Str) : Bool := He.eqO (PySem.W.findIn K (.ref (He.ga K x)) "__getattribute__") (some (some (.builtin "BaseException.__getattribute__"))) && (He.eqO (PySem.W.findIn K (.ref (He.ga K x)) "__getattr__") (some none) && (decide (PySem.W.subIn K (.ref (He.ga K x)) (.type "BaseException") = some true) && (PySem.W.hasDictIn K (He.ga K x) && (He.eqO (PySem.W.findIn K (.ref (He.ga K x)) "__class__") (some (some (.builtin "object.__class__"))) && (He.eqO (PySem.W.specialIn K (.builtin "object.__class__") "__get__") (some (some (.builtin "getset_descriptor.__get__"))) && (decide (PySem.W.takesIn K (.builtin "object.__class__") = some true) && decide (PySem.W.mroIn K (He.ga K x) (.type "object") = some true)))))))
def q_kit (K : PySem.W.Frag) (x y : Str) (b : Bool) : Bool := decide (PySem.W.kitOne K (.ref (He.ga K x)) (.ref (He.ga K y)) = some b)
def q_kitT (K : PySem.W.Frag) (x : Str) (T : String) (b : Bool) : Bool := decide (PySem.W.kitOne K (.ref (He.ga K x)) (.type T) = some b)
def q_bi (K : PySem.W.Frag) (x : Str) (id : String) : Bool := He.eqO (PySem.W.nsIn K mainGlobals x) (some (some (.builtin id)))
section
variable {K : PySem.W.Frag} {x m m' : Str} {nm : String}
theorem and2 {a b : Bool} (h : (a && b) = true) : a = true ∧ b = true := Bool.and_eq_true_iff.mp h
theorem rat_ok (c : Cls K (He.ga K x)) (n1 : NoAttr K (He.ga K x) "top") (n2 : NoAttr K (He.ga K x) "bottom") (h : q_rat K x = true) : RatW K (He.ga K x) := by
  obtain ⟨h1, h⟩ := and2 h
  obtain ⟨h2, h⟩ := and2 h
  obtain ⟨h3, h⟩ := and2 h
  obtain ⟨h4, h5⟩ := and2 h
  exact ⟨c, n1, n2, He.eqO_ok h1, He.eqO_ok h2, of_decide_eq_true h3, of_decide_eq_true h4, of_decide_eq_true h5⟩
theorem own_ok (h : q_own K x m = true) : OwnM K (He.ga K x) m (He.ma K (He.ga K x) m) := by
  obtain ⟨h1, h2⟩ := and2 h
  exact ⟨He.eqO_ok h1, h2⟩
theorem ownB_ok (e1 : dunder nm = m) (e2 : dunderR nm = m') (h1 : q_own K x m = true) (h2 : q_own K x m' = true) (h3 : PySem.W.selfFirst K (He.ga K x) = true) : OwnB K (He.ga K x) nm (He.ma K (He.ga K x) m) (He.ma K (He.ga K x) m') := by
  subst e1 e2
  exact ⟨own_ok h1, own_ok h2, h3⟩
theorem ownI_ok (h : q_int K x nm = true) : OwnInt K (He.ga K x) nm := by
  obtain ⟨h1, h⟩ := and2 h
  obtain ⟨h2, h⟩ := and2 h
  obtain ⟨h3, h4⟩ := and2 h
  exact ⟨Option.isSome_iff_exists.mp h1, Option.isSome_iff_exists.mp h2, of_decide_eq_true h3, of_decide_eq_true h4⟩
theorem excC_ok (h : q_exc K x = true) : ExcC K (He.ga K x) := by
  obtain ⟨h1, h⟩ := and2 h
  obtain ⟨h2, h⟩ := and2 h
  obtain ⟨h3, h⟩ := and2 h
  obtain ⟨h4, h⟩ := and2 h
  obtain ⟨h5, h⟩ := and2 h
  obtain ⟨h6, h⟩ := and2 h
  obtain ⟨h7, h8⟩ := and2 h
  exact ⟨He.eqO_ok h1, He.eqO_ok h2, of_decide_eq_true h3, h4, He.eqO_ok h5, He.eqO_ok h6, of_decide_eq_true h7, of_decide_eq_true h8⟩
theorem bi_ok {h : Heap} {mg : Str → Option Value} {id : String} (X : K.In h) (G : h.Ns mainGlobals mg) (q : q_bi K x id = true) : mg x = some (.builtin id) := PySem.W.mg_of X G (He.eqO_ok q)
end

def d__law_pool : He.DefD := ⟨("_law_pool", none), "_law_pool", "_law_pool", defArgs s__law_pool, defBody s__law_pool, defScope s__law_pool, [], []⟩
def d__law_take : He.DefD := ⟨("_law_take", none), "_law_take", "_law_take", defArgs s__law_take, defBody s__law_take, defScope s__law_take, [], []⟩
def d_Ratio___init__ : He.DefD := ⟨("Ratio", some "__init__"), "__init__", "Ratio.__init__", defArgs s_Ratio___init__, defBody s_Ratio___init__, defScope s_Ratio___init__, [.int 1], []⟩
def d_Ratio___add__ : He.DefD := ⟨("Ratio", some "__add__"), "__add__", "Ratio.__add__", defArgs s_Ratio___add__, defBody s_Ratio___add__, defScope s_Ratio___add__, [], []⟩
def d_Ratio___sub__ : He.DefD := ⟨("Ratio", some "__sub__"), "__sub__", "Ratio.__sub__", defArgs s_Ratio___sub__, defBody s_Ratio___sub__, defScope s_Ratio___sub__, [], []⟩
def d_Ratio___mul__ : He.DefD := ⟨("Ratio", some "__mul__"), "__mul__", "Ratio.__mul__", defArgs s_Ratio___mul__, defBody s_Ratio___mul__, defScope s_Ratio___mul__, [], []⟩
def d_Ratio___neg__ : He.DefD := ⟨("Ratio", some "__neg__"), "__neg__", "Ratio.__neg__", defArgs s_Ratio___neg__, defBody s_Ratio___neg__, defScope s_Ratio___neg__, [], []⟩
def d_Ratio___abs__ : He.DefD := ⟨("Ratio", some "__abs__"), "__abs__", "Ratio.__abs__", defArgs s_Ratio___abs__, defBody s_Ratio___abs__, defScope s_Ratio___abs__, [], []⟩
def d_Ratio___radd__ : He.DefD := ⟨("Ratio", some "__radd__"), "__radd__", "Ratio.__radd__", defArgs s_Ratio___radd__, defBody s_Ratio___radd__, defScope s_Ratio___radd__, [], []⟩
def d_Ratio___rsub__ : He.DefD := ⟨("Ratio", some "__rsub__"), "__rsub__", "Ratio.__rsub__", defArgs s_Ratio___rsub__, defBody s_Ratio___rsub__, defScope s_Ratio___rsub__, [], []⟩
def d_Ratio___rmul__ : He.DefD := ⟨("Ratio", some "__rmul__"), "__rmul__", "Ratio.__rmul__", defArgs s_Ratio___rmul__, defBody s_Ratio___rmul__, defScope s_Ratio___rmul__, [], []⟩
def d_Ratio___eq__ : He.DefD := ⟨("Ratio", some "__eq__"), "__eq__", "Ratio.__eq__", defArgs s_Ratio___eq__, defBody s_Ratio___eq__, defScope s_Ratio___eq__, [], []⟩
def d_Ratio___bool__ : He.DefD := ⟨("Ratio", some "__bool__"), "__bool__", "Ratio.__bool__", defArgs s_Ratio___bool__, defBody s_Ratio___bool__, defScope s_Ratio___bool__, [], []⟩
def d_Ratio_over : He.DefD := ⟨("Ratio", some "over"), "over", "Ratio.over", defArgs s_Ratio_over, defBody s_Ratio_over, defScope s_Ratio_over, [], []⟩
def d_Ratio_sign : He.DefD := ⟨("Ratio", some "sign"), "sign", "Ratio.sign", defArgs s_Ratio_sign, defBody s_Ratio_sign, defScope s_Ratio_sign, [], []⟩
def d_compare : He.DefD := ⟨("compare", none), "compare", "compare", defArgs s_compare, defBody s_compare, defScope s_compare, [], []⟩
def d__law_integer : He.DefD := ⟨("_law_integer", none), "_law_integer", "_law_integer", defArgs s__law_integer, defBody s__law_integer, defScope s__law_integer, [], []⟩
def d__law_common : He.DefD := ⟨("_law_common", none), "_law_common", "_law_common", defArgs s__law_common, defBody s__law_common, defScope s__law_common, [], []⟩
def d__law_size : He.DefD := ⟨("_law_size", none), "_law_size", "_law_size", defArgs s__law_size, defBody s__law_size, defScope s__law_size, [], []⟩
def d__law_fraction : He.DefD := ⟨("_law_fraction", none), "_law_fraction", "_law_fraction", defArgs s__law_fraction, defBody s__law_fraction, defScope s__law_fraction, [], []⟩
def d__law_second : He.DefD := ⟨("_law_second", none), "_law_second", "_law_second", defArgs s__law_second, defBody s__law_second, defScope s__law_second, [], []⟩
def d__law_beside : He.DefD := ⟨("_law_beside", none), "_law_beside", "_law_beside", defArgs s__law_beside, defBody s__law_beside, defScope s__law_beside, [], []⟩
def d__law_right : He.DefD := ⟨("_law_right", none), "_law_right", "_law_right", defArgs s__law_right, defBody s__law_right, defScope s__law_right, [], []⟩
def d__law_side : He.DefD := ⟨("_law_side", none), "_law_side", "_law_side", defArgs s__law_side, defBody s__law_side, defScope s__law_side, [], []⟩
def d__law_results : He.DefD := ⟨("_law_results", none), "_law_results", "_law_results", defArgs s__law_results, defBody s__law_results, defScope s__law_results, [], []⟩
def d__law_signs : He.DefD := ⟨("_law_signs", none), "_law_signs", "_law_signs", defArgs s__law_signs, defBody s__law_signs, defScope s__law_signs, [], []⟩
def d__law_compared : He.DefD := ⟨("_law_compared", none), "_law_compared", "_law_compared", defArgs s__law_compared, defBody s__law_compared, defScope s__law_compared, [], []⟩
def d__law_refused : He.DefD := ⟨("_law_refused", none), "_law_refused", "_law_refused", defArgs s__law_refused, defBody s__law_refused, defScope s__law_refused, [], []⟩
def d_law : He.DefD := ⟨("law", none), "law", "law", defArgs s_law, defBody s_law, defScope s_law, [], []⟩
def fn : List He.DefD := [d__law_pool, d__law_take, d_Ratio___init__, d_Ratio___add__, d_Ratio___sub__, d_Ratio___mul__, d_Ratio___neg__, d_Ratio___abs__, d_Ratio___radd__, d_Ratio___rsub__, d_Ratio___rmul__, d_Ratio___eq__, d_Ratio___bool__, d_Ratio_over, d_Ratio_sign, d_compare, d__law_integer, d__law_common, d__law_size, d__law_fraction, d__law_second, d__law_beside, d__law_right, d__law_side, d__law_results, d__law_signs, d__law_compared, d__law_refused, d_law]
def fa : List He.Fa := [.glo "SpotError", .glo "ZeroDivisor", .glo "TooLarge", .glo "BadNumber", .glo "Ratio", .glo "_law_pool", .glo "_law_take", .glo "compare", .glo "_law_integer", .glo "_law_common", .glo "_law_size", .glo "_law_fraction", .glo "_law_second", .glo "_law_beside", .glo "_law_right", .glo "_law_side", .glo "_law_results", .glo "_law_signs", .glo "_law_compared", .glo "_law_refused", .glo "law", .free "int", .free "abs", .free "len", .free "list", .mkr "Ratio", .exc "ZeroDivisor", .cls "Ratio", .noat "Ratio" "top", .noat "Ratio" "bottom", .free "isinstance", .free "bool", .meth "Ratio" "over", .meth "Ratio" "sign", .free "range", .free "max", .exc "SpotError", .free "ValueError", .exm "ZeroDivisor" "SpotError" true]
def qs (K : PySem.W.Frag) : List Bool := [q_rat K "Ratio",
  PySem.W.selfFirst K (He.ga K "Ratio"),
  q_own K "Ratio" "__add__",
  q_own K "Ratio" "__radd__",
  q_own K "Ratio" "__sub__",
  q_own K "Ratio" "__rsub__",
  q_own K "Ratio" "__mul__",
  q_own K "Ratio" "__rmul__",
  q_own K "Ratio" "__neg__",
  q_own K "Ratio" "__abs__",
  q_own K "Ratio" "__eq__",
  q_own K "Ratio" "__bool__",
  q_int K "Ratio" "add",
  q_int K "Ratio" "sub",
  q_int K "Ratio" "mul",
  q_bi K "gcd" "math.gcd",
  q_exc K "ZeroDivisor",
  q_kit K "ZeroDivisor" "BadNumber" false,
  q_kit K "ZeroDivisor" "TooLarge" false,
  q_kitT K "ZeroDivisor" "ValueError" true]

abbrev R0 : PySem.W.OpenRow := PySem.W.OpenLaw.row PySem.Challenge.rw_spotheights_k00_ratios_are_exact
def obsQ (K : PySem.W.Frag) : He.AlD := ((qs K).all id && (He.obsD fa fn K).1, (He.obsD fa fn K).2)
theorem obsQ_ok {K : PySem.W.Frag} (h : obsQ K = He.valD fn) : He.SaysD fa fn K ∧ (qs K).all id = true := by
  have h1 : ((qs K).all id && (He.obsD fa fn K).1) = true := congrArg (fun z : He.AlD => z.1) h
  have h2 : (He.obsD fa fn K).2 = fn.map He.DefD.val := congrArg (fun z : He.AlD => z.2) h
  obtain ⟨h3, h4⟩ := Bool.and_eq_true_iff.mp h1
  exact ⟨Prod.ext h4 h2, h3⟩
theorem q_at {K : PySem.W.Frag} {b : Bool} (c : (qs K).all id = true) (i : Nat) (h : (qs K)[i]? = some b := by rfl) : b = true := List.all_eq_true.mp c b (List.mem_of_getElem? h)
def partOf (g : Addr → Option Obj) : PySem.W.Frag := He.frG g (He.asD g 5)
def hq : PySem.W.Hook where
  α := He.AlD
  obs := fun t => obsQ (partOf t.heap.get?)
  val := fun _ => He.valD fn
  says := fun _ h => ∃ K : PySem.W.Frag, K.In h ∧ obsQ K = He.valD fn
  of := fun _ _ e => ⟨_, He.frG_in, e⟩
  keeps := fun _ _ _ w k => by
    obtain ⟨K, a, b⟩ := w
    exact ⟨K, PySem.W.Frag.In.keeps a k, b⟩
def obT (t : PySem.W.SharedT) : He.AlD := obsQ (partOf (HandSHeadRun.getT t))
theorem obT_eq (t : PySem.W.SharedT) : obT t = hq.obs t.abs := by
  have e : HandSHeadRun.getT t = t.abs.heap.get? := funext (HandSHeadRun.getT_eq t)
  show obsQ (partOf (HandSHeadRun.getT t)) = obsQ (partOf t.abs.heap.get?)
  rw [e]
theorem run0 (w : World) : HandSHeadRun.RunEqI R0 (PySem.W.view R0.prog [0, 31]) hq obT 3000 ((["SpotError", "ZeroDivisor", "TooLarge", "BadText", "BadNumber", "DIGITS", "MOST_DIGITS", "PIECE", "is_short_digits", "written_integer", "written_number", "Ratio", "compare", "_law_pool", "_law_take", "_law_integer", "_law_common", "_law_size", "_law_fraction", "_law_second", "_law_beside", "_law_right", "_law_results", "_law_side", "_law_signs", "_law_compared", "_law_refused"] : List PySem.Str)) w := by
  unfold HandSHeadRun.RunEqI
  kernel_rfl
theorem calm {P : Program} {w : World} {K : PySem.W.Frag} {mg : Str → Option Value} {base : Heap} {k : Nat} {f : Addr} {fd : FuncData} {ps : List Str} {sp : Sp} (F : FnOk P w K mg base (L2.CX P w) k f fd ps sp) : FnOk P w K mg base CX0 k f fd ps (fun vs H Q _ => sp vs H Q E0) :=
  ⟨fun _ _ _ _ z => F.len _ _ _ _ z, fun A outer s H args us vs Q E hr e b v z => codeAny_mono (F.run A outer s H args us vs Q E0 hr e b v z) fun r s' y => by
    cases r with
    | error u =>
      obtain ⟨_, _, _, _, _, _, _, _, _, _, _, _, n⟩ := (show L2.CX P w outer H s E0 u s' from y)
      exact n.elim
    | ok fl => cases fl <;> exact y⟩
def spLaw (K : PySem.W.Frag) : Sp := fun vs H Q _ => spP (S_law K) NoR vs H Q E0
theorem spLaw_ok {K : PySem.W.Frag} {H : Hp} {a : Addr} {ns : List Int} (hl : ns.length ≤ 63) (hS : SqL K H a (ns.map V.int)) : spLaw K [.ref a] H (fun v _ => v = .bl true) fun _ _ _ => False :=
  ⟨H, [⟨tScr K, ns⟩], fun _ _ z => z, .cons ⟨a, rfl, hS⟩ .nil, .inl ⟨⟨tBool, true⟩, ⟨ns, rfl, hl, rfl⟩, fun _ _ _ _ r => r⟩⟩
set_option maxHeartbeats 4000000 in
theorem facts {P : Program} {w : World} {K : PySem.W.Frag} {h : Heap} {mg : Str → Option Value} {f : Addr} (X : K.In h) (G : h.Ns mainGlobals mg) (hfa : mg ("law" : Str) = some (.ref f)) (c0 : obsQ K = He.valD fn) :
    ∃ fd : FuncData, (∀ (s : Shared) (v : Value), BindsTo s fd ⟨[v], []⟩ [("script", v)]) ∧ ∀ base : Heap, K.In base → base.Ns mainGlobals mg → FnOk P w K mg base CX0 8 f fd ["script"] (spLaw K) := by
  obtain ⟨c, cq⟩ := obsQ_ok c0
  have cd := c
  obtain ⟨fd_0, F_0⟩ := cd.def_ 0 (d := d__law_pool) rfl
  obtain ⟨fd_1, F_1⟩ := cd.def_ 1 (d := d__law_take) rfl
  obtain ⟨fd_2, F_2⟩ := cd.def_ 2 (d := d_Ratio___init__) rfl
  obtain ⟨fd_3, F_3⟩ := cd.def_ 3 (d := d_Ratio___add__) rfl
  obtain ⟨fd_4, F_4⟩ := cd.def_ 4 (d := d_Ratio___sub__) rfl
  obtain ⟨fd_5, F_5⟩ := cd.def_ 5 (d := d_Ratio___mul__) rfl
  obtain ⟨fd_6, F_6⟩ := cd.def_ 6 (d := d_Ratio___neg__) rfl
  obtain ⟨fd_7, F_7⟩ := cd.def_ 7 (d := d_Ratio___abs__) rfl
  obtain ⟨fd_8, F_8⟩ := cd.def_ 8 (d := d_Ratio___radd__) rfl
  obtain ⟨fd_9, F_9⟩ := cd.def_ 9 (d := d_Ratio___rsub__) rfl
  obtain ⟨fd_10, F_10⟩ := cd.def_ 10 (d := d_Ratio___rmul__) rfl
  obtain ⟨fd_11, F_11⟩ := cd.def_ 11 (d := d_Ratio___eq__) rfl
  obtain ⟨fd_12, F_12⟩ := cd.def_ 12 (d := d_Ratio___bool__) rfl
  obtain ⟨fd_13, F_13⟩ := cd.def_ 13 (d := d_Ratio_over) rfl
  obtain ⟨fd_14, F_14⟩ := cd.def_ 14 (d := d_Ratio_sign) rfl
  obtain ⟨fd_15, F_15⟩ := cd.def_ 15 (d := d_compare) rfl
  obtain ⟨fd_16, F_16⟩ := cd.def_ 16 (d := d__law_integer) rfl
  obtain ⟨fd_17, F_17⟩ := cd.def_ 17 (d := d__law_common) rfl
  obtain ⟨fd_18, F_18⟩ := cd.def_ 18 (d := d__law_size) rfl
  obtain ⟨fd_19, F_19⟩ := cd.def_ 19 (d := d__law_fraction) rfl
  obtain ⟨fd_20, F_20⟩ := cd.def_ 20 (d := d__law_second) rfl
  obtain ⟨fd_21, F_21⟩ := cd.def_ 21 (d := d__law_beside) rfl
  obtain ⟨fd_22, F_22⟩ := cd.def_ 22 (d := d__law_right) rfl
  obtain ⟨fd_23, F_23⟩ := cd.def_ 23 (d := d__law_side) rfl
  obtain ⟨fd_24, F_24⟩ := cd.def_ 24 (d := d__law_results) rfl
  obtain ⟨fd_25, F_25⟩ := cd.def_ 25 (d := d__law_signs) rfl
  obtain ⟨fd_26, F_26⟩ := cd.def_ 26 (d := d__law_compared) rfl
  obtain ⟨fd_27, F_27⟩ := cd.def_ 27 (d := d__law_refused) rfl
  obtain ⟨fd_28, F_28⟩ := cd.def_ 28 (d := d_law) rfl
  have e := hfa.symm.trans (He.glo_ok X G (c.fact 20 (f := .glo "law") rfl))
  cases e
  have bL := FunD.bindsA (ps := ["script"]) F_28 fun _ _ _ _ _ _ us hl => match us, hl with | [_], _ => rfl
  refine ⟨fd_28, fun s v => bL s [v] rfl, fun base _ _ => ?_⟩
  have h__law_pool := ok__law_pool (W := ⟨P, w, K, mg, base⟩)  (F := F_0) (g := He.glo_ok X G (c.fact 5 (f := .glo "_law_pool") rfl)) (z_int := (He.free_ok X G (c.fact 21 (f := .free "int") rfl))) (z_abs := (He.free_ok X G (c.fact 22 (f := .free "abs") rfl))) (z_len := (He.free_ok X G (c.fact 23 (f := .free "len") rfl)))
  have h__law_take := ok__law_take (W := ⟨P, w, K, mg, base⟩)  (F := F_1) (g := He.glo_ok X G (c.fact 6 (f := .glo "_law_take") rfl)) (z_len := (He.free_ok X G (c.fact 23 (f := .free "len") rfl))) (z_list := (He.free_ok X G (c.fact 24 (f := .free "list") rfl))) (z_int := (He.free_ok X G (c.fact 21 (f := .free "int") rfl)))
  have h_Ratio_init := ok_Ratio___init__ (W := ⟨P, w, K, mg, base⟩) (C_Ratio := He.ga K "Ratio") (C_ZeroDivisor := He.ga K "ZeroDivisor") (F := F_2) (g := He.mkr_ok (c.fact 25 (f := .mkr "Ratio") rfl)) (xc_ZeroDivisor := ⟨He.glo_ok X G (c.fact 1 (f := .glo "ZeroDivisor") rfl), (He.exc_ok (c.fact 26 (f := .exc "ZeroDivisor") rfl)).1, (He.exc_ok (c.fact 26 (f := .exc "ZeroDivisor") rfl)).2.1, (He.exc_ok (c.fact 26 (f := .exc "ZeroDivisor") rfl)).2.2.1, (He.exc_ok (c.fact 26 (f := .exc "ZeroDivisor") rfl)).2.2.2⟩) (q_gcd := (bi_ok X G (q_at cq (b := q_bi K "gcd" "math.gcd") 15))) (RW_ := (rat_ok (He.cls_ok (c.fact 27 (f := .cls "Ratio") rfl)) (He.noat_ok (c.fact 28 (f := .noat "Ratio" "top") rfl)) (He.noat_ok (c.fact 29 (f := .noat "Ratio" "bottom") rfl)) (q_at cq (b := q_rat K "Ratio") 0)))
  have h_Ratio_add := ok_Ratio___add__ (W := ⟨P, w, K, mg, base⟩) (C_Ratio := He.ga K "Ratio") (C_ZeroDivisor := He.ga K "ZeroDivisor") (F := F_3)  (gc_Ratio := (He.glo_ok X G (c.fact 4 (f := .glo "Ratio") rfl))) (z_isinstance := (He.free_ok X G (c.fact 30 (f := .free "isinstance") rfl))) (RW_ := (rat_ok (He.cls_ok (c.fact 27 (f := .cls "Ratio") rfl)) (He.noat_ok (c.fact 28 (f := .noat "Ratio" "top") rfl)) (He.noat_ok (c.fact 29 (f := .noat "Ratio" "bottom") rfl)) (q_at cq (b := q_rat K "Ratio") 0))) (h_Ratio_init := h_Ratio_init) (z_int := (He.free_ok X G (c.fact 21 (f := .free "int") rfl)))
  have h_Ratio_sub := ok_Ratio___sub__ (W := ⟨P, w, K, mg, base⟩) (C_Ratio := He.ga K "Ratio") (C_ZeroDivisor := He.ga K "ZeroDivisor") (F := F_4)  (gc_Ratio := (He.glo_ok X G (c.fact 4 (f := .glo "Ratio") rfl))) (z_isinstance := (He.free_ok X G (c.fact 30 (f := .free "isinstance") rfl))) (RW_ := (rat_ok (He.cls_ok (c.fact 27 (f := .cls "Ratio") rfl)) (He.noat_ok (c.fact 28 (f := .noat "Ratio" "top") rfl)) (He.noat_ok (c.fact 29 (f := .noat "Ratio" "bottom") rfl)) (q_at cq (b := q_rat K "Ratio") 0))) (h_Ratio_init := h_Ratio_init) (z_int := (He.free_ok X G (c.fact 21 (f := .free "int") rfl)))
  have h_Ratio_mul := ok_Ratio___mul__ (W := ⟨P, w, K, mg, base⟩) (C_Ratio := He.ga K "Ratio") (C_ZeroDivisor := He.ga K "ZeroDivisor") (F := F_5)  (gc_Ratio := (He.glo_ok X G (c.fact 4 (f := .glo "Ratio") rfl))) (z_isinstance := (He.free_ok X G (c.fact 30 (f := .free "isinstance") rfl))) (RW_ := (rat_ok (He.cls_ok (c.fact 27 (f := .cls "Ratio") rfl)) (He.noat_ok (c.fact 28 (f := .noat "Ratio" "top") rfl)) (He.noat_ok (c.fact 29 (f := .noat "Ratio" "bottom") rfl)) (q_at cq (b := q_rat K "Ratio") 0))) (h_Ratio_init := h_Ratio_init) (z_int := (He.free_ok X G (c.fact 21 (f := .free "int") rfl)))
  have h_Ratio_neg := ok_Ratio___neg__ (W := ⟨P, w, K, mg, base⟩) (C_Ratio := He.ga K "Ratio") (C_ZeroDivisor := He.ga K "ZeroDivisor") (F := F_6)  (RW_ := (rat_ok (He.cls_ok (c.fact 27 (f := .cls "Ratio") rfl)) (He.noat_ok (c.fact 28 (f := .noat "Ratio" "top") rfl)) (He.noat_ok (c.fact 29 (f := .noat "Ratio" "bottom") rfl)) (q_at cq (b := q_rat K "Ratio") 0))) (h_Ratio_init := h_Ratio_init) (gc_Ratio := (He.glo_ok X G (c.fact 4 (f := .glo "Ratio") rfl)))
  have h_Ratio_abs := ok_Ratio___abs__ (W := ⟨P, w, K, mg, base⟩) (C_Ratio := He.ga K "Ratio") (C_ZeroDivisor := He.ga K "ZeroDivisor") (F := F_7)  (z_abs := (He.free_ok X G (c.fact 22 (f := .free "abs") rfl))) (RW_ := (rat_ok (He.cls_ok (c.fact 27 (f := .cls "Ratio") rfl)) (He.noat_ok (c.fact 28 (f := .noat "Ratio" "top") rfl)) (He.noat_ok (c.fact 29 (f := .noat "Ratio" "bottom") rfl)) (q_at cq (b := q_rat K "Ratio") 0))) (h_Ratio_init := h_Ratio_init) (gc_Ratio := (He.glo_ok X G (c.fact 4 (f := .glo "Ratio") rfl)))
  have h_Ratio_radd := ok_Ratio___radd__ (W := ⟨P, w, K, mg, base⟩) (C_Ratio := He.ga K "Ratio") (a_Ratio_add := He.ma K (He.ga K "Ratio") "__add__") (a_Ratio_radd := He.ma K (He.ga K "Ratio") "__radd__") (F := F_8)  (RW_ := (rat_ok (He.cls_ok (c.fact 27 (f := .cls "Ratio") rfl)) (He.noat_ok (c.fact 28 (f := .noat "Ratio" "top") rfl)) (He.noat_ok (c.fact 29 (f := .noat "Ratio" "bottom") rfl)) (q_at cq (b := q_rat K "Ratio") 0))) (O_Ratio_add := (ownB_ok (by decide +kernel) (by decide +kernel) (q_at cq (b := q_own K "Ratio" "__add__") 2) (q_at cq (b := q_own K "Ratio" "__radd__") 3) (q_at cq (b := PySem.W.selfFirst K (He.ga K "Ratio")) 1))) (OI_Ratio_add := (ownI_ok (q_at cq (b := q_int K "Ratio" "add") 12))) (h_Ratio_add := h_Ratio_add)
  have h_Ratio_rsub := ok_Ratio___rsub__ (W := ⟨P, w, K, mg, base⟩) (C_Ratio := He.ga K "Ratio") (a_Ratio_add := He.ma K (He.ga K "Ratio") "__add__") (a_Ratio_radd := He.ma K (He.ga K "Ratio") "__radd__") (a_Ratio_neg := He.ma K (He.ga K "Ratio") "__neg__") (F := F_9)  (RW_ := (rat_ok (He.cls_ok (c.fact 27 (f := .cls "Ratio") rfl)) (He.noat_ok (c.fact 28 (f := .noat "Ratio" "top") rfl)) (He.noat_ok (c.fact 29 (f := .noat "Ratio" "bottom") rfl)) (q_at cq (b := q_rat K "Ratio") 0))) (O_Ratio_neg := (own_ok (q_at cq (b := q_own K "Ratio" "__neg__") 8))) (h_Ratio_neg := h_Ratio_neg) (O_Ratio_add := (ownB_ok (by decide +kernel) (by decide +kernel) (q_at cq (b := q_own K "Ratio" "__add__") 2) (q_at cq (b := q_own K "Ratio" "__radd__") 3) (q_at cq (b := PySem.W.selfFirst K (He.ga K "Ratio")) 1))) (OI_Ratio_add := (ownI_ok (q_at cq (b := q_int K "Ratio" "add") 12))) (h_Ratio_add := h_Ratio_add)
  have h_Ratio_rmul := ok_Ratio___rmul__ (W := ⟨P, w, K, mg, base⟩) (C_Ratio := He.ga K "Ratio") (a_Ratio_mul := He.ma K (He.ga K "Ratio") "__mul__") (a_Ratio_rmul := He.ma K (He.ga K "Ratio") "__rmul__") (F := F_10)  (RW_ := (rat_ok (He.cls_ok (c.fact 27 (f := .cls "Ratio") rfl)) (He.noat_ok (c.fact 28 (f := .noat "Ratio" "top") rfl)) (He.noat_ok (c.fact 29 (f := .noat "Ratio" "bottom") rfl)) (q_at cq (b := q_rat K "Ratio") 0))) (O_Ratio_mul := (ownB_ok (by decide +kernel) (by decide +kernel) (q_at cq (b := q_own K "Ratio" "__mul__") 6) (q_at cq (b := q_own K "Ratio" "__rmul__") 7) (q_at cq (b := PySem.W.selfFirst K (He.ga K "Ratio")) 1))) (OI_Ratio_mul := (ownI_ok (q_at cq (b := q_int K "Ratio" "mul") 14))) (h_Ratio_mul := h_Ratio_mul)
  have h_Ratio_eq := ok_Ratio___eq__ (W := ⟨P, w, K, mg, base⟩) (C_Ratio := He.ga K "Ratio") (F := F_11)  (gc_Ratio := (He.glo_ok X G (c.fact 4 (f := .glo "Ratio") rfl))) (z_isinstance := (He.free_ok X G (c.fact 30 (f := .free "isinstance") rfl))) (z_int := (He.free_ok X G (c.fact 21 (f := .free "int") rfl))) (RW_ := (rat_ok (He.cls_ok (c.fact 27 (f := .cls "Ratio") rfl)) (He.noat_ok (c.fact 28 (f := .noat "Ratio" "top") rfl)) (He.noat_ok (c.fact 29 (f := .noat "Ratio" "bottom") rfl)) (q_at cq (b := q_rat K "Ratio") 0)))
  have h_Ratio_bool := ok_Ratio___bool__ (W := ⟨P, w, K, mg, base⟩) (C_Ratio := He.ga K "Ratio") (F := F_12)  (z_bool := (He.free_ok X G (c.fact 31 (f := .free "bool") rfl))) (RW_ := (rat_ok (He.cls_ok (c.fact 27 (f := .cls "Ratio") rfl)) (He.noat_ok (c.fact 28 (f := .noat "Ratio" "top") rfl)) (He.noat_ok (c.fact 29 (f := .noat "Ratio" "bottom") rfl)) (q_at cq (b := q_rat K "Ratio") 0)))
  have h_Ratio_over := ok_Ratio_over (W := ⟨P, w, K, mg, base⟩) (C_Ratio := He.ga K "Ratio") (C_ZeroDivisor := He.ga K "ZeroDivisor") (F := F_13) (g := He.meth_ok (c.fact 32 (f := .meth "Ratio" "over") rfl)) (gc_Ratio := (He.glo_ok X G (c.fact 4 (f := .glo "Ratio") rfl))) (z_isinstance := (He.free_ok X G (c.fact 30 (f := .free "isinstance") rfl))) (RW_ := (rat_ok (He.cls_ok (c.fact 27 (f := .cls "Ratio") rfl)) (He.noat_ok (c.fact 28 (f := .noat "Ratio" "top") rfl)) (He.noat_ok (c.fact 29 (f := .noat "Ratio" "bottom") rfl)) (q_at cq (b := q_rat K "Ratio") 0))) (h_Ratio_init := h_Ratio_init)
  have h_Ratio_sign := ok_Ratio_sign (W := ⟨P, w, K, mg, base⟩) (C_Ratio := He.ga K "Ratio") (F := F_14) (g := He.meth_ok (c.fact 33 (f := .meth "Ratio" "sign") rfl)) (RW_ := (rat_ok (He.cls_ok (c.fact 27 (f := .cls "Ratio") rfl)) (He.noat_ok (c.fact 28 (f := .noat "Ratio" "top") rfl)) (He.noat_ok (c.fact 29 (f := .noat "Ratio" "bottom") rfl)) (q_at cq (b := q_rat K "Ratio") 0)))
  have h_compare := ok_compare (W := ⟨P, w, K, mg, base⟩) (C_Ratio := He.ga K "Ratio") (a_Ratio_sub := He.ma K (He.ga K "Ratio") "__sub__") (a_Ratio_rsub := He.ma K (He.ga K "Ratio") "__rsub__") (F := F_15) (g := He.glo_ok X G (c.fact 7 (f := .glo "compare") rfl)) (RW_ := (rat_ok (He.cls_ok (c.fact 27 (f := .cls "Ratio") rfl)) (He.noat_ok (c.fact 28 (f := .noat "Ratio" "top") rfl)) (He.noat_ok (c.fact 29 (f := .noat "Ratio" "bottom") rfl)) (q_at cq (b := q_rat K "Ratio") 0))) (O_Ratio_sub := (ownB_ok (by decide +kernel) (by decide +kernel) (q_at cq (b := q_own K "Ratio" "__sub__") 4) (q_at cq (b := q_own K "Ratio" "__rsub__") 5) (q_at cq (b := PySem.W.selfFirst K (He.ga K "Ratio")) 1))) (OI_Ratio_sub := (ownI_ok (q_at cq (b := q_int K "Ratio" "sub") 13))) (h_Ratio_sub := h_Ratio_sub) (h_Ratio_sign := h_Ratio_sign) (cl_Ratio := (He.cls_ok (c.fact 27 (f := .cls "Ratio") rfl)))
  have h__law_integer := ok__law_integer (W := ⟨P, w, K, mg, base⟩) (C_Ratio := He.ga K "Ratio") (F := F_16) (g := He.glo_ok X G (c.fact 8 (f := .glo "_law_integer") rfl)) (z_int := (He.free_ok X G (c.fact 21 (f := .free "int") rfl))) (z_isinstance := (He.free_ok X G (c.fact 30 (f := .free "isinstance") rfl))) (z_bool := (He.free_ok X G (c.fact 31 (f := .free "bool") rfl))) (RW_ := (rat_ok (He.cls_ok (c.fact 27 (f := .cls "Ratio") rfl)) (He.noat_ok (c.fact 28 (f := .noat "Ratio" "top") rfl)) (He.noat_ok (c.fact 29 (f := .noat "Ratio" "bottom") rfl)) (q_at cq (b := q_rat K "Ratio") 0)))
  have h__law_common := ok__law_common (W := ⟨P, w, K, mg, base⟩) (C_Ratio := He.ga K "Ratio") (F := F_17) (g := He.glo_ok X G (c.fact 9 (f := .glo "_law_common") rfl)) (z_abs := (He.free_ok X G (c.fact 22 (f := .free "abs") rfl))) (z_range := (He.free_ok X G (c.fact 34 (f := .free "range") rfl))) (z_int := (He.free_ok X G (c.fact 21 (f := .free "int") rfl))) (RW_ := (rat_ok (He.cls_ok (c.fact 27 (f := .cls "Ratio") rfl)) (He.noat_ok (c.fact 28 (f := .noat "Ratio" "top") rfl)) (He.noat_ok (c.fact 29 (f := .noat "Ratio" "bottom") rfl)) (q_at cq (b := q_rat K "Ratio") 0)))
  have h__law_size := ok__law_size (W := ⟨P, w, K, mg, base⟩) (C_Ratio := He.ga K "Ratio") (F := F_18) (g := He.glo_ok X G (c.fact 10 (f := .glo "_law_size") rfl)) (h__law_take := h__law_take) (z_range := (He.free_ok X G (c.fact 34 (f := .free "range") rfl))) (z_int := (He.free_ok X G (c.fact 21 (f := .free "int") rfl))) (RW_ := (rat_ok (He.cls_ok (c.fact 27 (f := .cls "Ratio") rfl)) (He.noat_ok (c.fact 28 (f := .noat "Ratio" "top") rfl)) (He.noat_ok (c.fact 29 (f := .noat "Ratio" "bottom") rfl)) (q_at cq (b := q_rat K "Ratio") 0)))
  have h__law_fraction := ok__law_fraction (W := ⟨P, w, K, mg, base⟩) (C_Ratio := He.ga K "Ratio") (F := F_19) (g := He.glo_ok X G (c.fact 11 (f := .glo "_law_fraction") rfl)) (h__law_size := h__law_size) (z_max := (He.free_ok X G (c.fact 35 (f := .free "max") rfl))) (h__law_take := h__law_take) (z_int := (He.free_ok X G (c.fact 21 (f := .free "int") rfl))) (RW_ := (rat_ok (He.cls_ok (c.fact 27 (f := .cls "Ratio") rfl)) (He.noat_ok (c.fact 28 (f := .noat "Ratio" "top") rfl)) (He.noat_ok (c.fact 29 (f := .noat "Ratio" "bottom") rfl)) (q_at cq (b := q_rat K "Ratio") 0)))
  have h__law_second := ok__law_second (W := ⟨P, w, K, mg, base⟩) (C_Ratio := He.ga K "Ratio") (F := F_20) (g := He.glo_ok X G (c.fact 12 (f := .glo "_law_second") rfl)) (h__law_take := h__law_take) (z_abs := (He.free_ok X G (c.fact 22 (f := .free "abs") rfl))) (h__law_fraction := h__law_fraction) (RW_ := (rat_ok (He.cls_ok (c.fact 27 (f := .cls "Ratio") rfl)) (He.noat_ok (c.fact 28 (f := .noat "Ratio" "top") rfl)) (He.noat_ok (c.fact 29 (f := .noat "Ratio" "bottom") rfl)) (q_at cq (b := q_rat K "Ratio") 0)))
  have h__law_beside := ok__law_beside (W := ⟨P, w, K, mg, base⟩) (C_Ratio := He.ga K "Ratio") (F := F_21) (g := He.glo_ok X G (c.fact 13 (f := .glo "_law_beside") rfl)) (h__law_take := h__law_take) (h__law_size := h__law_size) (RW_ := (rat_ok (He.cls_ok (c.fact 27 (f := .cls "Ratio") rfl)) (He.noat_ok (c.fact 28 (f := .noat "Ratio" "top") rfl)) (He.noat_ok (c.fact 29 (f := .noat "Ratio" "bottom") rfl)) (q_at cq (b := q_rat K "Ratio") 0)))
  have h__law_right := ok__law_right (W := ⟨P, w, K, mg, base⟩) (C_Ratio := He.ga K "Ratio") (F := F_22) (g := He.glo_ok X G (c.fact 14 (f := .glo "_law_right") rfl)) (gc_Ratio := (He.glo_ok X G (c.fact 4 (f := .glo "Ratio") rfl))) (z_isinstance := (He.free_ok X G (c.fact 30 (f := .free "isinstance") rfl))) (h__law_integer := h__law_integer) (h__law_common := h__law_common) (RW_ := (rat_ok (He.cls_ok (c.fact 27 (f := .cls "Ratio") rfl)) (He.noat_ok (c.fact 28 (f := .noat "Ratio" "top") rfl)) (He.noat_ok (c.fact 29 (f := .noat "Ratio" "bottom") rfl)) (q_at cq (b := q_rat K "Ratio") 0)))
  have h__law_side := ok__law_side (W := ⟨P, w, K, mg, base⟩) (C_Ratio := He.ga K "Ratio") (F := F_23) (g := He.glo_ok X G (c.fact 15 (f := .glo "_law_side") rfl)) (RW_ := (rat_ok (He.cls_ok (c.fact 27 (f := .cls "Ratio") rfl)) (He.noat_ok (c.fact 28 (f := .noat "Ratio" "top") rfl)) (He.noat_ok (c.fact 29 (f := .noat "Ratio" "bottom") rfl)) (q_at cq (b := q_rat K "Ratio") 0)))
  have h__law_results := ok__law_results (W := ⟨P, w, K, mg, base⟩) (C_Ratio := He.ga K "Ratio") (C_ZeroDivisor := He.ga K "ZeroDivisor") (a_Ratio_add := He.ma K (He.ga K "Ratio") "__add__") (a_Ratio_radd := He.ma K (He.ga K "Ratio") "__radd__") (a_Ratio_sub := He.ma K (He.ga K "Ratio") "__sub__") (a_Ratio_rsub := He.ma K (He.ga K "Ratio") "__rsub__") (a_Ratio_mul := He.ma K (He.ga K "Ratio") "__mul__") (a_Ratio_rmul := He.ma K (He.ga K "Ratio") "__rmul__") (a_Ratio_neg := He.ma K (He.ga K "Ratio") "__neg__") (a_Ratio_abs := He.ma K (He.ga K "Ratio") "__abs__") (F := F_24) (g := He.glo_ok X G (c.fact 16 (f := .glo "_law_results") rfl)) (RW_ := (rat_ok (He.cls_ok (c.fact 27 (f := .cls "Ratio") rfl)) (He.noat_ok (c.fact 28 (f := .noat "Ratio" "top") rfl)) (He.noat_ok (c.fact 29 (f := .noat "Ratio" "bottom") rfl)) (q_at cq (b := q_rat K "Ratio") 0))) (O_Ratio_add := (ownB_ok (by decide +kernel) (by decide +kernel) (q_at cq (b := q_own K "Ratio" "__add__") 2) (q_at cq (b := q_own K "Ratio" "__radd__") 3) (q_at cq (b := PySem.W.selfFirst K (He.ga K "Ratio")) 1))) (OI_Ratio_add := (ownI_ok (q_at cq (b := q_int K "Ratio" "add") 12))) (h_Ratio_add := h_Ratio_add) (O_Ratio_sub := (ownB_ok (by decide +kernel) (by decide +kernel) (q_at cq (b := q_own K "Ratio" "__sub__") 4) (q_at cq (b := q_own K "Ratio" "__rsub__") 5) (q_at cq (b := PySem.W.selfFirst K (He.ga K "Ratio")) 1))) (OI_Ratio_sub := (ownI_ok (q_at cq (b := q_int K "Ratio" "sub") 13))) (h_Ratio_sub := h_Ratio_sub) (O_Ratio_mul := (ownB_ok (by decide +kernel) (by decide +kernel) (q_at cq (b := q_own K "Ratio" "__mul__") 6) (q_at cq (b := q_own K "Ratio" "__rmul__") 7) (q_at cq (b := PySem.W.selfFirst K (He.ga K "Ratio")) 1))) (OI_Ratio_mul := (ownI_ok (q_at cq (b := q_int K "Ratio" "mul") 14))) (h_Ratio_mul := h_Ratio_mul) (h_Ratio_radd := h_Ratio_radd) (h_Ratio_rsub := h_Ratio_rsub) (h_Ratio_rmul := h_Ratio_rmul) (O_Ratio_neg := (own_ok (q_at cq (b := q_own K "Ratio" "__neg__") 8))) (h_Ratio_neg := h_Ratio_neg) (O_Ratio_abs := (own_ok (q_at cq (b := q_own K "Ratio" "__abs__") 9))) (h_Ratio_abs := h_Ratio_abs) (z_abs := (He.free_ok X G (c.fact 22 (f := .free "abs") rfl))) (h_Ratio_init := h_Ratio_init) (gc_Ratio := (He.glo_ok X G (c.fact 4 (f := .glo "Ratio") rfl))) (h_Ratio_over := h_Ratio_over) (cl_Ratio := (He.cls_ok (c.fact 27 (f := .cls "Ratio") rfl))) (h__law_right := h__law_right)
  have h__law_signs := ok__law_signs (W := ⟨P, w, K, mg, base⟩) (C_Ratio := He.ga K "Ratio") (F := F_25) (g := He.glo_ok X G (c.fact 17 (f := .glo "_law_signs") rfl)) (h__law_side := h__law_side) (RW_ := (rat_ok (He.cls_ok (c.fact 27 (f := .cls "Ratio") rfl)) (He.noat_ok (c.fact 28 (f := .noat "Ratio" "top") rfl)) (He.noat_ok (c.fact 29 (f := .noat "Ratio" "bottom") rfl)) (q_at cq (b := q_rat K "Ratio") 0))) (h_Ratio_sign := h_Ratio_sign) (cl_Ratio := (He.cls_ok (c.fact 27 (f := .cls "Ratio") rfl))) (h_compare := h_compare) (h__law_integer := h__law_integer)
  have h__law_compared := ok__law_compared (W := ⟨P, w, K, mg, base⟩) (C_Ratio := He.ga K "Ratio") (C_ZeroDivisor := He.ga K "ZeroDivisor") (a_Ratio_eq := He.ma K (He.ga K "Ratio") "__eq__") (a_Ratio_bool := He.ma K (He.ga K "Ratio") "__bool__") (F := F_26) (g := He.glo_ok X G (c.fact 18 (f := .glo "_law_compared") rfl)) (RW_ := (rat_ok (He.cls_ok (c.fact 27 (f := .cls "Ratio") rfl)) (He.noat_ok (c.fact 28 (f := .noat "Ratio" "top") rfl)) (He.noat_ok (c.fact 29 (f := .noat "Ratio" "bottom") rfl)) (q_at cq (b := q_rat K "Ratio") 0))) (O_Ratio_eq := (own_ok (q_at cq (b := q_own K "Ratio" "__eq__") 10))) (OI_Ratio_eq := (ownI_ok (q_at cq (b := q_int K "Ratio" "add") 12))) (h_Ratio_eq := h_Ratio_eq) (h_Ratio_init := h_Ratio_init) (gc_Ratio := (He.glo_ok X G (c.fact 4 (f := .glo "Ratio") rfl))) (O_Ratio_bool := (own_ok (q_at cq (b := q_own K "Ratio" "__bool__") 11))) (h_Ratio_bool := h_Ratio_bool) (z_bool := (He.free_ok X G (c.fact 31 (f := .free "bool") rfl)))
  have h__law_refused := ok__law_refused (W := ⟨P, w, K, mg, base⟩) (C_Ratio := He.ga K "Ratio") (C_ZeroDivisor := He.ga K "ZeroDivisor") (C_SpotError := He.ga K "SpotError") (C_BadNumber := He.ga K "BadNumber") (C_TooLarge := He.ga K "TooLarge") (a_Ratio_sub := He.ma K (He.ga K "Ratio") "__sub__") (a_Ratio_rsub := He.ma K (He.ga K "Ratio") "__rsub__") (F := F_27) (g := He.glo_ok X G (c.fact 19 (f := .glo "_law_refused") rfl)) (xc_SpotError := ⟨He.glo_ok X G (c.fact 0 (f := .glo "SpotError") rfl), (He.exc_ok (c.fact 36 (f := .exc "SpotError") rfl)).1, (He.exc_ok (c.fact 36 (f := .exc "SpotError") rfl)).2.1, (He.exc_ok (c.fact 36 (f := .exc "SpotError") rfl)).2.2.1, (He.exc_ok (c.fact 36 (f := .exc "SpotError") rfl)).2.2.2⟩) (RW_ := (rat_ok (He.cls_ok (c.fact 27 (f := .cls "Ratio") rfl)) (He.noat_ok (c.fact 28 (f := .noat "Ratio" "top") rfl)) (He.noat_ok (c.fact 29 (f := .noat "Ratio" "bottom") rfl)) (q_at cq (b := q_rat K "Ratio") 0))) (h_Ratio_init := h_Ratio_init) (gc_Ratio := (He.glo_ok X G (c.fact 4 (f := .glo "Ratio") rfl))) (h_Ratio_over := h_Ratio_over) (cl_Ratio := (He.cls_ok (c.fact 27 (f := .cls "Ratio") rfl))) (O_Ratio_sub := (ownB_ok (by decide +kernel) (by decide +kernel) (q_at cq (b := q_own K "Ratio" "__sub__") 4) (q_at cq (b := q_own K "Ratio" "__rsub__") 5) (q_at cq (b := PySem.W.selfFirst K (He.ga K "Ratio")) 1))) (OI_Ratio_sub := (ownI_ok (q_at cq (b := q_int K "Ratio" "sub") 13))) (h_Ratio_sub := h_Ratio_sub) (gc_BadNumber := (He.glo_ok X G (c.fact 3 (f := .glo "BadNumber") rfl))) (z_isinstance := (He.free_ok X G (c.fact 30 (f := .free "isinstance") rfl))) (gc_TooLarge := (He.glo_ok X G (c.fact 2 (f := .glo "TooLarge") rfl))) (gc_ZeroDivisor := (He.glo_ok X G (c.fact 1 (f := .glo "ZeroDivisor") rfl))) (z_ValueError := (He.free_ok X G (c.fact 37 (f := .free "ValueError") rfl))) (em_ := (He.exm_ok (c.fact 38 (f := .exm "ZeroDivisor" "SpotError" true) rfl))) (XE_ := (excC_ok (q_at cq (b := q_exc K "ZeroDivisor") 16))) (kz1 := (of_decide_eq_true (q_at cq (b := q_kit K "ZeroDivisor" "BadNumber" false) 17))) (kz2 := (of_decide_eq_true (q_at cq (b := q_kit K "ZeroDivisor" "TooLarge" false) 18))) (kz3 := (of_decide_eq_true (q_at cq (b := q_kitT K "ZeroDivisor" "ValueError" true) 19)))
  have h_law := ok_law (W := ⟨P, w, K, mg, base⟩) (C_Ratio := He.ga K "Ratio") (C_ZeroDivisor := He.ga K "ZeroDivisor") (a_Ratio_add := He.ma K (He.ga K "Ratio") "__add__") (a_Ratio_radd := He.ma K (He.ga K "Ratio") "__radd__") (F := F_28)  (h__law_pool := h__law_pool) (h__law_fraction := h__law_fraction) (h__law_second := h__law_second) (h__law_beside := h__law_beside) (RW_ := (rat_ok (He.cls_ok (c.fact 27 (f := .cls "Ratio") rfl)) (He.noat_ok (c.fact 28 (f := .noat "Ratio" "top") rfl)) (He.noat_ok (c.fact 29 (f := .noat "Ratio" "bottom") rfl)) (q_at cq (b := q_rat K "Ratio") 0))) (h_Ratio_init := h_Ratio_init) (gc_Ratio := (He.glo_ok X G (c.fact 4 (f := .glo "Ratio") rfl))) (h__law_right := h__law_right) (h__law_results := h__law_results) (h__law_compared := h__law_compared) (h__law_signs := h__law_signs) (z_range := (He.free_ok X G (c.fact 34 (f := .free "range") rfl))) (h__law_refused := h__law_refused) (h_Ratio_over := h_Ratio_over) (cl_Ratio := (He.cls_ok (c.fact 27 (f := .cls "Ratio") rfl))) (O_Ratio_add := (ownB_ok (by decide +kernel) (by decide +kernel) (q_at cq (b := q_own K "Ratio" "__add__") 2) (q_at cq (b := q_own K "Ratio" "__radd__") 3) (q_at cq (b := PySem.W.selfFirst K (He.ga K "Ratio")) 1))) (OI_Ratio_add := (ownI_ok (q_at cq (b := q_int K "Ratio" "add") 12))) (h_Ratio_add := h_Ratio_add)
  exact calm h_law

end LW

open PySem PySem.W PySem.Calls PyProof.Rows
theorem PySem.Challenge.cw_spotheights_k00_ratios_are_exact_holds : PySem.Challenge.rw_spotheights_k00_ratios_are_exact.Holds := by
  w_on; o_law
  refine HandSHeadRun.head_imp (r := OpenLaw.row PySem.Challenge.rw_spotheights_k00_ratios_are_exact) (q := view (OpenLaw.row PySem.Challenge.rw_spotheights_k00_ratios_are_exact).prog [0, 31]) (H := LW.hq) (ob := LW.obT) (M := 3000) (loose := (["SpotError", "ZeroDivisor", "TooLarge", "BadText", "BadNumber", "DIGITS", "MOST_DIGITS", "PIECE", "is_short_digits", "written_integer", "written_number", "Ratio", "compare", "_law_pool", "_law_take", "_law_integer", "_law_common", "_law_size", "_law_fraction", "_law_second", "_law_beside", "_law_right", "_law_results", "_law_side", "_law_signs", "_law_compared", "_law_refused"] : List PySem.Str)) (d := HandSHeadRun.topDef (OpenLaw.row PySem.Challenge.rw_spotheights_k00_ratios_are_exact).prog 31) (kwd := []) LW.obT_eq LW.run0 (by kernel_rfl) (by kernel_rfl) (by kernel_rfl) (by rfl) (by first | assumption | decide +kernel) (by decide +kernel) ⟨rfl, rfl, rfl, rfl, rfl, by decide +kernel⟩ ?hw ?hc
  case hw => w_witness2
  case hc =>
    refine L2.walk_ofE (l := PySem.Challenge.rw_spotheights_k00_ratios_are_exact) (n := 63) (k := 8) (x := "script") (CX := L2.CX0) rfl (by decide) (by kernel_rfl) ⟨rfl, by decide, by decide⟩ ?F (fun _ _ _ _ z => z)
    intro w mg fa h Y G hmg0
    obtain ⟨K, KX, c⟩ := Y
    have hmg : mg ("law" : PySem.Str) = some (.ref fa) := by
      have e : (HandSHeadRun.topDef (OpenLaw.row PySem.Challenge.rw_spotheights_k00_ratios_are_exact).prog 31).name = ("law" : PySem.Str) := by kernel_rfl
      rw [← e]
      exact hmg0
    obtain ⟨fd, hb, hF⟩ := LW.facts (P := (PySem.Challenge.rw_spotheights_k00_ratios_are_exact).prog) (w := w) KX G hmg c
    exact ⟨K, fd, LW.spLaw K, KX, hb, fun H a ns hl _ hS => LW.spLaw_ok hl hS, hF⟩

