import PyProof.Rows.All
import HandS.ForMost
import HandS.Evl
import HandS.Exc
import HandS.TryOnly
import HandS.ExcOwn
import HandS.WordsExc
import HandS.Wide
import HandS.WideBits
import HandS.Gcd
import HandS.IsInst
import HandS.OwnEq
import HandS.Codes
import KE.KOpsOwn
import KE.KCallOwn
import PyProof.Conv_bool
import PyProof.Rows.RuleN_abs
import PyProof.TwoTypes
import HandS.Defaults
import HandS.ExcIs
import KE.LtSeq
import KE.KSortKey
import HandS.SortOrd
import HandS.SortRule
import HandS.SortKw
import HandS.NamedTupSort
import HandS.ClsMeth
import HandS.Dict
import HandS.Conv
import HandS.GenList
import HandS.IterNext
import HandS.Zip
import KE.KTurns
import KE.KMathGC
import KE.KTupSum
import HandS.Head0
import HandS.Head1
import HandS.Head2
import HandS.Head3
import HandS.HeadEnd
import HandS.HeadHook1
import HandS.HeadHook2
import KE.KStateDown
import PySem.Challenge.RW_spotheights_k02_monomials_in_order
set_option Elab.async false
set_option linter.all false
set_option maxRecDepth 100000
set_option maxRecDepth 100000
/-! DL: the ghost layer. A reading of the hand layer is shown over typed data: each slot of a def holds a datum of plain Lean (frozen), or an owned object. -/
namespace DL
open PySem L2 Evl

/-- two lists, place by place -/
inductive Al.{u, v} {α : Type u} {β : Type v} (R : α → β → Prop) : List α → List β → Prop
  | nil : Al R [] []
  | cons {a b l₁ l₂} : R a b → Al R l₁ l₂ → Al R (a :: l₁) (b :: l₂)
section
universe u v
variable {α : Type u} {β : Type v} {R S : α → β → Prop}
theorem Al.map : ∀ {l₁ : List α} {l₂ : List β}, Al R l₁ l₂ → (∀ a b, R a b → S a b) → Al S l₁ l₂
  | _, _, .nil, _ => .nil
  | _, _, .cons r t, f => .cons (f _ _ r) (Al.map t f)
theorem Al.len : ∀ {l₁ : List α} {l₂ : List β}, Al R l₁ l₂ → l₁.length = l₂.length
  | _, _, .nil => rfl
  | _, _, .cons _ t => congrArg (· + 1) (Al.len t)
theorem Al.app : ∀ {l₁ m₁ : List α} {l₂ m₂ : List β}, Al R l₁ l₂ → Al R m₁ m₂ → Al R (l₁ ++ m₁) (l₂ ++ m₂)
  | _, _, _, _, .nil, s => s
  | _, _, _, _, .cons r t, s => .cons r (Al.app t s)
theorem Al.set {x : α} {y : β} (r : R x y) : ∀ {xs : List α} {ys : List β} (i : Nat), Al R xs ys → Al R (xs.set i x) (ys.set i y)
  | _, _, _, .nil => .nil
  | _, _, 0, .cons _ tl => .cons r tl
  | _, _, i + 1, .cons q tl => .cons q (Al.set r i tl)
theorem Al.set' {x : α} {y : β} {xs : List α} {ys : List β} (h : Al R xs ys) (i : Nat) (r : R x y) : Al R (xs.set i x) (ys.set i y) := Al.set r i h
theorem Al.get : ∀ {xs : List α} {ys : List β} {i : Nat} {x : α}, Al R xs ys → xs[i]? = some x → ∃ y, ys[i]? = some y ∧ R x y
  | _, _, _, _, .nil, hx => by simp at hx
  | _, _, 0, _, .cons r _, hx => by simp at hx; subst hx; exact ⟨_, rfl, r⟩
  | _, _, i + 1, x, .cons _ tl, hx => by
    obtain ⟨y, h1, h2⟩ := Al.get (i := i) tl (by simpa using hx)
    exact ⟨y, by simpa using h1, h2⟩
theorem Al.getR : ∀ {xs : List α} {ys : List β} {i : Nat} {y : β}, Al R xs ys → ys[i]? = some y → ∃ x, xs[i]? = some x ∧ R x y
  | _, _, _, _, .nil, hx => by simp at hx
  | _, _, 0, _, .cons r _, hx => by simp at hx; subst hx; exact ⟨_, rfl, r⟩
  | _, _, i + 1, x, .cons _ tl, hx => by
    obtain ⟨y, h1, h2⟩ := Al.getR (i := i) tl (by simpa using hx)
    exact ⟨y, by simpa using h1, h2⟩
theorem Al.take : ∀ {xs : List α} {ys : List β} (n : Nat), Al R xs ys → Al R (xs.take n) (ys.take n)
  | _, _, 0, _ => .nil
  | _, _, _ + 1, .nil => .nil
  | _, _, n + 1, .cons r t => .cons r (Al.take n t)
theorem Al.drop : ∀ {xs : List α} {ys : List β} (n : Nat), Al R xs ys → Al R (xs.drop n) (ys.drop n)
  | _, _, 0, r => r
  | _, _, _ + 1, .nil => .nil
  | _, _, n + 1, .cons _ t => Al.drop n t
theorem Al.rev : ∀ {l₁ : List α} {l₂ : List β}, Al R l₁ l₂ → Al R l₁.reverse l₂.reverse
  | _, _, .nil => .nil
  | _, _, .cons r t => by
    simp only [List.reverse_cons]
    exact (Al.rev t).app (.cons r .nil)
/-- by places -/
theorem Al.of : ∀ {xs : List α} {ys : List β}, xs.length = ys.length → (∀ (i : Nat) x y, xs[i]? = some x → ys[i]? = some y → R x y) → Al R xs ys
  | [], [], _, _ => .nil
  | [], _ :: _, e, _ => by simp at e
  | _ :: _, [], e, _ => by simp at e
  | x :: xs, y :: ys, e, h => .cons (h 0 x y rfl rfl) (Al.of (by simpa using e) fun i a b p q => h (i + 1) a b (by simpa using p) (by simpa using q))
end

/-- a type of data: how a value stands for it in the frozen heap -/
structure Ty (α : Type) where
  rep : Hp → V → α → Prop
  mono : ∀ {F F' : Hp} {v : V} {x : α}, Ex F F' → rep F v x → rep F' v x
structure Dv where
  {α : Type}
  t : Ty α
  x : α
def Dv.rep (F : Hp) (d : Dv) (v : V) : Prop := d.t.rep F v d.x
theorem Dv.mono {F F' : Hp} {d : Dv} {v : V} (e : Ex F F') (h : d.rep F v) : d.rep F' v := d.t.mono e h
abbrev Reps (F : Hp) (ds : List Dv) (vs : List V) : Prop := Al (fun (d : Dv) v => d.rep F v) ds vs
theorem Reps.mono {F F' : Hp} {ds : List Dv} {vs : List V} (e : Ex F F') (h : Reps F ds vs) : Reps F' ds vs := Al.map h fun _ _ r => Dv.mono e r
abbrev RepF (F : Hp) (ds : List (Str × Dv)) (vs : List (Str × V)) : Prop := Al (fun (d : Str × Dv) v => d.1 = v.1 ∧ d.2.rep F v.2) ds vs
theorem RepF.mono {F F' : Hp} {ds : List (Str × Dv)} {vs : List (Str × V)} (e : Ex F F') (h : RepF F ds vs) : RepF F' ds vs := Al.map h fun _ _ r => ⟨r.1, Dv.mono e r.2⟩

/-- a dict's entries, keys tuples of ints -/
abbrev RepK {α : Type} (F : Hp) (t : Ty α) (kvs : List (List Int × α)) (ws : List (List Key × V)) : Prop := Al (fun (p : List Int × α) (w : List Key × V) => w.1 = p.1.map Sum.inl ∧ t.rep F w.2 p.2) kvs ws
inductive Slot where
  | any
  | val (d : Dv)
  | own (oa : Option Addr) (ds : List Dv)
  | lst {α : Type} (t : Ty α) (xs : List α)
  | obj (oa : Option Addr) (C : Addr) (fs : List (Str × Dv))
  | dct {α : Type} (t : Ty α) (kvs : List (List Int × α))
def Slot.isOwn : Slot → Bool
  | .any => false
  | .val _ => false
  | _ => true
/-- what an owned address holds -/
def OwnOk (F H : Hp) (a : Addr) : Slot → Prop
  | .own oa ds => F a = none ∧ (∀ b, oa = some b → a = b) ∧ ∃ vs, H a = some (.lst vs) ∧ Reps F ds vs
  | .lst t xs => F a = none ∧ ∃ vs, H a = some (.lst vs) ∧ Al (fun x v => t.rep F v x) xs vs
  | .obj oa C fs => F a = none ∧ (∀ b, oa = some b → a = b) ∧ ∃ dx vs, F dx = some (.own a) ∧ H a = some (.ins C dx vs) ∧ RepF F fs vs
  | .dct t kvs => F a = none ∧ ∃ ws, H a = some (.dT ws) ∧ RepK F t kvs ws
  | _ => False
def SlotOk (F H : Hp) (s : Slot) (o : Option V) : Prop := match s with
  | .any => True
  | .val d => ∃ v, o = some v ∧ d.rep F v
  | s => ∃ a, o = some (.ref a) ∧ OwnOk F H a s
theorem OwnOk.no {F H : Hp} {a : Addr} {s : Slot} (h : OwnOk F H a s) : F a = none := by
  cases s with
  | any => exact h.elim
  | val d => exact h.elim
  | own oa ds => exact h.1
  | lst t xs => exact h.1
  | obj oa C fs => exact h.1
  | dct t kvs => exact h.1
theorem OwnOk.so {F H : Hp} {a : Addr} {s : Slot} (h : OwnOk F H a s) : ∃ o, H a = some o := by
  cases s with
  | any => exact h.elim
  | val d => exact h.elim
  | own oa ds => obtain ⟨_, _, vs, e, _⟩ := h; exact ⟨_, e⟩
  | lst t xs => obtain ⟨_, vs, e, _⟩ := h; exact ⟨_, e⟩
  | obj oa C fs => obtain ⟨_, _, dx, vs, _, e, _⟩ := h; exact ⟨_, e⟩
  | dct t kvs => obtain ⟨_, vs, e, _⟩ := h; exact ⟨_, e⟩
theorem OwnOk.nt {F H : Hp} {a : Addr} {s : Slot} (h : OwnOk F H a s) (vs : List V) : H a ≠ some (.tup vs) := fun z => by
  cases s with
  | any => exact h.elim
  | val d => exact h.elim
  | own oa ds => obtain ⟨_, _, us, e, _⟩ := h; rw [z] at e; cases e
  | lst t xs => obtain ⟨_, us, e, _⟩ := h; rw [z] at e; cases e
  | obj oa C fs => obtain ⟨_, _, dx, us, _, e, _⟩ := h; rw [z] at e; cases e
  | dct t kvs => obtain ⟨_, us, e, _⟩ := h; rw [z] at e; cases e
theorem OwnOk.own {F H : Hp} {a : Addr} {s : Slot} (h : OwnOk F H a s) : s.isOwn = true := by
  cases s <;> first | exact h.elim | rfl
theorem OwnOk.mono {F H F' H' : Hp} {a : Addr} {s : Slot} (h : OwnOk F H a s) (e : Ex F F') (n : F' a = none) (k : H' a = H a) : OwnOk F' H' a s := by
  cases s with
  | any => exact h.elim
  | val d => exact h.elim
  | own oa ds => obtain ⟨_, ad, vs, q, r⟩ := h; exact ⟨n, ad, vs, by rw [k]; exact q, r.mono e⟩
  | lst t xs => obtain ⟨_, vs, q, r⟩ := h; exact ⟨n, vs, by rw [k]; exact q, r.map fun _ _ z => t.mono e z⟩
  | obj oa C fs => obtain ⟨_, ad, dx, vs, f, q, r⟩ := h; exact ⟨n, ad, dx, vs, e _ _ f, by rw [k]; exact q, r.mono e⟩
  | dct t kvs => obtain ⟨_, vs, q, r⟩ := h; exact ⟨n, vs, by rw [k]; exact q, r.map fun _ _ z => ⟨z.1, t.mono e z.2⟩⟩
theorem SlotOk.ownAt {F H : Hp} {s : Slot} {o : Option V} (h : SlotOk F H s o) (i : s.isOwn = true) : ∃ a, o = some (.ref a) ∧ OwnOk F H a s := by
  cases s <;> first | exact h | cases i
theorem SlotOk.of_own {F H : Hp} {s : Slot} {a : Addr} (h : OwnOk F H a s) : SlotOk F H s (some (.ref a)) := by
  cases s <;> first | exact h.elim | exact ⟨a, rfl, h⟩

/-- from the entry's frozen and whole heap to those at hand; O: what the caller lets change -/
structure Step (O : Addr → Prop) (F0 H0 F H : Hp) : Prop where
  ff : Ex F0 F
  fh : Ex F H
  keep : ∀ b o, H0 b = some o → F0 b = none → (F b = none ∨ ∃ vs, F b = some (.tup vs)) ∧ (∃ o', H b = some o') ∧ (¬ O b → H b = some o)
abbrev NoO : Addr → Prop := fun _ => False
theorem Step.refl {O : Addr → Prop} {F H : Hp} (e : Ex F H) : Step O F H F H := ⟨Ex.refl F, e, fun b o h n => ⟨.inl n, ⟨o, h⟩, fun _ => h⟩⟩
theorem Step.trans {O : Addr → Prop} {F0 H0 F1 H1 F2 H2 : Hp} (a : Step O F0 H0 F1 H1) (b : Step NoO F1 H1 F2 H2) : Step O F0 H0 F2 H2 :=
  ⟨a.ff.trans b.ff, b.fh, fun c o h n => by
    obtain ⟨n1, ⟨o1, h1⟩, k1⟩ := a.keep c o h n
    rcases n1 with n1 | ⟨vs, n1⟩
    · obtain ⟨n2, ⟨o2, h2⟩, k2⟩ := b.keep c o1 h1 n1
      refine ⟨n2, ⟨o2, h2⟩, fun no => ?_⟩
      rw [k2 (fun z => z), ← h1, k1 no]
    · have e1 := a.fh c _ n1
      have e2 := b.fh c _ (b.ff c _ n1)
      refine ⟨.inr ⟨vs, b.ff c _ n1⟩, ⟨_, e2⟩, fun no => ?_⟩
      rw [e2, ← e1, k1 no]⟩
theorem Step.hh {F0 H0 F H : Hp} (e : Ex F0 H0) (a : Step NoO F0 H0 F H) : Ex H0 H := fun b o h => by
  cases q : F0 b with
  | none => exact (a.keep b o h q).2.2 (fun z => z)
  | some u =>
    have h1 := e b u q
    rw [h] at h1
    cases h1
    exact a.fh b _ (a.ff b _ q)
/-- what is no tuple stays open -/
theorem Step.no {F H F' H' : Hp} {b : Addr} {o : HO} (k : Step NoO F H F' H') (h : H b = some o) (n : F b = none) (nt : ∀ vs, o ≠ .tup vs) : F' b = none ∧ H' b = some o := by
  obtain ⟨n1, _, kk⟩ := k.keep b o h n
  have e := kk fun z => z
  refine ⟨n1.elim id fun ⟨vs, q⟩ => ?_, e⟩
  have e2 := k.fh b _ q
  rw [e] at e2
  cases e2
  exact absurd rfl (nt vs)
theorem ex_none {F H : Hp} {p : Addr} (e : Ex F H) (h : H p = none) : F p = none := fresh_back e h
/-- a new object that stays open -/
theorem Step.open {F H : Hp} {p : Addr} {o : HO} (e : Ex F H) (h : H p = none) : Step NoO F H F (upd H p o) :=
  ⟨Ex.refl F, e.trans (Ex.new h), fun b u q n => ⟨.inl n, ⟨u, by rw [upd_ne (ne_of_none q h)]; exact q⟩, fun _ => by rw [upd_ne (ne_of_none q h)]; exact q⟩⟩
/-- a new object, frozen -/
theorem Step.new {F H : Hp} {p : Addr} {o : HO} (e : Ex F H) (h : H p = none) : Step NoO F H (upd F p o) (upd H p o) :=
  ⟨Ex.new (ex_none e h), fun b u q => by
    by_cases z : b = p
    · rw [z, upd_same] at q
      rw [z, upd_same]
      exact q
    · rw [upd_ne z] at q
      rw [upd_ne z]
      exact e b u q, fun b u q n => by
    have z := ne_of_none q h
    rw [upd_ne z, upd_ne z]
    exact ⟨.inl n, ⟨u, q⟩, fun _ => q⟩⟩
theorem new_at {F H F' H' : Hp} {p : Addr} {o : HO} (k : Step NoO (upd F p o) H F' H') : F' p = some o := k.ff p o upd_same

/-- what stands at the entry -/
structure En where
  O : Addr → Prop
  F : Hp
  H : Hp
  P : Hp → Prop := fun _ => True
  pm : ∀ {F F' : Hp}, Ex F F' → P F → P F' := by exact fun _ h => h
/-- a lasting fact more -/
def En.more (Z : En) (P : Hp → Prop) (pm : ∀ {F F' : Hp}, Ex F F' → P F → P F') : En := ⟨Z.O, Z.F, Z.H, fun F => Z.P F ∧ P F, fun e h => ⟨Z.pm e h.1, pm e h.2⟩⟩
def OwnAt (Γ : List Slot) (σ : L2.St) (i : Nat) (a : Addr) : Prop := (∃ s, Γ[i]? = some s ∧ s.isOwn = true) ∧ σ[i]? = some (some (.ref a))
structure Holds (Z : En) (Γ : List Slot) (F : Hp) (σ : L2.St) (H : Hp) : Prop where
  st : Step Z.O Z.F Z.H F H
  sl : Al (SlotOk F H) Γ σ
  ow : ∀ i a, OwnAt Γ σ i a → Z.O a ∨ Z.H a = none
  di : ∀ i j a, OwnAt Γ σ i a → OwnAt Γ σ j a → i = j
  pp : Z.P F
section
variable {Z : En} {Γ Γ' Γ1 Γ2 : List Slot} {F F' H H' F1 H1 F2 H2 : Hp} {σ : L2.St} {i j : Nat} {a p : Addr} {v : V} {d : Dv}
theorem Holds.fh (h : Holds Z Γ F σ H) : Ex F H := h.st.fh
theorem Holds.val (h : Holds Z Γ F σ H) (e : Γ[i]? = some (.val d)) : ∃ v, σ[i]? = some (some v) ∧ d.rep F v := by
  obtain ⟨y, h1, h2⟩ := h.sl.get e
  obtain ⟨v, rfl, r⟩ := h2
  exact ⟨v, h1, r⟩
theorem Holds.owned {s : Slot} (h : Holds Z Γ F σ H) (e : Γ[i]? = some s) (o : s.isOwn = true) : ∃ a, σ[i]? = some (some (.ref a)) ∧ OwnOk F H a s ∧ OwnAt Γ σ i a := by
  obtain ⟨y, h1, h2⟩ := h.sl.get e
  obtain ⟨a, rfl, r⟩ := h2.ownAt o
  exact ⟨a, h1, r, ⟨s, e, o⟩, h1⟩
theorem Holds.at_ (h : Holds Z Γ F σ H) (o : OwnAt Γ σ i a) : ∃ s, Γ[i]? = some s ∧ OwnOk F H a s := by
  obtain ⟨⟨s, e, w⟩, e2⟩ := o
  obtain ⟨y, h1, h2⟩ := h.sl.get e
  rw [e2] at h1
  cases h1
  obtain ⟨b, e3, r⟩ := h2.ownAt w
  cases e3
  exact ⟨s, e, r⟩
theorem Holds.step (h : Holds Z Γ F σ H) (k : Step NoO F H F' H') : Holds Z Γ F' σ H' := by
  refine ⟨h.st.trans k, h.sl.map fun s o r => ?_, h.ow, h.di, Z.pm k.ff h.pp⟩
  cases q : s.isOwn with
  | true =>
    obtain ⟨a, rfl, w⟩ := r.ownAt q
    obtain ⟨u, hu⟩ := w.so
    obtain ⟨n, _, kk⟩ := k.keep a u hu w.no
    have n : F' a = none := n.elim id fun ⟨vs, e⟩ => absurd ((hu.trans (kk (fun z => z)).symm).trans (k.fh a _ e)) (w.nt vs)
    exact SlotOk.of_own (w.mono k.ff n (by rw [kk (fun z => z), hu]))
  | false =>
    cases s with
    | any => trivial
    | val d => obtain ⟨v, e, r⟩ := r; exact ⟨v, e, d.mono k.ff r⟩
    | own _ _ => cases q
    | lst _ _ => cases q
    | obj _ _ _ => cases q
    | dct _ _ => cases q
/-- the entry's heap does not know a new address -/
theorem Holds.fresh (h : Holds Z Γ F σ H) (n : H p = none) : Z.H p = none := by
  cases q : Z.H p with
  | none => rfl
  | some o =>
    cases q2 : Z.F p with
    | none =>
      obtain ⟨_, ⟨o', e⟩, _⟩ := h.st.keep p o q q2
      rw [n] at e
      cases e
    | some u =>
      have e := h.st.fh p u (h.st.ff p u q2)
      rw [n] at e
      cases e
theorem ownAt_set {s : Slot} {o : Option V} (w : OwnAt (Γ.set i s) (σ.set i o) j a) (hl : Γ.length = σ.length) : (j = i ∧ s.isOwn = true ∧ o = some (.ref a)) ∨ (j ≠ i ∧ OwnAt Γ σ j a) := by
  obtain ⟨⟨u, e, w⟩, e2⟩ := w
  by_cases z : i = j
  · subst z
    by_cases lt : i < Γ.length
    · rw [List.getElem?_set_self lt] at e
      cases e
      rw [List.getElem?_set_self (by omega)] at e2
      cases e2
      exact .inl ⟨rfl, w, rfl⟩
    · rw [List.getElem?_eq_none (by rw [List.length_set]; omega)] at e
      cases e
  · rw [List.getElem?_set_ne z] at e e2
    exact .inr ⟨fun q => z q.symm, ⟨u, e, w⟩, e2⟩
theorem Holds.len (h : Holds Z Γ F σ H) : Γ.length = σ.length := h.sl.len
theorem Holds.set (h : Holds Z Γ F σ H) (i : Nat) (r : d.rep F v) : Holds Z (Γ.set i (.val d)) F (σ.set i (some v)) H := by
  refine ⟨h.st, h.sl.set ⟨v, rfl, r⟩ i, fun j a w => ?_, fun j k a w w' => ?_, h.pp⟩
  · rcases ownAt_set w h.len with ⟨_, q, _⟩ | ⟨_, w⟩
    · cases q
    · exact h.ow j a w
  · rcases ownAt_set w h.len with ⟨_, q, _⟩ | ⟨_, w⟩
    · cases q
    · rcases ownAt_set w' h.len with ⟨_, q, _⟩ | ⟨_, w'⟩
      · cases q
      · exact h.di j k a w w'
/-- a slot gets a new owned object -/
theorem Holds.setNew {s : Slot} {o : HO} (h : Holds Z Γ F σ H) (i : Nat) (n : H p = none) (r : OwnOk F (upd H p o) p s) : Holds Z (Γ.set i s) F (σ.set i (some (.ref p))) (upd H p o) := by
  have h1 := h.step (Step.open (o := o) h.fh n)
  have np : ∀ j a, OwnAt Γ σ j a → a ≠ p := fun j a w z => by
    obtain ⟨s, _, r⟩ := h.at_ w
    obtain ⟨u, e⟩ := r.so
    rw [z, n] at e
    cases e
  refine ⟨h1.st, h1.sl.set (SlotOk.of_own r) i, fun j a w => ?_, fun j k a w w' => ?_, h.pp⟩
  · rcases ownAt_set w h.len with ⟨_, _, q⟩ | ⟨_, w⟩
    · cases q
      exact .inr (h.fresh n)
    · exact h.ow j a w
  · rcases ownAt_set w h.len with ⟨e1, _, q⟩ | ⟨_, w⟩
    · rcases ownAt_set w' h.len with ⟨e2, _, q'⟩ | ⟨_, w'⟩
      · rw [e1, e2]
      · cases q
        exact absurd rfl (np _ _ w')
    · rcases ownAt_set w' h.len with ⟨e2, _, q'⟩ | ⟨_, w'⟩
      · cases q'
        exact absurd rfl (np _ _ w)
      · exact h.di j k a w w'
/-- an owned object is changed -/
theorem Holds.mut {s : Slot} {o : HO} (h : Holds Z Γ F σ H) (w : OwnAt Γ σ i a) (r : OwnOk F (upd H a o) a s) : Holds Z (Γ.set i s) F σ (upd H a o) := by
  obtain ⟨s0, e0, r0⟩ := h.at_ w
  have hσ : σ[i]? = some (some (.ref a)) := w.2
  have hset : σ.set i (some (.ref a)) = σ := by
    apply List.ext_getElem?
    intro j
    by_cases z : i = j
    · subst z
      have lt := (List.getElem?_eq_some_iff.mp hσ).1
      rw [List.getElem?_set_self lt, hσ]
    · rw [List.getElem?_set_ne z]
  have st : Step Z.O Z.F Z.H F (upd H a o) := by
    refine ⟨h.st.ff, fun b u q => ?_, fun b u q n => ?_⟩
    · have z : b ≠ a := fun z => by
        rw [z, r0.no] at q
        cases q
      rw [upd_ne z]
      exact h.st.fh b u q
    · obtain ⟨n1, ⟨o', e⟩, k⟩ := h.st.keep b u q n
      by_cases z : b = a
      · subst z
        refine ⟨n1, ⟨o, upd_same⟩, fun no => ?_⟩
        rcases h.ow i b w with y | y
        · exact absurd y no
        · rw [q] at y
          cases y
      · rw [upd_ne z]
        exact ⟨n1, ⟨o', e⟩, k⟩
  have key : Al (SlotOk F (upd H a o)) (Γ.set i s) (σ.set i (some (.ref a))) := by
    refine Al.of (by rw [List.length_set, List.length_set, h.len]) fun j x y hx hy => ?_
    by_cases z : i = j
    · subst z
      have l1 := (List.getElem?_eq_some_iff.mp e0).1
      rw [List.getElem?_set_self l1] at hx
      rw [List.getElem?_set_self (by rw [← h.len]; exact l1)] at hy
      cases hx
      cases hy
      exact SlotOk.of_own r
    · rw [List.getElem?_set_ne z] at hx hy
      obtain ⟨y', e', rr⟩ := h.sl.get hx
      rw [hy] at e'
      cases e'
      cases q : x.isOwn with
      | true =>
        obtain ⟨b, rfl, w2⟩ := rr.ownAt q
        have nb : b ≠ a := fun e => by
          subst e
          exact z (h.di i j b w ⟨⟨x, hx, q⟩, hy⟩)
        exact SlotOk.of_own (w2.mono (Ex.refl F) w2.no (upd_ne nb))
      | false =>
        cases x with
        | any => trivial
        | val d => exact rr
        | own _ _ => cases q
        | lst _ _ => cases q
        | obj _ _ _ => cases q
        | dct _ _ => cases q
  refine ⟨st, by rw [hset] at key; exact key, fun j b w' => ?_, fun j k b w' w'' => ?_, h.pp⟩
  · have w2 : OwnAt (Γ.set i s) (σ.set i (some (.ref a))) j b := by rw [hset]; exact w'
    rcases ownAt_set w2 h.len with ⟨e1, _, q⟩ | ⟨_, w3⟩
    · cases q
      exact h.ow i _ w
    · exact h.ow j b w3
  · have w2 : OwnAt (Γ.set i s) (σ.set i (some (.ref a))) j b := by rw [hset]; exact w'
    have w3 : OwnAt (Γ.set i s) (σ.set i (some (.ref a))) k b := by rw [hset]; exact w''
    rcases ownAt_set w2 h.len with ⟨e1, _, q⟩ | ⟨n1, w4⟩
    · cases q
      rcases ownAt_set w3 h.len with ⟨e2, _, _⟩ | ⟨n2, w5⟩
      · rw [e1, e2]
      · exact absurd (h.di k i _ w5 w) n2
    · rcases ownAt_set w3 h.len with ⟨e2, _, q⟩ | ⟨n2, w5⟩
      · cases q
        exact absurd (h.di j i _ w4 w) n1
      · exact h.di j k b w4 w5
/-- slots are forgotten -/
def Wk (Γ Γ' : List Slot) : Prop := Al (fun s s' : Slot => s' = .any ∨ s' = s) Γ Γ'
theorem Wk.own (w : Wk Γ Γ') (h : OwnAt Γ' σ i a) : OwnAt Γ σ i a := by
  obtain ⟨⟨s, e, o⟩, e2⟩ := h
  obtain ⟨s0, e0, r⟩ := w.getR e
  rcases r with r | r
  · rw [r] at o
    cases o
  · exact ⟨⟨s0, e0, by rw [← r]; exact o⟩, e2⟩
theorem Holds.weak (h : Holds Z Γ F σ H) (w : Wk Γ Γ') : Holds Z Γ' F σ H := by
  refine ⟨h.st, Al.of (by rw [← w.len, h.len]) fun j x y hx hy => ?_, fun j a q => h.ow j a (w.own q), fun j k a q q' => h.di j k a (w.own q) (w.own q'), h.pp⟩
  obtain ⟨s0, e0, r⟩ := w.getR hx
  rcases r with r | r
  · rw [r]
    trivial
  · obtain ⟨y', e', rr⟩ := h.sl.get e0
    rw [hy] at e'
    cases e'
    rw [r]
    exact rr
theorem Wk.refl : ∀ Γ : List Slot, Wk Γ Γ
  | [] => .nil
  | _ :: r => .cons (.inr rfl) (Wk.refl r)
/-- an owned object of ours is frozen -/
theorem Holds.freeze {o : HO} (h : Holds Z Γ F σ H) (w : OwnAt Γ σ i a) (no : ¬ Z.O a) (e : H a = some o) (hd : d.rep (upd F a o) (.ref a)) : Holds Z (Γ.set i (.val d)) (upd F a o) σ H ∧ Ex F (upd F a o) := by
  obtain ⟨s0, e0, r0⟩ := h.at_ w
  have ff : Ex F (upd F a o) := Ex.new r0.no
  have hσ : σ[i]? = some (some (.ref a)) := w.2
  have hset : σ.set i (some (.ref a)) = σ := by
    apply List.ext_getElem?
    intro j
    by_cases z : i = j
    · subst z
      have lt := (List.getElem?_eq_some_iff.mp hσ).1
      rw [List.getElem?_set_self lt, hσ]
    · rw [List.getElem?_set_ne z]
  refine ⟨⟨⟨h.st.ff.trans ff, fun b u q => ?_, fun b u q n => ?_⟩, ?_, fun j b w' => ?_, fun j k b w' w'' => ?_, Z.pm ff h.pp⟩, ff⟩
  · by_cases z : b = a
    · subst z
      rw [upd_same] at q
      cases q
      exact e
    · rw [upd_ne z] at q
      exact h.st.fh b u q
  · obtain ⟨n1, k1, k2⟩ := h.st.keep b u q n
    have z : b ≠ a := fun z => by
      subst z
      rcases h.ow i b w with y | y
      · exact no y
      · rw [q] at y
        cases y
    rw [upd_ne z]
    exact ⟨n1, k1, k2⟩
  · have key : Al (SlotOk (upd F a o) H) (Γ.set i (.val d)) (σ.set i (some (.ref a))) := by
      refine Al.of (by rw [List.length_set, List.length_set, h.len]) fun j x y hx hy => ?_
      by_cases z : i = j
      · subst z
        have l1 := (List.getElem?_eq_some_iff.mp e0).1
        rw [List.getElem?_set_self l1] at hx
        rw [List.getElem?_set_self (by rw [← h.len]; exact l1)] at hy
        cases hx
        cases hy
        exact ⟨_, rfl, hd⟩
      · rw [List.getElem?_set_ne z] at hx hy
        obtain ⟨y', e', rr⟩ := h.sl.get hx
        rw [hy] at e'
        cases e'
        cases q : x.isOwn with
        | true =>
          obtain ⟨b, rfl, w2⟩ := rr.ownAt q
          have nb : b ≠ a := fun e => by
            subst e
            exact z (h.di i j b w ⟨⟨x, hx, q⟩, hy⟩)
          exact SlotOk.of_own (w2.mono ff (by rw [upd_ne nb]; exact w2.no) rfl)
        | false =>
          cases x with
          | any => trivial
          | val d => obtain ⟨v, q1, q2⟩ := rr; exact ⟨v, q1, d.mono ff q2⟩
          | own _ _ => cases q
          | lst _ _ => cases q
          | obj _ _ _ => cases q
          | dct _ _ => cases q
    rw [hset] at key
    exact key
  · have w2 : OwnAt (Γ.set i (.val d)) (σ.set i (some (.ref a))) j b := by rw [hset]; exact w'
    rcases ownAt_set w2 h.len with ⟨e1, q, _⟩ | ⟨_, w3⟩
    · cases q
    · exact h.ow j b w3
  · have w2 : OwnAt (Γ.set i (.val d)) (σ.set i (some (.ref a))) j b := by rw [hset]; exact w'
    have w3 : OwnAt (Γ.set i (.val d)) (σ.set i (some (.ref a))) k b := by rw [hset]; exact w''
    rcases ownAt_set w2 h.len with ⟨e1, q, _⟩ | ⟨_, w4⟩
    · cases q
    · rcases ownAt_set w3 h.len with ⟨e2, q, _⟩ | ⟨_, w5⟩
      · cases q
      · exact h.di j k b w4 w5
theorem Holds.more {P : Hp → Prop} {pm : ∀ {F F' : Hp}, Ex F F' → P F → P F'} (h : Holds Z Γ F σ H) (p : P F) : Holds (Z.more P pm) Γ F σ H := ⟨h.st, h.sl, h.ow, h.di, h.pp, p⟩
theorem Holds.less {P : Hp → Prop} {pm : ∀ {F F' : Hp}, Ex F F' → P F → P F'} (h : Holds (Z.more P pm) Γ F σ H) : Holds Z Γ F σ H := ⟨h.st, h.sl, h.ow, h.di, h.pp.1⟩
/-- a new open object becomes a slot's own -/
theorem Holds.setOwn {s : Slot} (h : Holds Z Γ F σ H) (i : Nat) (n : Z.H p = none) (no : ∀ j, ¬ OwnAt Γ σ j p) (r : OwnOk F H p s) : Holds Z (Γ.set i s) F (σ.set i (some (.ref p))) H := by
  refine ⟨h.st, h.sl.set (SlotOk.of_own r) i, fun j a w => ?_, fun j k a w w' => ?_, h.pp⟩
  · rcases ownAt_set w h.len with ⟨_, _, q⟩ | ⟨_, w⟩
    · cases q
      exact .inr n
    · exact h.ow j a w
  · rcases ownAt_set w h.len with ⟨e1, _, q⟩ | ⟨_, w⟩
    · rcases ownAt_set w' h.len with ⟨e2, _, q'⟩ | ⟨_, w'⟩
      · rw [e1, e2]
      · cases q
        exact absurd w' (no _)
    · rcases ownAt_set w' h.len with ⟨e2, _, q'⟩ | ⟨_, w'⟩
      · cases q'
        exact absurd w (no _)
      · exact h.di j k a w w'
/-- a new open object is frozen -/
theorem Holds.freezeP {o : HO} (h : Holds Z Γ F σ H) (n : Z.H p = none) (no : ∀ j, ¬ OwnAt Γ σ j p) (f : F p = none) (e : H p = some o) : Holds Z Γ (upd F p o) σ H := by
  have ff : Ex F (upd F p o) := Ex.new f
  refine ⟨⟨h.st.ff.trans ff, fun b u q => ?_, fun b u q n' => ?_⟩, ?_, h.ow, h.di, Z.pm ff h.pp⟩
  · by_cases z : b = p
    · subst z
      rw [upd_same] at q
      cases q
      exact e
    · rw [upd_ne z] at q
      exact h.st.fh b u q
  · obtain ⟨n1, k1, k2⟩ := h.st.keep b u q n'
    have z : b ≠ p := fun z => by
      subst z
      rw [q] at n
      cases n
    rw [upd_ne z]
    exact ⟨n1, k1, k2⟩
  · refine Al.of h.len fun j x y hx hy => ?_
    obtain ⟨y', e', rr⟩ := h.sl.get hx
    rw [hy] at e'
    cases e'
    cases q : x.isOwn with
    | true =>
      obtain ⟨b, rfl, w2⟩ := rr.ownAt q
      have nb : b ≠ p := fun e => by
        subst e
        exact no j ⟨⟨x, hx, q⟩, hy⟩
      exact SlotOk.of_own (w2.mono ff (by rw [upd_ne nb]; exact w2.no) rfl)
    | false =>
      cases x with
      | any => trivial
      | val d => obtain ⟨v, q1, q2⟩ := rr; exact ⟨v, q1, d.mono ff q2⟩
      | own _ _ => cases q
      | lst _ _ => cases q
      | obj _ _ _ => cases q
      | dct _ _ => cases q
/-- an open object that is no slot's changes -/
theorem Holds.poke {o : HO} (h : Holds Z Γ F σ H) (n : Z.H p = none) (no : ∀ j, ¬ OwnAt Γ σ j p) (f : F p = none) : Holds Z Γ F σ (upd H p o) := by
  refine ⟨⟨h.st.ff, fun b u q => ?_, fun b u q n' => ?_⟩, ?_, h.ow, h.di, h.pp⟩
  · have z : b ≠ p := fun z => by
      rw [z, f] at q
      cases q
    rw [upd_ne z]
    exact h.st.fh b u q
  · have z : b ≠ p := fun z => by
      rw [z, n] at q
      cases q
    rw [upd_ne z]
    exact h.st.keep b u q n'
  · refine Al.of h.len fun j x y hx hy => ?_
    obtain ⟨y', e', rr⟩ := h.sl.get hx
    rw [hy] at e'
    cases e'
    cases q : x.isOwn with
    | true =>
      obtain ⟨b, rfl, w2⟩ := rr.ownAt q
      have nb : b ≠ p := fun e => by
        subst e
        exact no j ⟨⟨x, hx, q⟩, hy⟩
      exact SlotOk.of_own (w2.mono (Ex.refl F) w2.no (upd_ne nb))
    | false =>
      cases x with
      | any => trivial
      | val d => exact rr
      | own _ _ => cases q
      | lst _ _ => cases q
      | obj _ _ _ => cases q
      | dct _ _ => cases q
/-- slots and their values at other places -/
theorem Holds.other {σ' : L2.St} (h : Holds Z Γ F σ H) (hl : Γ'.length = σ'.length) (k : ∀ (i : Nat) (s : Slot), Γ'[i]? = some s → s = Slot.any ∨ (Γ[i]? = some s ∧ σ'[i]? = σ[i]?)) : Holds Z Γ' F σ' H := by
  have ow : ∀ i a, OwnAt Γ' σ' i a → OwnAt Γ σ i a := fun i a ⟨⟨s, e, o⟩, e2⟩ => by
    rcases k i s e with z | ⟨z1, z2⟩
    · rw [z] at o
      cases o
    · exact ⟨⟨s, z1, o⟩, by rw [← z2]; exact e2⟩
  refine ⟨h.st, Al.of hl fun j x y hx hy => ?_, fun i a w => h.ow i a (ow i a w), fun i j a w w' => h.di i j a (ow i a w) (ow j a w'), h.pp⟩
  rcases k j x hx with z | ⟨z1, z2⟩
  · rw [z]
    trivial
  · obtain ⟨y', e', rr⟩ := h.sl.get z1
    rw [← z2, hy] at e'
    cases e'
    exact rr
end
end DL

set_option maxRecDepth 100000
/-! DE: expressions over typed data. -/
namespace DL
open PySem L2 Evl

/-- what an expression leaves: frozen things, and all that no slot owns -/
structure Pres (Γ Γ' : List Slot) (σ : L2.St) (F H F' H' : Hp) : Prop where
  ff : Ex F F'
  keep : ∀ b o, H b = some o → F b = none → (∀ vs, o ≠ .tup vs) → (∀ i, ¬ OwnAt Γ σ i b) → F' b = none ∧ H' b = some o
  ow : ∀ i b, OwnAt Γ' σ i b → OwnAt Γ σ i b
  th : ∀ b o, H b = some o → ∃ o', H' b = some o'
section
variable {Z : En} {Γ Γ' Γ1 Γ2 : List Slot} {F F' H H' F1 H1 F2 H2 : Hp} {σ : L2.St} {i j : Nat} {a p : Addr} {v : V} {d : Dv}
theorem Pres.refl : Pres Γ Γ σ F H F H := ⟨Ex.refl F, fun _ _ h n _ _ => ⟨n, h⟩, fun _ _ w => w, fun _ o h => ⟨o, h⟩⟩
theorem Pres.trans (a : Pres Γ Γ1 σ F H F1 H1) (b : Pres Γ1 Γ2 σ F1 H1 F2 H2) : Pres Γ Γ2 σ F H F2 H2 :=
  ⟨a.ff.trans b.ff, fun c o h n nt no => by
    obtain ⟨n1, h1⟩ := a.keep c o h n nt no
    exact b.keep c o h1 n1 nt fun i w => no i (a.ow i c w), fun i c w => a.ow i c (b.ow i c w), fun c o h => by
    obtain ⟨o1, h1⟩ := a.th c o h
    exact b.th c o1 h1⟩
theorem Step.th (k : Step NoO F H F' H') (b : Addr) (o : HO) (h : H b = some o) : ∃ o', H' b = some o' := by
  cases q : F b with
  | none => exact (k.keep b o h q).2.1
  | some u => exact ⟨u, k.fh b u (k.ff b u q)⟩
theorem Pres.step (k : Step NoO F H F' H') : Pres Γ Γ σ F H F' H' := ⟨k.ff, fun b o h n nt _ => k.no h n nt, fun _ _ w => w, k.th⟩
/-- what is new behind was new ahead -/
theorem Pres.new (k : Pres Γ Γ' σ F H F' H') (h : H' p = none) : H p = none := by
  cases q : H p with
  | none => rfl
  | some o =>
    obtain ⟨o', e⟩ := k.th p o q
    rw [h] at e
    cases e
theorem Holds.notOwn (h : Holds Z Γ F σ H) (n : H p = none) (j : Nat) : ¬ OwnAt Γ σ j p := fun w => by
  obtain ⟨s, _, r⟩ := h.at_ w
  obtain ⟨o, e⟩ := r.so
  rw [n] at e
  cases e
end

/-- an expression gives x | a test gives b | arguments give ds | a list to be read | a new list, still open | a new tuple -/
def Den {α : Type} (te : TE) (Γ : List Slot) (t : Ty α) (x : α) (Γ' : List Slot) : Prop := ∀ (Z : En) F σ H, Holds Z Γ F σ H → ∀ Q : VK, (∀ v F' H', Holds Z Γ' F' σ H' → Pres Γ Γ' σ F H F' H' → t.rep F' v x → Q v H') → te σ H Q
def DenT (tt : TT) (Γ : List Slot) (b : Bool) (Γ' : List Slot) : Prop := ∀ (Z : En) F σ H, Holds Z Γ F σ H → ∀ Q : Bool → Hp → Prop, (∀ F' H', Holds Z Γ' F' σ H' → Pres Γ Γ' σ F H F' H' → Q b H') → tt σ H Q
def DenA (ta : TA) (Γ : List Slot) (ds : List Dv) (Γ' : List Slot) : Prop := ∀ (Z : En) F σ H, Holds Z Γ F σ H → ∀ Q : List V → Hp → Prop, (∀ vs F' H', Holds Z Γ' F' σ H' → Pres Γ Γ' σ F H F' H' → Reps F' ds vs → Q vs H') → ta σ H Q
def DenL {α : Type} (te : TE) (Γ : List Slot) (t : Ty α) (xs : List α) (Γ' : List Slot) : Prop := ∀ (Z : En) F σ H, Holds Z Γ F σ H → ∀ Q : VK, (∀ a vs F' H', Holds Z Γ' F' σ H' → Pres Γ Γ' σ F H F' H' → H' a = some (.lst vs) → Al (fun x v => t.rep F' v x) xs vs → Q (.ref a) H') → te σ H Q
def DenN (te : TE) (Γ : List Slot) (ds : List Dv) (Γ' : List Slot) : Prop := ∀ (Z : En) F σ H, Holds Z Γ F σ H → ∀ Q : VK, (∀ p vs F' H', Holds Z Γ' F' σ H' → Pres Γ Γ' σ F H F' H' → H p = none → F' p = none → H' p = some (.lst vs) → Reps F' ds vs → Q (.ref p) H') → te σ H Q
def DenO (to : TO) (Γ : List Slot) (o : Option Int) (Γ' : List Slot) : Prop := ∀ (Z : En) F σ H, Holds Z Γ F σ H → ∀ Q : Option Int → Hp → Prop, (∀ F' H', Holds Z Γ' F' σ H' → Pres Γ Γ' σ F H F' H' → Q o H') → to σ H Q

/-! ### types of data -/
def tInt : Ty Int := ⟨fun _ v i => v = .int i, fun _ h => h⟩
def tBool : Ty Bool := ⟨fun _ v i => v = .bl i, fun _ h => h⟩
def tStr : Ty Str := ⟨fun _ v i => v = .str i, fun _ h => h⟩
def tNon : Ty Unit := ⟨fun _ v _ => v = .non, fun _ h => h⟩
/-- a value told as it is -/
def tRaw : Ty V := ⟨fun _ v x => v = x, fun _ h => h⟩
def tOpt {α : Type} (t : Ty α) : Ty (Option α) := ⟨fun F v o => match o with
  | none => v = .non
  | some x => t.rep F v x, fun e h => by
    rename_i o
    cases o with
    | none => exact h
    | some x => exact t.mono e h⟩
/-- a frozen list, a tuple, all items of one type -/
def tList {α : Type} (t : Ty α) : Ty (List α) := ⟨fun F v xs => ∃ a vs, v = .ref a ∧ F a = some (.lst vs) ∧ Al (fun x v => t.rep F v x) xs vs,
  fun e ⟨a, vs, h1, h2, h3⟩ => ⟨a, vs, h1, e _ _ h2, h3.map fun _ _ z => t.mono e z⟩⟩
def tTupl {α : Type} (t : Ty α) : Ty (List α) := ⟨fun F v xs => ∃ a vs, v = .ref a ∧ F a = some (.tup vs) ∧ Al (fun x v => t.rep F v x) xs vs,
  fun e ⟨a, vs, h1, h2, h3⟩ => ⟨a, vs, h1, e _ _ h2, h3.map fun _ _ z => t.mono e z⟩⟩
/-- items of unlike types -/
structure Row where
  ds : List Dv
def RowT (ds : List Dv) : Ty Unit := ⟨fun F v _ => ∃ a vs, v = .ref a ∧ F a = some (.tup vs) ∧ Reps F ds vs, fun e ⟨a, vs, h1, h2, h3⟩ => ⟨a, vs, h1, e _ _ h2, h3.mono e⟩⟩
def tPair {α β : Type} (t : Ty α) (u : Ty β) : Ty (α × β) := ⟨fun F v x => ∃ a v1 v2, v = .ref a ∧ F a = some (.tup [v1, v2]) ∧ t.rep F v1 x.1 ∧ u.rep F v2 x.2,
  fun e ⟨a, v1, v2, h1, h2, h3, h4⟩ => ⟨a, v1, v2, h1, e _ _ h2, t.mono e h3, u.mono e h4⟩⟩
def tTri {α β γ : Type} (t : Ty α) (u : Ty β) (w : Ty γ) : Ty (α × β × γ) := ⟨fun F v x => ∃ a v1 v2 v3, v = .ref a ∧ F a = some (.tup [v1, v2, v3]) ∧ t.rep F v1 x.1 ∧ u.rep F v2 x.2.1 ∧ w.rep F v3 x.2.2,
  fun e ⟨a, v1, v2, v3, h1, h2, h3, h4, h5⟩ => ⟨a, v1, v2, v3, h1, e _ _ h2, t.mono e h3, u.mono e h4, w.mono e h5⟩⟩

section
variable {α β γ : Type} {t : Ty α} {u : Ty β} {w : Ty γ} {x : α} {y : β} {z : γ} {Γ Γ' Γ1 Γ2 Γ3 : List Slot} {ta tb tc te : TE} {tt uu : TT} {r : R2} {ds : List Dv}
/-! ### between the judgements -/
theorem den_l {xs : List α} (h : Den te Γ (tList t) xs Γ') : DenL te Γ t xs Γ' := fun Z F σ H hh Q q => h Z F σ H hh Q fun v F' H' h' p r => by
  obtain ⟨a, vs, rfl, e, rr⟩ := r
  exact q a vs F' H' h' p (h'.fh _ _ e) rr
theorem dl_var {xs : List α} {i : Nat} (e : Γ[i]? = some (.lst t xs)) : DenL (tVar i) Γ t xs Γ := fun Z F σ H hh Q q => by
  obtain ⟨a, h1, ⟨_, vs, h2, h3⟩, _⟩ := hh.owned e rfl
  exact ⟨_, h1, q a vs F H hh Pres.refl h2 h3⟩
/-! ### names, constants -/
theorem den_var {i : Nat} (e : Γ[i]? = some (.val ⟨t, x⟩)) : Den (tVar i) Γ t x Γ := fun Z F σ H hh Q q => by
  obtain ⟨v, h1, h2⟩ := hh.val e
  exact ⟨v, h1, q v F H hh Pres.refl h2⟩
theorem den_int {i : Int} : Den (tC (.int i)) Γ tInt i Γ := fun Z F σ H hh Q q => q _ F H hh Pres.refl rfl
theorem den_bl {i : Bool} : Den (tC (.bl i)) Γ tBool i Γ := fun Z F σ H hh Q q => q _ F H hh Pres.refl rfl
theorem den_str {i : Str} : Den (tC (.str i)) Γ tStr i Γ := fun Z F σ H hh Q q => q _ F H hh Pres.refl rfl
theorem den_non : Den (tC .non) Γ tNon () Γ := fun Z F σ H hh Q q => q _ F H hh Pres.refl rfl
theorem den_raw {v : V} : Den (tC v) Γ tRaw v Γ := fun Z F σ H hh Q q => q _ F H hh Pres.refl rfl
/-- another type for the same value -/
theorem den_as {y : β} (h : Den te Γ t x Γ') (e : ∀ F v, t.rep F v x → u.rep F v y) : Den te Γ u y Γ' := fun Z F σ H hh Q q => h Z F σ H hh Q fun v F' H' h' p r => q v F' H' h' p (e _ _ r)
theorem den_eq {x' : α} (h : Den te Γ t x Γ') (e : x = x') : Den te Γ t x' Γ' := e ▸ h
/-! ### operators on values -/
def Op2 (r : R2) (t : Ty α) (x : α) (u : Ty β) (y : β) (w : Ty γ) (z : γ) : Prop := ∀ F H v1 v2, Ex F H → t.rep F v1 x → u.rep F v2 y → ∀ Q : VK, (∀ v F' H', Step NoO F H F' H' → w.rep F' v z → Q v H') → r v1 v2 H Q
def Op1 (r : V → Hp → VK → Prop) (t : Ty α) (x : α) (w : Ty γ) (z : γ) : Prop := ∀ F H v1, Ex F H → t.rep F v1 x → ∀ Q : VK, (∀ v F' H', Step NoO F H F' H' → w.rep F' v z → Q v H') → r v1 H Q
def OpN (r : List V → Hp → VK → Prop) (ds : List Dv) (w : Ty γ) (z : γ) : Prop := ∀ F H vs, Ex F H → Reps F ds vs → ∀ Q : VK, (∀ v F' H', Step NoO F H F' H' → w.rep F' v z → Q v H') → r vs H Q
theorem den_op (ha : Den ta Γ t x Γ1) (hb : Den tb Γ1 u y Γ2) (hr : Op2 r t x u y w z) : Den (tOp r ta tb) Γ w z Γ2 := fun Z F σ H hh Q q =>
  ha Z F σ H hh _ fun v1 F1 H1 h1 p1 r1 => hb Z F1 σ H1 h1 _ fun v2 F2 H2 h2 p2 r2 => hr F2 H2 v1 v2 h2.fh (t.mono p2.ff r1) r2 Q fun v F3 H3 k r3 => q v F3 H3 (h2.step k) ((p1.trans p2).trans (Pres.step k)) r3
theorem den_un {r : V → Hp → VK → Prop} (ha : Den ta Γ t x Γ1) (hr : Op1 r t x w z) : Den (tUn r ta) Γ w z Γ1 := fun Z F σ H hh Q q =>
  ha Z F σ H hh _ fun v1 F1 H1 h1 p1 r1 => hr F1 H1 v1 h1.fh r1 Q fun v F3 H3 k r3 => q v F3 H3 (h1.step k) (p1.trans (Pres.step k)) r3
theorem op_I0 {g : Int → Int → Int} {i j : Int} : Op2 (rI0 fun i j => .int (g i j)) tInt i tInt j tInt (g i j) := fun F H v1 v2 e r1 r2 Q q => ⟨i, j, r1, r2, q _ F H (Step.refl e) rfl⟩
theorem op_I0b {g : Int → Int → Bool} {i j : Int} : Op2 (rI0 fun i j => .bl (g i j)) tInt i tInt j tBool (g i j) := fun F H v1 v2 e r1 r2 Q q => ⟨i, j, r1, r2, q _ F H (Step.refl e) rfl⟩
theorem op_I {C : Int → Int → Prop} {g : Int → Int → Int} {i j : Int} (c : C i j) : Op2 (rI C fun i j => .int (g i j)) tInt i tInt j tInt (g i j) := fun F H v1 v2 e r1 r2 Q q => ⟨i, j, r1, r2, c, q _ F H (Step.refl e) rfl⟩
theorem op_eqI {i j : Int} : Op2 rEq tInt i tInt j tBool (decide (i = j)) := fun F H v1 v2 e r1 r2 Q q => by
  cases r1
  cases r2
  refine ⟨rfl, ?_⟩
  have ee : decide (V.int i = V.int j) = decide (i = j) := by simp
  rw [ee]
  exact q _ F H (Step.refl e) rfl
theorem op_neI {i j : Int} : Op2 rNe tInt i tInt j tBool (!decide (i = j)) := fun F H v1 v2 e r1 r2 Q q => by
  cases r1
  cases r2
  refine ⟨rfl, ?_⟩
  have ee : decide (V.int i = V.int j) = decide (i = j) := by simp
  rw [ee]
  exact q _ F H (Step.refl e) rfl
theorem op_eqB {i j : Bool} : Op2 rEq tBool i tBool j tBool (decide (i = j)) := fun F H v1 v2 e r1 r2 Q q => by
  cases r1
  cases r2
  refine ⟨rfl, ?_⟩
  have ee : decide (V.bl i = V.bl j) = decide (i = j) := by simp
  rw [ee]
  exact q _ F H (Step.refl e) rfl
theorem op_neB {i j : Bool} : Op2 rNe tBool i tBool j tBool (!decide (i = j)) := fun F H v1 v2 e r1 r2 Q q => by
  cases r1
  cases r2
  refine ⟨rfl, ?_⟩
  have ee : decide (V.bl i = V.bl j) = decide (i = j) := by simp
  rw [ee]
  exact q _ F H (Step.refl e) rfl
theorem op_eqS {i j : Str} : Op2 rEq tStr i tStr j tBool (decide (i = j)) := fun F H v1 v2 e r1 r2 Q q => by
  cases r1
  cases r2
  refine ⟨rfl, ?_⟩
  have ee : decide (V.str i = V.str j) = decide (i = j) := by simp
  rw [ee]
  exact q _ F H (Step.refl e) rfl
theorem op_neS {i j : Str} : Op2 rNe tStr i tStr j tBool (!decide (i = j)) := fun F H v1 v2 e r1 r2 Q q => by
  cases r1
  cases r2
  refine ⟨rfl, ?_⟩
  have ee : decide (V.str i = V.str j) = decide (i = j) := by simp
  rw [ee]
  exact q _ F H (Step.refl e) rfl
theorem un_neg {i : Int} : Op1 (rU fun i => .int (-i)) tInt i tInt (-i) := fun F H v1 e r1 Q q => ⟨i, r1, q _ F H (Step.refl e) rfl⟩
theorem den_add {i j : Int} (ha : Den ta Γ tInt i Γ1) (hb : Den tb Γ1 tInt j Γ2) : Den (tAdd ta tb) Γ tInt (i + j) Γ2 := fun Z F σ H hh Q q =>
  ha Z F σ H hh _ fun v1 F1 H1 h1 p1 r1 => hb Z F1 σ H1 h1 _ fun v2 F2 H2 h2 p2 r2 => ⟨i, j, r1, r2, q _ F2 H2 h2 (p1.trans p2) rfl⟩
/-! ### tests -/
theorem dt_test {b : Bool} (h : Den te Γ tBool b Γ') : DenT (tTest te) Γ b Γ' := fun Z F σ H hh Q q => h Z F σ H hh _ fun v F' H' h' p r => ⟨b, r, q F' H' h' p⟩
theorem dt_B {b : Bool} (h : Den te Γ tBool b Γ') : DenT (tB te) Γ b Γ' := fun Z F σ H hh Q q => h Z F σ H hh _ fun v F' H' h' p r => ⟨b, r, q F' H' h' p⟩
theorem dt_not {b : Bool} (h : DenT tt Γ b Γ') : DenT (tNot tt) Γ (!b) Γ' := fun Z F σ H hh Q q => h Z F σ H hh _ fun F' H' h' p => q F' H' h' p
theorem dt_and {a b : Bool} (h1 : DenT tt Γ a Γ) (h2 : a = true → DenT uu Γ b Γ) : DenT (tAnd tt uu) Γ (a && b) Γ := fun Z F σ H hh Q q => h1 Z F σ H hh _ fun F' H' h' p => by
  cases a with
  | true =>
    show uu σ H' Q
    exact h2 rfl Z F' σ H' h' Q fun F2 H2 h3 p2 => q F2 H2 h3 (p.trans p2)
  | false =>
    show Q false H'
    exact q F' H' h' p
theorem dt_or {a b : Bool} (h1 : DenT tt Γ a Γ) (h2 : a = false → DenT uu Γ b Γ) : DenT (tOr tt uu) Γ (a || b) Γ := fun Z F σ H hh Q q => h1 Z F σ H hh _ fun F' H' h' p => by
  cases a with
  | true =>
    show Q true H'
    exact q F' H' h' p
  | false =>
    show uu σ H' Q
    exact h2 rfl Z F' σ H' h' Q fun F2 H2 h3 p2 => q F2 H2 h3 (p.trans p2)
/-- the second part changes owned things -/
theorem dt_andM {a b : Bool} (h1 : DenT tt Γ a Γ1) (h2 : a = true → DenT uu Γ1 b Γ2) : DenT (tAnd tt uu) Γ (a && b) (if a = true then Γ2 else Γ1) := fun Z F σ H hh Q q => h1 Z F σ H hh _ fun F' H' h' p => by
  cases a with
  | true =>
    show uu σ H' Q
    exact h2 rfl Z F' σ H' h' Q fun F2 H2 h3 p2 => q F2 H2 h3 (p.trans p2)
  | false =>
    show Q false H'
    exact q F' H' h' p
theorem dt_orM {a b : Bool} (h1 : DenT tt Γ a Γ1) (h2 : a = false → DenT uu Γ1 b Γ2) : DenT (tOr tt uu) Γ (a || b) (if a = true then Γ1 else Γ2) := fun Z F σ H hh Q q => h1 Z F σ H hh _ fun F' H' h' p => by
  cases a with
  | true =>
    show Q true H'
    exact q F' H' h' p
  | false =>
    show uu σ H' Q
    exact h2 rfl Z F' σ H' h' Q fun F2 H2 h3 p2 => q F2 H2 h3 (p.trans p2)
theorem dt_is {a b : Bool} (h : DenT tt Γ a Γ') (e : a = b) : DenT tt Γ b Γ' := e ▸ h
theorem den_andV {a b : Bool} (h1 : Den ta Γ tBool a Γ) (h2 : a = true → Den tb Γ tBool b Γ) : Den (tAndV ta tb) Γ tBool (a && b) Γ := fun Z F σ H hh Q q => h1 Z F σ H hh _ fun v F' H' h' p r => ⟨a, r, by
  cases a with
  | true =>
    show tb σ H' Q
    exact h2 rfl Z F' σ H' h' Q fun v F2 H2 h3 p2 r2 => q v F2 H2 h3 (p.trans p2) r2
  | false =>
    show Q (.bl false) H'
    exact q _ F' H' h' p rfl⟩
theorem den_orV {a b : Bool} (h1 : Den ta Γ tBool a Γ) (h2 : a = false → Den tb Γ tBool b Γ) : Den (tOrV ta tb) Γ tBool (a || b) Γ := fun Z F σ H hh Q q => h1 Z F σ H hh _ fun v F' H' h' p r => ⟨a, r, by
  cases a with
  | true =>
    show Q (.bl true) H'
    exact q _ F' H' h' p rfl
  | false =>
    show tb σ H' Q
    exact h2 rfl Z F' σ H' h' Q fun v F2 H2 h3 p2 r2 => q v F2 H2 h3 (p.trans p2) r2⟩
theorem den_notV {a : Bool} (h1 : Den ta Γ tBool a Γ') : Den (tNotV ta) Γ tBool (!a) Γ' := fun Z F σ H hh Q q => h1 Z F σ H hh _ fun v F' H' h' p r => ⟨a, r, q _ F' H' h' p rfl⟩
/-- 0 < x as a truth -/
theorem dt_trI {K : PySem.W.Frag} {i : Int} (h : Den te Γ tInt i Γ') : DenT (fun σ H Q => te σ H fun x H' => ∃ k, TruV K x H' k ∧ Q k H') Γ (i != 0) Γ' := fun Z F σ H hh Q q => h Z F σ H hh _ fun v F' H' h' p r => by
  cases r
  exact ⟨_, rfl, q F' H' h' p⟩
/-! ### arguments -/
theorem da_nil : DenA tNil Γ [] Γ := fun Z F σ H hh Q q => q [] F H hh Pres.refl .nil
theorem da_cons {tr : TA} (h : Den te Γ t x Γ1) (hr : DenA tr Γ1 ds Γ2) : DenA (tCons te tr) Γ (⟨t, x⟩ :: ds) Γ2 := fun Z F σ H hh Q q =>
  h Z F σ H hh _ fun v F1 H1 h1 p1 r1 => hr Z F1 σ H1 h1 _ fun vs F2 H2 h2 p2 r2 => q _ F2 H2 h2 (p1.trans p2) (.cons (t.mono p2.ff r1) r2)
theorem den_cb {r : List V → Hp → VK → Prop} {tr : TA} (h : DenA tr Γ ds Γ1) (hr : OpN r ds w z) : Den (tCB r tr) Γ w z Γ1 := fun Z F σ H hh Q q =>
  h Z F σ H hh _ fun vs F1 H1 h1 p1 r1 => hr F1 H1 vs h1.fh r1 Q fun v F3 H3 k r3 => q v F3 H3 (h1.step k) (p1.trans (Pres.step k)) r3
/-! ### displays -/
/-- a list that was just laid -/
theorem new_q {Z : En} {F H F' H' : Hp} {σ : L2.St} {Q : VK} (q : ∀ p vs F' H', Holds Z Γ' F' σ H' → Pres Γ Γ' σ F H F' H' → H p = none → F' p = none → H' p = some (.lst vs) → Reps F' ds vs → Q (.ref p) H')
    (h' : Holds Z Γ' F' σ H') (k : Pres Γ Γ' σ F H F' H') {p : Addr} {vs : List V} (np : H' p = none) (r : Reps F' ds vs) : Q (.ref p) (upd H' p (.lst vs)) :=
  have st := Step.open (o := .lst vs) h'.fh np
  q p vs F' _ (h'.step st) (k.trans (Pres.step st)) (k.new np) (ex_none h'.fh np) upd_same r
theorem dn_lst {tr : TA} (h : DenA tr Γ ds Γ1) (hl : ds.length ≤ 100000) : DenN (tLst tr) Γ ds Γ1 := fun Z F σ H hh Q q =>
  h Z F σ H hh _ fun vs F1 H1 h1 p1 r1 => ⟨sz_of (by rw [← r1.len]; exact hl), fun p np => new_q q h1 p1 np r1⟩
theorem den_row {tr : TA} (h : DenA tr Γ ds Γ1) (hl : ds.length ≤ 100000) : Den (tTup tr) Γ (RowT ds) () Γ1 := fun Z F σ H hh Q q =>
  h Z F σ H hh _ fun vs F1 H1 h1 p1 r1 => ⟨sz_of (by rw [← r1.len]; exact hl), fun p np => by
    have k : Step NoO F1 H1 (upd F1 p (.tup vs)) (upd H1 p (.tup vs)) := Step.new h1.fh np
    exact q _ _ _ (h1.step k) (p1.trans (Pres.step k)) ⟨p, vs, rfl, upd_same, r1.mono k.ff⟩⟩
theorem al_map {F : Hp} {xs : List α} : ∀ {vs : List V}, Reps F (xs.map fun x => (⟨t, x⟩ : Dv)) vs → Al (fun x v => t.rep F v x) xs vs := by
  induction xs with
  | nil => intro vs h; cases h; exact .nil
  | cons x xs ih => intro vs h; cases h with
    | cons p q => exact .cons p (ih q)
theorem al_unmap {F : Hp} : ∀ {xs : List α} {vs : List V}, Al (fun x v => t.rep F v x) xs vs → Reps F (xs.map fun x => (⟨t, x⟩ : Dv)) vs
  | _, _, .nil => .nil
  | _, _, .cons r h => .cons r (al_unmap h)
theorem al_int {F : Hp} : ∀ {xs : List Int} {vs : List V}, Al (fun x v => tInt.rep F v x) xs vs → vs = xs.map V.int
  | _, _, .nil => rfl
  | _, _, .cons r h => by
    rw [List.map_cons, ← al_int h]
    cases r
    rfl
theorem row_tup {xs : List α} : ∀ F v, (RowT (xs.map fun x => (⟨t, x⟩ : Dv))).rep F v () → (tTupl t).rep F v xs := fun F v ⟨a, vs, h1, h2, h3⟩ => ⟨a, vs, h1, h2, al_map h3⟩
theorem row_pair : ∀ F v, (RowT [⟨t, x⟩, ⟨u, y⟩]).rep F v () → (tPair t u).rep F v (x, y) := fun F v ⟨a, vs, h1, h2, h3⟩ => by
  cases h3 with
  | cons p q => cases q with
    | cons p' q' =>
      cases q'
      exact ⟨a, _, _, h1, h2, p, p'⟩
theorem row_tri : ∀ F v, (RowT [⟨t, x⟩, ⟨u, y⟩, ⟨w, z⟩]).rep F v () → (tTri t u w).rep F v (x, y, z) := fun F v ⟨a, vs, h1, h2, h3⟩ => by
  cases h3 with
  | cons p q => cases q with
    | cons p' q' => cases q' with
      | cons p2 q2 =>
        cases q2
        exact ⟨a, _, _, _, h1, h2, p, p', p2⟩
theorem den_n {ds : List Dv} {xs : List α} (h : DenN te Γ ds Γ') (e : ds = xs.map fun x => ⟨t, x⟩) : Den te Γ (tList t) xs Γ' := fun Z F σ H hh Q q => h Z F σ H hh Q fun p vs F' H' h' pr np fp hp rr => by
  rw [e] at rr
  have ff : Ex F' (upd F' p (.lst vs)) := Ex.new fp
  have no : ∀ j, ¬ OwnAt Γ' σ j p := fun j w => hh.notOwn np j (pr.ow j p w)
  refine q _ _ _ (h'.freezeP (hh.fresh np) no fp hp) ⟨pr.ff.trans ff, fun b o hb n nt nn => ?_, pr.ow, pr.th⟩ ⟨p, vs, rfl, upd_same, (al_map rr).map fun _ _ z => t.mono ff z⟩
  obtain ⟨n1, k1⟩ := pr.keep b o hb n nt nn
  have zz : b ≠ p := ne_of_none hb np
  rw [upd_ne zz]
  exact ⟨n1, k1⟩
/-! ### without any change of owned things -/
def Pu {α : Type} (te : TE) (Γ : List Slot) (t : Ty α) (x : α) : Prop := ∀ (Z : En) F σ H, Holds Z Γ F σ H → ∀ Q : VK, (∀ v F' H', Step NoO F H F' H' → t.rep F' v x → Q v H') → te σ H Q
theorem Pu.den (h : Pu te Γ t x) : Den te Γ t x Γ := fun Z F σ H hh Q q => h Z F σ H hh Q fun v F' H' k r => q v F' H' (hh.step k) (Pres.step k) r
theorem pu_var {i : Nat} (e : Γ[i]? = some (.val ⟨t, x⟩)) : Pu (tVar i) Γ t x := fun Z F σ H hh Q q => by
  obtain ⟨v, h1, h2⟩ := hh.val e
  exact ⟨v, h1, q v F H (Step.refl hh.fh) h2⟩
theorem pu_int {i : Int} : Pu (tC (.int i)) Γ tInt i := fun Z F σ H hh Q q => q _ F H (Step.refl hh.fh) rfl
theorem pu_op (ha : Pu ta Γ t x) (hb : Pu tb Γ u y) (hr : Op2 r t x u y w z) : Pu (tOp r ta tb) Γ w z := fun Z F σ H hh Q q =>
  ha Z F σ H hh _ fun v1 F1 H1 k1 r1 => hb Z F1 σ H1 (hh.step k1) _ fun v2 F2 H2 k2 r2 => hr F2 H2 v1 v2 ((hh.step k1).step k2).fh (t.mono k2.ff r1) r2 Q fun v F3 H3 k r3 => q v F3 H3 ((k1.trans k2).trans k) r3
theorem pu_un {r : V → Hp → VK → Prop} (ha : Pu ta Γ t x) (hr : Op1 r t x w z) : Pu (tUn r ta) Γ w z := fun Z F σ H hh Q q =>
  ha Z F σ H hh _ fun v1 F1 H1 k1 r1 => hr F1 H1 v1 (hh.step k1).fh r1 Q fun v F3 H3 k r3 => q v F3 H3 (k1.trans k) r3
/-- a list or a tuple to be read -/
def DenQ {α : Type} (te : TE) (Γ : List Slot) (t : Ty α) (xs : List α) (Γ' : List Slot) : Prop := ∀ (Z : En) F σ H, Holds Z Γ F σ H → ∀ Q : VK, (∀ a vs F' H', Holds Z Γ' F' σ H' → Pres Γ Γ' σ F H F' H' → (H' a = some (.lst vs) ∨ H' a = some (.tup vs)) → Al (fun x v => t.rep F' v x) xs vs → Q (.ref a) H') → te σ H Q
def DenU {α : Type} (te : TE) (Γ : List Slot) (t : Ty α) (xs : List α) (Γ' : List Slot) : Prop := ∀ (Z : En) F σ H, Holds Z Γ F σ H → ∀ Q : VK, (∀ a vs F' H', Holds Z Γ' F' σ H' → Pres Γ Γ' σ F H F' H' → H' a = some (.tup vs) → Al (fun x v => t.rep F' v x) xs vs → Q (.ref a) H') → te σ H Q
theorem DenL.q {xs : List α} (h : DenL te Γ t xs Γ') : DenQ te Γ t xs Γ' := fun Z F σ H hh Q q => h Z F σ H hh Q fun a vs F' H' h' p e r => q a vs F' H' h' p (.inl e) r
theorem DenU.q {xs : List α} (h : DenU te Γ t xs Γ') : DenQ te Γ t xs Γ' := fun Z F σ H hh Q q => h Z F σ H hh Q fun a vs F' H' h' p e r => q a vs F' H' h' p (.inr e) r
theorem den_u {xs : List α} (h : Den te Γ (tTupl t) xs Γ') : DenU te Γ t xs Γ' := fun Z F σ H hh Q q => h Z F σ H hh Q fun v F' H' h' p r => by
  obtain ⟨a, vs, rfl, e, rr⟩ := r
  exact q a vs F' H' h' p (h'.fh _ _ e) rr
theorem sq_or {K : PySem.W.Frag} {H : Hp} {a : Addr} {vs : List V} (h : H a = some (.lst vs) ∨ H a = some (.tup vs)) : SqL K H a vs ∨ SqT K H a vs := h.elim (fun h => .inl (sq_of h)) fun h => .inr (st_of h)
def rLenQ (K : PySem.W.Frag) : List V → Hp → VK → Prop := fun xs H Q => ∃ p ys, xs = [.ref p] ∧ (SqL K H p ys ∨ SqT K H p ys) ∧ Q (.int ys.length) H
theorem den_len {K : PySem.W.Frag} {xs : List α} (h : DenQ ta Γ t xs Γ1) : Den (tCB (fun xs H Q => ∃ p ys, xs = [.ref p] ∧ (SqL K H p ys ∨ SqT K H p ys) ∧ Q (.int ys.length) H) (tCons ta tNil)) Γ tInt (xs.length : Int) Γ1 := fun Z F σ H hh Q q =>
  h Z F σ H hh _ fun a vs F' H' h' p e r => ⟨a, vs, rfl, sq_or e, q _ F' H' h' p (by rw [r.len]; rfl)⟩
theorem den_sum {K : PySem.W.Frag} {xs : List Int} (h : DenQ ta Γ tInt xs Γ1) : Den (tCB (fun vs H Q => ∃ (a : Addr) (ns : List Int), vs = [V.ref a] ∧ (SqL K H a (ns.map V.int) ∨ SqT K H a (ns.map V.int)) ∧ Q (.int ns.sum) H) (tCons ta tNil)) Γ tInt xs.sum Γ1 := fun Z F σ H hh Q q =>
  h Z F σ H hh _ fun a vs F' H' h' p e r => by
    have ev : vs = xs.map V.int := al_int r
    subst ev
    exact ⟨a, xs, rfl, sq_or e, q _ F' H' h' p rfl⟩
/-! ### subscripts -/
theorem atI_get {α : Type _} {xs : List α} {i : Int} (h0 : 0 ≤ i) {x : α} (hx : xs[i.toNat]? = some x) : atI xs i = some x := by
  have hl := (List.getElem?_eq_some_iff.mp hx).1
  unfold atI ixN
  rw [if_pos h0, if_pos (by omega)]
  exact hx
theorem den_ixL {K : PySem.W.Frag} {xs : List α} {i : Int} (ha : DenL ta Γ t xs Γ1) (hb : Pu tb Γ1 tInt i) (h0 : 0 ≤ i) (hx : xs[i.toNat]? = some x) : Den (tOp (rIxL K) ta tb) Γ t x Γ1 := fun Z F σ H hh Q q =>
  ha Z F σ H hh _ fun a vs F1 H1 h1 p e r => hb Z F1 σ H1 h1 _ fun v2 F2 H2 k r2 => by
    cases r2
    obtain ⟨v, hv, rv⟩ := r.get hx
    exact ⟨a, vs, i, v, rfl, rfl, sq_of (k.hh h1.fh a _ e), atI_get h0 hv, q v F2 H2 (h1.step k) (p.trans (Pres.step k)) (t.mono k.ff rv)⟩
theorem den_ixT {K : PySem.W.Frag} {xs : List α} {i : Int} (ha : DenU ta Γ t xs Γ1) (hb : Pu tb Γ1 tInt i) (h0 : 0 ≤ i) (hx : xs[i.toNat]? = some x) : Den (tOp (rIxT K) ta tb) Γ t x Γ1 := fun Z F σ H hh Q q =>
  ha Z F σ H hh _ fun a vs F1 H1 h1 p e r => hb Z F1 σ H1 h1 _ fun v2 F2 H2 k r2 => by
    cases r2
    obtain ⟨v, hv, rv⟩ := r.get hx
    exact ⟨a, vs, i, v, rfl, rfl, st_of (k.hh h1.fh a _ e), atI_get h0 hv, q v F2 H2 (h1.step k) (p.trans (Pres.step k)) (t.mono k.ff rv)⟩
/-- a frozen list, an index that may change owned things -/
theorem den_ixLM {K : PySem.W.Frag} {xs : List α} {i : Int} (ha : Den ta Γ (tList t) xs Γ1) (hb : Den tb Γ1 tInt i Γ2) (h0 : 0 ≤ i) (hx : xs[i.toNat]? = some x) : Den (tOp (rIxL K) ta tb) Γ t x Γ2 := fun Z F σ H hh Q q =>
  ha Z F σ H hh _ fun v1 F1 H1 h1 p r => hb Z F1 σ H1 h1 _ fun v2 F2 H2 h2 p2 r2 => by
    obtain ⟨a, vs, rfl, e, rr⟩ := (tList t).mono p2.ff r
    cases r2
    obtain ⟨v, hv, rv⟩ := rr.get hx
    exact ⟨a, vs, i, v, rfl, rfl, sq_of (h2.fh _ _ e), atI_get h0 hv, q v F2 H2 h2 (p.trans p2) rv⟩
/-- an owned list of unlike items -/
theorem den_ixH {K : PySem.W.Frag} {i : Nat} {k : Int} {oa : Option Addr} (e : Γ[i]? = some (.own oa ds)) (hx : ds[k.toNat]? = some ⟨t, x⟩) (h0 : 0 ≤ k := by decide) : Den (tOp (rIxL K) (tVar i) (tC (.int k))) Γ t x Γ := fun Z F σ H hh Q q => by
  obtain ⟨a, h1, ⟨_, _, vs, h2, h3⟩, _⟩ := hh.owned e rfl
  obtain ⟨v, hv, rv⟩ := h3.get hx
  exact ⟨_, h1, a, vs, k, v, rfl, rfl, sq_of h2, atI_get h0 hv, q v F H hh Pres.refl rv⟩
theorem den_fst {K : PySem.W.Frag} {z : α × β} (ha : Den ta Γ (tPair t u) z Γ1) : Den (tOp (rIxT K) ta (tC (.int 0))) Γ t z.1 Γ1 := fun Z F σ H hh Q q =>
  ha Z F σ H hh _ fun v1 F1 H1 h1 p r => by
    obtain ⟨a, v1, v2, rfl, e, r1, r2⟩ := r
    exact ⟨a, _, 0, v1, rfl, rfl, st_of (h1.fh _ _ e), rfl, q _ F1 H1 h1 p r1⟩
theorem den_snd {K : PySem.W.Frag} {z : α × β} (ha : Den ta Γ (tPair t u) z Γ1) : Den (tOp (rIxT K) ta (tC (.int 1))) Γ u z.2 Γ1 := fun Z F σ H hh Q q =>
  ha Z F σ H hh _ fun v1 F1 H1 h1 p r => by
    obtain ⟨a, v1, v2, rfl, e, r1, r2⟩ := r
    exact ⟨a, _, 1, v2, rfl, rfl, st_of (h1.fh _ _ e), rfl, q _ F1 H1 h1 p r2⟩
/-! ### new lists, tuples out of elder ones -/
theorem den_list {K : PySem.W.Frag} {xs : List α} (h : DenQ ta Γ t xs Γ1) : DenN (tCB (fun xs H Q => ∃ p ys, xs = [.ref p] ∧ (SqL K H p ys ∨ SqT K H p ys) ∧ ∀ l, H l = none → Q (.ref l) (upd H l (.lst ys))) (tCons ta tNil)) Γ (xs.map fun x => ⟨t, x⟩) Γ1 := fun Z F σ H hh Q q =>
  h Z F σ H hh _ fun a vs F' H' h' p e r => ⟨a, vs, rfl, sq_or e, fun l nl => new_q q h' p nl (al_unmap r)⟩
theorem dn_l {xs : List α} (h : DenN te Γ (xs.map fun x => (⟨t, x⟩ : Dv)) Γ') : DenL te Γ t xs Γ' := den_l (den_n h rfl)
theorem den_tuple {K : PySem.W.Frag} {xs : List α} (h : DenL ta Γ t xs Γ1) : Den (tCB (fun xs H Q => ∃ p ys, xs = [.ref p] ∧ ((SqL K H p ys ∧ ∀ l, H l = none → Q (.ref l) (upd H l (.tup ys))) ∨ (SqT K H p ys ∧ Q (.ref p) H))) (tCons ta tNil)) Γ (tTupl t) xs Γ1 := fun Z F σ H hh Q q =>
  h Z F σ H hh _ fun a vs F' H' h' p e r => ⟨a, vs, rfl, .inl ⟨sq_of e, fun l nl => by
    have k : Step NoO F' H' (upd F' l (.tup vs)) (upd H' l (.tup vs)) := Step.new h'.fh nl
    exact q _ _ _ (h'.step k) (p.trans (Pres.step k)) ⟨l, vs, rfl, upd_same, r.map fun _ _ z => t.mono k.ff z⟩⟩⟩
def PuO (to : TO) (Γ : List Slot) (o : Option Int) : Prop := ∀ (Z : En) F σ H, Holds Z Γ F σ H → ∀ Q : Option Int → Hp → Prop, (∀ F' H', Step NoO F H F' H' → Q o H') → to σ H Q
theorem po_no : PuO tNoPart Γ none := fun Z F σ H hh Q q => q F H (Step.refl hh.fh)
theorem po_part {i : Int} (h : Pu te Γ tInt i) : PuO (tPart te) Γ (some i) := fun Z F σ H hh Q q => h Z F σ H hh _ fun v F' H' k r => ⟨i, r, q F' H' k⟩
theorem dn_slice {K : PySem.W.Frag} {xs : List α} {lo hi : Option Int} {tl th : TO} (ha : DenL ta Γ t xs Γ1) (hl : PuO tl Γ1 lo) (hh' : PuO th Γ1 hi) :
    DenN (tSl (rSlL K) ta tl th) Γ (((xs.drop (HT.sIx xs.length 0 lo)).take (HT.sIx xs.length xs.length hi - HT.sIx xs.length 0 lo)).map fun x => ⟨t, x⟩) Γ1 := fun Z F σ H hh Q q =>
  ha Z F σ H hh _ fun a vs F1 H1 h1 p e r => hl Z F1 σ H1 h1 _ fun F2 H2 k2 => hh' Z F2 σ H2 (h1.step k2) _ fun F3 H3 k3 => by
    have k := k2.trans k3
    refine ⟨a, vs, rfl, sq_of (k.hh h1.fh a _ e), fun l nl => ?_⟩
    refine new_q q (h1.step k) (p.trans (Pres.step k)) nl ?_
    have r3 : Al (fun x v => t.rep F3 v x) xs vs := r.map fun _ _ z => t.mono k.ff z
    have r4 := (r3.drop (HT.sIx xs.length 0 lo)).take (HT.sIx xs.length xs.length hi - HT.sIx xs.length 0 lo)
    have e1 : cutV vs lo hi = (vs.drop (HT.sIx xs.length 0 lo)).take (HT.sIx xs.length xs.length hi - HT.sIx xs.length 0 lo) := by
      unfold cutV
      rw [← r.len]
    rw [e1]
    exact al_unmap r4
/-- xs + ys: both frozen | the left one new -/
theorem dn_cat {xs ys : List α} (ha : Den ta Γ (tList t) xs Γ1) (hb : Den tb Γ1 (tList t) ys Γ2) (hl : xs.length + ys.length ≤ 100000) : DenN (tOp rCat ta tb) Γ ((xs ++ ys).map fun x => ⟨t, x⟩) Γ2 := fun Z F σ H hh Q q =>
  ha Z F σ H hh _ fun v1 F1 H1 h1 p r => hb Z F1 σ H1 h1 _ fun v2 F2 H2 h2 p2 r2 => by
    obtain ⟨a, vs, rfl, e, rr⟩ := (tList t).mono p2.ff r
    obtain ⟨b, us, rfl, e2, rr2⟩ := r2
    refine ⟨a, b, vs, us, rfl, rfl, h2.fh _ _ e, h2.fh _ _ e2, sz_of (by rw [← rr.len, ← rr2.len]; exact hl), fun l nl => new_q q h2 (p.trans p2) nl (al_unmap (rr.app rr2))⟩
end
end DL

set_option maxRecDepth 100000
/-! DS: calls, instances, statements, loops, comprehensions over typed data. -/
namespace DL
open PySem L2 Evl
section
variable {α β γ : Type} {t : Ty α} {u : Ty β} {w : Ty γ} {x : α} {y : β} {z : γ} {Γ Γ' Γ1 Γ2 Γ3 : List Slot} {ta tb tc te : TE} {tt uu : TT} {r : R2} {ds es : List Dv} {K : PySem.W.Frag}
/-! ### promises -/
/-- S: what is given back; R: what is raised -/
def spP (S : List Dv → Dv → Prop) (R : List Dv → Value → Prop) : Sp := fun vs H Q E => ∃ F ds, Ex F H ∧ Reps F ds vs ∧
  ((∃ r, S ds r ∧ ∀ v F' H', Step NoO F H F' H' → r.rep F' v → Q v H') ∨ (∃ c, R ds c ∧ ∀ F' H', Step NoO F H F' H' → E c none H'))
abbrev NoR : List Dv → Value → Prop := fun _ _ => False
/-- a new open list is given back -/
def spN (S : List Dv → List Dv → Prop) : Sp := fun vs H Q E => ∃ F ds, Ex F H ∧ Reps F ds vs ∧ ∃ r, S ds r ∧ ∀ p us F' H', Step NoO F H F' H' → H p = none → F' p = none → H' p = some (.lst us) → Reps F' r us → Q (.ref p) H'
/-- the first argument is an owned list, which changes -/
def spM (S : List Dv → List Dv → List Dv → Dv → Prop) : Sp := fun vs H Q E => ∃ F a us args ps ds, vs = .ref a :: args ∧ Ex F H ∧ F a = none ∧ H a = some (.lst us) ∧ Reps F ps us ∧ Reps F ds args ∧
  ∃ ps' r, S ps ds ps' r ∧ ∀ v F' H' us', Step (fun b => b = a) F H F' H' → F' a = none → H' a = some (.lst us') → Reps F' ps' us' → r.rep F' v → Q v H'
/-- __init__: S gives the fields -/
def spI (C : Addr) (S : List Dv → List (Str × Dv) → Prop) (R : List Dv → Value → Prop) : Sp := fun vs H Q E => ∃ F x dx args ds, vs = .ref x :: args ∧ Ex F H ∧ F x = none ∧ F dx = some (.own x) ∧ H x = some (.ins C dx []) ∧ Reps F ds args ∧
  ((∃ fs, S ds fs ∧ ∀ F' H' dx' us, Step (fun b => b = x) F H F' H' → F' x = none → F' dx' = some (.own x) → H' x = some (.ins C dx' us) → RepF F' fs us → Q .non H') ∨ (∃ c, R ds c ∧ ∀ F' H', Step (fun b => b = x) F H F' H' → E c none H'))

def SpV (sp : Sp) (ds : List Dv) (w : Ty γ) (z : γ) : Prop := ∀ F H vs, Ex F H → Reps F ds vs → ∀ (Q : VK) (E : XK), (∀ v F' H', Step NoO F H F' H' → w.rep F' v z → Q v H') → sp vs H Q E
def SpX (sp : Sp) (ds : List Dv) (c : Value) : Prop := ∀ F H vs, Ex F H → Reps F ds vs → ∀ (Q : VK) (E : XK), (∀ F' H', Step NoO F H F' H' → E c none H') → sp vs H Q E
theorem spP_v {S : List Dv → Dv → Prop} {R : List Dv → Value → Prop} (h : S ds ⟨w, z⟩) : SpV (spP S R) ds w z := fun F H vs e r Q E q => ⟨F, ds, e, r, .inl ⟨⟨w, z⟩, h, q⟩⟩
theorem spP_x {S : List Dv → Dv → Prop} {R : List Dv → Value → Prop} {c : Value} (h : R ds c) : SpX (spP S R) ds c := fun F H vs e r Q E q => ⟨F, ds, e, r, .inr ⟨c, h, q⟩⟩
/-! ### calls -/
theorem den_call {sp : Sp} {E : XK} {tr : TA} (h : DenA tr Γ ds Γ1) (hs : SpV sp ds w z) : Den (tCall sp [] E tr) Γ w z Γ1 := fun Z F σ H hh Q q =>
  h Z F σ H hh _ fun vs F1 H1 h1 p1 r1 => by
    rw [List.append_nil]
    exact hs F1 H1 vs h1.fh r1 Q E fun v F3 H3 k r3 => q v F3 H3 (h1.step k) (p1.trans (Pres.step k)) r3
/-- with defaults -/
theorem den_callD {sp : Sp} {E : XK} {tr : TA} {dvs : List V} (h : DenA tr Γ ds Γ1) (hd : ∀ F, Reps F es dvs) (hs : SpV sp (ds ++ es) w z) : Den (tCall sp dvs E tr) Γ w z Γ1 := fun Z F σ H hh Q q =>
  h Z F σ H hh _ fun vs F1 H1 h1 p1 r1 => hs F1 H1 (vs ++ dvs) h1.fh (r1.app (hd F1)) Q E fun v F3 H3 k r3 => q v F3 H3 (h1.step k) (p1.trans (Pres.step k)) r3
theorem pu_call {sp : Sp} {E : XK} {tr : TA} (h : ∀ (Z : En) F σ H, Holds Z Γ F σ H → ∀ Q : List V → Hp → Prop, (∀ vs F' H', Step NoO F H F' H' → Reps F' ds vs → Q vs H') → tr σ H Q) (hs : SpV sp ds w z) : Pu (tCall sp [] E tr) Γ w z := fun Z F σ H hh Q q =>
  h Z F σ H hh _ fun vs F1 H1 k1 r1 => by
    rw [List.append_nil]
    exact hs F1 H1 vs (hh.step k1).fh r1 Q E fun v F3 H3 k r3 => q v F3 H3 (k1.trans k) r3
theorem dn_call {S : List Dv → List Dv → Prop} {E : XK} {tr : TA} (h : DenA tr Γ ds Γ1) (hs : S ds es) : DenN (tCall (spN S) [] E tr) Γ es Γ1 := fun Z F σ H hh Q q =>
  h Z F σ H hh _ fun vs F1 H1 h1 p1 r1 => by
    rw [List.append_nil]
    exact ⟨F1, ds, h1.fh, r1, es, hs, fun p us F' H' k np fp hp rr => q p us F' H' (h1.step k) (p1.trans (Pres.step k)) (p1.new np) fp hp rr⟩
/-- the owned list of slot i goes in and is changed -/
theorem den_callM {S : List Dv → List Dv → List Dv → Dv → Prop} {E : XK} {tr : TA} {i : Nat} {ps ps' : List Dv} {oa : Option Addr} (e : Γ[i]? = some (.own oa ps)) (h : DenA tr Γ ds Γ) (hs : S ps ds ps' ⟨w, z⟩) (e' : Γ.set i (.own oa ps') = Γ1) :
    Den (tCall (spM S) [] E (tCons (tVar i) tr)) Γ w z Γ1 := fun Z F σ H hh Q q => by
  obtain ⟨a, h1, _, o1⟩ := hh.owned e rfl
  refine ⟨_, h1, ?_⟩
  refine h Z F σ H hh _ fun vs F1 H1 h2 p1 r1 => ?_
  obtain ⟨a', h1', ⟨n1, ad, us, hu, ru⟩, o2⟩ := h2.owned e rfl
  rw [h1] at h1'
  cases h1'
  rw [List.append_nil]
  refine ⟨F1, a, us, vs, ps, ds, rfl, h2.fh, n1, hu, ru, r1, ps', ⟨w, z⟩, hs, fun v F' H' us' k n' hu' ru' rv => ?_⟩
  -- the heap as it was at a
  have k0 : Step NoO F1 H1 F' (upd H' a (.lst us)) := by
    refine ⟨k.ff, fun b o q => ?_, fun b o q n => ?_⟩
    · have : b ≠ a := fun z => by rw [z, n'] at q; cases q
      rw [upd_ne this]
      exact k.fh b o q
    · obtain ⟨n2, hn2, kk⟩ := k.keep b o q n
      by_cases zz : b = a
      · subst zz
        rw [hu] at q
        cases q
        exact ⟨n2, ⟨_, upd_same⟩, fun _ => upd_same⟩
      · rw [upd_ne zz]
        exact ⟨n2, hn2, fun _ => kk zz⟩
  have h3 := h2.step k0
  have o3 : OwnAt Γ σ i a := o2
  have h4 := h3.mut (s := .own oa ps') (o := .lst us') o3 ⟨n', ad, us', upd_same, ru'⟩
  have ee : upd (upd H' a (.lst us)) a (.lst us') = H' := by
    rw [upd_upd]
    funext b
    unfold upd
    split
    · rename_i zz
      rw [zz, hu']
    · rfl
  rw [ee, e'] at h4
  have ow : ∀ j b, OwnAt Γ1 σ j b → OwnAt Γ σ j b := fun j b wo => by
    subst e'
    by_cases zz : i = j
    · subst zz
      exact ⟨⟨_, e, rfl⟩, wo.2⟩
    · obtain ⟨⟨s, e1, e2⟩, e3⟩ := wo
      rw [List.getElem?_set_ne zz] at e1
      exact ⟨⟨s, e1, e2⟩, e3⟩
  have pp : Pres Γ Γ1 σ F1 H1 F' H' := ⟨k.ff, fun b o q n nt no => by
    obtain ⟨n2, _, kk⟩ := k.keep b o q n
    have e2 := kk fun zz => no i (zz ▸ o2)
    refine ⟨n2.elim id fun ⟨vs, z⟩ => ?_, e2⟩
    have e3 := k.fh b _ z
    rw [e2] at e3
    cases e3
    exact absurd rfl (nt vs), ow, fun b o q => by
    cases qf : F1 b with
    | none => exact (k.keep b o q qf).2.1
    | some o' => exact ⟨o', k.fh b o' (k.ff b o' qf)⟩⟩
  exact q v F' H' h4 (p1.trans pp) rv
/-! ### instances -/
/-- x of type t is an instance with the field f, which is y -/
def FldOf (K : PySem.W.Frag) (t : Ty α) (x : α) (f : Str) (u : Ty β) (y : β) : Prop := ∀ F v, t.rep F v x → ∃ a C dx fs b, v = .ref a ∧ F a = some (.ins C dx fs) ∧ Cls K C ∧ NoAttr K C f ∧ fs.lookup f = some b ∧ u.rep F b y
def InsOf (t : Ty α) (x : α) (C : Addr) (m : Str) : Prop := ∀ F v, t.rep F v x → ∃ a dx fs, v = .ref a ∧ F a = some (.ins C dx fs) ∧ fs.lookup m = none
theorem den_fld {f : Str} (ha : Den ta Γ t x Γ1) (hf : FldOf K t x f u y) : Den (tFld K ta f) Γ u y Γ1 := fun Z F σ H hh Q q =>
  ha Z F σ H hh _ fun v F1 H1 h1 p r => by
    obtain ⟨a, C, dx, fs, b, rfl, e, c, n, l, rb⟩ := hf F1 v r
    exact ⟨a, C, dx, fs, b, rfl, h1.fh _ _ e, c, n, l, q b F1 H1 h1 p rb⟩
theorem pu_fld {f : Str} (ha : Pu ta Γ t x) (hf : FldOf K t x f u y) : Pu (tFld K ta f) Γ u y := fun Z F σ H hh Q q =>
  ha Z F σ H hh _ fun v F1 H1 k r => by
    obtain ⟨a, C, dx, fs, b, rfl, e, c, n, l, rb⟩ := hf F1 v r
    exact ⟨a, C, dx, fs, b, rfl, (hh.step k).fh _ _ e, c, n, l, q b F1 H1 k rb⟩
theorem repf_lookup {F : Hp} {f : Str} {d : Dv} : ∀ {fs : List (Str × Dv)} {us : List (Str × V)}, RepF F fs us → fs.lookup f = some d → ∃ b, us.lookup f = some b ∧ d.rep F b
  | _, _, .nil, e => nomatch e
  | (g, d') :: fs, (g', b) :: us, .cons r h, e => by
    obtain ⟨r1, r2⟩ := r
    simp only at r1 r2
    subst r1
    rw [List.lookup_cons] at e ⊢
    cases q : (f == g) with
    | true =>
      rw [q] at e
      cases e
      exact ⟨b, rfl, r2⟩
    | false =>
      rw [q] at e
      exact repf_lookup h e
theorem den_fldO {f : Str} {i : Nat} {C : Addr} {oa : Option Addr} {fs : List (Str × Dv)} (e : Γ[i]? = some (.obj oa C fs)) (hl : fs.lookup f = some ⟨u, y⟩) (c : Cls K C) (n : NoAttr K C f) : Den (tFld K (tVar i) f) Γ u y Γ := fun Z F σ H hh Q q => by
  obtain ⟨a, h1, ⟨_, _, dx, us, _, h2, h3⟩, _⟩ := hh.owned e rfl
  obtain ⟨b, hb, rb⟩ := repf_lookup h3 hl
  exact ⟨_, h1, a, C, dx, us, b, rfl, h2, c, n, hb, q b F H hh Pres.refl rb⟩
theorem den_meth {sp : Sp} {E : XK} {tr : TA} {C : Addr} {m : Str} (ha : Den ta Γ t x Γ1) (hi : InsOf t x C m) (h : DenA tr Γ1 ds Γ2) (hs : SpV sp (⟨t, x⟩ :: ds) w z) : Den (tMeth C m sp [] E ta tr) Γ w z Γ2 := fun Z F σ H hh Q q =>
  ha Z F σ H hh _ fun v F1 H1 h1 p1 r1 => by
    obtain ⟨a, dx, fs, rfl, e, l⟩ := hi F1 v r1
    refine ⟨a, dx, fs, rfl, h1.fh _ _ e, l, ?_⟩
    refine h Z F1 σ H1 h1 _ fun vs F2 H2 h2 p2 r2 => ?_
    rw [List.append_nil]
    exact hs F2 H2 _ h2.fh (.cons (t.mono p2.ff r1) r2) Q E fun v F3 H3 k r3 => q v F3 H3 (h2.step k) ((p1.trans p2).trans (Pres.step k)) r3
/-- the data type of an instance whose fields are fs -/
def MkOf (C : Addr) (fs : List (Str × Dv)) (w : Ty γ) (z : γ) : Prop := ∀ F a dx us, F a = some (.ins C dx us) → F dx = some (.own a) → RepF F fs us → w.rep F (.ref a) z
theorem make_v {S : List Dv → List (Str × Dv) → Prop} {R : List Dv → Value → Prop} {C : Addr} {fs : List (Str × Dv)} {E : XK} {F H : Hp} {vs : List V} (hs : S ds fs) (hm : MkOf C fs w z) (e : Ex F H) (r : Reps F ds vs) (Q : VK) (q : ∀ v F' H', Step NoO F H F' H' → w.rep F' v z → Q v H') :
    ∀ x dx, H x = none → H dx = none → dx ≠ x → spI C S R (.ref x :: vs) (upd (upd H dx (.own x)) x (.ins C dx [])) (fun v H2 => v = .non ∧ Q (.ref x) H2) E := fun x dx nx nd ne => by
  have k1 : Step NoO F H (upd F dx (.own x)) (upd H dx (.own x)) := Step.new e nd
  have nx1 : upd H dx (.own x) x = none := by rw [upd_ne ne.symm]; exact nx
  have k2 : Step NoO F H (upd F dx (.own x)) (upd (upd H dx (.own x)) x (.ins C dx [])) := k1.trans (Step.open k1.fh nx1)
  have fx : upd F dx (.own x) x = none := ex_none k1.fh nx1
  refine ⟨upd F dx (.own x), x, dx, vs, ds, rfl, k2.fh, fx, upd_same, upd_same, r.mono k1.ff, .inl ⟨fs, hs, fun F' H' dx' us k n' ed e' rf => ⟨rfl, ?_⟩⟩⟩
  have k3 : Step NoO F H (upd F' x (.ins C dx' us)) H' := by
    refine ⟨(k1.ff.trans k.ff).trans (Ex.new n'), fun b o g => ?_, fun b o g n => ?_⟩
    · by_cases zz : b = x
      · rw [zz, upd_same] at g
        cases g
        rw [zz]
        exact e'
      · rw [upd_ne zz] at g
        exact k.fh b o g
    · have zz : b ≠ x := ne_of_none g nx
      obtain ⟨n2, h2, k2'⟩ := k2.keep b o g n
      rw [upd_ne zz]
      rcases n2 with n2 | ⟨vs, n2⟩
      · obtain ⟨n3, h3, k3'⟩ := k.keep b o (k2' fun z => z) n2
        exact ⟨n3, h3, fun _ => k3' zz⟩
      · have e1 := k2.fh b _ n2
        rw [k2' fun z => z] at e1
        cases e1
        have e2 := k.fh b _ (k.ff b _ n2)
        exact ⟨.inr ⟨vs, k.ff b _ n2⟩, ⟨_, e2⟩, fun _ => e2⟩
  exact q (.ref x) _ H' k3 (hm _ x dx' us upd_same (Ex.new n' _ _ ed) (rf.mono (Ex.new n')))
theorem make_x {S : List Dv → List (Str × Dv) → Prop} {R : List Dv → Value → Prop} {C : Addr} {c : Value} {E : XK} {F H : Hp} {vs : List V} (hs : R ds c) (e : Ex F H) (r : Reps F ds vs) (Q : VK) (q : ∀ F' H', Step NoO F H F' H' → E c none H') :
    ∀ x dx, H x = none → H dx = none → dx ≠ x → spI C S R (.ref x :: vs) (upd (upd H dx (.own x)) x (.ins C dx [])) (fun v H2 => v = .non ∧ Q (.ref x) H2) E := fun x dx nx nd ne => by
  have k1 : Step NoO F H (upd F dx (.own x)) (upd H dx (.own x)) := Step.new e nd
  have nx1 : upd H dx (.own x) x = none := by rw [upd_ne ne.symm]; exact nx
  have k2 : Step NoO F H (upd F dx (.own x)) (upd (upd H dx (.own x)) x (.ins C dx [])) := k1.trans (Step.open k1.fh nx1)
  have fx : upd F dx (.own x) x = none := ex_none k1.fh nx1
  refine ⟨upd F dx (.own x), x, dx, vs, ds, rfl, k2.fh, fx, upd_same, upd_same, r.mono k1.ff, .inr ⟨c, hs, fun F' H' k => q F' H' ?_⟩⟩
  refine ⟨k1.ff.trans k.ff, k.fh, fun b o g n => ?_⟩
  have zz : b ≠ x := ne_of_none g nx
  obtain ⟨n2, h2, k2'⟩ := k2.keep b o g n
  rcases n2 with n2 | ⟨vs, n2⟩
  · obtain ⟨n3, h3, k3'⟩ := k.keep b o (k2' fun z => z) n2
    exact ⟨n3, h3, fun _ => k3' zz⟩
  · have e1 := k2.fh b _ n2
    rw [k2' fun z => z] at e1
    cases e1
    have e2 := k.fh b _ (k.ff b _ n2)
    exact ⟨.inr ⟨vs, k.ff b _ n2⟩, ⟨_, e2⟩, fun _ => e2⟩
theorem den_make {S : List Dv → List (Str × Dv) → Prop} {R : List Dv → Value → Prop} {E : XK} {tr : TA} {C : Addr} {fs : List (Str × Dv)} {dvs : List V} (h : DenA tr Γ ds Γ1) (hd : ∀ F, Reps F es dvs) (hs : S (ds ++ es) fs) (hm : MkOf C fs w z) : Den (tMake C (spI C S R) dvs E tr) Γ w z Γ1 := fun Z F σ H hh Q q =>
  h Z F σ H hh _ fun vs F1 H1 h1 p1 r1 => make_v hs hm h1.fh (r1.app (hd F1)) Q fun v F' H' k rv => q v F' H' (h1.step k) (p1.trans (Pres.step k)) rv
theorem reps_nil {F : Hp} : Reps F [] [] := .nil
theorem den_make0 {S : List Dv → List (Str × Dv) → Prop} {R : List Dv → Value → Prop} {E : XK} {tr : TA} {C : Addr} {fs : List (Str × Dv)} (h : DenA tr Γ ds Γ1) (hs : S ds fs) (hm : MkOf C fs w z) : Den (tMake C (spI C S R) [] E tr) Γ w z Γ1 :=
  den_make (es := []) h (fun _ => .nil) (by rw [List.append_nil]; exact hs) hm
/-! ### what raises -/
/-- an expression that raises c: whatever is wanted behind it -/
def Bot (te : TE) (Γ : List Slot) (Γ' : List Slot) (E : XK) (c : Value) : Prop := ∀ (Z : En) F σ H, Holds Z Γ F σ H → (∀ F' H', Holds Z Γ' F' σ H' → E c none H') → ∀ Q : VK, te σ H Q
theorem bot_call {sp : Sp} {E : XK} {tr : TA} {c : Value} (h : DenA tr Γ ds Γ1) (hs : SpX sp ds c) : Bot (tCall sp [] E tr) Γ Γ1 E c := fun Z F σ H hh e Q =>
  h Z F σ H hh _ fun vs F1 H1 h1 p1 r1 => by
    rw [List.append_nil]
    exact hs F1 H1 vs h1.fh r1 Q E fun F3 H3 k => e F3 H3 (h1.step k)
theorem bot_make {S : List Dv → List (Str × Dv) → Prop} {R : List Dv → Value → Prop} {E : XK} {tr : TA} {C : Addr} {c : Value} {dvs : List V} (h : DenA tr Γ ds Γ1) (hd : ∀ F, Reps F es dvs) (hs : R (ds ++ es) c) : Bot (tMake C (spI C S R) dvs E tr) Γ Γ1 E c := fun Z F σ H hh e Q =>
  h Z F σ H hh _ fun vs F1 H1 h1 p1 r1 => make_x hs h1.fh (r1.app (hd F1)) Q fun F' H' k => e F' H' (h1.step k)
theorem bot_meth {sp : Sp} {E : XK} {tr : TA} {C : Addr} {m : Str} {c : Value} (ha : Den ta Γ t x Γ1) (hi : InsOf t x C m) (h : DenA tr Γ1 ds Γ2) (hs : SpX sp (⟨t, x⟩ :: ds) c) : Bot (tMeth C m sp [] E ta tr) Γ Γ2 E c := fun Z F σ H hh e Q =>
  ha Z F σ H hh _ fun v F1 H1 h1 p1 r1 => by
    obtain ⟨a, dx, fs, rfl, e1, l⟩ := hi F1 v r1
    refine ⟨a, dx, fs, rfl, h1.fh _ _ e1, l, ?_⟩
    refine h Z F1 σ H1 h1 _ fun vs F2 H2 h2 p2 r2 => ?_
    rw [List.append_nil]
    exact hs F2 H2 _ h2.fh (.cons (t.mono p2.ff r1) r2) Q E fun F3 H3 k => e F3 H3 (h2.step k)
end
end DL

set_option maxRecDepth 100000
/-! DT: statements, loops, comprehensions over typed data. -/
namespace DL
open PySem L2 Evl
/-- under the data Γ what is wanted holds -/
def OK (Z : En) (Γ : List Slot) (P : L2.St → Hp → Prop) : Prop := ∀ F σ H, Holds Z Γ F σ H → P σ H
section
variable {α β γ : Type} {t : Ty α} {u : Ty β} {w : Ty γ} {x : α} {y : β} {z : γ} {Z : En} {Γ Γ' Γ1 Γ2 Γ3 : List Slot} {ta tb tc te : TE} {tt uu : TT} {r : R2} {ds es : List Dv} {K : PySem.W.Frag} {D : Ends} {s1 s2 : TS} {i j : Nat}
theorem s_seq (h : OK Z Γ (s1 { D with nx := s2 D })) : OK Z Γ (tSeq s1 s2 D) := h
theorem s_nx (h : OK Z Γ D.nx) : OK Z Γ (tNext D) := h
theorem s_brk (h : OK Z Γ D.bk) : OK Z Γ (tBreak D) := h
theorem s_cont (h : OK Z Γ D.ct) : OK Z Γ (tCont D) := h
theorem s_weak {P : L2.St → Hp → Prop} (h : OK Z Γ' P) (k : Wk Γ Γ') : OK Z Γ P := fun F σ H hh => h F σ H (hh.weak k)
theorem s_set (h : Den te Γ t x Γ1) (k : OK Z (Γ1.set i (.val ⟨t, x⟩)) D.nx) : OK Z Γ (tAsg te (gName i) D) := fun F σ H hh =>
  h Z F σ H hh _ fun v F' H' h' p r => k F' _ H' (h'.set i r)
/-- the same, the datum a letter -/
theorem s_let (h : Den te Γ t x Γ1) (k : ∀ x', x' = x → OK Z (Γ1.set i (.val ⟨t, x'⟩)) D.nx) : OK Z Γ (tAsg te (gName i) D) := s_set h (k x rfl)
/-- a new list, owned | a list of unlike items -/
theorem s_setN {xs : List α} (h : DenN te Γ (xs.map fun x => ⟨t, x⟩) Γ1) (k : OK Z (Γ1.set i (.lst t xs)) D.nx) : OK Z Γ (tAsg te (gName i) D) := fun F σ H hh =>
  h Z F σ H hh _ fun p vs F' H' h' pr np fp hp rr => k F' _ _ (h'.setOwn i (hh.fresh np) (fun j w => hh.notOwn np j (pr.ow j p w)) ⟨fp, vs, hp, al_map rr⟩)
theorem s_setH (h : DenN te Γ ds Γ1) (k : OK Z (Γ1.set i (.own none ds)) D.nx) : OK Z Γ (tAsg te (gName i) D) := fun F σ H hh =>
  h Z F σ H hh _ fun p vs F' H' h' pr np fp hp rr => k F' _ _ (h'.setOwn i (hh.fresh np) (fun j w => hh.notOwn np j (pr.ow j p w)) ⟨fp, fun _ z => (nomatch z), vs, hp, rr⟩)
theorem s_drop (h : Den te Γ t x Γ1) (k : OK Z Γ1 D.nx) : OK Z Γ (tDrop te D) := fun F σ H hh => h Z F σ H hh _ fun v F' H' h' p r => k F' _ H' h'
theorem s_if {b : Bool} (h : DenT tt Γ b Γ1) (h1 : b = true → OK Z Γ1 (s1 D)) (h2 : b = false → OK Z Γ1 (s2 D)) : OK Z Γ (tIfS tt s1 s2 D) := fun F σ H hh => h Z F σ H hh _ fun F' H' h' p => by
  cases b with
  | true => exact h1 rfl F' σ H' h'
  | false => exact h2 rfl F' σ H' h'
/-- the value given back -/
theorem s_ret (h : Den te Γ t x Γ1) (k : ∀ F σ H v, Holds Z Γ1 F σ H → t.rep F v x → D.rt v H) : OK Z Γ (tRet te D) := fun F σ H hh => h Z F σ H hh _ fun v F' H' h' p r => k F' σ H' v h' r
theorem s_retN (h : DenN te Γ ds Γ1) (k : ∀ F σ H p vs, Holds Z Γ1 F σ H → Z.H p = none → F p = none → H p = some (.lst vs) → Reps F ds vs → D.rt (.ref p) H) : OK Z Γ (tRet te D) := fun F σ H hh => h Z F σ H hh _ fun p vs F' H' h' pr np fp hp rr => k F' σ H' p vs h' (hh.fresh np) fp hp rr
/-- an owned list of ours is given back, open -/
theorem s_retO {xs : List α} (e : Γ[i]? = some (.lst t xs)) (k : ∀ F σ H p vs, Holds Z Γ F σ H → (Z.O p ∨ Z.H p = none) → F p = none → H p = some (.lst vs) → Al (fun x v => t.rep F v x) xs vs → D.rt (.ref p) H) : OK Z Γ (tRet (tVar i) D) := fun F σ H hh => by
  obtain ⟨a, h1, ⟨n1, us, hu, ru⟩, o1⟩ := hh.owned e rfl
  exact ⟨_, h1, k F σ H a us hh (hh.ow i a o1) n1 hu ru⟩
theorem s_retNon (k : ∀ F σ H, Holds Z Γ F σ H → D.rt .non H) : OK Z Γ (tRetN D) := fun F σ H hh => k F σ H hh
/-- a raise -/
theorem s_bot {E : XK} {c : Value} (h : Bot te Γ Γ1 E c) (e : ∀ F σ H, Holds Z Γ1 F σ H → E c none H) : OK Z Γ (tDrop te D) := fun F σ H hh => h Z F σ H hh (fun F' H' h' => e F' σ H' h') _
theorem s_botA {E : XK} {c : Value} {g : TG} (h : Bot te Γ Γ1 E c) (e : ∀ F σ H, Holds Z Γ1 F σ H → E c none H) : OK Z Γ (tAsg te g D) := fun F σ H hh => h Z F σ H hh (fun F' H' h' => e F' σ H' h') _
theorem s_botR {E : XK} {c : Value} (h : Bot te Γ Γ1 E c) (e : ∀ F σ H, Holds Z Γ1 F σ H → E c none H) : OK Z Γ (tRet te D) := fun F σ H hh => h Z F σ H hh (fun F' H' h' => e F' σ H' h') _
/-- a += -/
theorem s_aug {f : Int → Int → Int} {a b : Int} (hx : Γ[i]? = some (.val ⟨tInt, a⟩)) (h : Den te Γ tInt b Γ1) (k : OK Z (Γ1.set i (.val ⟨tInt, f a b⟩)) D.nx) : OK Z Γ (tAug i te (ipI f) D) := fun F σ H hh => by
  obtain ⟨v, e, r⟩ := hh.val hx
  cases r
  exact ⟨_, e, h Z F σ H hh _ fun v F' H' h' p r' => ⟨a, b, rfl, r', k F' _ H' (h'.set i rfl)⟩⟩
/-! ### owned lists change -/
theorem s_app {xs : List α} (e : Γ[i]? = some (.lst t xs)) (h : Den te Γ t x Γ1) (e1 : Γ1[i]? = some (.lst t xs)) (hl : xs.length < 100000) (k : OK Z (Γ1.set i (.lst t (xs ++ [x]))) D.nx) : OK Z Γ (tDrop (tBM K "list" rAppend (tVar i) (tCons te tNil)) D) := fun F σ H hh => by
  obtain ⟨a, h1, ⟨_, vs, h2, h3⟩, _⟩ := hh.owned e rfl
  refine ⟨_, h1, .inl ⟨rfl, vs, sq_of h2⟩, ?_⟩
  refine h Z F σ H hh _ fun v F' H' h' p r => ?_
  obtain ⟨a', h1', ⟨n1, us, hu, ru⟩, o1⟩ := h'.owned e1 rfl
  rw [h1] at h1'
  cases h1'
  exact ⟨a, us, v, rfl, rfl, hu, sz_lt (by rw [← ru.len]; exact hl), k F' _ _ (h'.mut (s := .lst t (xs ++ [x])) o1 ⟨n1, _, upd_same, ru.app (.cons r .nil)⟩)⟩
theorem ixN_nat' {n : Nat} {k : Int} (h0 : 0 ≤ k) (h : k.toNat < n) : ixN n k = some k.toNat := by
  unfold ixN
  rw [if_pos h0, if_pos (by omega)]
theorem s_setIx {xs : List α} {k : Int} (h : Den te Γ t x Γ1) (e1 : Γ1[i]? = some (.lst t xs)) (hi : Pu tb Γ1 tInt k) (h0 : 0 ≤ k) (hk : k.toNat < xs.length) (kk : OK Z (Γ1.set i (.lst t (xs.set k.toNat x))) D.nx) : OK Z Γ (tAsg te (gSub (tVar i) tb rSetL) D) := fun F σ H hh => by
  refine h Z F σ H hh _ fun v F1 H1 h1 p r => ?_
  obtain ⟨a', h1', _, _⟩ := h1.owned e1 rfl
  refine ⟨_, h1', ?_⟩
  refine hi Z F1 σ H1 h1 _ fun v2 F2 H2 k2 r2 => ?_
  cases r2
  have h2 := h1.step k2
  obtain ⟨a, h1'', ⟨n1, us, hu, ru⟩, o1⟩ := h2.owned e1 rfl
  rw [h1'] at h1''
  cases h1''
  exact ⟨_, us, k, k.toNat, rfl, rfl, hu, ixN_nat' h0 (by rw [← ru.len]; exact hk), kk F2 _ _ (h2.mut (s := .lst t (xs.set k.toNat x)) o1 ⟨n1, _, upd_same, ru.set' _ (t.mono k2.ff r)⟩)⟩
theorem s_setIxH {k : Int} {oa : Option Addr} (h : Den te Γ t x Γ1) (e1 : Γ1[i]? = some (.own oa ds)) (h0 : 0 ≤ k) (hk : k.toNat < ds.length) (kk : OK Z (Γ1.set i (.own oa (ds.set k.toNat ⟨t, x⟩))) D.nx) : OK Z Γ (tAsg te (gSub (tVar i) (tC (.int k)) rSetL) D) := fun F σ H hh => by
  refine h Z F σ H hh _ fun v F1 H1 h1 p r => ?_
  obtain ⟨a, h1', ⟨n1, ad, us, hu, ru⟩, o1⟩ := h1.owned e1 rfl
  exact ⟨_, h1', _, us, k, k.toNat, rfl, rfl, hu, ixN_nat' h0 (by rw [← ru.len]; exact hk), kk F1 _ _ (h1.mut (s := .own oa (ds.set k.toNat ⟨t, x⟩)) o1 ⟨n1, ad, _, upd_same, ru.set' (y := v) _ r⟩)⟩
/-- an owned list of ours is frozen -/
theorem s_freeze {P : L2.St → Hp → Prop} {xs : List α} (e : Γ[i]? = some (.lst t xs)) (no : ∀ a σ, OwnAt Γ σ i a → (∀ j b, OwnAt Γ σ j b → OwnAt Γ σ i b → j = i) → ¬ Z.O a) (k : OK Z (Γ.set i (.val ⟨tList t, xs⟩)) P) : OK Z Γ P := fun F σ H hh => by
  obtain ⟨a, h1, ⟨n1, us, hu, ru⟩, o1⟩ := hh.owned e rfl
  obtain ⟨h', ff⟩ := hh.freeze (d := ⟨tList t, xs⟩) o1 (no a σ o1 fun j b w w' => hh.di j i b w w') hu ⟨a, us, rfl, upd_same, ru.map fun _ _ z => t.mono (Ex.new n1) z⟩
  exact k _ σ H h'
/-- a field of an owned instance -/
theorem al_lookup_none {F : Hp} {f : Str} : ∀ {fs : List (Str × Dv)} {us : List (Str × V)}, RepF F fs us → fs.lookup f = none → us.lookup f = none
  | _, _, .nil, _ => rfl
  | (g, d') :: fs, (g', b) :: us, .cons r h, e => by
    obtain ⟨r1, r2⟩ := r
    simp only at r1
    subst r1
    rw [List.lookup_cons] at e ⊢
    cases q : (f == g) with
    | true =>
      rw [q] at e
      cases e
    | false =>
      rw [q] at e
      exact al_lookup_none h e
def putD (f : Str) (d : Dv) : List (Str × Dv) → List (Str × Dv)
  | [] => [(f, d)]
  | (g, e) :: r => if g = f then (g, d) :: r else (g, e) :: putD f d r
theorem putD_rep {F : Hp} {f : Str} {d : Dv} {v : V} (r : d.rep F v) : ∀ {fs : List (Str × Dv)} {us : List (Str × V)}, RepF F fs us → RepF F (putD f d fs) (putF f v us)
  | _, _, .nil => .cons ⟨rfl, r⟩ .nil
  | (g, d') :: fs, (g', b) :: us, .cons r' h => by
    obtain ⟨r1, r2⟩ := r'
    simp only at r1 r2
    subst r1
    unfold putD putF
    by_cases q : g = f
    · rw [if_pos q, if_pos q]
      exact .cons ⟨rfl, r⟩ h
    · rw [if_neg q, if_neg q]
      exact .cons ⟨rfl, r2⟩ (putD_rep r h)
theorem s_fld {f : Str} {C : Addr} {oa : Option Addr} {fs : List (Str × Dv)} (h : Den te Γ t x Γ1) (e1 : Γ1[i]? = some (.obj oa C fs)) (c : Cls K C) (n : NoAttr K C f) (hl : fs.length < 1000) (k : OK Z (Γ1.set i (.obj oa C (putD f ⟨t, x⟩ fs))) D.nx) : OK Z Γ (sFld K (tVar i) te f D) := fun F σ H hh => by
  refine h Z F σ H hh _ fun v F1 H1 h1 p r => ?_
  obtain ⟨a, h1', ⟨n1, ad, dx, us, hd, hu, ru⟩, o1⟩ := h1.owned e1 rfl
  exact ⟨_, h1', a, C, dx, us, rfl, hu, c, n, by rw [← ru.len]; exact hl, k F1 _ _ (h1.mut (s := .obj oa C (putD f ⟨t, x⟩ fs)) o1 ⟨n1, ad, dx, _, hd, upd_same, putD_rep (d := ⟨t, x⟩) r ru⟩)⟩
/-! ### loops: G gives the data by the state, I what holds of the turn and the state -/
def LoopAt {S : Type} (Z : En) (G : S → List Slot) (I : Nat → S → Prop) (i : Nat) : L2.St → Hp → Prop := fun σ H => ∃ s F, I i s ∧ Holds Z (G s) F σ H
theorem s_next {S : Type} {G : S → List Slot} {I : Nat → S → Prop} {n : Nat} (s : S) (hi : I n s) (e : Wk Γ (G s)) : OK Z Γ (LoopAt Z G I n) := fun F σ H hh => ⟨s, F, hi, hh.weak e⟩
/-- over a frozen list; the body is shown under any lasting fact more -/
theorem s_forF {S : Type} {wl : TE} {xs : List α} (s0 : S) (G : S → List Slot) (I : Nat → S → Prop) (h : Den wl Γ (tList t) xs Γ1) (h0 : I 0 s0) (e0 : Wk Γ1 (G s0))
    (hs : ∀ Z' : En, (∀ {Γ F σ H}, Holds Z' Γ F σ H → Holds Z Γ F σ H) → ∀ n x s, xs[n]? = some x → I n s → OK Z' ((G s).set j (.val ⟨t, x⟩)) (s1 { D with nx := LoopAt Z' G I (n + 1), ct := LoopAt Z' G I (n + 1), bk := D.nx }))
    (hd : ∀ s, I xs.length s → OK Z (G s) D.nx) : OK Z Γ (tFor (iList K wl) (gName j) s1 D) := fun F σ H hh => by
  refine h Z F σ H hh _ fun v F1 H1 h1 p r => ?_
  obtain ⟨a, vs, rfl, e, rr⟩ := r
  have pm : ∀ {F F' : Hp}, Ex F F' → (F a = some (.lst vs) ∧ Al (fun x v => t.rep F v x) xs vs) → (F' a = some (.lst vs) ∧ Al (fun x v => t.rep F' v x) xs vs) := fun e h => ⟨e _ _ h.1, h.2.map fun _ _ z => t.mono e z⟩
  refine ⟨a, rfl, ⟨vs, sq_of (h1.fh _ _ e)⟩, for_list (K := K) (a := a) (xs := vs) (LoopAt (Z.more _ pm) G I) ⟨s0, F1, h0, (h1.weak e0).more ⟨e, rr⟩⟩ ?_ ?_ ?_⟩
  · rintro n σ' H' _ ⟨s, F', _, hs'⟩
    exact sq_of (hs'.fh _ _ hs'.pp.2.1)
  · rintro n x σ' H' hx ⟨s, F', hi, hs'⟩
    obtain ⟨y, hy, ry⟩ := hs'.pp.2.2.getR hx
    exact hs (Z.more _ pm) (fun h => h.less) n y s hy hi F' _ H' (hs'.set j ry)
  · rintro σ' H' ⟨s, F', hi, hs'⟩
    rw [← rr.len] at hi
    exact hd s hi F' σ' H' hs'.less
theorem s_forT {S : Type} {wl : TE} {xs : List α} (s0 : S) (G : S → List Slot) (I : Nat → S → Prop) (h : Den wl Γ (tTupl t) xs Γ1) (h0 : I 0 s0) (e0 : Wk Γ1 (G s0))
    (hs : ∀ Z' : En, (∀ {Γ F σ H}, Holds Z' Γ F σ H → Holds Z Γ F σ H) → ∀ n x s, xs[n]? = some x → I n s → OK Z' ((G s).set j (.val ⟨t, x⟩)) (s1 { D with nx := LoopAt Z' G I (n + 1), ct := LoopAt Z' G I (n + 1), bk := D.nx }))
    (hd : ∀ s, I xs.length s → OK Z (G s) D.nx) : OK Z Γ (tFor (iTup K wl) (gName j) s1 D) := fun F σ H hh => by
  refine h Z F σ H hh _ fun v F1 H1 h1 p r => ?_
  obtain ⟨a, vs, rfl, e, rr⟩ := r
  have pm : ∀ {F F' : Hp}, Ex F F' → (F a = some (.tup vs) ∧ Al (fun x v => t.rep F v x) xs vs) → (F' a = some (.tup vs) ∧ Al (fun x v => t.rep F' v x) xs vs) := fun e h => ⟨e _ _ h.1, h.2.map fun _ _ z => t.mono e z⟩
  refine ⟨a, rfl, ⟨vs, st_of (h1.fh _ _ e)⟩, for_tup (K := K) (a := a) (xs := vs) (LoopAt (Z.more _ pm) G I) ⟨s0, F1, h0, (h1.weak e0).more ⟨e, rr⟩⟩ ?_ ?_ ?_⟩
  · rintro n σ' H' _ ⟨s, F', _, hs'⟩
    exact st_of (hs'.fh _ _ hs'.pp.2.1)
  · rintro n x σ' H' hx ⟨s, F', hi, hs'⟩
    obtain ⟨y, hy, ry⟩ := hs'.pp.2.2.getR hx
    exact hs (Z.more _ pm) (fun h => h.less) n y s hy hi F' _ H' (hs'.set j ry)
  · rintro σ' H' ⟨s, F', hi, hs'⟩
    rw [← rr.len] at hi
    exact hd s hi F' σ' H' hs'.less
/-- over range(n), range(lo, n) -/
theorem s_forR {S : Type} {ta : TA} {n : Int} (s0 : S) (G : S → List Slot) (I : Nat → S → Prop) (h : DenA ta Γ [⟨tInt, n⟩] Γ1) (hn : n ≤ 1000000) (hm : -1000000 ≤ n) (h0 : I 0 s0) (e0 : Wk Γ1 (G s0))
    (hs : ∀ (k : Nat) s, (k : Int) < n → I k s → OK Z ((G s).set j (.val ⟨tInt, (k : Int)⟩)) (s1 { D with nx := LoopAt Z G I (k + 1), ct := LoopAt Z G I (k + 1), bk := D.nx }))
    (hd : ∀ s, I n.toNat s → OK Z (G s) D.nx) : OK Z Γ (tFor (iRng1 ta) (gName j) s1 D) := fun F σ H hh => by
  refine h Z F σ H hh _ fun vs F1 H1 h1 p r => ?_
  cases r with
  | cons r r' =>
    cases r'
    cases r
    refine ⟨n, rfl, by omega, by omega, for_range (lo := 0) (n := n.toNat) (LoopAt Z G I) ⟨s0, F1, h0, h1.weak e0⟩ ?_ ?_⟩
    · rintro k σ' H' hk ⟨s, F', hi, hs'⟩
      have e0 : (0 : Int) + (k : Int) = (k : Int) := Int.zero_add _
      rw [e0]
      exact hs k s (by omega) hi F' _ H' (hs'.set j rfl)
    · rintro σ' H' ⟨s, F', hi, hs'⟩
      exact hd s hi F' σ' H' hs'
theorem s_forR2 {S : Type} {ta : TA} {lo n : Int} (s0 : S) (G : S → List Slot) (I : Nat → S → Prop) (h : DenA ta Γ [⟨tInt, lo⟩, ⟨tInt, n⟩] Γ1) (hn : n ≤ 1000000) (hm : -1000000 ≤ n) (hn1 : lo ≤ 1000000) (hm1 : -1000000 ≤ lo) (h0 : I 0 s0) (e0 : Wk Γ1 (G s0))
    (hs : ∀ (k : Nat) s, lo + (k : Int) < n → I k s → OK Z ((G s).set j (.val ⟨tInt, lo + (k : Int)⟩)) (s1 { D with nx := LoopAt Z G I (k + 1), ct := LoopAt Z G I (k + 1), bk := D.nx }))
    (hd : ∀ s, I (n - lo).toNat s → OK Z (G s) D.nx) : OK Z Γ (tFor (iRng2 ta) (gName j) s1 D) := fun F σ H hh => by
  refine h Z F σ H hh _ fun vs F1 H1 h1 p r => ?_
  cases r with
  | cons r r' =>
    cases r' with
    | cons r2 r3 =>
      cases r3
      cases r
      cases r2
      refine ⟨lo, n, rfl, ⟨by omega, by omega, by omega, by omega⟩, for_range (lo := lo) (n := (n - lo).toNat) (LoopAt Z G I) ⟨s0, F1, h0, h1.weak e0⟩ ?_ ?_⟩
      · rintro k σ' H' hk ⟨s, F', hi, hs'⟩
        exact hs k s (by omega) hi F' _ H' (hs'.set j rfl)
      · rintro σ' H' ⟨s, F', hi, hs'⟩
        exact hd s hi F' σ' H' hs'
/-- while, m falls -/
theorem s_while {S : Type} (s0 : S) (G : S → List Slot) (I : S → Prop) (m : S → Nat) (h0 : I s0) (e0 : Wk Γ (G s0))
    (hs : ∀ s, I s → ∃ b Γ2, DenT tt (G s) b Γ2 ∧ (b = true → OK Z Γ2 (s1 { D with nx := fun σ H => ∃ s' F, I s' ∧ m s' < m s ∧ Holds Z (G s') F σ H, ct := fun σ H => ∃ s' F, I s' ∧ m s' < m s ∧ Holds Z (G s') F σ H, bk := D.nx })) ∧ (b = false → OK Z Γ2 D.nx)) : OK Z Γ (tWhile tt s1 D) := fun F σ H hh => by
  refine ⟨fun k σ' H' => ∃ s F', k = m s ∧ I s ∧ Holds Z (G s) F' σ' H', ⟨m s0, s0, F, rfl, h0, hh.weak e0⟩, ?_⟩
  rintro k σ' H' ⟨s, F', rfl, hi, h1⟩
  obtain ⟨b, Γ2, hb, ht, hf⟩ := hs s hi
  refine hb Z F' σ' H' h1 _ fun F2 H2 h2 p2 => ?_
  cases b with
  | true => exact ⟨_, fun σ3 H3 ⟨s', F3, i3, l3, h3⟩ => ⟨m s', l3, s', F3, rfl, i3, h3⟩, ht rfl F2 σ' H2 h2⟩
  | false => exact hf rfl F2 σ' H2 h2
/-! ### comprehensions: G gives the data by the turn, A the list so far -/
theorem wipe1 (σ : L2.St) (j : Nat) (x : V) : wipe ((wipe σ [j]).set j (some x)) [j] = wipe σ [j] := by
  show ((σ.set j none).set j (some x)).set j none = σ.set j none
  rw [List.set_set, List.set_set]
theorem set_get_ne {δ : Type _} {xs : List δ} {i j : Nat} {a : δ} (h : i ≠ j) : (xs.set j a)[i]? = xs[i]? := List.getElem?_set_ne fun e => h e.symm
theorem Holds.inC {Z : En} {Γ : List Slot} {F H : Hp} {σ : L2.St} {v : V} {d : Dv} (h : Holds Z Γ F σ H) (e : Γ[j]? = some .any) (r : d.rep F v) : Holds Z (Γ.set j (.val d)) F ((wipe σ [j]).set j (some v)) H := by
  have h1 : Holds Z Γ F (wipe σ [j]) H := h.other (by rw [wipe_length, h.len]) fun i s q => by
    by_cases z : i = j
    · subst z
      rw [e] at q
      cases q
      exact .inl rfl
    · exact .inr ⟨q, set_get_ne z⟩
  exact h1.set j r
theorem Holds.outC {Z : En} {Γ : List Slot} {F H : Hp} {σ : L2.St} {v : V} {d : Dv} (h : Holds Z (Γ.set j (.val d)) F ((wipe σ [j]).set j (some v)) H) (e : Γ[j]? = some .any) : Holds Z Γ F σ H :=
  h.other (by have := h.len; rw [List.length_set, List.length_set, wipe_length] at this; exact this) fun i s q => by
    by_cases z : i = j
    · subst z
      rw [e] at q
      cases q
      exact .inl rfl
    · refine .inr ⟨?_, ?_⟩
      · rw [set_get_ne z]
        exact q
      · rw [set_get_ne z]
        exact (set_get_ne z).symm
theorem ownC {Γ : List Slot} {σ : L2.St} {v : V} {d : Dv} {i : Nat} {a : Addr} (w : OwnAt (Γ.set j (.val d)) ((wipe σ [j]).set j (some v)) i a) : OwnAt Γ σ i a := by
  obtain ⟨⟨s, e, o⟩, e2⟩ := w
  by_cases z : i = j
  · subst z
    by_cases lt : i < Γ.length
    · rw [List.getElem?_set_self lt] at e
      cases e
      cases o
    · rw [List.getElem?_eq_none (by rw [List.length_set]; omega)] at e
      cases e
  · rw [set_get_ne z] at e e2
    have e3 : (wipe σ [j])[i]? = σ[i]? := set_get_ne z
    rw [e3] at e2
    exact ⟨⟨s, e, o⟩, e2⟩
theorem ownC' {Γ : List Slot} {σ : L2.St} {v : V} {d : Dv} {i : Nat} {a : Addr} (e0 : Γ[j]? = some .any) (w : OwnAt Γ σ i a) : OwnAt (Γ.set j (.val d)) ((wipe σ [j]).set j (some v)) i a := by
  obtain ⟨⟨s, e, o⟩, e2⟩ := w
  by_cases z : i = j
  · subst z
    rw [e0] at e
    cases e
    cases o
  · have e3 : (wipe σ [j])[i]? = σ[i]? := set_get_ne z
    refine ⟨⟨s, ?_, o⟩, ?_⟩
    · rw [set_get_ne z]
      exact e
    · rw [set_get_ne z, e3]
      exact e2
/-- what a turn of a comprehension keeps -/
structure LcI {β : Type} (Z : En) (u : Ty β) (Γ0 Γ : List Slot) (A : List β) (σ : L2.St) (F0 H0 : Hp) (D : Addr) (n : Nat) (H' : Hp) : Prop where
  ex : ∃ F' acc, Holds Z Γ F' σ H' ∧ Pres Γ0 Γ σ F0 H0 F' H' ∧ F' D = none ∧ H' D = some (.lst acc) ∧ Al (fun y v => u.rep F' v y) A acc
  le : A.length ≤ n
theorem LcI.start {β : Type} {u : Ty β} {σ : L2.St} {F H : Hp} {p : Addr} (h : Holds Z Γ F σ H) (n : H p = none) : LcI Z u Γ Γ ([] : List β) σ F H p 0 (upd H p (.lst [])) :=
  have st := Step.open (o := .lst []) h.fh n
  ⟨⟨F, [], h.step st, Pres.step st, ex_none h.fh n, upd_same, .nil⟩, Nat.le_refl _⟩
theorem LcI.turn {β : Type} {u : Ty β} {σ : L2.St} {F0 H0 H' : Hp} {p : Addr} {n : Nat} {A A' : List β} {d : Dv} {v : V} {Z0 : En} (h00 : Holds Z0 Γ F0 σ H0) (np : H0 p = none) (nz : Z.H p = none) (c : LcI Z u Γ Γ1 A σ F0 H0 p n H') (hn : n < 50000) (e1 : Γ1[j]? = some .any) (e3 : Γ3[j]? = some .any)
    (r : ∀ F', Z.P F' → d.rep F' v)
    (hs : ∃ b, DenT tt (Γ1.set j (.val d)) b Γ2 ∧ (b = true → ∃ y, Den te Γ2 u y (Γ3.set j (.val d)) ∧ A' = A ++ [y]) ∧ (b = false → Γ2 = Γ3.set j (.val d) ∧ A' = A)) :
    tt ((wipe σ [j]).set j (some v)) H' fun b H3 => if b = true then te ((wipe σ [j]).set j (some v)) H3 fun y H4 => ∃ acc, H4 p = some (.lst acc) ∧ acc.length < sizeLine ∧ LcI Z u Γ Γ3 A' σ F0 H0 p (n + 1) (upd H4 p (.lst (acc ++ [y]))) else LcI Z u Γ Γ3 A' σ F0 H0 p (n + 1) H3 := by
  obtain ⟨⟨F', acc, h, pr, fp, hp, al⟩, le⟩ := c
  obtain ⟨b, ht, hy, hf⟩ := hs
  have hc := h.inC e1 (r F' h.pp)
  have no1 : ∀ i, ¬ OwnAt (Γ1.set j (.val d)) ((wipe σ [j]).set j (some v)) i p := fun i w => h00.notOwn np i (pr.ow i p (ownC w))
  have conv : ∀ {Γa Γb : List Slot} {Fa Ha Fb Hb : Hp}, Pres (Γa.set j (.val d)) (Γb.set j (.val d)) ((wipe σ [j]).set j (some v)) Fa Ha Fb Hb → Γa[j]? = some .any → Γb[j]? = some .any → Pres Γa Γb σ Fa Ha Fb Hb := fun k ea eb =>
    ⟨k.ff, fun b o hb n nt no => k.keep b o hb n nt fun i w => no i (ownC w), fun i b w => ownC (k.ow i b (ownC' eb w)), k.th⟩
  refine ht Z F' _ H' hc _ fun F3 H3 h3 p3 => ?_
  obtain ⟨fp3, hp3⟩ := p3.keep p _ hp fp (fun _ z => nomatch z) no1
  cases b with
  | true =>
    obtain ⟨y, hden, eA⟩ := hy rfl
    show te ((wipe σ [j]).set j (some v)) H3 fun y H4 => ∃ acc, H4 p = some (.lst acc) ∧ acc.length < sizeLine ∧ LcI Z u Γ Γ3 A' σ F0 H0 p (n + 1) (upd H4 p (.lst (acc ++ [y])))
    refine hden Z F3 _ H3 h3 _ fun vy F4 H4 h4 p4 ry => ?_
    have no3 : ∀ i, ¬ OwnAt Γ2 ((wipe σ [j]).set j (some v)) i p := fun i w => no1 i (p3.ow i p w)
    obtain ⟨fp4, hp4⟩ := p4.keep p _ hp3 fp3 (fun _ z => nomatch z) no3
    have hout : Holds Z Γ3 F4 σ H4 := h4.outC e3
    have pt : Pres Γ Γ3 σ F0 H0 F4 H4 := pr.trans (conv (p3.trans p4) e1 e3)
    have no4 : ∀ i, ¬ OwnAt Γ3 σ i p := fun i w => h00.notOwn np i (pt.ow i p w)
    refine ⟨acc, hp4, sz_lt (by rw [← al.len]; omega), ⟨⟨F4, acc ++ [vy], hout.poke nz no4 fp4, ⟨pt.ff, fun b o hb n nt no => ?_, pt.ow, fun b o hb => ?_⟩, fp4, upd_same, ?_⟩, ?_⟩⟩
    · have zz : b ≠ p := ne_of_none hb np
      rw [upd_ne zz]
      exact pt.keep b o hb n nt no
    · have zz : b ≠ p := ne_of_none hb np
      rw [upd_ne zz]
      exact pt.th b o hb
    · rw [eA]
      exact (al.map fun _ _ z => u.mono (p3.ff.trans p4.ff) z).app (.cons ry .nil)
    · rw [eA, List.length_append, List.length_singleton]
      omega
  | false =>
    obtain ⟨eG, eA⟩ := hf rfl
    show LcI Z u Γ Γ3 A' σ F0 H0 p (n + 1) H3
    subst eG
    exact ⟨⟨F3, acc, h3.outC e3, pr.trans (conv p3 e1 e3), fp3, hp3, by rw [eA]; exact al.map fun _ _ z => u.mono p3.ff z⟩, by rw [eA]; omega⟩
/-- [e for x in xs if t], xs frozen -/
theorem dn_lcL {β : Type} {u : Ty β} {tl : TE} {xs : List α} (G : Nat → List Slot) (A : Nat → List β) (h : Den tl Γ (tList t) xs (G 0)) (hf : ∀ n, (G n)[j]? = some .any) (hl : xs.length < 50000) (h0 : A 0 = [])
    (hs : ∀ n x, xs[n]? = some x → ∃ b Γ2, DenT tt ((G n).set j (.val ⟨t, x⟩)) b Γ2 ∧ (b = true → ∃ y, Den te Γ2 u y ((G (n + 1)).set j (.val ⟨t, x⟩)) ∧ A (n + 1) = A n ++ [y]) ∧ (b = false → Γ2 = (G (n + 1)).set j (.val ⟨t, x⟩) ∧ A (n + 1) = A n)) :
    DenN (tLc (iList K tl) (gName j) tt te [j]) Γ ((A xs.length).map fun y => ⟨u, y⟩) (G xs.length) := fun Z F σ H hh Q q => by
  refine h Z F σ H hh _ fun v F1 H1 h1 p1 r => ?_
  obtain ⟨a, vs, rfl, e, rr⟩ := r
  have pm : ∀ {F F' : Hp}, Ex F F' → (F a = some (.lst vs) ∧ Al (fun x v => t.rep F v x) xs vs) → (F' a = some (.lst vs) ∧ Al (fun x v => t.rep F' v x) xs vs) := fun e h => ⟨e _ _ h.1, h.2.map fun _ _ z => t.mono e z⟩
  refine ⟨a, rfl, ⟨vs, sq_of (h1.fh _ _ e)⟩, fun p np => lc_list (K := K) (a := a) (xs := vs) (fun n H' => LcI (Z.more _ pm) u (G 0) (G n) (A n) σ F1 H1 p n H') ?_ ?_ ?_ ?_⟩
  · rw [h0]
    exact LcI.start (h1.more ⟨e, rr⟩) np
  · rintro n H' _ ⟨⟨F', acc, hs', _⟩, _⟩
    exact sq_of (hs'.fh _ _ hs'.pp.2.1)
  · intro n x H' hx c
    obtain ⟨y, hy, ry⟩ := rr.getR hx
    have hn : n < 50000 := by
      have := (List.getElem?_eq_some_iff.mp hy).1
      omega
    obtain ⟨b, Γ2, hb⟩ := hs n y hy
    refine ⟨wipe1 σ j x, LcI.turn (d := ⟨t, y⟩) h1 np (h1.fresh np) c hn (hf n) (hf (n + 1)) (fun F' pp => ?_) ⟨b, hb⟩⟩
    obtain ⟨v', hv', rv'⟩ := pp.2.2.get hy
    rw [hx] at hv'
    cases hv'
    exact rv'
  · rintro H' c
    rw [← rr.len] at c
    obtain ⟨⟨F', acc, hs', pr, fp, hp, al⟩, _⟩ := c
    exact q p acc F' H' hs'.less (p1.trans pr) (p1.new np) fp hp (al_unmap al)
theorem dn_lcT {β : Type} {u : Ty β} {tl : TE} {xs : List α} (G : Nat → List Slot) (A : Nat → List β) (h : Den tl Γ (tTupl t) xs (G 0)) (hf : ∀ n, (G n)[j]? = some .any) (hl : xs.length < 50000) (h0 : A 0 = [])
    (hs : ∀ n x, xs[n]? = some x → ∃ b Γ2, DenT tt ((G n).set j (.val ⟨t, x⟩)) b Γ2 ∧ (b = true → ∃ y, Den te Γ2 u y ((G (n + 1)).set j (.val ⟨t, x⟩)) ∧ A (n + 1) = A n ++ [y]) ∧ (b = false → Γ2 = (G (n + 1)).set j (.val ⟨t, x⟩) ∧ A (n + 1) = A n)) :
    DenN (tLc (iTup K tl) (gName j) tt te [j]) Γ ((A xs.length).map fun y => ⟨u, y⟩) (G xs.length) := fun Z F σ H hh Q q => by
  refine h Z F σ H hh _ fun v F1 H1 h1 p1 r => ?_
  obtain ⟨a, vs, rfl, e, rr⟩ := r
  have pm : ∀ {F F' : Hp}, Ex F F' → (F a = some (.tup vs) ∧ Al (fun x v => t.rep F v x) xs vs) → (F' a = some (.tup vs) ∧ Al (fun x v => t.rep F' v x) xs vs) := fun e h => ⟨e _ _ h.1, h.2.map fun _ _ z => t.mono e z⟩
  refine ⟨a, rfl, ⟨vs, st_of (h1.fh _ _ e)⟩, fun p np => lc_tup (K := K) (a := a) (xs := vs) (fun n H' => LcI (Z.more _ pm) u (G 0) (G n) (A n) σ F1 H1 p n H') ?_ ?_ ?_ ?_⟩
  · rw [h0]
    exact LcI.start (h1.more ⟨e, rr⟩) np
  · rintro n H' _ ⟨⟨F', acc, hs', _⟩, _⟩
    exact st_of (hs'.fh _ _ hs'.pp.2.1)
  · intro n x H' hx c
    obtain ⟨y, hy, ry⟩ := rr.getR hx
    have hn : n < 50000 := by
      have := (List.getElem?_eq_some_iff.mp hy).1
      omega
    obtain ⟨b, Γ2, hb⟩ := hs n y hy
    refine ⟨wipe1 σ j x, LcI.turn (d := ⟨t, y⟩) h1 np (h1.fresh np) c hn (hf n) (hf (n + 1)) (fun F' pp => ?_) ⟨b, hb⟩⟩
    obtain ⟨v', hv', rv'⟩ := pp.2.2.get hy
    rw [hx] at hv'
    cases hv'
    exact rv'
  · rintro H' c
    rw [← rr.len] at c
    obtain ⟨⟨F', acc, hs', pr, fp, hp, al⟩, _⟩ := c
    exact q p acc F' H' hs'.less (p1.trans pr) (p1.new np) fp hp (al_unmap al)
theorem dn_lcR {β : Type} {u : Ty β} {ta : TA} {m : Int} (G : Nat → List Slot) (A : Nat → List β) (h : DenA ta Γ [⟨tInt, m⟩] (G 0)) (hf : ∀ n, (G n)[j]? = some .any) (hl : m < 50000) (hm : -50000 ≤ m) (h0 : A 0 = [])
    (hs : ∀ (n : Nat), (n : Int) < m → ∃ b Γ2, DenT tt ((G n).set j (.val ⟨tInt, (n : Int)⟩)) b Γ2 ∧ (b = true → ∃ y, Den te Γ2 u y ((G (n + 1)).set j (.val ⟨tInt, (n : Int)⟩)) ∧ A (n + 1) = A n ++ [y]) ∧ (b = false → Γ2 = (G (n + 1)).set j (.val ⟨tInt, (n : Int)⟩) ∧ A (n + 1) = A n)) :
    DenN (tLc (iRng1 ta) (gName j) tt te [j]) Γ ((A m.toNat).map fun y => ⟨u, y⟩) (G m.toNat) := fun Z F σ H hh Q q => by
  refine h Z F σ H hh _ fun vs F1 H1 h1 p1 r => ?_
  cases r with
  | cons r r' =>
    cases r'
    cases r
    refine ⟨m, rfl, by omega, by omega, fun p np => lc_range (lo := 0) (n := m.toNat) (fun n H' => LcI Z u (G 0) (G n) (A n) σ F1 H1 p n H') ?_ ?_ ?_⟩
    · rw [h0]
      exact LcI.start h1 np
    · intro n H' hn c
      have e0 : (0 : Int) + (n : Int) = (n : Int) := Int.zero_add _
      rw [e0]
      obtain ⟨b, Γ2, hb⟩ := hs n (by omega)
      exact ⟨wipe1 σ j _, LcI.turn (d := ⟨tInt, (n : Int)⟩) h1 np (h1.fresh np) c (by omega) (hf n) (hf (n + 1)) (fun F' _ => rfl) ⟨b, hb⟩⟩
    · rintro H' ⟨⟨F', acc, hs', pr, fp, hp, al⟩, _⟩
      exact q p acc F' H' hs' (p1.trans pr) (p1.new np) fp hp (al_unmap al)
/-! ### what is given back, by the promise's kind -/
theorem s_retP {F0 H0 : Hp} {Q : VK} {d : Dv} (hZ : Z.F = F0 ∧ Z.H = H0 ∧ Z.O = NoO) (hD : D.rt = Q) (q : ∀ v F' H', Step NoO F0 H0 F' H' → d.rep F' v → Q v H') (h : Den te Γ t x Γ1) (e : d = ⟨t, x⟩) : OK Z Γ (tRet te D) :=
  s_ret h fun F σ H v hh r => by
    obtain ⟨z1, z2, z3⟩ := hZ
    rw [hD]
    refine q v F H ?_ (by rw [e]; exact r)
    rw [← z1, ← z2, ← z3]
    exact hh.st
theorem s_retM {F0 H0 : Hp} {Q : VK} {d : Dv} {a : Addr} {ps' : List Dv} (hZ : Z.F = F0 ∧ Z.H = H0 ∧ Z.O = fun b => b = a) (hD : D.rt = Q)
    (q : ∀ v F' H' us', Step (fun b => b = a) F0 H0 F' H' → F' a = none → H' a = some (.lst us') → Reps F' ps' us' → d.rep F' v → Q v H') (h : Den te Γ t x Γ1) (e0 : Γ1[0]? = some (.own (some a) ps')) (e : d = ⟨t, x⟩) : OK Z Γ (tRet te D) :=
  s_ret h fun F σ H v hh r => by
    obtain ⟨z1, z2, z3⟩ := hZ
    obtain ⟨b, h1, ⟨n1, ad, us, hu, ru⟩, _⟩ := hh.owned e0 rfl
    cases ad a rfl
    rw [hD]
    refine q v F H us ?_ n1 hu ru (by rw [e]; exact r)
    rw [← z1, ← z2, ← z3]
    exact hh.st
theorem s_retNP {F0 H0 : Hp} {Q : VK} {r : List Dv} (hZ : Z.F = F0 ∧ Z.H = H0 ∧ Z.O = NoO) (hD : D.rt = Q) (q : ∀ p us F' H', Step NoO F0 H0 F' H' → H0 p = none → F' p = none → H' p = some (.lst us) → Reps F' r us → Q (.ref p) H') (h : DenN te Γ ds Γ1) (e : r = ds) : OK Z Γ (tRet te D) :=
  s_retN h fun F σ H p vs hh np fp hp rr => by
    obtain ⟨z1, z2, z3⟩ := hZ
    rw [hD]
    refine q p vs F H ?_ (by rw [← z2]; exact np) fp hp (by rw [e]; exact rr)
    rw [← z1, ← z2, ← z3]
    exact hh.st
/-- the end of an __init__ -/
theorem s_endI {P : L2.St → Hp → Prop} {F0 H0 : Hp} {Q : VK} {a C : Addr} {fs : List (Str × Dv)} (hZ : Z.F = F0 ∧ Z.H = H0 ∧ Z.O = fun b => b = a) (hP : ∀ σ H, Q .non H → P σ H)
    (q : ∀ F' H' dx' us, Step (fun b => b = a) F0 H0 F' H' → F' a = none → F' dx' = some (.own a) → H' a = some (.ins C dx' us) → RepF F' fs us → Q .non H') (e0 : Γ[0]? = some (.obj (some a) C fs)) : OK Z Γ P := fun F σ H hh => by
  obtain ⟨z1, z2, z3⟩ := hZ
  obtain ⟨b, h1, ⟨n1, ad, dx', us, hd, hu, ru⟩, _⟩ := hh.owned e0 rfl
  cases ad a rfl
  refine hP σ H (q F H dx' us ?_ n1 hd hu ru)
  rw [← z1, ← z2, ← z3]
  exact hh.st
end
end DL
namespace DL
open PySem L2 Evl
section
variable {α β γ : Type} {t : Ty α} {u : Ty β} {w : Ty γ} {x y z : α} {Z : En} {Γ Γ' Γ1 Γ2 Γ3 : List Slot} {ta tb tc te : TE} {ds es : List Dv} {K : PySem.W.Frag}
/-! ### some built-ins -/
theorem on_int {i : Int} : OpN (fun xs H Q => (∃ i, xs = [.int i] ∧ Q (.int i) H) ∨ ∃ k, xs = [.bl k] ∧ Q (.int (if k then 1 else 0)) H) [⟨tInt, i⟩] tInt i := fun F H vs e r Q q => by
  cases r with
  | cons r r' =>
    cases r'
    cases r
    exact .inl ⟨i, rfl, q _ F H (Step.refl e) rfl⟩
def iabs (i : Int) : Int := if i < 0 then -i else i
theorem on_abs {i : Int} : OpN (fun xs H Q => ∃ i, xs = [.int i] ∧ Q (.int (if i < 0 then -i else i)) H) [⟨tInt, i⟩] tInt (iabs i) := fun F H vs e r Q q => by
  cases r with
  | cons r r' =>
    cases r'
    cases r
    exact ⟨i, rfl, q _ F H (Step.refl e) rfl⟩
theorem on_bool {i : Int} : OpN (fun xs H Q => (∃ i, xs = [.int i] ∧ Q (.bl (i != 0)) H) ∨ ∃ k, xs = [.bl k] ∧ Q (.bl k) H) [⟨tInt, i⟩] tBool (i != 0) := fun F H vs e r Q q => by
  cases r with
  | cons r r' =>
    cases r'
    cases r
    exact .inl ⟨i, rfl, q _ F H (Step.refl e) rfl⟩
def imax (i j : Int) : Int := if j > i then j else i
def imin (i j : Int) : Int := if j < i then j else i
theorem on_max {i j : Int} : OpN (fun xs H Q => ∃ i j, xs = [.int i, .int j] ∧ Q (.int (if j > i then j else i)) H) [⟨tInt, i⟩, ⟨tInt, j⟩] tInt (imax i j) := fun F H vs e r Q q => by
  cases r with
  | cons r r' =>
    cases r' with
    | cons r2 r3 =>
      cases r3
      cases r
      cases r2
      exact ⟨i, j, rfl, q _ F H (Step.refl e) rfl⟩
theorem on_min {i j : Int} : OpN (fun xs H Q => ∃ i j, xs = [.int i, .int j] ∧ Q (.int (if j < i then j else i)) H) [⟨tInt, i⟩, ⟨tInt, j⟩] tInt (imin i j) := fun F H vs e r Q q => by
  cases r with
  | cons r r' =>
    cases r' with
    | cons r2 r3 =>
      cases r3
      cases r
      cases r2
      exact ⟨i, j, rfl, q _ F H (Step.refl e) rfl⟩
theorem den_bits {i : Int} (h : Den ta Γ tInt i Γ1) : Den (tBits ta) Γ tInt ((Builtin.Int.intBits i : Nat) : Int) Γ1 := fun Z F σ H hh Q q => h Z F σ H hh _ fun v F' H' h' p r => ⟨i, r, q _ F' H' h' p rfl⟩
/-! ### short lists -/
theorem dn_lst0 : DenN (tLst tNil) Γ (([] : List α).map fun x => ⟨t, x⟩) Γ := dn_lst da_nil (Nat.zero_le _)
theorem dn_lst1 (h : Den ta Γ t x Γ1) : DenN (tLst (tCons ta tNil)) Γ ([x].map fun x => ⟨t, x⟩) Γ1 := dn_lst (da_cons h da_nil) (by show 1 ≤ 100000; decide)
theorem dn_lst2 (h : Den ta Γ t x Γ1) (h2 : Den tb Γ1 t y Γ2) : DenN (tLst (tCons ta (tCons tb tNil))) Γ ([x, y].map fun x => ⟨t, x⟩) Γ2 := dn_lst (da_cons h (da_cons h2 da_nil)) (by show 2 ≤ 100000; decide)
theorem dn_lst3 (h : Den ta Γ t x Γ1) (h2 : Den tb Γ1 t y Γ2) (h3 : Den tc Γ2 t z Γ3) : DenN (tLst (tCons ta (tCons tb (tCons tc tNil)))) Γ ([x, y, z].map fun x => ⟨t, x⟩) Γ3 := dn_lst (da_cons h (da_cons h2 (da_cons h3 da_nil))) (by show 3 ≤ 100000; decide)
/-! ### the script -/
def tScr (K : PySem.W.Frag) : Ty (List Int) := ⟨fun F v xs => ∃ a, v = .ref a ∧ SqL K F a (xs.map V.int), fun e ⟨a, h1, h2⟩ => ⟨a, h1, ex_l e h2⟩⟩
theorem s_forScr {S : Type} {wl : TE} {xs : List Int} {s1 : TS} {D : Ends} {j : Nat} (s0 : S) (G : S → List Slot) (I : Nat → S → Prop) (h : Den wl Γ (tScr K) xs Γ1) (h0 : I 0 s0) (e0 : Wk Γ1 (G s0))
    (hs : ∀ Z' : En, (∀ {Γ F σ H}, Holds Z' Γ F σ H → Holds Z Γ F σ H) → ∀ n x s, xs[n]? = some x → I n s → OK Z' ((G s).set j (.val ⟨tInt, x⟩)) (s1 { D with nx := LoopAt Z' G I (n + 1), ct := LoopAt Z' G I (n + 1), bk := D.nx }))
    (hd : ∀ s, I xs.length s → OK Z (G s) D.nx) : OK Z Γ (tFor (iList K wl) (gName j) s1 D) := fun F σ H hh => by
  refine h Z F σ H hh _ fun v F1 H1 h1 p r => ?_
  obtain ⟨a, rfl, e⟩ := r
  have pm : ∀ {F F' : Hp}, Ex F F' → SqL K F a (xs.map V.int) → SqL K F' a (xs.map V.int) := fun e h => ex_l e h
  refine ⟨a, rfl, ⟨_, ex_l h1.fh e⟩, for_list (K := K) (a := a) (xs := xs.map V.int) (LoopAt (Z.more _ pm) G I) ⟨s0, F1, h0, (h1.weak e0).more e⟩ ?_ ?_ ?_⟩
  · rintro n σ' H' _ ⟨s, F', _, hs'⟩
    exact ex_l hs'.fh hs'.pp.2
  · rintro n x σ' H' hx ⟨s, F', hi, hs'⟩
    rw [List.getElem?_map] at hx
    cases q : xs[n]? with
    | none =>
      rw [q] at hx
      cases hx
    | some y =>
      rw [q] at hx
      cases hx
      exact hs (Z.more _ pm) (fun h => h.less) n y s q hi F' _ H' (hs'.set j rfl)
  · rintro σ' H' ⟨s, F', hi, hs'⟩
    rw [List.length_map] at hi
    exact hd s hi F' σ' H' hs'.less
end
end DL

set_option maxRecDepth 100000
/-! Own: operators, truth, abs, == of instances by their classes' own methods. -/
namespace L2
open PySem PySem.Spec PyProof.Rows
section
variable {X : Cx} {CX : CXT} {k : Nat} {f C : Addr} {fd : FuncData} {ps : List Str} {sp : Sp} {E : XK}
/-- the callee runs below, within the same frames -/
theorem run_at {A : Around} {pins : List (Addr × Obj)} {σ : St} {H : Hp} {s : Shared} {Q : VK} {us : List Value} {vs : List V} (hr : Room k A) (hfr : A.frames = X.A.frames) (F : FnOk X.prog X.w X.K X.mg X.base CX k f fd ps sp) (hb : Binds X.K fd ps []) (hx : Passes CX X E)
    (I : Inv X pins σ H s) (r : Vals vs us) (h : sp vs H Q E) : wpAny (model X.prog X.w) A (call (.ref f) us) (EP X pins σ Q) X.xe s := by
  have en : Env0 X.prog X.w X.K X.mg X.base A X.stack s H := by
    have e := I.env0
    exact ⟨by rw [hfr]; exact e.frames, e.mod, e.bs, e.bsz, e.funs, e.frf, e.hok, e.bare⟩
  have hl := F.len _ _ _ _ h
  have hb' := hb s us I.kIn (by rw [List.append_nil, ← r.length]; exact hl)
  rw [List.append_nil] at hb'
  refine wpAny_call (codeAny_mono (F.run A X.stack s H ⟨us, []⟩ us vs Q E hr en hb' r h) fun q s' hq => ?_)
  cases q with
  | error x => exact hx pins σ H s x s' I hq
  | ok fl =>
    cases fl with
    | ret u => exact I.after hq
    | next => exact False.elim hq
    | brk => exact False.elim hq
    | cont => exact False.elim hq
/-- the class C has the method nm at f -/
structure OwnM (K : PySem.W.Frag) (C : Addr) (nm : Str) (f : Addr) : Prop where
  at_ : PySem.W.findIn K (.ref C) nm = some (some (.ref f))
  fn : PySem.W.isFn K (Value.ref f) = true
/-- a binary operator's two slots -/
structure OwnB (K : PySem.W.Frag) (C : Addr) (nm : String) (f g : Addr) : Prop where
  l : OwnM K C (dunder nm) f
  r : OwnM K C (dunderR nm) g
  self : PySem.W.selfFirst K C = true
/-- how int and C stand to each other -/
structure OwnInt (K : PySem.W.Frag) (C : Addr) (nm : String) : Prop where
  l : ∃ fo, PySem.W.findIn K (.type "int") (dunder nm) = some fo
  r : ∃ ro, PySem.W.findIn K (.type "int") (dunderR nm) = some ro
  s1 : PySem.W.subIn K (.type "int") (.ref C) = some false
  s2 : PySem.W.subIn K (.ref C) (.type "int") = some false
theorem back_of {pins : List (Addr × Obj)} {σ : St} {Q : VK} {u : Value} {s : Shared} (h : EP X pins σ Q u s) : PySem.W.CmpBack (EP X pins σ Q) u s := by
  obtain ⟨v, H', I, r, q⟩ := h
  cases v with
  | non => cases (show u = Value.none from r); exact ⟨.non, H', I, rfl, q⟩
  | bl b => cases (show u = Value.bool b from r); exact ⟨.bl b, H', I, rfl, q⟩
  | int i => obtain ⟨t, e⟩ := (show ∃ t, u = Value.int i t from r); cases e; exact ⟨.int i, H', I, ⟨t, rfl⟩, q⟩
  | str i => obtain ⟨t, e⟩ := (show ∃ t, u = Value.str i t from r); cases e; exact ⟨.str i, H', I, ⟨t, rfl⟩, q⟩
  | byt i => obtain ⟨t, e⟩ := (show ∃ t, u = Value.bytes i t from r); cases e; exact ⟨.byt i, H', I, ⟨t, rfl⟩, q⟩
  | flt i => obtain ⟨t, e⟩ := (show ∃ t, u = Value.float i t from r); cases e; exact ⟨.flt i, H', I, ⟨t, rfl⟩, q⟩
  | ref a => cases (show u = Value.ref a from r); exact ⟨.ref a, H', I, rfl, q⟩
  | ty n => cases (show u = Value.type n from r); exact ⟨.ty n, H', I, rfl, q⟩
/-- x op y, both of the class C -/
def rOwn2 (C : Addr) (sp : Sp) (E : XK) : R2 := fun x y H Q => ∃ a b dx dy fs gs, x = .ref a ∧ y = .ref b ∧ H a = some (.ins C dx fs) ∧ H b = some (.ins C dy gs) ∧ sp [x, y] H Q E
theorem op_own2 {op : Operator} {g : Addr} (O : OwnB X.K C op.info.2 f g) (F : FnOk X.prog X.w X.K X.mg X.base CX k f fd ps sp) (hb : Binds X.K fd ps []) (hx : Passes CX X E) (hr : Room k X.A) : OpR X (binaryOp op) (rOwn2 C sp E) := by
  rintro pins s σ H x y v u Q I rx ry ⟨a, b, dx, dy, fs, gs, rfl, rfl, ha, hb', h⟩
  cases rx
  cases ry
  obtain ⟨mm, J, _⟩ := ins_get I.hok ha
  obtain ⟨mm', J', _⟩ := ins_get I.hok hb'
  obtain ⟨od, J, _⟩ := J.look
  obtain ⟨od2, J', _⟩ := J'.look
  obtain ⟨m, hF⟩ := I.fr
  exact PySem.W.binop_K hF I.ok.mod.kin J J'.type O.self O.l.at_ O.l.fn (thn (run_at hr rfl F hb hx I (show Vals [V.ref a, V.ref b] [Value.ref a, Value.ref b] from .cons rfl (.cons rfl .nil)) h) fun _ _ q => back_of q)
/-- x op i, i an int -/
def rOwnI (C : Addr) (sp : Sp) (E : XK) : R2 := fun x y H Q => ∃ a dx fs i, x = .ref a ∧ y = .int i ∧ H a = some (.ins C dx fs) ∧ sp [x, y] H Q E
theorem op_ownI {op : Operator} {g : Addr} (O : OwnB X.K C op.info.2 f g) (OI : OwnInt X.K C op.info.2) (F : FnOk X.prog X.w X.K X.mg X.base CX k f fd ps sp) (hb : Binds X.K fd ps []) (hx : Passes CX X E) (hr : Room k X.A) : OpR X (binaryOp op) (rOwnI C sp E) := by
  rintro pins s σ H x y v u Q I rx ry ⟨a, dx, fs, i, rfl, rfl, ha, h⟩
  cases rx
  obtain ⟨t, rfl⟩ := (show ∃ tk, u = Value.int i tk from ry)
  obtain ⟨mm, J, _⟩ := ins_get I.hok ha
  obtain ⟨od, J, _⟩ := J.look
  obtain ⟨m, hF⟩ := I.fr
  obtain ⟨fo, h1⟩ := OI.l
  obtain ⟨ro, h2⟩ := OI.r
  exact PySem.W.ksp_binT (T := "int") hF I.ok.mod.kin J rfl O.self O.l.at_ O.l.fn O.r.at_ (.inr ⟨_, rfl⟩) h1 h2 OI.s1 (thn (run_at hr rfl F hb hx I (show Vals [V.ref a, V.int i] [Value.ref a, Value.int i t] from .cons rfl (.cons ⟨t, rfl⟩ .nil)) h) fun _ _ q => back_of q)
/-- i op x, i an int: its own slot declines -/
def rOwnR (C : Addr) (sp : Sp) (E : XK) : R2 := fun x y H Q => ∃ a dx fs i, x = .int i ∧ y = .ref a ∧ H a = some (.ins C dx fs) ∧ sp [y, x] H Q E
/-- int's slot nm, which declines an instance -/
structure IntDecl (nm : String) (id : String) (B : Builtin) : Prop where
  fills : fillsNumberSlot (.type "int") nm = pure true
  slot : Slot "int" (dunder nm) id
  entry : entryFor table id = some B
  args : ∀ a b : Value, argsOk id ⟨[a, b], []⟩
  no : ∀ (P : Program) (w : World) (A : Around) (E : Value → Shared → Prop) (s : Shared) (i : Int) (t : Tok) (a : Addr) (o : Obj) (Q : Value → Shared → Prop), s.heap.get? a = some o → o.data = .plain → (∀ tk, Q .notImplemented { s with toks := tk }) →
    wpAny (model P w) A (B ⟨[.int i t, .ref a], []⟩) (fun fin s' => ∃ v, fin = .done (.ret v) ∧ Q v s') E s
end
theorem decl_bin {name : String} {f : Int → Int → Sem Fin} (P : Program) (w : World) (A : Around) (E : Value → Shared → Prop) (s : Shared) (i : Int) (t : Tok) (a : Addr) (o : Obj) (Q : Value → Shared → Prop) (h : s.heap.get? a = some o) (hd : o.data = .plain) (hq : ∀ tk, Q .notImplemented { s with toks := tk }) :
    wpAny (model P w) A (Builtin.Int.intBinary name f false ⟨[.int i t, .ref a], []⟩) (fun fin s' => ∃ v, fin = .done (.ret v) ∧ Q v s') E s := by
  obtain ⟨hp, gl, dr, tk, os⟩ := s
  have h' : hp.get? a = some o := h
  unfold Builtin.Int.intBinary
  wp_walk using wpAny_load' h'
  rw [hd]
  wp_walk
  exact ⟨_, rfl, hq tk⟩
theorem int_add_decl : IntDecl "add" "int.__add__" Builtin.«int.__add__» := ⟨PySem.F.fills_int_add, PySem.F.slot_int_add, PySem.F.entry_int_add, fun a b => PySem.F.args_int_add_2 a b, decl_bin⟩
theorem int_sub_decl : IntDecl "sub" "int.__sub__" Builtin.«int.__sub__» := ⟨PySem.F.fills_int_sub, PySem.F.slot_int_sub, PySem.F.entry_int_sub, fun a b => PySem.F.args_int_sub_2 a b, decl_bin⟩
theorem int_mul_decl : IntDecl "mul" "int.__mul__" Builtin.«int.__mul__» := ⟨PySem.F.fills_int_mul, PySem.F.slot_int_mul, PySem.F.entry_int_mul, fun a b => PySem.F.args_int_mul_2 a b, decl_bin⟩
section
variable {X : Cx} {CX : CXT} {k : Nat} {f C : Addr} {fd : FuncData} {ps : List Str} {sp : Sp} {E : XK}
theorem binop_refl {P : Program} {w : World} {A : Around} {E : Value → Shared → Prop} {s : Shared} {K : PySem.W.Frag} {C x g gl : Addr} {ox : Obj} {od : Option Obj} {op : Operator} {id : String} {B : Builtin} {i : Int} {t : Tok} {Q : Value → Shared → Prop}
    (X : K.In s.heap) (I : PySem.W.InstAt s.heap x ox C od) (hd : ox.data = .plain) (D : IntDecl op.info.2 id B) (O : OwnB K C op.info.2 gl g) (h2 : PySem.W.subIn K (.ref C) (.type "int") = some false)
    (h : ∀ tk, wpAny (model P w) A (call (.ref g) [.ref x, .int i t]) (PySem.W.CmpBack Q) E { s with toks := tk }) : wpAny (model P w) A (binaryOp op (.int i t) (.ref x)) Q E s := by
  obtain ⟨cd, rest, hcd, hm⟩ := PySem.W.ksp_first O.self
  rcases hi : op.info with ⟨sg, nm⟩
  rw [hi] at D O
  dsimp only at D O
  have hne : (Value.type "int" == Value.ref C) = false := Bool.eq_false_iff.mpr fun q => by cases beq_iff_eq.mp q
  simp only [binaryOp, hi]
  apply wpAny_holding
  apply wpAny_bind
  unfold binaryOp1
  refine wpAny_bind (wpAny_typeOf (typeIs_int s i t) (wpAny_bind (I.type.here (wpAny_bind (wpAny_of_eq D.fills ?_)))))
  simp only [if_false, Bool.false_eq_true, hne]
  refine wpAny_bind ((PySem.W.fills_K X hcd hm O.l.at_).here ?_)
  simp only [Bool.and_self, ↓reduceIte]
  refine wpAny_bind ((PySem.W.looks_subIn X h2).here ?_)
  have hpy : numberSlotInPython (.type "int") nm = pure false := rfl
  simp only [hpy, Bool.and_self, Bool.not_false, Bool.false_eq_true, pure_bind, if_true, if_false]
  refine wpAny_bind (wpAny_tryMethod_declines (typeIs_int s i t) D.slot (wpAny_call_entry D.slot (typeIs_int s i t) D.entry (D.no P w A.in1 E s i t x ox _ I.at_ hd fun tk => ⟨rfl, ?_⟩) (D.args _ _)))
  have X' : K.In ({ s with toks := tk } : Shared).heap := X
  have I' : PySem.W.InstAt ({ s with toks := tk } : Shared).heap x ox C od := I
  have one := PySem.W.ksp_try (M := model P w) (A := A) (E := E) (Q := Q) (s := { s with toks := tk }) X' I' O.r.at_ O.r.fn (h tk)
  refine wpAny_bind (wpAny_mono one (fun r s' hr' => ?_) fun _ _ e => e)
  obtain ⟨v, rfl, hq⟩ := hr'
  exact wpAny_bind (wpAny_rule (wpAny_pure (wpAny_pure hq)))
theorem op_ownR {op : Operator} {gl g : Addr} {id : String} {B : Builtin} (D : IntDecl op.info.2 id B) (O : OwnB X.K C op.info.2 gl g) (OI : OwnInt X.K C op.info.2) (F : FnOk X.prog X.w X.K X.mg X.base CX k g fd ps sp) (hb : Binds X.K fd ps []) (hx : Passes CX X E) (hr : Room k X.A) : OpR X (binaryOp op) (rOwnR C sp E) := by
  rintro pins s σ H x y v u Q I rx ry ⟨a, dx, fs, i, rfl, rfl, ha, h⟩
  cases ry
  obtain ⟨t, rfl⟩ := (show ∃ t, v = Value.int i t from rx)
  obtain ⟨mm, J, _⟩ := ins_get I.hok ha
  obtain ⟨od, J, _⟩ := J.look
  refine binop_refl I.kIn J rfl D O OI.s2 fun tk => ?_
  exact thn (run_at hr rfl F hb hx (I.tok tk) (show Vals [V.ref a, V.int i] [Value.ref a, Value.int i t] from .cons rfl (.cons ⟨t, rfl⟩ .nil)) h) fun _ _ q => back_of q
/-- -x -/
def rOwn1 (C : Addr) (sp : Sp) (E : XK) : V → Hp → VK → Prop := fun x H Q => ∃ a dx fs, x = .ref a ∧ H a = some (.ins C dx fs) ∧ sp [x] H Q E
theorem un_ownNeg (O : OwnM X.K C "__neg__" f) (F : FnOk X.prog X.w X.K X.mg X.base CX k f fd ps sp) (hb : Binds X.K fd ps []) (hx : Passes CX X E) (hr : Room k X.A) : UnR X (unaryOp .USub) (rOwn1 C sp E) := by
  rintro pins s σ H x v Q I rx ⟨a, dx, fs, rfl, ha, h⟩
  cases rx
  obtain ⟨mm, J, _⟩ := ins_get I.hok ha
  obtain ⟨od, J, _⟩ := J.look
  obtain ⟨m, hF⟩ := I.fr
  exact PySem.W.ksp_neg hF I.ok.mod.kin J O.at_ O.fn (run_at hr rfl F hb hx I (show Vals [V.ref a] [Value.ref a] from .cons rfl .nil) h)
/-- abs(x) -/
theorem call_ownAbs (O : OwnM X.K C "__abs__" f) (F : FnOk X.prog X.w X.K X.mg X.base CX k f fd ps sp) (hb : Binds X.K fd ps []) (hx : Passes CX X E) (hr : Room (k + 1) X.A) : CallR X (.builtin "abs") (fun xs H Q => ∃ x, xs = [x] ∧ rOwn1 C sp E x H Q) := by
  rintro pins s σ H xs us Q I rx ⟨x, rfl, a, dx, fs, rfl, ha, h⟩
  obtain rfl := Vals.ref1 rx
  obtain ⟨mm, J, _⟩ := ins_get I.hok ha
  obtain ⟨od, J, _⟩ := J.look
  refine PySem.Calls.call_function_entry kind_abs plain_abs entry_abs (args_abs _) ?_
  unfold Builtin.«abs»
  refine wpAny_bind (m := oneArg "abs" _) ?_
  refine wpAny_pure ?_
  refine wpAny_bind (m := callSpecial? (.ref a) (Str.ofString "__abs__")) (PySem.W.special_fn I.kIn J O.at_ (beq_iff_eq.mp O.fn) ?_)
  exact thn (run_at hr.in1 rfl F hb hx I (show Vals [V.ref a] [Value.ref a] from .cons rfl .nil) h) fun u s' q => wpAny_pure ⟨_, rfl, q⟩
/-- bool(x), the truth of x -/
def rOwnB (C : Addr) (sp : Sp) (E : XK) : V → Hp → (Bool → Hp → Prop) → Prop := fun x H Q => ∃ a dx fs, x = .ref a ∧ H a = some (.ins C dx fs) ∧ sp [x] H (fun v H' => ∃ b, v = .bl b ∧ Q b H') E
theorem truthy_own {A : Around} {pins : List (Addr × Obj)} {σ : St} {H : Hp} {s : Shared} {x : V} {v : Value} {Q : Bool → Hp → Prop} (O : OwnM X.K C "__bool__" f) (F : FnOk X.prog X.w X.K X.mg X.base CX k f fd ps sp) (hb : Binds X.K fd ps []) (hx : Passes CX X E) (hr : Room k A) (hfr : A.frames = X.A.frames)
    (I : Inv X pins σ H s) (rx : RelV x v) (h : rOwnB C sp E x H Q) : wpAny (model X.prog X.w) A (truthy v) (TP X pins σ Q) X.xe s := by
  obtain ⟨a, dx, fs, rfl, ha, h⟩ := h
  cases rx
  obtain ⟨mm, J, _⟩ := ins_get I.hok ha
  obtain ⟨od, J, _⟩ := J.look
  obtain ⟨m, hF⟩ := I.fr
  refine PySem.W.truthy_K hF I.ok.mod.kin J O.at_ O.fn (thn (run_at hr hfr F hb hx I (show Vals [V.ref a] [Value.ref a] from .cons rfl .nil) h) fun u s' q => ?_)
  obtain ⟨v, H', I', r, b, rfl, q⟩ := q
  cases (show u = Value.bool b from r)
  exact ⟨H', I', q⟩
theorem tru_own (O : OwnM X.K C "__bool__" f) (F : FnOk X.prog X.w X.K X.mg X.base CX k f fd ps sp) (hb : Binds X.K fd ps []) (hx : Passes CX X E) (hr : Room k X.A) : TruR X (rOwnB C sp E) :=
  fun pins s σ H x v Q I rx h => truthy_own O F hb hx hr rfl I rx h
/-- x == y by the own __eq__ -/
def rOwnEq (C : Addr) (sp : Sp) (E : XK) : R2 := fun x y H Q => ∃ a dx fs, x = .ref a ∧ H a = some (.ins C dx fs) ∧ ((∃ b dy gs, y = .ref b ∧ H b = some (.ins C dy gs)) ∨ ∃ i, y = .int i) ∧ sp [x, y] H Q E
theorem op_ownEq (O : OwnM X.K C "__eq__" f) (s1 : PySem.W.subIn X.K (.type "int") (.ref C) = some false) (F : FnOk X.prog X.w X.K X.mg X.base CX k f fd ps sp) (hb : Binds X.K fd ps []) (hx : Passes CX X E) (hr : Room k X.A) : OpR X (compareOp .Eq) (rOwnEq C sp E) := by
  rintro pins s σ H x y v u Q I rx ry ⟨a, dx, fs, rfl, ha, hy, h⟩
  cases rx
  obtain ⟨mm, J, _⟩ := ins_get I.hok ha
  obtain ⟨od, J, _⟩ := J.look
  obtain ⟨m, hF⟩ := I.fr
  show wpAny (model X.prog X.w) X.A (richCompare .Eq (.ref a) u) (EP X pins σ Q) X.xe s
  have r2 : Vals [V.ref a, y] [Value.ref a, u] := .cons rfl (.cons ry .nil)
  have hc := thn (run_at hr rfl F hb hx I r2 h) fun _ _ q => back_of q
  rcases hy with ⟨b, dy, gs, rfl, hb'⟩ | ⟨i, rfl⟩
  · cases ry
    obtain ⟨mm', J', _⟩ := ins_get I.hok hb'
    obtain ⟨od2, J', _⟩ := J'.look
    exact PySem.W.cmp_K (op := .Eq) (tb := .ref C) hr.units0 hF I.ok.mod.kin J J'.type (by simp [PySem.W.notFirst]) O.at_ O.fn hc
  · obtain ⟨t, rfl⟩ := (show ∃ t, u = Value.int i t from ry)
    exact PySem.W.cmp_K (op := .Eq) (tb := .type "int") hr.units0 hF I.ok.mod.kin J (PySem.W.Looks.of_pure rfl) (by simp [PySem.W.notFirst, s1]) O.at_ O.fn hc
/-- i == x: int's own declines -/
theorem eq_refl_own {P : Program} {w : World} {A : Around} {E : Value → Shared → Prop} {s : Shared} {K : PySem.W.Frag} {C x g : Addr} {ox : Obj} {od : Option Obj} {i : Int} {t : Tok} {Q : Value → Shared → Prop} (hu : A.units < cLine)
    (X : K.In s.heap) (I : PySem.W.InstAt s.heap x ox C od) (hd : ox.data = .plain) (O : OwnM K C "__eq__" g) (h2 : PySem.W.subIn K (.ref C) (.type "int") = some false)
    (h : ∀ tk, wpAny (model P w) A (call (.ref g) [.ref x, .int i t]) (PySem.W.CmpBack Q) E { s with toks := tk }) : wpAny (model P w) A (richCompare .Eq (.int i t) (.ref x)) Q E s := by
  have hne : (Value.type "int" != Value.ref C) = true := by simp
  unfold richCompare
  have one : oneThing? .Eq (.int i t) (.ref x) = none := rfl
  simp only [one]
  apply wpAny_holding
  apply wpAny_bind
  apply wpAny_cRoomFor hu
  refine wpAny_bind (wpAny_typeOf (typeIs_int s i t) (wpAny_bind (I.type.here ?_)))
  simp only [hne, if_true]
  refine wpAny_bind ((PySem.W.looks_subIn X h2).here ?_)
  simp only [if_false, Bool.false_eq_true]
  refine wpAny_bind (m := tryCompare (.int i t) _ (.ref x)) ?_
  unfold tryCompare
  refine wpAny_bind (wpAny_callSpecialIfBound?_slot (typeIs_int s i t) PySem.F.slot_int_eq (wpAny_call_entry PySem.F.slot_int_eq (typeIs_int s i t) PySem.F.entry_int_eq (decl_bin P w A.in1 E s i t x ox _ I.at_ hd fun tk => ?_) (PySem.F.args_int_eq_2 _ _)))
  refine wpAny_pure ?_
  simp only [if_true, Bool.not_false]
  have X' : K.In ({ s with toks := tk } : Shared).heap := X
  have I' : PySem.W.InstAt ({ s with toks := tk } : Shared).heap x ox C od := I
  refine wpAny_bind (m := tryCompare (.ref x) _ (.int i t)) ?_
  unfold tryCompare
  refine wpAny_bind (PySem.W.ifBound_K (s := { s with toks := tk }) X' I' O.at_ O.fn (wpAny_mono (h tk) (fun v s' hv => ?_) fun _ _ e => e))
  cases v <;> first | exact hv.elim | exact wpAny_pure (wpAny_pure hv)
theorem op_ownEqR (O : OwnM X.K C "__eq__" f) (s2 : PySem.W.subIn X.K (.ref C) (.type "int") = some false) (F : FnOk X.prog X.w X.K X.mg X.base CX k f fd ps sp) (hb : Binds X.K fd ps []) (hx : Passes CX X E) (hr : Room k X.A) : OpR X (compareOp .Eq) (rOwnR C sp E) := by
  rintro pins s σ H x y v u Q I rx ry ⟨a, dx, fs, i, rfl, rfl, ha, h⟩
  cases ry
  obtain ⟨t, rfl⟩ := (show ∃ t, v = Value.int i t from rx)
  obtain ⟨mm, J, _⟩ := ins_get I.hok ha
  obtain ⟨od, J, _⟩ := J.look
  refine eq_refl_own hr.units0 I.kIn J rfl O s2 fun tk => ?_
  exact thn (run_at hr rfl F hb hx (I.tok tk) (show Vals [V.ref a, V.int i] [Value.ref a, Value.int i t] from .cons rfl (.cons ⟨t, rfl⟩ .nil)) h) fun _ _ q => back_of q
/-- bool(x) -/
theorem call_ownBool (O : OwnM X.K C "__bool__" f) (F : FnOk X.prog X.w X.K X.mg X.base CX k f fd ps sp) (hb : Binds X.K fd ps []) (hx : Passes CX X E) (hr : Room (k + 2) X.A) : CallR X (.type "bool") (fun xs H Q => ∃ x, xs = [x] ∧ rOwnB C sp E x H fun b H' => Q (.bl b) H') := by
  rintro pins s σ H xs us Q I rx ⟨x, rfl, h⟩
  cases rx with
  | cons rx rx' =>
  cases rx'
  rename_i u
  refine callType_codes (T := "bool") (Bi := Builtin.«object.__init__») (Q₁ := fun r s₁ => ∃ b, r = .bool b ∧ EP X pins σ Q (.bool b) s₁) PySem.F.called_bool (PySem.F.typeCall_bool_1 _) PySem.F.entry_object_init ?_ ?_
  · refine codeAny_of_tree ?_
    refine wpAny_bind (wpAny_of_eq (PySem.F.newCall_bool_1 _) (wpAny_pure ⟨plainId_quiet (by decide +kernel) _, codeAny_builtin PySem.F.entry_bool_new ?_⟩))
    rw [(Around.under_plainId (by decide +kernel) _)]
    have f1 := PySem.F.conv_sub_bool
    have htr : wpAny (model X.prog X.w) X.A.in1.in1 (truthy u) (TP X pins σ fun b H' => Q (.bl b) H') X.xe s := truthy_own O F hb hx hr.in1.in1 rfl I rx h
    repeat (any_goals (first | assumption | (with_reducible refine wpAny_mono htr ?_ ?_) | wp_step))
    · rintro b s' ⟨H', I', q⟩
      exact wpAny_pure ⟨b, rfl, .bl b, H', I', rfl, q⟩
    · exact fun e s' he => he
  · rintro obj s₁ ⟨b, rfl, hq⟩
    exact ⟨PySem.typeIs_bool _ _, PySem.F.args_object_init_2 _ _, object_init_meets PySem.F.called_bool.init.lookup PySem.F.called_bool.made (by decide) _ _ _ _ s₁ ⟨PySem.typeIs_bool _ _, rfl, hq⟩⟩
end
end L2
namespace L2
open PySem PySem.Spec PyProof.Rows
/-- // by any divisor but 0, below 2 ^ 9000 in size -/
def CDivX (_ j : Int) : Prop := j ≠ 0 ∧ j.natAbs.log2 < 9000
theorem op_fdivX {X : Cx} : OpR X (binaryOp .FloorDiv) (rI CDivX fun i j => .int (i.fdiv j)) := opI fun i j _ _ _ _ _ hc q => floordiv_int hc.1 q (.inl (PyProof.noPylong_of_log2 hc.2))
end L2
namespace DL
open PySem L2 Evl
theorem mulw_small {i j : Int} (hi : i.natAbs < 18446744073709551616) (hj : j.natAbs < 18446744073709551616) : CMulW i j := wide_mul (a := 64) (b := 64) (by simpa using hi) (by simpa using hj) (by decide) (by decide) (by decide)
theorem divx_small {i j : Int} (h : j ≠ 0) (hj : j.natAbs < 18446744073709551616) : CDivX i j := ⟨h, Nat.lt_of_lt_of_le (PySem.Flt.log2_lt_of (show 0 < 64 by decide) (show j.natAbs < 2 ^ 64 by simpa using hj)) (by decide)⟩
theorem divx_of {i j : Int} (h : j ≠ 0) (hj : j.natAbs.log2 < 9000) : CDivX i j := ⟨h, hj⟩
theorem cpow_small {i j : Int} (h0 : 0 ≤ j) (h1 : j ≤ 1000000) (h2 : i.natAbs < 18446744073709551616) : CPow i j := ⟨h0, h1, by simpa using h2⟩
theorem sIx_none (n d : Nat) : HT.sIx n d none = d := rfl
theorem sIx_nat (n d : Nat) {k : Int} (h : 0 ≤ k) (hk : k ≤ n) : HT.sIx n d (some k) = k.toNat := by
  unfold HT.sIx
  simp only
  first
    | omega
    | (split <;> omega)
    | (split <;> split <;> omega)
end DL

set_option maxRecDepth 100000
/-! Df: defs of a law's text by their promises; calls within a try; how a body begins. -/
namespace DL
open PySem PySem.Spec PyProof.Rows L2 Evl
/-- the world of a law's text -/
structure Wd where
  P : Program
  w : World
  K : PySem.W.Frag
  mg : Str → Option Value
  base : Heap
/-- the name x stands for a def that keeps sp -/
def DefOk (W : Wd) (x : Str) (k : Nat) (ps : List Str) (sp : Sp) : Prop := ∃ f fd, FnOk W.P W.w W.K W.mg W.base (L2.CX W.P W.w) k f fd ps sp ∧ W.mg x = some (.ref f) ∧ PySem.W.keepIn W.K (.ref f) = true ∧ Binds W.K fd ps []
/-- the class at C has a method that keeps sp -/
def MethOk (W : Wd) (C : Addr) (m : Str) (k : Nat) (ps : List Str) (sp : Sp) : Prop := ∃ f fd, FnOk W.P W.w W.K W.mg W.base (L2.CX W.P W.w) k f fd ps sp ∧ Meth W.K C m f ∧ Binds W.K fd ps []
section
variable {W : Wd} {x qual : Str} {params : Arguments} {body : List Stmt} {scope : Scope} {dvs : List V} {kws : List (Str × V)} {f : Addr} {fd : FuncData} {N ps : List Str} {k : Nat} {sp : Sp}
theorem defOk_of (F : FunD W.K x qual params body scope [] [] f fd) (g : W.mg x = some (.ref f)) (S : FnScope N ps scope) (len : ∀ vs H Q E, sp vs H Q E → vs.length = ps.length)
    (hbind : ∀ (kV doc pm : Value) (an : Option Addr) (cdv ct : Value) (us : List Value), us.length = ps.length → bindArgs (PySem.W.fnOf x qual params body scope .none kV doc pm an cdv ct) ⟨us, []⟩ = pure (ps.zip us))
    (hbody : ∀ (cv : Value) (B : Around) (up : List Env) (s : Shared) (H : Hp) (vs : List V) (Q : VK) (E : XK), Room k (B.deeper (envOfC qual scope s.heap.objs.size f cv)) → sp vs H Q E →
      ∃ t, PSs (cxOf (L2.CX W.P W.w) W.P W.w W.K W.mg W.base N qual scope f cv B up s H E) body t ∧ t { nx := fun _ H' => Q .non H', rt := Q } (L2.start N vs) H) : DefOk W x (k + 1) ps sp :=
  ⟨f, fd, F.ok S len hbody, g, F.kp, F.bindsN hbind⟩
theorem methOk_of {C : Addr} (F : FunD W.K x qual params body scope [] [] f fd) (g : Meth W.K C x f) (S : FnScope N ps scope) (len : ∀ vs H Q E, sp vs H Q E → vs.length = ps.length)
    (hbind : ∀ (kV doc pm : Value) (an : Option Addr) (cdv ct : Value) (us : List Value), us.length = ps.length → bindArgs (PySem.W.fnOf x qual params body scope .none kV doc pm an cdv ct) ⟨us, []⟩ = pure (ps.zip us))
    (hbody : ∀ (cv : Value) (B : Around) (up : List Env) (s : Shared) (H : Hp) (vs : List V) (Q : VK) (E : XK), Room k (B.deeper (envOfC qual scope s.heap.objs.size f cv)) → sp vs H Q E →
      ∃ t, PSs (cxOf (L2.CX W.P W.w) W.P W.w W.K W.mg W.base N qual scope f cv B up s H E) body t ∧ t { nx := fun _ H' => Q .non H', rt := Q } (L2.start N vs) H) : MethOk W C x (k + 1) ps sp :=
  ⟨f, fd, F.ok S len hbody, g, F.bindsN hbind⟩
end
/-! ### lengths -/
theorem spP_len {S : List Dv → Dv → Prop} {R : List Dv → Value → Prop} {n : Nat} (h1 : ∀ ds r, S ds r → ds.length = n) (h2 : ∀ ds c, R ds c → ds.length = n) : ∀ vs H Q E, spP S R vs H Q E → vs.length = n := fun vs H Q E ⟨F, ds, _, r, h⟩ => by
  rw [← r.len]
  rcases h with ⟨r, h, _⟩ | ⟨c, h, _⟩
  · exact h1 _ _ h
  · exact h2 _ _ h
theorem spN_len {S : List Dv → List Dv → Prop} {n : Nat} (h1 : ∀ ds r, S ds r → ds.length = n) : ∀ vs H Q E, spN S vs H Q E → vs.length = n := fun vs H Q E ⟨F, ds, _, r, r', h, _⟩ => by
  rw [← r.len]
  exact h1 _ _ h
theorem spM_len {S : List Dv → List Dv → List Dv → Dv → Prop} {n : Nat} (h1 : ∀ ps ds ps' r, S ps ds ps' r → ds.length = n) : ∀ vs H Q E, spM S vs H Q E → vs.length = n + 1 := fun vs H Q E ⟨F, a, us, args, ps, ds, e, _, _, _, _, r, ps', r', h, _⟩ => by
  rw [e, List.length_cons, ← r.len, h1 _ _ _ _ h]
theorem spI_len {C : Addr} {S : List Dv → List (Str × Dv) → Prop} {R : List Dv → Value → Prop} {n : Nat} (h1 : ∀ ds r, S ds r → ds.length = n) (h2 : ∀ ds c, R ds c → ds.length = n) : ∀ vs H Q E, spI C S R vs H Q E → vs.length = n + 1 := fun vs H Q E ⟨F, x, dx, args, ds, e, _, _, _, _, r, h⟩ => by
  rw [e, List.length_cons, ← r.len]
  rcases h with ⟨r, h, _⟩ | ⟨c, h, _⟩
  · rw [h1 _ _ h]
  · rw [h2 _ _ h]
/-! ### how a body begins -/
theorem own_vals {Γ : List Slot} {σ : L2.St} {i : Nat} {a : Addr} (h : ∀ (i : Nat) (s : Slot), Γ[i]? = some s → s.isOwn = false) : ¬ OwnAt Γ σ i a := fun ⟨⟨s, e, o⟩, _⟩ => by
  rw [h i s e] at o
  cases o
def vals (ds : List Dv) : List Slot := ds.map Slot.val
def anys (n : Nat) : List Slot := List.replicate n .any
theorem anys_get {n i : Nat} {s : Slot} (e : (anys n)[i]? = some s) : s = .any := by
  unfold anys at e
  rw [List.getElem?_replicate] at e
  split at e
  · exact (Option.some.inj e).symm
  · cases e
theorem vals_no {ds : List Dv} {n : Nat} : ∀ (i : Nat) s, (vals ds ++ anys n)[i]? = some s → s.isOwn = false := fun i s e => by
  rw [List.getElem?_append] at e
  split at e
  · unfold vals at e
    rw [List.getElem?_map] at e
    cases q : ds[i]? with
    | none =>
      rw [q] at e
      cases e
    | some d => rw [q] at e; cases e; rfl
  · rw [anys_get e]
    rfl
theorem al_vals {F H : Hp} : ∀ {ds : List Dv} {vs : List V}, Reps F ds vs → Al (SlotOk F H) (vals ds) (vs.map some)
  | _, _, .nil => .nil
  | _, _, .cons r h => .cons ⟨_, rfl, r⟩ (al_vals h)
theorem al_anys {F H : Hp} : ∀ (n : Nat), Al (SlotOk F H) (anys n) (List.replicate n none)
  | 0 => .nil
  | n + 1 => .cons trivial (al_anys n)
/-- a def whose arguments are all frozen -/
theorem start_P {F H : Hp} {ds : List Dv} {vs : List V} {N : List Str} (e : Ex F H) (r : Reps F ds vs) : Holds ⟨NoO, F, H, fun _ => True, fun _ h => h⟩ (vals ds ++ anys (N.length - ds.length)) F (L2.start N vs) H := by
  refine ⟨Step.refl e, ?_, fun i a w => absurd w (own_vals vals_no), fun i j a w => absurd w (own_vals vals_no), trivial⟩
  unfold L2.start
  rw [← r.len]
  exact (al_vals r).app (al_anys _)
/-- a def whose first argument is an owned list -/
theorem start_M {F H : Hp} {a : Addr} {us : List V} {ps ds : List Dv} {vs : List V} {N : List Str} (e : Ex F H) (n : F a = none) (h : H a = some (.lst us)) (rp : Reps F ps us) (r : Reps F ds vs) :
    Holds ⟨fun b => b = a, F, H, fun _ => True, fun _ h => h⟩ (.own (some a) ps :: (vals ds ++ anys (N.length - (ds.length + 1)))) F (L2.start N (.ref a :: vs)) H := by
  have only : ∀ i b, OwnAt (.own (some a) ps :: (vals ds ++ anys (N.length - (ds.length + 1)))) (L2.start N (.ref a :: vs)) i b → i = 0 ∧ b = a := fun i b w => by
    cases i with
    | zero =>
      obtain ⟨_, e2⟩ := w
      cases e2
      exact ⟨rfl, rfl⟩
    | succ i =>
      obtain ⟨⟨s, e1, o⟩, _⟩ := w
      rw [List.getElem?_cons_succ] at e1
      rw [vals_no i s e1] at o
      cases o
  refine ⟨Step.refl e, ?_, fun i b w => .inl (only i b w).2, fun i j b w w' => by rw [(only i b w).1, (only j b w').1], trivial⟩
  have ee : start N (.ref a :: vs) = some (.ref a) :: (vs.map some ++ List.replicate (N.length - (ds.length + 1)) none) := by
    unfold L2.start
    rw [r.len] <;> rfl
  rw [ee]
  exact .cons ⟨a, rfl, n, fun b z => Option.some.inj z, us, h, rp⟩ ((al_vals r).app (al_anys _))
/-- an __init__ -/
theorem start_I {F H : Hp} {x dx C : Addr} {ds : List Dv} {vs : List V} {N : List Str} (e : Ex F H) (n : F x = none) (hd : F dx = some (.own x)) (h : H x = some (.ins C dx [])) (r : Reps F ds vs) :
    Holds ⟨fun b => b = x, F, H, fun _ => True, fun _ h => h⟩ (.obj (some x) C [] :: (vals ds ++ anys (N.length - (ds.length + 1)))) F (L2.start N (.ref x :: vs)) H := by
  have only : ∀ i b, OwnAt (.obj (some x) C [] :: (vals ds ++ anys (N.length - (ds.length + 1)))) (L2.start N (.ref x :: vs)) i b → i = 0 ∧ b = x := fun i b w => by
    cases i with
    | zero =>
      obtain ⟨_, e2⟩ := w
      cases e2
      exact ⟨rfl, rfl⟩
    | succ i =>
      obtain ⟨⟨s, e1, o⟩, _⟩ := w
      rw [List.getElem?_cons_succ] at e1
      rw [vals_no i s e1] at o
      cases o
  refine ⟨Step.refl e, ?_, fun i b w => .inl (only i b w).2, fun i j b w w' => by rw [(only i b w).1, (only j b w').1], trivial⟩
  have ee : start N (.ref x :: vs) = some (.ref x) :: (vs.map some ++ List.replicate (N.length - (ds.length + 1)) none) := by
    unfold L2.start
    rw [r.len] <;> rfl
  rw [ee]
  exact .cons ⟨x, rfl, n, fun b z => Option.some.inj z, dx, [], hd, h, .nil⟩ ((al_vals r).app (al_anys _))
/-- the bodies, from the data -/
theorem body_P {S : List Dv → Dv → Prop} {R : List Dv → Value → Prop} {t : TS} {N : List Str} {vs : List V} {H : Hp} {Q : VK} {E : XK} (h : spP S R vs H Q E)
    (k : ∀ F ds, ds.length = vs.length → ((∃ r, S ds r ∧ ∀ v F' H', Step NoO F H F' H' → r.rep F' v → Q v H') ∨ (∃ c, R ds c ∧ ∀ F' H', Step NoO F H F' H' → E c none H')) →
      OK ⟨NoO, F, H, fun _ => True, fun _ h => h⟩ (vals ds ++ anys (N.length - ds.length)) (t { nx := fun _ H' => Q .non H', rt := Q })) : t { nx := fun _ H' => Q .non H', rt := Q } (L2.start N vs) H := by
  obtain ⟨F, ds, e, r, h⟩ := h
  exact k F ds r.len h F _ H (start_P e r)
theorem body_N {S : List Dv → List Dv → Prop} {t : TS} {N : List Str} {vs : List V} {H : Hp} {Q : VK} {E : XK} (h : spN S vs H Q E)
    (k : ∀ F ds r, ds.length = vs.length → S ds r → (∀ p us F' H', Step NoO F H F' H' → H p = none → F' p = none → H' p = some (.lst us) → Reps F' r us → Q (.ref p) H') →
      OK ⟨NoO, F, H, fun _ => True, fun _ h => h⟩ (vals ds ++ anys (N.length - ds.length)) (t { nx := fun _ H' => Q .non H', rt := Q })) : t { nx := fun _ H' => Q .non H', rt := Q } (L2.start N vs) H := by
  obtain ⟨F, ds, e, r, r', h, q⟩ := h
  exact k F ds r' r.len h q F _ H (start_P e r)
theorem body_M {S : List Dv → List Dv → List Dv → Dv → Prop} {t : TS} {N : List Str} {vs : List V} {H : Hp} {Q : VK} {E : XK} (h : spM S vs H Q E)
    (k : ∀ F a ps ds ps' r, ds.length + 1 = vs.length → S ps ds ps' r → (∀ v F' H' us', Step (fun b => b = a) F H F' H' → F' a = none → H' a = some (.lst us') → Reps F' ps' us' → r.rep F' v → Q v H') →
      OK ⟨fun b => b = a, F, H, fun _ => True, fun _ h => h⟩ (.own (some a) ps :: (vals ds ++ anys (N.length - (ds.length + 1)))) (t { nx := fun _ H' => Q .non H', rt := Q })) : t { nx := fun _ H' => Q .non H', rt := Q } (L2.start N vs) H := by
  obtain ⟨F, a, us, args, ps, ds, rfl, e, n, hu, rp, r, ps', r', h, q⟩ := h
  exact k F a ps ds ps' r' (by rw [List.length_cons, r.len]) h q F _ H (start_M e n hu rp r)
theorem body_I {C : Addr} {S : List Dv → List (Str × Dv) → Prop} {R : List Dv → Value → Prop} {t : TS} {N : List Str} {vs : List V} {H : Hp} {Q : VK} {E : XK} (h : spI C S R vs H Q E)
    (k : ∀ F x ds, ds.length + 1 = vs.length → ((∃ fs, S ds fs ∧ ∀ F' H' dx' us, Step (fun b => b = x) F H F' H' → F' x = none → F' dx' = some (.own x) → H' x = some (.ins C dx' us) → RepF F' fs us → Q .non H') ∨ (∃ c, R ds c ∧ ∀ F' H', Step (fun b => b = x) F H F' H' → E c none H')) →
      OK ⟨fun b => b = x, F, H, fun _ => True, fun _ h => h⟩ (.obj (some x) C [] :: (vals ds ++ anys (N.length - (ds.length + 1)))) (t { nx := fun _ H' => Q .non H', rt := Q })) : t { nx := fun _ H' => Q .non H', rt := Q } (L2.start N vs) H := by
  obtain ⟨F, x, dx, args, ds, rfl, e, n, hd, hx, r, h⟩ := h
  exact k F x ds (by rw [List.length_cons, r.len]) h F _ H (start_I e n hd hx r)
/-! ### defs at addresses, own exceptions, __init__ with defaults -/
def FnAt (W : Wd) (f : Addr) (k : Nat) (ps : List Str) (sp : Sp) : Prop := ∃ fd, FnOk W.P W.w W.K W.mg W.base (L2.CX W.P W.w) k f fd ps sp ∧ Binds W.K fd ps []
structure ExcOk (W : Wd) (nm : Str) (C : Addr) : Prop where
  g : W.mg nm = some (.ref C)
  x : PySem.W.excIn W.K C [.type "ValueError", .type "Exception", .type "BaseException", .type "object"] "ValueError.__new__" = true
  k : PySem.W.keepIn W.K (.ref C) = true
  b : PySem.W.subIn W.K (.ref C) (.type "BaseException") = some true
  t : PySem.W.typeIn W.K (.ref C) = some (.type "type")
/-- C(..): __init__ keeps sp; nd written values, the others by default -/
def InitOk (W : Wd) (C : Addr) (k : Nat) (ps : List Str) (sp : Sp) : Prop := ∃ f fd, FnOk W.P W.w W.K W.mg W.base (L2.CX W.P W.w) k f fd ps sp ∧ Mk W.K C f ∧ Binds W.K fd ps []
def InitOkD (W : Wd) (C : Addr) (k : Nat) (ps : List Str) (sp : Sp) (dvs : List V) : Prop := ∃ f fd ds, FnOk W.P W.w W.K W.mg W.base (L2.CX W.P W.w) k f fd ps sp ∧ Mk W.K C f ∧ Binds W.K fd ps [] ∧ Binds W.K fd ps ds ∧ Vals dvs ds
section
variable {W : Wd} {x qual : Str} {params : Arguments} {body : List Stmt} {scope : Scope} {dvs : List V} {kws : List (Str × V)} {f : Addr} {fd : FuncData} {N ps : List Str} {k : Nat} {sp : Sp}
theorem fnAt_of (F : FunD W.K x qual params body scope [] [] f fd) (S : FnScope N ps scope) (len : ∀ vs H Q E, sp vs H Q E → vs.length = ps.length)
    (hbind : ∀ (kV doc pm : Value) (an : Option Addr) (cdv ct : Value) (us : List Value), us.length = ps.length → bindArgs (PySem.W.fnOf x qual params body scope .none kV doc pm an cdv ct) ⟨us, []⟩ = pure (ps.zip us))
    (hbody : ∀ (cv : Value) (B : Around) (up : List Env) (s : Shared) (H : Hp) (vs : List V) (Q : VK) (E : XK), Room k (B.deeper (envOfC qual scope s.heap.objs.size f cv)) → sp vs H Q E →
      ∃ t, PSs (cxOf (L2.CX W.P W.w) W.P W.w W.K W.mg W.base N qual scope f cv B up s H E) body t ∧ t { nx := fun _ H' => Q .non H', rt := Q } (start N vs) H) : FnAt W f (k + 1) ps sp :=
  ⟨fd, F.ok S len hbody, F.bindsN hbind⟩
theorem initOk_of {C : Addr} (F : FunD W.K x qual params body scope [] [] f fd) (g : Mk W.K C f) (S : FnScope N ps scope) (len : ∀ vs H Q E, sp vs H Q E → vs.length = ps.length)
    (hbind : ∀ (kV doc pm : Value) (an : Option Addr) (cdv ct : Value) (us : List Value), us.length = ps.length → bindArgs (PySem.W.fnOf x qual params body scope .none kV doc pm an cdv ct) ⟨us, []⟩ = pure (ps.zip us))
    (hbody : ∀ (cv : Value) (B : Around) (up : List Env) (s : Shared) (H : Hp) (vs : List V) (Q : VK) (E : XK), Room k (B.deeper (envOfC qual scope s.heap.objs.size f cv)) → sp vs H Q E →
      ∃ t, PSs (cxOf (L2.CX W.P W.w) W.P W.w W.K W.mg W.base N qual scope f cv B up s H E) body t ∧ t { nx := fun _ H' => Q .non H', rt := Q } (start N vs) H) : InitOk W C (k + 1) ps sp :=
  ⟨f, fd, F.ok S len hbody, g, F.bindsN hbind⟩
/-- one default -/
theorem initOkD_of {C : Addr} {d : V} (F : FunD W.K x qual params body scope [d] [] f fd) (g : Mk W.K C f) (S : FnScope N ps scope) (len : ∀ vs H Q E, sp vs H Q E → vs.length = ps.length)
    (hp : 1 ≤ ps.length)
    (hbind : ∀ (T : Addr) (kV doc pm : Value) (an : Option Addr) (cdv ct : Value) (us its : List Value), us.length = ps.length → its.length = 1 →
      ∃ k, bindArgs (PySem.W.fnOf x qual params body scope (.ref T) kV doc pm an cdv ct) ⟨us, []⟩ = seqItems? (.ref T) >>= k ∧ k (some its.toArray) = pure (ps.zip (us ++ its.drop 1)))
    (hbind2 : ∀ (T : Addr) (kV doc pm : Value) (an : Option Addr) (cdv ct : Value) (us its : List Value), us.length = ps.length - 1 → its.length = 1 →
      ∃ k, bindArgs (PySem.W.fnOf x qual params body scope (.ref T) kV doc pm an cdv ct) ⟨us, []⟩ = seqItems? (.ref T) >>= k ∧ k (some its.toArray) = pure (ps.zip (us ++ its.drop 0)))
    (hbody : ∀ (cv : Value) (B : Around) (up : List Env) (s : Shared) (H : Hp) (vs : List V) (Q : VK) (E : XK), Room k (B.deeper (envOfC qual scope s.heap.objs.size f cv)) → sp vs H Q E →
      ∃ t, PSs (cxOf (L2.CX W.P W.w) W.P W.w W.K W.mg W.base N qual scope f cv B up s H E) body t ∧ t { nx := fun _ H' => Q .non H', rt := Q } (start N vs) H) : InitOkD W C (k + 1) ps sp [d] := by
  obtain ⟨ds, v1, b1⟩ := F.binds1 ps.length 1 (by simp) (by simp) hbind
  obtain ⟨ds2, v2, b2⟩ := F.binds1 (ps.length - 1) 0 (by simp) (by simp; omega) hbind2
  have e : ds = [] := by
    cases v1
    rfl
  rw [e] at b1
  exact ⟨f, fd, ds2, F.ok S len hbody, g, b1, b2, v2⟩
end
end DL

set_option maxRecDepth 100000
/-! Cl: instances of an own class with two ints, its operators, isinstance, exceptions, try. -/
namespace DL
open PySem L2 Evl
structure Rt where
  top : Int
  bot : Int
  deriving DecidableEq
/-- what the class says about its instances -/
structure RatW (K : PySem.W.Frag) (C : Addr) : Prop where
  cls : Cls K C
  nt : NoAttr K C "top"
  nb : NoAttr K C "bottom"
  ha : PySem.W.findIn K (Value.ref C) "__class__" = some (some (Value.builtin "object.__class__"))
  hn : PySem.W.specialIn K (Value.builtin "object.__class__") "__get__" = some (some (Value.builtin "getset_descriptor.__get__"))
  htk : PySem.W.takesIn K (Value.builtin "object.__class__") = some true
  hm : PySem.W.mroIn K C (Value.type "object") = some true
  ni : PySem.W.kitOne K (.type "int") (.ref C) = some false
def ratF (q : Rt) : List (Str × V) := [("top", .int q.top), ("bottom", .int q.bot)]
def tRat (C : Addr) : Ty Rt := ⟨fun F v q => ∃ a dx, v = .ref a ∧ F a = some (.ins C dx (ratF q)), fun e ⟨a, dx, h1, h2⟩ => ⟨a, dx, h1, e _ _ h2⟩⟩
section
variable {K : PySem.W.Frag} {C : Addr} {p q : Rt} {i : Int}
theorem fld_top (R : RatW K C) : FldOf K (tRat C) q "top" tInt q.top := fun F v ⟨a, dx, h1, h2⟩ => ⟨a, C, dx, _, _, h1, h2, R.cls, R.nt, by
  show List.lookup _ [(("top" : Str), V.int q.top), (("bottom" : Str), V.int q.bot)] = _
  rw [List.lookup_cons]
  have e1 : ((("top" : Str)) == ("top" : Str)) = true := by decide +kernel
  rw [e1], rfl⟩
theorem fld_bot (R : RatW K C) : FldOf K (tRat C) q "bottom" tInt q.bot := fun F v ⟨a, dx, h1, h2⟩ => ⟨a, C, dx, _, _, h1, h2, R.cls, R.nb, by
  show List.lookup _ [(("top" : Str), V.int q.top), (("bottom" : Str), V.int q.bot)] = _
  rw [List.lookup_cons, List.lookup_cons]
  have e1 : ((("bottom" : Str)) == ("top" : Str)) = false := by decide +kernel
  have e2 : ((("bottom" : Str)) == ("bottom" : Str)) = true := by decide +kernel
  rw [e1, e2], rfl⟩
theorem ins_rat {m : Str} (h1 : (m == ("top" : Str)) = false := by decide +kernel) (h2 : (m == ("bottom" : Str)) = false := by decide +kernel) : InsOf (tRat C) q C m := fun F v ⟨a, dx, e1, e2⟩ => ⟨a, dx, _, e1, e2, by
  show List.lookup _ [(("top" : Str), V.int q.top), (("bottom" : Str), V.int q.bot)] = _
  rw [List.lookup_cons, List.lookup_cons, h1, h2]
  rfl⟩
theorem mk_rat : MkOf C [("top", ⟨tInt, q.top⟩), ("bottom", ⟨tInt, q.bot⟩)] (tRat C) q := fun F a dx us h1 h2 h3 => by
  cases h3 with
  | cons r h3 => cases h3 with
    | cons r2 h3 =>
      cases h3
      obtain ⟨r, ra⟩ := r
      obtain ⟨r2, rb⟩ := r2
      refine ⟨a, dx, rfl, ?_⟩
      rename_i b b'
      obtain ⟨b1, b2⟩ := b
      obtain ⟨c1, c2⟩ := b'
      simp only at r r2 ra rb
      subst r r2
      cases ra
      cases rb
      exact h1
end
section
variable {α β γ : Type} {t : Ty α} {u : Ty β} {w : Ty γ} {x : α} {y : β} {z : γ} {Γ Γ' Γ1 Γ2 Γ3 : List Slot} {ta tb tc te : TE} {r : R2} {ds es : List Dv} {K : PySem.W.Frag} {C : Addr} {p q : Rt} {i : Int} {E : XK}
/-! ### operators -/
theorem op2_own {S : List Dv → Dv → Prop} {R : List Dv → Value → Prop} (h : S [⟨tRat C, p⟩, ⟨tRat C, q⟩] ⟨w, z⟩) : Op2 (rOwn2 C (spP S R) E) (tRat C) p (tRat C) q w z := fun F H v1 v2 e r1 r2 Q k => by
  obtain ⟨a, dx, rfl, h1⟩ := r1
  obtain ⟨b, dy, rfl, h2⟩ := r2
  exact ⟨a, b, dx, dy, _, _, rfl, rfl, e _ _ h1, e _ _ h2, spP_v h F H _ e (.cons ⟨a, dx, rfl, h1⟩ (.cons ⟨b, dy, rfl, h2⟩ .nil)) Q E k⟩
theorem op2_ownI {S : List Dv → Dv → Prop} {R : List Dv → Value → Prop} (h : S [⟨tRat C, p⟩, ⟨tInt, i⟩] ⟨w, z⟩) : Op2 (rOwnI C (spP S R) E) (tRat C) p tInt i w z := fun F H v1 v2 e r1 r2 Q k => by
  obtain ⟨a, dx, rfl, h1⟩ := r1
  cases r2
  exact ⟨a, dx, _, i, rfl, rfl, e _ _ h1, spP_v h F H _ e (.cons ⟨a, dx, rfl, h1⟩ (.cons rfl .nil)) Q E k⟩
theorem op2_ownR {S : List Dv → Dv → Prop} {R : List Dv → Value → Prop} (h : S [⟨tRat C, p⟩, ⟨tInt, i⟩] ⟨w, z⟩) : Op2 (rOwnR C (spP S R) E) tInt i (tRat C) p w z := fun F H v1 v2 e r1 r2 Q k => by
  obtain ⟨a, dx, rfl, h1⟩ := r2
  cases r1
  exact ⟨a, dx, _, i, rfl, rfl, e _ _ h1, spP_v h F H _ e (.cons ⟨a, dx, rfl, h1⟩ (.cons rfl .nil)) Q E k⟩
theorem op1_own {S : List Dv → Dv → Prop} {R : List Dv → Value → Prop} (h : S [⟨tRat C, p⟩] ⟨w, z⟩) : Op1 (rOwn1 C (spP S R) E) (tRat C) p w z := fun F H v1 e r1 Q k => by
  obtain ⟨a, dx, rfl, h1⟩ := r1
  exact ⟨a, dx, _, rfl, e _ _ h1, spP_v h F H _ e (.cons ⟨a, dx, rfl, h1⟩ .nil) Q E k⟩
theorem on_own1 {S : List Dv → Dv → Prop} {R : List Dv → Value → Prop} (h : S [⟨tRat C, p⟩] ⟨w, z⟩) : OpN (fun xs H Q => ∃ x, xs = [x] ∧ rOwn1 C (spP S R) E x H Q) [⟨tRat C, p⟩] w z := fun F H vs e r1 Q k => by
  cases r1 with
  | cons r r' =>
    cases r'
    exact ⟨_, rfl, op1_own h F H _ e r Q k⟩
theorem op2_eq {S : List Dv → Dv → Prop} {R : List Dv → Value → Prop} (h : S [⟨tRat C, p⟩, ⟨tRat C, q⟩] ⟨w, z⟩) : Op2 (rOwnEq C (spP S R) E) (tRat C) p (tRat C) q w z := fun F H v1 v2 e r1 r2 Q k => by
  obtain ⟨a, dx, rfl, h1⟩ := r1
  obtain ⟨b, dy, rfl, h2⟩ := r2
  exact ⟨a, dx, _, rfl, e _ _ h1, .inl ⟨b, dy, _, rfl, e _ _ h2⟩, spP_v h F H _ e (.cons ⟨a, dx, rfl, h1⟩ (.cons ⟨b, dy, rfl, h2⟩ .nil)) Q E k⟩
theorem op2_eqI {S : List Dv → Dv → Prop} {R : List Dv → Value → Prop} (h : S [⟨tRat C, p⟩, ⟨tInt, i⟩] ⟨w, z⟩) : Op2 (rOwnEq C (spP S R) E) (tRat C) p tInt i w z := fun F H v1 v2 e r1 r2 Q k => by
  obtain ⟨a, dx, rfl, h1⟩ := r1
  cases r2
  exact ⟨a, dx, _, rfl, e _ _ h1, .inr ⟨i, rfl⟩, spP_v h F H _ e (.cons ⟨a, dx, rfl, h1⟩ (.cons rfl .nil)) Q E k⟩
theorem on_ownB {S : List Dv → Dv → Prop} {R : List Dv → Value → Prop} {b : Bool} (h : S [⟨tRat C, p⟩] ⟨tBool, b⟩) : OpN (fun xs H Q => ∃ x, xs = [x] ∧ rOwnB C (spP S R) E x H fun b H' => Q (.bl b) H') [⟨tRat C, p⟩] tBool b := fun F H vs e r1 Q k => by
  cases r1 with
  | cons r r' =>
    cases r'
    obtain ⟨a, dx, rfl, h1⟩ := r
    refine ⟨_, rfl, a, dx, _, rfl, e _ _ h1, spP_v h F H _ e (.cons ⟨a, dx, rfl, h1⟩ .nil) _ E fun v F' H' st rv => ⟨b, rv, k _ F' H' st rfl⟩⟩
theorem on_gcd {i j : Int} : OpN rGcd [⟨tInt, i⟩, ⟨tInt, j⟩] tInt ((Nat.gcd i.natAbs j.natAbs : Nat) : Int) := fun F H vs e r Q k => by
  cases r with
  | cons r r' => cases r' with
    | cons r2 r' =>
      cases r'
      cases r
      cases r2
      exact ⟨_, _, rfl, k _ F H (Step.refl e) rfl⟩
theorem den_tup2 (h : Den ta Γ t x Γ1) (h2 : Den tb Γ1 u y Γ2) : Den (tTup (tCons ta (tCons tb tNil))) Γ (tPair t u) (x, y) Γ2 := den_as (den_row (da_cons h (da_cons h2 da_nil)) (by show 2 ≤ 100000; decide)) row_pair
/-! ### isinstance -/
def IsTy (K : PySem.W.Frag) (t : Ty α) (x : α) (τ : Value) : Prop := ∀ F H v, Ex F H → t.rep F v x → TyX K H v τ
theorem ty_int : IsTy K tInt i (.type "int") := fun F H v e r => by cases r; exact .base (.int _)
theorem ty_bool {b : Bool} : IsTy K tBool b (.type "bool") := fun F H v e r => by cases r; exact .base (.bl _)
theorem ty_rat (R : RatW K C) : IsTy K (tRat C) q (.ref C) := fun F H v e r => by
  obtain ⟨a, dx, rfl, h1⟩ := r
  exact .base (.ins (e _ _ h1) R.cls R.ha R.hn R.htk R.hm)
theorem den_isi {c : V} {cv τ : Value} {b : Bool} (ha : Den ta Γ t x Γ1) (k : ClsV c cv) (T : IsTy K t x τ) (e : PySem.W.kitOne K τ cv = some b) : Den (tCB (rIsi K) (tCons ta (tCons (tC c) tNil))) Γ tBool b Γ1 := fun Z F σ H hh Q q =>
  ha Z F σ H hh _ fun v F1 H1 h1 p r => ⟨v, c, τ, cv, b, rfl, k, T F1 H1 v h1.fh r, e, q _ F1 H1 h1 p rfl⟩
theorem kit_self {τ : Value} (h : (τ == τ) = true := by simp) : PySem.W.kitOne K τ τ = some true := by
  unfold PySem.W.kitOne
  rw [if_pos h]
theorem den_isE {D a : Addr} {c : V} {cv : Value} {b : Bool} {j : Nat} (e1 : Γ[j]? = some (.val ⟨tRaw, .ref a⟩)) (k : ClsV c cv) (e : PySem.W.kitOne K (.ref D) cv = some b) : Den (tCB (rIsE K D a) (tCons (tVar j) (tCons (tC c) tNil))) Γ tBool b Γ := fun Z F σ H hh Q q => by
  obtain ⟨v, h1, h2⟩ := hh.val e1
  cases h2
  exact ⟨_, h1, c, cv, b, rfl, fun u r => k.eq r, e, q _ F H hh Pres.refl rfl⟩
/-! ### lists of truths, compared -/
theorem dp_bools {H F : Hp} : ∀ {xs : List Bool} {vs : List V}, Al (fun x v => tBool.rep F v x) xs vs → DpAll K H vs (xs.map PyData.bool)
  | _, _, .nil => .nil
  | _, _, .cons r h => by
    cases r
    exact .cons (.bl _) (dp_bools h)
theorem den_eqBL {xs ys : List Bool} {j : Nat} {b : Bool} (e : Γ[j]? = some (.lst tBool xs)) (hb : DenL tb Γ tBool ys Γ2) (e2 : Γ2[j]? = some (.lst tBool xs)) (s1 : SeqAt.shaped (.list (xs.map PyData.bool)) = true) (s2 : SeqAt.shaped (.list (ys.map PyData.bool)) = true)
    (hv : PyData.eqv (.list (xs.map PyData.bool)) (.list (ys.map PyData.bool)) = b) : Den (tOp (rEqD K) (tVar j) tb) Γ tBool b Γ2 := fun Z F σ H hh Q q => by
  obtain ⟨a, h1, _, _⟩ := hh.owned e rfl
  refine ⟨_, h1, hb Z F σ H hh _ fun c vs F' H' h' p r1 r2 => ?_⟩
  obtain ⟨a', h1', ⟨_, us, hu, ru⟩, _⟩ := h'.owned e2 rfl
  rw [h1] at h1'
  cases h1'
  refine ⟨_, _, .lst (sq_of hu) (dp_bools ru), .lst (sq_of r1) (dp_bools r2), s1, s2, ?_⟩
  rw [hv]
  exact q _ F' H' h' p rfl
end
section
variable {Z : En} {Γ Γ' Γ1 Γ2 : List Slot} {F H : Hp} {σ : L2.St} {i : Nat} {D : Ends} {te : TE}
theorem Holds.drop (h : Holds Z Γ F σ H) (i : Nat) : Holds Z (Γ.set i .any) F (σ.set i none) H := by
  refine ⟨h.st, h.sl.set trivial i, fun j a w => ?_, fun j k a w w' => ?_, h.pp⟩
  · rcases ownAt_set w h.len with ⟨_, q, _⟩ | ⟨_, w⟩
    · cases q
    · exact h.ow j a w
  · rcases ownAt_set w h.len with ⟨_, q, _⟩ | ⟨_, w⟩
    · cases q
    · rcases ownAt_set w' h.len with ⟨_, q, _⟩ | ⟨_, w'⟩
      · cases q
      · exact h.di j k a w w'
theorem s_back {P : L2.St → Hp → Prop} (h : OK Z (Γ.set i .any) P) : OK Z Γ (fun σ H => P (σ.set i none) H) := fun F σ H hh => h F _ H (hh.drop i)
/-! ### raising, catching -/
theorem s_raise {P : L2.St → Hp → Prop} {O : Addr → Prop} {F0 H0 : Hp} {E : XK} {c : Value} (hZ : Z.F = F0 ∧ Z.H = H0 ∧ Z.O = O) (q : ∀ F' H', Step O F0 H0 F' H' → E c none H') (hP : ∀ σ H, E c none H → P σ H) : OK Z Γ P := fun F σ H hh => by
  obtain ⟨z1, z2, z3⟩ := hZ
  refine hP σ H (q F H ?_)
  rw [← z1, ← z2, ← z3]
  exact hh.st
def BotS (te : TE) (Γ Γ' : List Slot) (E : L2.St → XK) (c : Value) : Prop := ∀ (Z : En) F σ H, Holds Z Γ F σ H → (∀ F' H', Holds Z Γ' F' σ H' → E σ c none H') → ∀ Q : VK, te σ H Q
theorem s_botS {E : L2.St → XK} {c : Value} (h : BotS te Γ Γ1 E c) (e : OK Z Γ1 fun σ H => E σ c none H) : OK Z Γ (tDrop te D) := fun F σ H hh => h Z F σ H hh (fun F' H' h' => e F' σ H' h') _
theorem s_caught {K : PySem.W.Frag} {c cls : Value} {d : Option Addr} {ts : Addr → Value → Option Addr → TS} {Wout : WX} (hb : PySem.W.exmOne K cls c = some true)
    (h : ∀ a, OK Z (Γ.set i (.val ⟨tRaw, .ref a⟩)) (ts a cls d { nx := fun σ' H' => D.nx (σ'.set i none) H', rt := D.rt, bk := fun σ' H' => D.bk (σ'.set i none) H', ct := fun σ' H' => D.ct (σ'.set i none) H' })) :
    OK Z Γ (fun σ H => wAs K c i ts Wout D cls d σ H) := fun F σ H hh => ⟨true, hb, fun _ a _ => h a F _ H (hh.set (d := ⟨tRaw, .ref a⟩) i rfl), fun e => nomatch e⟩
theorem s_prop {P : Prop} {t : L2.St → Hp → Prop} (p : P) (h : OK Z Γ t) : OK Z Γ (fun σ H => P ∧ t σ H) := fun F σ H hh => ⟨p, h F σ H hh⟩
/-- what is never reached -/
theorem ps_dead {X : Cx} {st : Stmt} : PS X st (fun _ _ _ => False) := ⟨fun _ _ _ _ _ _ h => h.elim⟩
theorem zc_of {cls D : Value} {d : Option Addr} {oe : Obj} (h : cls = D ∧ d = none) (z : Zc cls d oe) : Zc D none oe := by
  obtain ⟨rfl, rfl⟩ := h
  exact z
theorem pss_if {X : Cx} {st : List Stmt} {P : Prop} {t : TS} (h : P → PSs X st t) : PSs X st (fun D σ H => P ∧ t D σ H) := ⟨fun pins s σ H D I ⟨p, q⟩ => (h p).run pins s σ H D I q⟩
end
end DL
namespace L2
open PySem PySem.Spec PyProof.Rows
section
variable {X : Cx} {CX : CXT} {k : Nat} {f C : Addr} {fd : FuncData} {ps : List Str} {sp : Sp} {E : St → XK} {x m : Str} {p pos apos : Pos} {e o : Expr} {es : List Expr} {ta : TE} {t : TA} {ds : List Value} {dvs : List V}
def tMakeAt (C : Addr) (sp : Sp) (dvs : List V) (E : St → XK) (t : TA) : TE := fun σ H Q => tMake C sp dvs (E σ) t σ H Q
def tMethAt (C : Addr) (m : Str) (sp : Sp) (dvs : List V) (E : St → XK) (ta : TE) (t : TA) : TE := fun σ H Q => tMeth C m sp dvs (E σ) ta t σ H Q
theorem run_makeAt {pins : List (Addr × Obj)} {σ : St} {H : Hp} {s : Shared} {Q : VK} {us : List Value} {vs : List V} (M : Mk X.K C f) (F : FnOk X.prog X.w X.K X.mg X.base CX k f fd ps sp) (hr : Room (k + 1) X.A) (hb : Binds X.K fd ps ds) (hd : Vals dvs ds)
    (hx : PassesAt CX X σ (E σ)) (I : Inv X pins σ H s) (r : Vals vs us)
    (h : ∀ x dx, H x = none → H dx = none → dx ≠ x → sp (.ref x :: (vs ++ dvs)) (upd (upd H dx (.own x)) x (.ins C dx [])) (fun v H2 => v = .non ∧ Q (.ref x) H2) (E σ)) :
    wpAny (model X.prog X.w) X.A (PySem.call (Value.ref C) us) (EP X pins σ Q) X.xe s := by
  have want := h (s.heap.objs.size + 1) s.heap.objs.size (I.hok.fresh (by omega)) (I.hok.fresh (by omega)) (Nat.succ_ne_self _).symm
  have made := Inv.made (C := C) I
  have pairs : Vals (V.ref (s.heap.objs.size + 1) :: (vs ++ dvs)) (Value.ref (s.heap.objs.size + 1) :: (us ++ ds)) := .cons rfl (r.append hd)
  have many : (Value.ref (s.heap.objs.size + 1) :: us ++ ds).length = ps.length := pairs.length.symm.trans (F.len _ _ _ _ want)
  have bound := hb _ (Value.ref (s.heap.objs.size + 1) :: us) made.kIn many
  have inside := F.run _ X.stack _ _ ⟨Value.ref (s.heap.objs.size + 1) :: us, []⟩ _ _ _ (E σ) (hr.make C us []) (made.env0.make C us []) bound pairs want
  refine wpAny_call (make_map (f := f) I.kIn M.makes M.init (beq_iff_eq.mp M.fn) (codeAny_mono inside fun res t z => ?_))
  match res, z with
  | .error u, z => exact hx pins _ _ u t made z
  | .ok (.ret u), z =>
    obtain ⟨v, H2, J, rv, e, k⟩ := made.after z
    subst e
    exact ⟨rv, V.ref (s.heap.objs.size + 1), H2, J, rfl, k⟩
  | .ok .next, z => exact absurd z id
  | .ok .brk, z => exact absurd z id
  | .ok .cont, z => exact absurd z id
theorem pe_makeAt (M : Mk X.K C f) (F : FnOk X.prog X.w X.K X.mg X.base CX k f fd ps sp) (hr : Room (k + 1) X.A) (hg : Gl X x) (hm : X.mg x = some (.ref C)) (hb : Binds X.K fd ps ds) (hd : Vals dvs ds) (hx : ∀ σ, PassesAt CX X σ (E σ))
    (ha : PA X (e :: es) t)
    (hdb : (x == ("__debug__" : Str)) = false := by decide)
    (he : starEach (e :: es) X.env = (false, eval e X.env) :: starEach es X.env := by rfl)
    (hpl : (backTo pos (starEach es X.env)).any (·.1) = false := by rfl) :
    PE X (.Call (.Name x p) (e :: es) [] pos) (tMakeAt C sp dvs E t) := by
  constructor
  intro pins s σ H Q I h
  have args := ha.run pos pins s σ H _ I h
  exact wpAny_Call_Name_kw (ld_glob I hg hm (PySem.W.callWith_K (h₀ := X.base) I.ok.mod.kin M.kp (thn args fun _ _ ⟨_, _, J, r, q⟩ => ⟨J.kIn, run_makeAt M F hr hb hd (hx σ) J r q⟩) he hpl) hdb)
theorem pe_methAt {pl : Sem Bool} (he : PE X o ta) (c : Cls X.K C) (hm : Meth X.K C m f) (F : FnOk X.prog X.w X.K X.mg X.base CX k f fd ps sp) (hr : Room k X.A) (hb : Binds X.K fd ps []) (hx : ∀ σ, PassesAt CX X σ (E σ)) (ha : PA X (e :: es) t)
    (hst : starEach (e :: es) X.env = (false, eval e X.env) :: starEach es X.env := by rfl) (hpl : (backTo pos (starEach es X.env)).any (·.1) = false := by rfl)
    (ht : eval (.Call (.Attribute o m apos) (e :: es) [] pos) X.env = (do
      let ov ← eval o X.env
      standAt apos.atName
      let (f, first) ← holding [ov] (getMethod ov m pl)
      callWith pos f first (backTo pos (starEach (e :: es) X.env)) (backToKw pos (keywordEach [] X.env))) := by rfl) :
    PE X (.Call (.Attribute o m apos) (e :: es) [] pos) (tMethAt C m sp [] E ta t) := by
  refine ⟨fun pins s σ H Q I h => ?_⟩
  refine PySem.W.methodCall_KW (pl := pl) (thn (he.run pins s σ H _ I h) fun u s1 ⟨x, H1, I1, rx, a, dx, fs, ex, ea, l, q⟩ => ?_) ht
  subst ex
  obtain rfl : u = Value.ref a := rx
  refine getmeth_ok I1 ea c hm l ?_
  refine PySem.W.callWith_K (first := [.ref a]) (h₀ := X.base) I.ok.mod.kin hm.kp (thn (ha.run pos pins s1 σ H1 _ I1 q) fun us s2 ⟨vs, H2, I2, r, q2⟩ => ⟨I2.kIn, ?_⟩) hst hpl
  have q3 : sp (V.ref a :: (vs ++ [])) H2 Q (E σ) := q2
  rw [List.append_nil] at q3
  exact run_fnS (us := .ref a :: us) (vs := .ref a :: vs) F hr hb (hx σ) I2 (.cons rfl r) q3
end
end L2
namespace DL
open PySem L2 Evl
section
variable {α β γ : Type} {t : Ty α} {u : Ty β} {w : Ty γ} {x : α} {y : β} {z : γ} {Γ Γ' Γ1 Γ2 Γ3 : List Slot} {ta tb tc te : TE} {ds es : List Dv} {K : PySem.W.Frag} {C : Addr} {E : L2.St → XK} {tr : TA}
theorem den_makeS {S : List Dv → List (Str × Dv) → Prop} {R : List Dv → Value → Prop} {fs : List (Str × Dv)} (h : DenA tr Γ ds Γ1) (hs : S ds fs) (hm : MkOf C fs w z) : Den (tMakeAt C (spI C S R) [] E tr) Γ w z Γ1 := fun Z F σ H hh Q q =>
  den_make0 (E := E σ) h hs hm Z F σ H hh Q q
theorem bots_make {S : List Dv → List (Str × Dv) → Prop} {R : List Dv → Value → Prop} {c : Value} (h : DenA tr Γ ds Γ1) (hs : R ds c) : BotS (tMakeAt C (spI C S R) [] E tr) Γ Γ1 E c := fun Z F σ H hh e Q =>
  bot_make (E := E σ) (es := []) h (fun _ => .nil) (by rw [List.append_nil]; exact hs) Z F σ H hh e Q
theorem bots_meth {sp : Sp} {m : Str} {c : Value} (ha : Den ta Γ t x Γ1) (hi : InsOf t x C m) (h : DenA tr Γ1 ds Γ2) (hs : SpX sp (⟨t, x⟩ :: ds) c) : BotS (tMethAt C m sp [] E ta tr) Γ Γ2 E c := fun Z F σ H hh e Q =>
  bot_meth (E := E σ) ha hi h hs Z F σ H hh e Q
end
end DL

set_option maxRecDepth 100000
/-! Nd: calls that promise some result with a property; ifs that only set a name. -/
namespace DL
open PySem L2 Evl
/-- the first argument is an owned list, which changes; whatever comes back has S -/
def spMA {γ : Type} (Pre : γ → List Dv → List Dv → Prop) (S : γ → List Dv → Dv → Prop) : Sp := fun vs H Q E => ∃ F a us args ps ds, vs = .ref a :: args ∧ Ex F H ∧ F a = none ∧ H a = some (.lst us) ∧ Reps F ps us ∧ Reps F ds args ∧
  ∃ g, Pre g ps ds ∧ ∀ ps' r, S g ps' r → ∀ v F' H' us', Step (fun b => b = a) F H F' H' → F' a = none → H' a = some (.lst us') → Reps F' ps' us' → r.rep F' v → Q v H'
theorem spMA_len {δ : Type} {Pre : δ → List Dv → List Dv → Prop} {S : δ → List Dv → Dv → Prop} {n : Nat} (h1 : ∀ g ps ds, Pre g ps ds → ds.length = n) : ∀ vs H Q E, spMA Pre S vs H Q E → vs.length = n + 1 := fun vs H Q E ⟨F, a, us, args, ps, ds, e, _, _, _, _, r, g, h, _⟩ => by
  rw [e, List.length_cons, ← r.len, h1 _ _ _ h]
theorem body_MA {δ : Type} {Pre : δ → List Dv → List Dv → Prop} {S : δ → List Dv → Dv → Prop} {t : TS} {N : List Str} {vs : List V} {H : Hp} {Q : VK} {E : XK} (h : spMA Pre S vs H Q E)
    (k : ∀ F a ps ds g, ds.length + 1 = vs.length → Pre g ps ds → (∀ ps' r, S g ps' r → ∀ v F' H' us', Step (fun b => b = a) F H F' H' → F' a = none → H' a = some (.lst us') → Reps F' ps' us' → r.rep F' v → Q v H') →
      OK ⟨fun b => b = a, F, H, fun _ => True, fun _ h => h⟩ (.own (some a) ps :: (vals ds ++ anys (N.length - (ds.length + 1)))) (t { nx := fun _ H' => Q .non H', rt := Q })) : t { nx := fun _ H' => Q .non H', rt := Q } (L2.start N vs) H := by
  obtain ⟨F, a, us, args, ps, ds, rfl, e, n, hu, rp, r, g, h, q⟩ := h
  exact k F a ps ds g (by rw [List.length_cons, r.len]) h q F _ H (start_M e n hu rp r)
def DenMA (te : TE) (Γ : List Slot) (X : List Slot → Dv → Prop) : Prop := ∀ (Z : En) F σ H, Holds Z Γ F σ H → ∀ Q : VK, (∀ Γ' r, X Γ' r → ∀ v F' H', Holds Z Γ' F' σ H' → r.rep F' v → Q v H') → te σ H Q
section
variable {α β γ : Type} {t : Ty α} {u : Ty β} {w : Ty γ} {x : α} {y : β} {z : γ} {Z : En} {Γ Γ' Γ1 Γ2 Γ3 : List Slot} {ta tb tc te : TE} {tt uu : TT} {r : R2} {ds es : List Dv} {K : PySem.W.Frag} {D : Ends} {s1 s2 : TS} {i j : Nat}
theorem den_callMA {δ : Type} {Pre : δ → List Dv → List Dv → Prop} {S : δ → List Dv → Dv → Prop} {E : XK} {tr : TA} {i : Nat} {ps : List Dv} {oa : Option Addr} (g : δ) (e : Γ[i]? = some (.own oa ps)) (h : DenA tr Γ ds Γ) (hp : Pre g ps ds) :
    DenMA (tCall (spMA Pre S) [] E (tCons (tVar i) tr)) Γ (fun Γ' r => ∃ ps', S g ps' r ∧ Γ' = Γ.set i (.own oa ps')) := fun Z F σ H hh Q q => by
  obtain ⟨a, h1, _, o1⟩ := hh.owned e rfl
  refine ⟨_, h1, ?_⟩
  refine h Z F σ H hh _ fun vs F1 H1 h2 p1 r1 => ?_
  obtain ⟨a', h1', ⟨n1, ad, us, hu, ru⟩, o2⟩ := h2.owned e rfl
  rw [h1] at h1'
  cases h1'
  rw [List.append_nil]
  refine ⟨F1, a, us, vs, ps, ds, rfl, h2.fh, n1, hu, ru, r1, g, hp, fun ps' r hs v F' H' us' k n' hu' ru' rv => ?_⟩
  have k0 : Step NoO F1 H1 F' (upd H' a (.lst us)) := by
    refine ⟨k.ff, fun b o q => ?_, fun b o q n => ?_⟩
    · have : b ≠ a := fun z => by rw [z, n'] at q; cases q
      rw [upd_ne this]
      exact k.fh b o q
    · obtain ⟨n2, hn2, kk⟩ := k.keep b o q n
      by_cases zz : b = a
      · subst zz
        rw [hu] at q
        cases q
        exact ⟨n2, ⟨_, upd_same⟩, fun _ => upd_same⟩
      · rw [upd_ne zz]
        exact ⟨n2, hn2, fun _ => kk zz⟩
  have h3 := h2.step k0
  have o3 : OwnAt Γ σ i a := o2
  have h4 := h3.mut (s := .own oa ps') (o := .lst us') o3 ⟨n', ad, us', upd_same, ru'⟩
  have ee : upd (upd H' a (.lst us)) a (.lst us') = H' := by
    rw [upd_upd]
    funext b
    unfold upd
    split
    · rename_i zz
      rw [zz, hu']
    · rfl
  rw [ee] at h4
  exact q _ r ⟨ps', hs, rfl⟩ v F' H' h4 rv
theorem s_setA {X : List Slot → Dv → Prop} (h : DenMA te Γ X) (k : ∀ Γ' r, X Γ' r → OK Z (Γ'.set i (.val r)) D.nx) : OK Z Γ (tAsg te (gName i) D) := fun F σ H hh =>
  h Z F σ H hh _ fun Γ' r x v F' H' h' rv => k Γ' r x F' _ H' (h'.set i rv)
theorem s_retA {X : List Slot → Dv → Prop} (h : DenMA te Γ X) (k : ∀ Γ' r, X Γ' r → ∀ F σ H v, Holds Z Γ' F σ H → r.rep F v → D.rt v H) : OK Z Γ (tRet te D) := fun F σ H hh =>
  h Z F σ H hh _ fun Γ' r x v F' H' h' rv => k Γ' r x F' _ H' v h' rv
/-- what an owned-list def gives back, seen from the holding -/
theorem ret_MA {F0 H0 : Hp} {Q : VK} {d : Dv} {a : Addr} {ps' : List Dv} (hZ : Z.F = F0 ∧ Z.H = H0 ∧ Z.O = fun b => b = a)
    (q : ∀ v F' H' us', Step (fun b => b = a) F0 H0 F' H' → F' a = none → H' a = some (.lst us') → Reps F' ps' us' → d.rep F' v → Q v H') (e0 : Γ1[0]? = some (.own (some a) ps')) {F : Hp} {σ : L2.St} {H : Hp} {v : V} (hh : Holds Z Γ1 F σ H) (rv : d.rep F v) : Q v H := by
  obtain ⟨z1, z2, z3⟩ := hZ
  obtain ⟨b, h1, ⟨n1, ad, us, hu, ru⟩, _⟩ := hh.owned e0 rfl
  cases ad a rfl
  refine q v F H us ?_ n1 hu ru rv
  rw [← z1, ← z2, ← z3]
  exact hh.st
/-- if t: x = e -/
theorem s_ifSet {b : Bool} {x' : α} (ht : DenT tt Γ b Γ1) (e0 : Γ1[i]? = some (.val ⟨t, x⟩)) (he : b = true → Den te Γ1 t x' Γ1) (k : ∀ y : α, (b = true ∧ y = x') ∨ (b = false ∧ y = x) → OK Z (Γ1.set i (.val ⟨t, y⟩)) D.nx) : OK Z Γ (tIfS tt (tAsg te (gName i)) tNext D) := by
  refine s_if ht (fun hb => s_set (he hb) (k x' (.inl ⟨hb, rfl⟩))) fun hb => s_nx ?_
  have hs : Γ1.set i (.val ⟨t, x⟩) = Γ1 := by
    apply List.ext_getElem?
    intro j
    by_cases z : i = j
    · subst z
      have lt := (List.getElem?_eq_some_iff.mp e0).1
      rw [List.getElem?_set_self lt, e0]
    · rw [List.getElem?_set_ne z]
  have := k x (.inr ⟨hb, rfl⟩)
  rw [hs] at this
  exact this
theorem wk_set : ∀ {Γ : List Slot} {j : Nat} {s : Slot}, Γ[j]? = some .any → Wk (Γ.set j s) Γ
  | [], _, _, e => by simp at e
  | _ :: r, 0, s, e => by
    simp at e
    subst e
    exact .cons (.inl rfl) (Wk.refl r)
  | a :: r, j + 1, s, e => .cons (.inr rfl) (wk_set (j := j) (by simpa using e))
/-- a loop that keeps all that it finds -/
theorem s_forC {wl : TE} {xs : List α} (h : Den wl Γ (tList t) xs Γ) (hj : Γ[j]? = some .any)
    (hs : ∀ Z' : En, (∀ {Γ F σ H}, Holds Z' Γ F σ H → Holds Z Γ F σ H) → ∀ n x, xs[n]? = some x → OK Z' (Γ.set j (.val ⟨t, x⟩)) (s1 { D with nx := LoopAt Z' (fun _ : Unit => Γ) (fun _ _ => True) (n + 1), ct := LoopAt Z' (fun _ : Unit => Γ) (fun _ _ => True) (n + 1), bk := D.nx }))
    (hd : OK Z Γ D.nx) : OK Z Γ (tFor (iList K wl) (gName j) s1 D) := s_forF () (fun _ => Γ) (fun _ _ => True) h trivial (Wk.refl _) (fun Z' hZ n x _ hx _ => hs Z' hZ n x hx) (fun _ _ => hd)
theorem s_turn {n : Nat} {s : Slot} (hj : Γ[j]? = some .any) : OK Z (Γ.set j s) (LoopAt Z (fun _ : Unit => Γ) (fun _ _ => True) n) := s_next () trivial (wk_set hj)
end
section
open PySem.Spec PyProof.Rows
variable {W : Wd} {x qual : Str} {params : Arguments} {body : List Stmt} {scope : Scope} {f : Addr} {fd : FuncData} {N ps : List Str} {k : Nat} {sp : Sp}
theorem lawFn_of (F : FunD W.K x qual params body scope [] [] f fd) (S : FnScope N ps scope) (len : ∀ vs H Q E, sp vs H Q E → vs.length = ps.length)
    (hbody : ∀ (cv : Value) (B : Around) (up : List Env) (s : Shared) (H : Hp) (vs : List V) (Q : VK) (E : XK), Room k (B.deeper (envOfC qual scope s.heap.objs.size f cv)) → sp vs H Q E →
      ∃ t, PSs (cxOf (L2.CX W.P W.w) W.P W.w W.K W.mg W.base N qual scope f cv B up s H E) body t ∧ t { nx := fun _ H' => Q .non H', rt := Q } (L2.start N vs) H) : FnOk W.P W.w W.K W.mg W.base (L2.CX W.P W.w) (k + 1) f fd ps sp :=
  F.ok S len hbody
end
end DL

set_option maxRecDepth 100000
/-! Srt: list < list of ints. -/
namespace L2
open PySem PySem.Spec PyProof.Rows
theorem firstLt_lex : ∀ (ns ms : List Int), SeqAt.firstLt (fun j => decide (ns.getD j 0 = ms.getD j 0)) (fun j => decide (ns.getD j 0 < ms.getD j 0)) (decide (ns.length < ms.length)) (List.range (min ns.length ms.length)) = HT.lexLt ns ms
  | [], [] => rfl
  | [], m :: ms => rfl
  | n :: ns, [] => rfl
  | n :: ns, m :: ms => by
    have ih := firstLt_lex ns ms
    have e1 : min (n :: ns).length (m :: ms).length = min ns.length ms.length + 1 := by
      rw [List.length_cons, List.length_cons]
      omega
    have sh : ∀ (l : List Nat), SeqAt.firstLt (fun j => decide ((n :: ns).getD j 0 = (m :: ms).getD j 0)) (fun j => decide ((n :: ns).getD j 0 < (m :: ms).getD j 0)) (decide ((n :: ns).length < (m :: ms).length)) (l.map Nat.succ)
        = SeqAt.firstLt (fun j => decide (ns.getD j 0 = ms.getD j 0)) (fun j => decide (ns.getD j 0 < ms.getD j 0)) (decide (ns.length < ms.length)) l := fun l => by
      induction l with
      | nil =>
        show decide ((n :: ns).length < (m :: ms).length) = decide (ns.length < ms.length)
        rw [List.length_cons, List.length_cons]
        exact decide_eq_decide.mpr (by omega)
      | cons j l ihl =>
        rw [List.map_cons]
        unfold SeqAt.firstLt
        rw [ihl]
        rfl
    rw [e1, List.range_succ_eq_map]
    unfold SeqAt.firstLt HT.lexLt
    rw [sh, ih]
    by_cases h : n = m
    · simp [h]
    · simp [h]
def rLtL (K : PySem.W.Frag) : R2 := fun x y H Q => ∃ a b ns ms, x = .ref a ∧ y = .ref b ∧ SqL K H a (ns.map V.int) ∧ SqL K H b (ms.map V.int) ∧ Q (.bl (HT.lexLt ns ms)) H
end L2
namespace L2
open PySem PySem.Spec PyProof.Rows
theorem ints_at {vs : List Value} {ns : List Int} (h : IntsAre vs ns) : ∀ (j : Nat) (hj : j < vs.length), ∃ t, vs[j] = Value.int (ns.getD j 0) t := by
  induction h with
  | nil => intro j hj; exact absurd hj (Nat.not_lt_zero j)
  | cons n t h ih =>
    intro j hj
    cases j with
    | zero => exact ⟨t, rfl⟩
    | succ j => exact ih j (Nat.lt_of_succ_lt_succ hj)
section
variable {A : Around} {s : Shared} {l b : Addr} {i1 i2 : Array Value} {ns ms : List Int}
theorem ints_eqAt (hi : IntsAre i1.toList ns) (hj : IntsAre i2.toList ms) : ∀ j (h1 : j < i1.size) (h2 : j < i2.size), SeqAt.EqAt A.in1 s i1[j] i2[j] (decide (ns.getD j 0 = ms.getD j 0)) := fun j h1 h2 => by
  obtain ⟨t, e1⟩ := ints_at hi j (by simpa using h1)
  obtain ⟨u, e2⟩ := ints_at hj j (by simpa using h2)
  rw [Array.getElem_toList] at e1 e2
  rw [e1, e2]
  exact SeqAt.EqAt.int_int _ t _ u
theorem ints_ltAt (hi : IntsAre i1.toList ns) (hj : IntsAre i2.toList ms) : ∀ j (h1 : j < i1.size) (h2 : j < i2.size), decide (ns.getD j 0 = ms.getD j 0) = false → SeqAt.RcLt A.in1 s i1[j] i2[j] (decide (ns.getD j 0 < ms.getD j 0)) := fun j h1 h2 _ => by
  obtain ⟨t, e1⟩ := ints_at hi j (by simpa using h1)
  obtain ⟨u, e2⟩ := ints_at hj j (by simpa using h2)
  rw [Array.getElem_toList] at e1 e2
  rw [e1, e2]
  exact fun prog w E Q h => lt_int h
theorem lists_lex (hi : IntsAre i1.toList ns) (hj : IntsAre i2.toList ms) : SeqAt.firstLt (fun j => decide (ns.getD j 0 = ms.getD j 0)) (fun j => decide (ns.getD j 0 < ms.getD j 0)) (decide (i1.size < i2.size)) (List.range (min i1.size i2.size)) = HT.lexLt ns ms := by
  have h1 := hi.length
  have h2 := hj.length
  rw [Array.length_toList] at h1 h2
  have e1 : i1.size = ns.length := by omega
  have e2 : i2.size = ms.length := by omega
  rw [← firstLt_lex ns ms, e1, e2]
end
theorem op_ltL {X : Cx} (hu : X.A.units < cLine) : OpR X (compareOp .Lt) (rLtL X.K) := by
  intro pins s σ H x y v u Q I rx ry h
  obtain ⟨a, b, ns, ms, rfl, rfl, ha, hb, q⟩ := h
  cases rx
  cases ry
  obtain ⟨its, r1, p1, _⟩ := I.list ha
  obtain ⟨its2, r2, p2, _⟩ := I.list hb
  have i1 : IntsAre its.toArray.toList ns := intsAre_of r1
  have i2 : IntsAre its2.toArray.toList ms := intsAre_of r2
  have z := SeqAt.RcLt.lists p1.isList p2.isList hu (ints_eqAt i1 i2) (ints_ltAt i1 i2)
  rw [lists_lex i1 i2] at z
  exact z _ _ _ _ ⟨.bl (HT.lexLt ns ms), H, I, rfl, q⟩
end L2
namespace SrK
open PySem PySem.Spec PyProof.Rows L2 PySem.W NtL
/-- v is a list of these ints -/
def LstI (h : Heap) (v : Value) (ns : List Int) : Prop := ∃ (a : Addr) (its : Array Value), v = .ref a ∧ h.IsList a its ∧ IntsAre its.toList ns
theorem LstI.keeps {h h' : Heap} {v : Value} {ns : List Int} (x : LstI h v ns) (k : ∀ b o, v = .ref b → h.get? b = some o → h'.get? b = some o) : LstI h' v ns := by
  obtain ⟨a, its, e, ⟨o, g, r⟩, i⟩ := x
  exact ⟨a, its, e, ⟨o, k _ _ e g, r⟩, i⟩
section
variable {prog : Program} {w : World} {A : Around} {E : Value → Shared → Prop} {s : Shared}
theorem LstI.type {M : Model} {h : Heap} {v : Value} {ns : List Int} (x : LstI h v ns) : Looks M h (typeOf v) (.type "list") := by
  obtain ⟨a, its, rfl, ⟨o, g, c, _⟩, i⟩ := x
  have z : Looks M h (typeOf (.ref a)) o.cls := (Looks.ld g).andThen .now
  rw [c] at z
  exact z
theorem key_lt {v u : Value} {ns ms : List Int} {Q : Bool → Shared → Prop} (hu : A.units < cLine) (hv : LstI s.heap v ns) (hw : LstI s.heap u ms) (h : Q (HT.lexLt ns ms) s) : wpAny (model prog w) A (keyLt' oneType' v u) Q E s := by
  obtain ⟨a, i1, rfl, l1, k1⟩ := hv
  obtain ⟨b, i2, rfl, l2, k2⟩ := hw
  rw [keyLt'_oneType, oneLt'_eq]
  simp only [if_true]
  refine wpAny_bind (wpAny_cRoomFor hu ?_)
  obtain ⟨o, g, c, r⟩ := id l1
  refine wpAny_bind (wpAny_callSpecialIfBound?_slot (T := "list") ⟨o, g, c⟩ PySem.F.slot_list_lt (SeqAt.call_list_lt l1 l2 (ints_eqAt k1 k2) (ints_ltAt k1 k2) ?_))
  rw [lists_lex k1 k2]
  exact wpAny_truthy_bool h
/-- the kind of the keys is found, and any two compare -/
theorem key_cmp {ks : List Value} {k : Value → List Int} (hu : A.units < cLine) (hv : ∀ v ∈ ks, LstI s.heap v (k v)) : SrtO.Cmp prog w A s oneType' (fun p => p.1 ∈ ks) (fun p q => HT.lexLt (k p.1) (k q.1)) := fun p q hp hq =>
  key_lt (Q := fun r s' => s' = s ∧ r = HT.lexLt (k p.1) (k q.1)) (E := fun _ _ => False) hu (hv p.1 hp) (hv q.1 hq) ⟨rfl, rfl⟩
theorem key_kind {ks : List Value} {k : Value → List Int} (h2 : 2 ≤ ks.length) (hv : ∀ v ∈ ks, LstI s.heap v (k v)) {Q : SortKind → Shared → Prop} (h : Q oneType' s) : wpAny (model prog w) A (keyKind' ks.toArray) Q E s :=
  kas_kind (T := .type "list") h2 (fun v hm => (hv v hm).type) (by decide) (by decide) h
end
end SrK
namespace SrK
open PySem PySem.Spec PyProof.Rows L2 PySem.W
section
variable {X : Cx} {pins : List (Addr × Obj)} {σ : L2.St} {H : Hp} {s : Shared} {S : Addr} {o o' : Obj} {h' : Heap}
/-- an address of the body at hand that no pin has -/
structure Mine (X : Cx) (pins : List (Addr × Obj)) (S : Addr) : Prop where
  lo : X.s_0.heap.objs.size ≤ S
  no : ∀ p ∈ X.pn ++ pins, p.1 ≠ S
theorem mine_new (I : Inv X pins σ H s) (h : s.heap.objs.size ≤ S) : Mine X pins S := ⟨Nat.le_trans I.sz h, fun p hp e => by
  have q := (I.pin p hp).1
  rw [e] at q
  exact absurd (Heap.lt_size q) (Nat.not_lt.mpr h)⟩
theorem mine_ch (I : Inv X ((S, o) :: pins) σ H s) (M : Mine X pins S) : ∀ b ∈ [S], (b ∈ X.ex ∨ X.s_0.heap.objs.size ≤ b) ∧ b ≠ X.env.locals ∧ (∀ x c, X.env.cells.lookup x = some c → c ≠ b) ∧ ∀ p ∈ X.pn ++ pins, p.1 ≠ b := fun b hb => by
  rw [List.mem_singleton.mp hb]
  obtain ⟨g, n, nl, nf, nc⟩ := I.pin (S, o) (List.mem_append_right _ List.mem_cons_self)
  refine ⟨.inr M.lo, nl, fun x c ec e => ?_, M.no⟩
  obtain ⟨v, oc, hc, hd⟩ := I.cell x c ec
  rw [e] at hc
  have g : s.heap.get? S = some o := g
  rw [g] at hc
  cases hc
  exact nc v hd
/-- a pinned object of ours is changed -/
theorem change (I : Inv X ((S, o) :: pins) σ H s) (M : Mine X pins S) (k : ∀ b u, b ≠ S → s.heap.get? b = some u → h'.get? b = some u) (e : h'.get? S = some o') (hc : ∀ v, o'.data ≠ .cell v) (t' : Nat) : Inv X ((S, o') :: pins) σ H { s with heap := h', toks := t' } := by
  have pn := I.pin (S, o) (List.mem_append_right _ List.mem_cons_self)
  have nt : ∀ b u, H b = some u → b ≠ S := fun b u q hb => by
    have n : H S = none := pn.2.1
    rw [hb, n] at q
    cases q
  have nc : ∀ b, b ∉ [S] → b ≠ S := fun b hb z => hb (by rw [z]; exact List.mem_singleton.mpr rfl)
  have J : Inv X pins σ H { s with heap := h', toks := t' } := by
    refine (ClX.unpin I).step (g' := s.gens) (t' := t') (d' := s.drawn) (ch := [S]) (mine_ch I M) (fun b ob _ _ z q _ => k b ob (nc b z) q) (fun b ob _ _ z q _ => ⟨ob.slots, k b ob (nc b z) q⟩) (fun _ _ _ _ n => n) (fun b ob z q => ⟨ob, k b ob (nc b z) q⟩)
      (fun _ _ q => q) (fun _ _ _ q => q) (fun b ps q => ⟨#[], by rw [q]; simp⟩) (fun m hm => ?_) (fun b u q => ?_) I.bare
    · obtain ⟨ob, es, ep, ho, r⟩ := hm
      exact ⟨ob, es, ep, k _ ob (Ne.symm pn.2.2.1) ho, r⟩
    · refine (I.hok b u q).stay (fun c v z y => k c v ?_ y) (fun _ y => y) fun _ _ y => y
      rcases z with y | y
      · rw [y]
        exact nt b u q
      · exact nt c _ y
  refine J.pins_of fun p hp => ?_
  rcases List.mem_cons.mp hp with z | z
  · rw [z]
    exact ⟨e, pn.2.1, pn.2.2.1, pn.2.2.2.1, hc⟩
  · exact J.pin p (List.mem_append_right _ z)
/-- a pinned list of ours is tracked from here on -/
theorem track {xs : List V} {its : List Value} {n : Nat} (I : Inv X ((S, o) :: pins) σ H s) (M : Mine X pins S) (ho : o = { cls := .type "list", data := .seq its.toArray n }) (hl : xs.length ≤ sizeLine) (r : Vals xs its) : Inv X pins σ (upd H S (.lst xs)) s := by
  have pn := I.pin (S, o) (List.mem_append_right _ List.mem_cons_self)
  have n0 : H S = none := pn.2.1
  have nt : ∀ b u, H b = some u → b ≠ S := fun b u q hb => by
    rw [hb, n0] at q
    cases q
  have nc : ∀ b, b ∉ [S] → b ≠ S := fun b hb z => hb (by rw [z]; exact List.mem_singleton.mpr rfl)
  refine (ClX.unpin I).step (g' := s.gens) (t' := s.toks) (d' := s.drawn) (h' := s.heap) (ch := [S]) (mine_ch I M) (fun b ob _ _ z q _ => q) (fun b ob _ _ z q _ => ⟨ob.slots, q⟩) (fun b ob z _ q => by rw [upd_ne (nc b z)]; exact q) (fun b ob z q => ⟨ob, q⟩)
    (fun b _ q => by rw [upd_ne (nt b _ q)]; exact q) (fun b _ _ q => by rw [upd_ne (nt b _ q)]; exact q) (fun b ps q => ⟨#[], by rw [upd_ne (nt b _ q), q]; simp⟩) (fun m hm => hm) (fun b u q => ?_) I.bare
  by_cases hb : b = S
  · subst hb
    rw [upd_same] at q
    cases q
    refine ⟨hl, its, n, r, ?_⟩
    rw [← ho]
    exact pn.1
  · rw [upd_ne hb] at q
    exact (I.hok b u q).stay (fun _ _ _ z => z) (fun d z => by rw [upd_ne (ne_of_none z n0)]; exact z) fun d xs z => by rw [upd_ne (ne_of_none z n0)]; exact z
end
end SrK
namespace SrK
open PySem PySem.Spec PyProof.Rows L2 PySem.W SrtO
section
variable {X : Cx} {pins : List (Addr × Obj)} {σ : L2.St} {H : Hp} {s : Shared} {k : Nat} {f : Addr} {fd : FuncData} {ps : List Str} {sp : Sp} {A : Around}
/-- a callee that raises nothing -/
theorem run_no {Q : VK} {us : List Value} {vs : List V} (hr : Room k A) (hfr : A.frames = X.A.frames) (F : FnOk X.prog X.w X.K X.mg X.base (L2.CX X.prog X.w) k f fd ps sp) (hb : Binds X.K fd ps [])
    (I : Inv X pins σ H s) (r : Vals vs us) (h : sp vs H Q E0) : wpAny (model X.prog X.w) A (call (.ref f) us) (EP X pins σ Q) (fun _ _ => False) s := by
  have en : Env0 X.prog X.w X.K X.mg X.base A X.stack s H := by
    have e := I.env0
    exact ⟨by rw [hfr]; exact e.frames, e.mod, e.bs, e.bsz, e.funs, e.frf, e.hok, e.bare⟩
  have hl := F.len _ _ _ _ h
  have hb' := hb s us I.kIn (by rw [List.append_nil, ← r.length]; exact hl)
  rw [List.append_nil] at hb'
  refine wpAny_call (codeAny_mono (F.run A X.stack s H ⟨us, []⟩ us vs Q E0 hr en hb' r h) fun q s' hq => ?_)
  cases q with
  | error e =>
    obtain ⟨_, _, _, _, _, _, _, _, _, _, _, _, z⟩ := (show L2.CX X.prog X.w X.stack H s E0 e s' from hq)
    exact z.elim
  | ok fl =>
    cases fl with
    | ret u => exact I.after hq
    | next => exact False.elim hq
    | brk => exact False.elim hq
    | cont => exact False.elim hq
theorem vals_zip {ks xs : List V} : ∀ {us ws : List Value}, Vals ks us → Vals xs ws → Paired (fun (p : V × V) (q : Value × Value) => RelV p.1 q.1 ∧ RelV p.2 q.2) (ks.zip xs) (us.zip ws) := by
  intro us ws a b
  induction a generalizing xs ws with
  | nil => exact .nil
  | cons r t ih =>
    cases b with
    | nil => exact .nil
    | cons r2 t2 => exact .cons ⟨r, r2⟩ (ih t2)
end
end SrK
namespace SrK
open PySem PySem.Spec PyProof.Rows L2 PySem.W SrtO
theorem lift_perm {α β : Type} {R : α → β → Prop} {m m' : List β} (p : m.Perm m') : ∀ {l : List α}, Paired R l m → ∃ l', l'.Perm l ∧ Paired R l' m' := by
  induction p with
  | nil => exact fun h => ⟨_, .refl _, h⟩
  | cons x p ih =>
    intro l h
    cases h with
    | cons r t =>
      obtain ⟨l', e, t'⟩ := ih t
      exact ⟨_, e.cons _, .cons r t'⟩
  | swap x y l =>
    intro l h
    cases h with
    | cons r t => cases t with
      | cons r2 t => exact ⟨_, .swap _ _ _, .cons r2 (.cons r t)⟩
  | trans p q ih1 ih2 =>
    intro l h
    obtain ⟨l1, e1, t1⟩ := ih1 h
    obtain ⟨l2, e2, t2⟩ := ih2 t1
    exact ⟨l2, e2.trans e1, t2⟩
def kV (kf : V → List Int) : Value → List Int
  | .ref a => kf (.ref a)
  | _ => []
section
variable {X : Cx} {pins : List (Addr × Obj)} {σ : L2.St} {H : Hp} {s : Shared} {k : Nat} {f : Addr} {fd : FuncData} {ps : List Str} {sp : Sp} {A : Around} {D S : Addr} {kf : V → List Int}
/-- what a key is -/
def KeyAt (K : PySem.W.Frag) (H : Hp) (kf : V → List Int) (v : V) : Prop := ∃ a, v = .ref a ∧ SqL K H a ((kf v).map V.int)
theorem keys_at (I : Inv X pins σ H s) : ∀ {ks : List V} {ws : List Value}, Vals ks ws → (∀ v ∈ ks, KeyAt X.K H kf v) → ∀ u ∈ ws, LstI s.heap u (kV kf u)
  | _, _, .nil, _ => fun u hu => nomatch hu
  | v :: ks, w :: ws, .cons r t, h => fun u hu => by
    rcases List.mem_cons.mp hu with e | e
    · obtain ⟨a, ea, hs⟩ := h v List.mem_cons_self
      subst ea
      have ew : w = Value.ref a := r
      obtain ⟨its, rv, pl, _⟩ := I.list hs
      rw [e, ew]
      exact ⟨a, its.toArray, rfl, pl.isList, intsAre_of rv⟩
    · exact keys_at I t (fun v hv => h v (List.mem_cons_of_mem _ hv)) u e
/-- pairs of a key and an item, in order -/
abbrev ltP (kf : V → List Int) : V × V → V × V → Bool := fun p q => HT.lexLt (kf p.1) (kf q.1)
theorem pairs_back {ks xs : List V} {ws us : List Value} {out : List Keyed} (hk : ∀ v ∈ ks, ∃ a, v = V.ref a) (r1 : Vals ks ws) (r2 : Vals xs us) (hp : (ws.zip us).Perm out) (hs : Srtd (fun p q : Keyed => HT.lexLt (kV kf p.1) (kV kf q.1)) out) :
    ∃ pq : List (V × V), pq.Perm (ks.zip xs) ∧ Srtd (ltP kf) pq ∧ Vals (pq.map (·.2)) (out.map (·.2)) := by
  obtain ⟨pq, e, t⟩ := lift_perm hp (vals_zip r1 r2)
  have hk2 : ∀ p ∈ pq, ∃ a, p.1 = V.ref a := fun p hm => hk _ (List.of_mem_zip (e.mem_iff.mp hm)).1
  refine ⟨pq, e, ?_, ?_⟩
  · clear hp e
    induction t with
    | nil => exact List.Pairwise.nil
    | cons r t ih =>
      rename_i p q l m
      obtain ⟨h1, h2⟩ := List.pairwise_cons.mp hs
      refine List.pairwise_cons.mpr ⟨fun p' hm => ?_, ih h2 fun p hm => hk2 p (List.mem_cons_of_mem _ hm)⟩
      obtain ⟨a, ea⟩ := hk2 p List.mem_cons_self
      obtain ⟨a', ea'⟩ := hk2 p' (List.mem_cons_of_mem _ hm)
      have key : ∀ {l : List (V × V)} {m : List Keyed}, Paired (fun (p : V × V) (q : Value × Value) => RelV p.1 q.1 ∧ RelV p.2 q.2) l m → p' ∈ l → ∃ q' ∈ m, RelV p'.1 q'.1 := by
        intro l m t
        induction t with
        | nil => exact fun z => nomatch z
        | cons r t ih =>
          intro z
          rcases List.mem_cons.mp z with z | z
          · exact ⟨_, List.mem_cons_self, by rw [z]; exact r.1⟩
          · obtain ⟨q', m1, m2⟩ := ih z
            exact ⟨q', List.mem_cons_of_mem _ m1, m2⟩
      obtain ⟨q', hq', rq'⟩ := key t hm
      have z : HT.lexLt (kV kf q'.1) (kV kf q.1) = false := h1 q' hq'
      have e1 : q.1 = Value.ref a := by
        have := r.1
        rw [ea] at this
        exact this
      have e2 : q'.1 = Value.ref a' := by
        rw [ea'] at rq'
        exact rq'
      rw [e1, e2] at z
      show HT.lexLt (kf p'.1) (kf p.1) = false
      rw [ea, ea']
      exact z
  · clear hp hs hk2 e
    induction t with
    | nil => exact .nil
    | cons r t ih => exact .cons r.2 ih
end
end SrK
namespace L2
open PySem PySem.Spec PyProof.Rows PySem.W SrtO SrK
/-- sorted(xs, key=f), f a def that gives lists of ints -/
def rSortKey (K : PySem.W.Frag) (f : Addr) (sp : Sp) : List V → List V → Hp → VK → Prop := fun vs zs H Q => ∃ (l : Addr) (xs : List V) (Pv : Nat → List V → Hp → Prop), vs = [.ref l] ∧ zs = [.ref f] ∧ SqL K H l xs ∧ xs.length ≤ 100000 ∧ Pv 0 [] H ∧
  (∀ i x ks H1, xs[i]? = some x → Pv i ks H1 → sp [x] H1 (fun v H2 => Pv (i + 1) (ks ++ [v]) H2) E0) ∧
  (∀ ks H1, Pv xs.length ks H1 → ks.length = xs.length ∧ ∃ kf : V → List Int, (∀ v ∈ ks, KeyAt K H1 kf v) ∧
    ∀ (pq : List (V × V)) (D : Addr), pq.Perm (ks.zip xs) → Srtd (SrK.ltP kf) pq → H1 D = none → Q (.ref D) (upd H1 D (.lst (pq.map (·.2)))))
section
variable {X : Cx} {pins : List (Addr × Obj)} {σ : L2.St} {H : Hp} {s : Shared} {k : Nat} {f : Addr} {fd : FuncData} {ps : List Str} {sp : Sp} {A : Around} {D S : Addr} {kf : V → List Int}
abbrev lo (xs : Array Value) (n : Nat) : Obj := seqObj "list" xs n
theorem lo_nc {xs : Array Value} {n : Nat} : ∀ v, (lo xs n).data ≠ .cell v := fun v e => by cases e
set_option maxHeartbeats 2000000 in
/-- the end: the sorted items go into the list -/
theorem key_tail {R : PySem.Fin → Shared → Prop} {E : Value → Shared → Prop} {st : SortSt} {e e1 : Nat} {keys : Array Value} {ks xs : List V} {us : List Value} {Q : VK} (I : Inv X ((S, lo keys e) :: (D, lo #[] e1) :: pins) σ H s) (MS : Mine X ((D, lo #[] e1) :: pins) S) (MD : Mine X pins D)
    (r1 : Vals ks keys.toList) (r2 : Vals xs us) (hz : xs.length ≤ 100000) (hk : ks.length = xs.length) (ha : ∀ v ∈ ks, ∃ a, v = V.ref a) (hp : (keys.toList.zip us).Perm (arrOf st).toList) (hs : Srtd (fun p q : Keyed => HT.lexLt (SrK.kV kf p.1) (SrK.kV kf q.1)) (arrOf st).toList) (hf : failedOf st = none)
    (q : ∀ (pq : List (V × V)) (D : Addr), pq.Perm (ks.zip xs) → Srtd (SrK.ltP kf) pq → H D = none → Q (.ref D) (upd H D (.lst (pq.map (·.2)))))
    (h : ∀ s' H', Inv X pins σ H' s' → Q (.ref D) H' → R (.done (.ret .none)) s') : wpAny (model X.prog X.w) A (ksk_tail D false e1 (.ref S) st) R E s := by
  obtain ⟨pq, h1, h2, h3⟩ := pairs_back ha r1 r2 hp hs
  have lk : keys.size = ks.length := by
    have := r1.length
    rw [Array.length_toList] at this
    exact this.symm
  have lp : pq.length = xs.length := by
    rw [h1.length_eq, List.length_zip]
    omega
  have hD := (I.pin (D, lo #[] e1) (List.mem_append_right _ (.tail _ (.head _)))).1
  have hS := ClX.pin_at I
  have hDS : D ≠ S := MS.no (D, lo #[] e1) (List.mem_append_right _ (.head _))
  have szk : keys.size ≤ sizeLine := by rw [lk, hk]; exact Evl.sz_of hz
  have szo : ((arrOf st).map (·.2)).size ≤ sizeLine := by
    have z : (pq.map (·.2)).length = ((arrOf st).toList.map (·.2)).length := h3.length
    rw [List.length_map, List.length_map] at z
    have z2 : (arrOf st).toList.length = (arrOf st).size := Array.length_toList
    rw [Array.size_map]
    exact Evl.sz_of (by omega)
  unfold ksk_tail
  try dsimp only
  obtain ⟨c1, hc1⟩ : ∃ c1, (s.heap.update S (Obj.mapSeq fun _ => #[])).get? S = some (lo #[] c1) := ⟨_, get?_update_seq hS fun _ => #[]⟩
  have I1 := change I MS (h' := s.heap.update S (Obj.mapSeq fun _ => #[])) (o' := lo #[] c1) (fun b u hb g => (Heap.get?_update_ne _ _ _ _ hb).trans g) hc1 lo_nc s.toks
  refine wpAny_bind (listUpdate_at hS rfl ?_ szk (Nat.zero_le _))
  refine wpAny_bind (wpAny_letGo ?_)
  have hD1 : (s.heap.update S (Obj.mapSeq fun _ => (#[] : Array Value))).get? D = some (lo #[] e1) := (Heap.get?_update_ne _ _ _ _ hDS).trans hD
  refine wpAny_bind (seqEpoch_at hD1 rfl ?_)
  have I2 : Inv X ((D, lo #[] e1) :: pins) σ H _ := ClX.unpin I1
  obtain ⟨c2, hc2⟩ : ∃ c2, ((s.heap.update S (Obj.mapSeq fun _ => (#[] : Array Value))).update D (Obj.mapSeq fun _ => (arrOf st).map (·.2))).get? D = some (lo ((arrOf st).map (·.2)) c2) := ⟨_, get?_update_seq hD1 fun _ => (arrOf st).map (·.2)⟩
  have I3 := change I2 MD (h' := (s.heap.update S (Obj.mapSeq fun _ => (#[] : Array Value))).update D (Obj.mapSeq fun _ => (arrOf st).map (·.2))) (o' := lo ((arrOf st).map (·.2)) c2) (fun b u hb g => (Heap.get?_update_ne _ _ _ _ hb).trans g) hc2 lo_nc s.toks
  simp only [Bool.false_eq_true, if_false]
  refine wpAny_bind (listUpdate_at hD1 rfl ?_ (Nat.zero_le _) (Nat.le_trans szo (Nat.le_succ _)))
  rw [hf]
  simp only [bne_self_eq_false, Bool.false_eq_true, if_false]
  have I4 := track (xs := pq.map (·.2)) (its := ((arrOf st).map (·.2)).toList) (n := c2) I3 MD (by rw [Array.toArray_toList] <;> rfl) (by rw [List.length_map, lp]; exact Evl.sz_of hz) (by rw [Array.toList_map]; exact h3)
  exact wpAny_pure (h _ _ I4 (q pq D h1 h2 (ClX.pin_un I2)))
end
end L2

set_option maxRecDepth 100000
/-! Srt2: sorted(.., key=f) with list keys. -/
namespace L2
open PySem PySem.Spec PyProof.Rows PySem.W SrtO SrK
section
variable {X : Cx} {pins : List (Addr × Obj)} {σ : L2.St} {H : Hp} {s : Shared} {k : Nat} {f : Addr} {fd : FuncData} {ps : List Str} {sp : Sp} {A : Around} {D S : Addr} {kf : V → List Int}
theorem key_zip (ws us : List Value) : (ws.toArray.zip us.toArray).toList = ws.zip us := by
  rw [List.zip_toArray]
set_option maxHeartbeats 2000000 in
/-- the sorting itself -/
theorem key_end {R : PySem.Fin → Shared → Prop} {E : Value → Shared → Prop} {e e1 : Nat} {ks xs : List V} {ws us : List Value} {Q : VK} (hu : A.units < cLine) (I : Inv X ((S, lo ws.toArray e) :: (D, lo #[] e1) :: pins) σ H s) (MS : Mine X ((D, lo #[] e1) :: pins) S) (MD : Mine X pins D)
    (r1 : Vals ks ws) (r2 : Vals xs us) (hz : xs.length ≤ 100000) (hk : ks.length = xs.length) (ha : ∀ v ∈ ks, KeyAt X.K H kf v)
    (q : ∀ (pq : List (V × V)) (D : Addr), pq.Perm (ks.zip xs) → Srtd (SrK.ltP kf) pq → H D = none → Q (.ref D) (upd H D (.lst (pq.map (·.2)))))
    (h : ∀ s' H', Inv X pins σ H' s' → Q (.ref D) H' → R (.done (.ret .none)) s') : wpAny (model X.prog X.w) A (ksk_end D false us.toArray e1 (.ref S) ws.toArray) R E s := by
  have ha' : ∀ v ∈ ks, ∃ a, v = V.ref a := fun v hv => let ⟨a, ea, _⟩ := ha v hv; ⟨a, ea⟩
  have lw : ws.length = us.length := by
    have h1 := r1.length
    have h2 := r2.length
    omega
  have hL := SrK.keys_at I r1 ha
  unfold ksk_end
  try dsimp only
  simp only [Bool.false_eq_true, if_false]
  by_cases h2 : us.toArray.size < 2
  · rw [if_pos h2, if_pos h2]
    refine wpAny_bind (wpAny_pure ?_)
    rw [StateT.run_pure]
    refine wpAny_bind (wpAny_pure ?_)
    try dsimp only
    refine key_tail (st := SortSt.mk' general' (ws.toArray.zip us.toArray) #[] 7 none) I MS MD r1 r2 hz hk ha' (by rw [show (arrOf (SortSt.mk' general' (ws.toArray.zip us.toArray) #[] 7 none)) = ws.toArray.zip us.toArray from rfl, key_zip]) ?_ rfl q h
    rw [show (arrOf (SortSt.mk' general' (ws.toArray.zip us.toArray) #[] 7 none)) = ws.toArray.zip us.toArray from rfl, key_zip]
    rw [List.size_toArray] at h2
    have hl : (ws.zip us).length < 2 := by
      rw [List.length_zip]
      omega
    generalize ws.zip us = l at hl
    match l, hl with
    | [], _ => exact List.Pairwise.nil
    | [v], _ => exact List.pairwise_singleton _ _
    | _ :: _ :: l, hl => exact absurd hl (by rw [List.length_cons, List.length_cons]; omega)
  · rw [if_neg h2, if_neg h2]
    rw [List.size_toArray] at h2
    refine wpAny_bind (SrK.key_kind (k := SrK.kV kf) (by omega) hL ?_)
    refine wpAny_bind (wpAny_mono (wpS_sortO (st0 := SortSt.mk' oneType' (ws.toArray.zip us.toArray) #[] 7 none) (lt := fun p q : Keyed => HT.lexLt (SrK.kV kf p.1) (SrK.kV kf q.1)) (P := fun p : Keyed => p.1 ∈ ws)
      (Q := fun _ st' => Srtd (fun p q : Keyed => HT.lexLt (SrK.kV kf p.1) (SrK.kV kf q.1)) (arrOf st').toList ∧ Stb (fun p q : Keyed => HT.lexLt (SrK.kV kf p.1) (SrK.kV kf q.1)) (arrOf st').toList (arrOf (SortSt.mk' oneType' (ws.toArray.zip us.toArray) #[] 7 none)).toList ∧ failedOf st' = none)
      (NtL.swo_lexL fun p : Keyed => SrK.kV kf p.1) (SrK.key_cmp hu hL) rfl (fun p hm => ?_) rfl rfl fun st' a1 a2 a3 => ⟨a1, a2, a3⟩) ?_ fun _ _ e => e)
    · rw [show (arrOf (SortSt.mk' oneType' (ws.toArray.zip us.toArray) #[] 7 none)) = ws.toArray.zip us.toArray from rfl, key_zip] at hm
      exact (List.of_mem_zip hm).1
    · rintro ⟨⟨⟩, st'⟩ s' ⟨rfl, hp1, hp2, hf⟩
      try dsimp only
      rw [show (arrOf (SortSt.mk' oneType' (ws.toArray.zip us.toArray) #[] 7 none)) = ws.toArray.zip us.toArray from rfl, key_zip] at hp2
      exact key_tail I MS MD r1 r2 hz hk ha' hp2.perm.symm hp1 hf q h
end
end L2
namespace L2
open PySem PySem.Spec PyProof.Rows PySem.W SrtO SrK
section
variable {X : Cx} {pins : List (Addr × Obj)} {σ : L2.St} {H : Hp} {s : Shared} {k : Nat} {f : Addr} {fd : FuncData} {ps : List Str} {sp : Sp} {A : Around} {D S : Addr} {kf : V → List Int}
set_option maxHeartbeats 2000000 in
/-- the keys, one after the other -/
theorem key_rest {R : PySem.Fin → Shared → Prop} {E : Value → Shared → Prop} {e1 : Nat} {xs : List V} {us : List Value} {Q : VK} {Pv : Nat → List V → Hp → Prop} (hr : Room k A) (hfr : A.frames = X.A.frames) (F : FnOk X.prog X.w X.K X.mg X.base (L2.CX X.prog X.w) k f fd ps sp) (hb : Binds X.K fd ps [])
    (I : Inv X ((S, lo #[] 0) :: (D, lo #[] e1) :: pins) σ H s) (MS : Mine X ((D, lo #[] e1) :: pins) S) (MD : Mine X pins D) (r2 : Vals xs us) (hz : xs.length ≤ 100000) (h0 : Pv 0 [] H)
    (hs : ∀ i x ks H1, xs[i]? = some x → Pv i ks H1 → sp [x] H1 (fun v H2 => Pv (i + 1) (ks ++ [v]) H2) E0)
    (hd : ∀ ks H1, Pv xs.length ks H1 → ks.length = xs.length ∧ ∃ kf : V → List Int, (∀ v ∈ ks, KeyAt X.K H1 kf v) ∧
      ∀ (pq : List (V × V)) (D : Addr), pq.Perm (ks.zip xs) → Srtd (SrK.ltP kf) pq → H1 D = none → Q (.ref D) (upd H1 D (.lst (pq.map (·.2)))))
    (h : ∀ s' H', Inv X pins σ H' s' → Q (.ref D) H' → R (.done (.ret .none)) s') : wpAny (model X.prog X.w) A (ksk_rest D (.ref f) false us.toArray e1 (.ref S)) R E s := by
  unfold ksk_rest
  refine wpAny_bind (wpAny_rule ?_)
  first
    | rw [List.forIn_toArray]
    | (rw [← Array.forIn_toList]; simp only [List.toList_toArray])
  have lu := r2.length
  refine wpAny_bind (ksk_fold (fun i s' => ∃ H1 ks ws e, Inv X ((S, lo ws.toArray e) :: (D, lo #[] e1) :: pins) σ H1 s' ∧ Vals ks ws ∧ ks.length = i ∧ Pv i ks H1) us 0 s ⟨H, [], [], 0, I, .nil, rfl, h0⟩ ?step ?done)
  case step =>
    rintro j u s' hu ⟨H1, ks, ws, e, J, r1, lk, pv⟩
    simp only [Nat.zero_add] at lk pv ⊢
    have hj : j < us.length := (List.getElem?_eq_some_iff.mp hu).1
    obtain ⟨x, hx, rx⟩ : ∃ x, xs[j]? = some x ∧ RelV x u := by
      have : ∀ {xs : List V} {us : List Value} {j : Nat}, Vals xs us → us[j]? = some u → ∃ x, xs[j]? = some x ∧ RelV x u := by
        intro xs us j r
        induction r generalizing j with
        | nil => intro z; simp at z
        | cons r t ih =>
          intro z
          cases j with
          | zero =>
            simp at z
            subst z
            exact ⟨_, rfl, r⟩
          | succ j => exact ih (by simpa using z)
      exact this r2 hu
    refine wpAny_bind (wpAny_attempt (wpAny_mono (SrK.run_no hr hfr F hb J (show Vals [x] [u] from .cons rx .nil) (hs j x ks H1 hx pv)) (fun v s2 he => ?_) fun _ _ hF => hF.elim))
    obtain ⟨v', H2, J2, rv, pv2⟩ := he
    try dsimp only
    have hS := ClX.pin_at J2
    obtain ⟨c2, hc2⟩ : ∃ c2, (s2.heap.update S (Obj.mapSeq (·.push v))).get? S = some (lo (ws.toArray.push v) c2) := ⟨_, get?_update_seq hS (·.push v)⟩
    have lw := r1.length
    refine wpAny_bind (listUpdate_at hS rfl ?_ (by rw [List.size_toArray]; exact Evl.sz_of (by omega)) (Nat.le_trans (Nat.le_of_eq (Array.size_push ..)) (by rw [List.size_toArray]; exact Nat.succ_le_succ (Evl.sz_of (by omega)))))
    have J3 := change J2 MS (h' := s2.heap.update S (Obj.mapSeq (·.push v))) (o' := lo (ws.toArray.push v) c2) (fun b g hb z => (Heap.get?_update_ne _ _ _ _ hb).trans z) hc2 lo_nc s2.toks
    refine wpAny_pure ⟨rfl, H2, ks ++ [v'], ws ++ [v], c2, ?_, r1.append (.cons rv .nil), by rw [List.length_append, lk]; rfl, pv2⟩
    rw [← List.push_toArray]
    exact J3
  case done =>
    rintro s' ⟨H1, ks, ws, e, J, r1, lk, pv⟩
    have lk : ks.length = xs.length := by omega
    have pv : Pv xs.length ks H1 := by
      rw [Nat.zero_add, ← lu] at pv
      exact pv
    obtain ⟨l1, kf, hk, q⟩ := hd ks H1 pv
    try dsimp only
    refine wpAny_bind (listItems_at (ClX.pin_at J) rfl ?_)
    exact key_end hr.units0 J MS MD r1 r2 hz l1 hk q h
abbrev lo2 (us : List Value) : Obj := seqObj "tuple" us.toArray 0
set_option maxHeartbeats 2000000 in
theorem key_sort {R : PySem.Fin → Shared → Prop} {E : Value → Shared → Prop} {n : Nat} {xs : List V} {us : List Value} {Q : VK} {Pv : Nat → List V → Hp → Prop} (hr : Room k A) (hfr : A.frames = X.A.frames) (F : FnOk X.prog X.w X.K X.mg X.base (L2.CX X.prog X.w) k f fd ps sp) (hb : Binds X.K fd ps [])
    (I : Inv X ((D, lo us.toArray n) :: pins) σ H s) (MD : Mine X pins D) (r2 : Vals xs us) (hz : xs.length ≤ 100000) (h0 : Pv 0 [] H)
    (hs : ∀ i x ks H1, xs[i]? = some x → Pv i ks H1 → sp [x] H1 (fun v H2 => Pv (i + 1) (ks ++ [v]) H2) E0)
    (hd : ∀ ks H1, Pv xs.length ks H1 → ks.length = xs.length ∧ ∃ kf : V → List Int, (∀ v ∈ ks, KeyAt X.K H1 kf v) ∧
      ∀ (pq : List (V × V)) (D : Addr), pq.Perm (ks.zip xs) → Srtd (SrK.ltP kf) pq → H1 D = none → Q (.ref D) (upd H1 D (.lst (pq.map (·.2)))))
    (h : ∀ s' H', Inv X pins σ H' s' → Q (.ref D) H' → R (.done (.ret .none)) s') : wpAny (model X.prog X.w) A (ksk_tree D (.ref f) false) R E s := by
  have ho := ClX.pin_at I
  have lu := r2.length
  have szu : us.toArray.size ≤ sizeLine := by rw [List.size_toArray]; exact Evl.sz_of (by omega)
  obtain ⟨e1, ho1⟩ : ∃ e1, (s.heap.update D (Obj.mapSeq fun _ => (#[] : Array Value))).get? D = some (lo #[] e1) := ⟨_, get?_update_seq ho fun _ => #[]⟩
  have I1 := change I MD (h' := s.heap.update D (Obj.mapSeq fun _ => (#[] : Array Value))) (o' := lo #[] e1) (fun b g hb z => (Heap.get?_update_ne _ _ _ _ hb).trans z) ho1 lo_nc s.toks
  have I2 := I1.kept (h' := (s.heap.update D (Obj.mapSeq fun _ => (#[] : Array Value))).push (lo2 us)) (t' := s.toks) fun b g z => Heap.get?_push_of_some _ z
  have I3 := ClX.pin_new I2 (a := ((s.heap.update D (Obj.mapSeq fun _ => (#[] : Array Value))).push (lo2 us)).objs.size) (o := lo #[] 0) (h' := ((s.heap.update D (Obj.mapSeq fun _ => (#[] : Array Value))).push (lo2 us)).push (lo #[] 0)) (t' := s.toks) (fun b g z => Heap.get?_push_of_some _ z) (Nat.le_refl _) (Heap.get?_push_size _ rfl) lo_nc
  unfold ksk_tree
  refine wpAny_bind (listItems_at ho rfl ?_)
  refine wpAny_bind (listUpdate_at ho rfl ?_ szu (Nat.zero_le _))
  refine wpAny_bind (seqEpoch_at ho1 rfl ?_)
  refine wpAny_bind (wpAny_newTuple ?_ (by show us.length ≤ _; exact Evl.sz_of (by omega)))
  refine wpAny_bind (wpAny_newList ?_ (Nat.zero_le _))
  refine wpAny_holding ?_
  exact key_rest hr hfr F hb I3 (mine_new I2 (Nat.le_refl _)) MD r2 hz h0 hs hd h
end
end L2
namespace L2
open PySem PySem.Spec PyProof.Rows PySem.W SrtO SrK
section
variable {X : Cx} {k : Nat} {f : Addr} {fd : FuncData} {ps : List Str} {sp : Sp}
set_option maxHeartbeats 4000000 in
/-- THE RULE -/
theorem cr_sortedBy (F : FnOk X.prog X.w X.K X.mg X.base (L2.CX X.prog X.w) k f fd ps sp) (hb : Binds X.K fd ps []) (hr : Room (k + 2) X.A) : CallRK X (.builtin "sorted") [Str.ofString "key"] (rSortKey X.K f sp) := by
  intro pins s σ H vs zs us ws Q I r rz h
  obtain ⟨l, xs, Pv, rfl, rfl, hs, hz, h0, hstep, hd⟩ := h
  obtain rfl := Vals.ref1 r
  obtain ⟨w1, rfl, e1⟩ := vals1 rz
  obtain rfl : w1 = Value.ref f := e1
  obtain ⟨its, r2, pl, _⟩ := I.list hs
  have lu := r2.length
  have szi : its.length ≤ sizeLine := Evl.sz_of (by omega)
  show wpAny _ _ (call (.builtin "sorted") [.ref l] [(Str.ofString "key", .ref f)]) _ _ _
  refine call_function_entry_kw kind_sorted plain_sorted entry_sorted (ksk_s1 _ _) ?_
  unfold Builtin.«sorted»
  refine wpAny_bind (m := checkCount "sorted" 1 1 _) (wpAny_pure ?_)
  refine wpAny_bind (collect_list pl.isList ?_ szi)
  refine wpAny_bind (wpAny_newList ?_ szi)
  have hsz : ((s.heap.push (seqObj "list" #[] 0)).update s.heap.objs.size (Obj.mapSeq (· ++ its.toArray))).objs.size = s.heap.objs.size + 1 := by
    rw [Heap.size_update, size_push']
  have keep : ∀ b o, s.heap.get? b = some o → ((s.heap.push (seqObj "list" #[] 0)).update s.heap.objs.size (Obj.mapSeq (· ++ its.toArray))).get? b = some o := fun b o q => by
    have hlt : b < s.heap.objs.size := Heap.lt_size q
    rw [Heap.get?_update_ne _ _ _ _ (Nat.ne_of_lt hlt)]
    exact Heap.get?_push_of_some _ q
  have I1 := I.kept (h' := (s.heap.push (seqObj "list" #[] 0)).update s.heap.objs.size (Obj.mapSeq (· ++ its.toArray))) (t' := s.toks) keep
  have hoL : (((s.heap.push (seqObj "list" #[] 0)).update s.heap.objs.size (Obj.mapSeq (· ++ its.toArray))).push (lo its.toArray 0)).get? (s.heap.objs.size + 1) = some (lo its.toArray 0) := by
    rw [← hsz]
    exact Heap.get?_push_size _ rfl
  have I2 := ClX.pin_new I1 (a := s.heap.objs.size + 1) (o := lo its.toArray 0) (h' := ((s.heap.push (seqObj "list" #[] 0)).update s.heap.objs.size (Obj.mapSeq (· ++ its.toArray))).push (lo its.toArray 0)) (t' := s.toks) (fun b g z => Heap.get?_push_of_some _ z) (Nat.le_of_eq hsz) hoL lo_nc
  show wpAny _ _ _ _ _ { s with heap := ((s.heap.push (seqObj "list" #[] 0)).update s.heap.objs.size (Obj.mapSeq (· ++ its.toArray))).push (seqObj "list" its.toArray 0) }
  rw [hsz]
  refine wpAny_bind (wpAny_holding (wpAny_call_entry_kw slot_list_sort ⟨_, hoL, rfl⟩ entry_list_sort ?body (ksk_l1 _ _)))
  case body =>
    show wpAny (model X.prog X.w) X.A.in1.in1 (Builtin.«list.sort» ⟨[.ref (s.heap.objs.size + 1)], [(Str.ofString "key", .ref f)]⟩) _ _ _
    rw [ksk_t1]
    refine key_sort (Q := Q) hr.in1.in1 rfl F hb I2 (mine_new I1 (Nat.le_of_eq hsz)) r2 hz h0 hstep hd fun s' H' J q => ⟨_, rfl, ?_⟩
    exact wpAny_pure ⟨_, rfl, .ref (s.heap.objs.size + 1), H', J, rfl, q⟩
end
end L2

set_option maxRecDepth 100000
/-! Sg: list < list, sorted(.., key=f) over typed data. -/
namespace DL
open PySem L2 Evl
theorem al_perm {α β : Type} {R : α → β → Prop} {m m' : List β} (p : m.Perm m') : ∀ {l : List α}, Al R l m → ∃ l', l'.Perm l ∧ Al R l' m' := by
  induction p with
  | nil => exact fun h => ⟨_, .refl _, h⟩
  | cons x p ih =>
    intro l h
    cases h with
    | cons r t =>
      obtain ⟨l', e, t'⟩ := ih t
      exact ⟨_, e.cons _, .cons r t'⟩
  | swap x y l =>
    intro l h
    cases h with
    | cons r t => cases t with
      | cons r2 t => exact ⟨_, .swap _ _ _, .cons r2 (.cons r t)⟩
  | trans p q ih1 ih2 =>
    intro l h
    obtain ⟨l1, e1, t1⟩ := ih1 h
    obtain ⟨l2, e2, t2⟩ := ih2 t1
    exact ⟨l2, e2.trans e1, t2⟩
/-- a new list, any with P -/
def DenNX {α : Type} (te : TE) (Γ : List Slot) (t : Ty α) (P : List α → Prop) (Γ' : List Slot) : Prop := ∀ (Z : En) F σ H, Holds Z Γ F σ H → ∀ Q : VK, (∀ ys p vs F' H', P ys → Holds Z Γ' F' σ H' → Pres Γ Γ' σ F H F' H' → H p = none → F' p = none → H' p = some (.lst vs) → Reps F' (ys.map fun y => ⟨t, y⟩) vs → Q (.ref p) H') → te σ H Q
def intOf : V → Int
  | .int i => i
  | _ => 0
/-- the ints that a key's address holds -/
def intsAt (H : Hp) : V → List Int
  | .ref p => match H p with
    | some (.lst us) => us.map intOf
    | _ => []
  | _ => []
theorem ints_map : ∀ (ns : List Int), (ns.map V.int).map intOf = ns
  | [] => rfl
  | n :: ns => congrArg (n :: ·) (ints_map ns)
theorem intsAt_at {H : Hp} {p : Addr} {ns : List Int} (h : H p = some (.lst (ns.map V.int))) : intsAt H (.ref p) = ns := by
  unfold intsAt
  simp only [h]
  exact ints_map ns
/-- what stands for the keys of xs -/
abbrev KeyR {α : Type} (kf : α → List Int) (F H : Hp) : α → V → Prop := fun x v => ∃ p, v = .ref p ∧ F p = none ∧ H p = some (.lst ((kf x).map V.int))
section
variable {α : Type} {t : Ty α} {xs : List α} {kf : α → List Int} {Γ Γ1 : List Slot} {ta : TE} {K : PySem.W.Frag} {f : Addr} {S : List Dv → List Dv → Prop}
theorem KeyR.step {F H F' H' : Hp} (k : Step NoO F H F' H') : ∀ {xs : List α} {ks : List V}, Al (KeyR kf F H) xs ks → Al (KeyR kf F' H') xs ks := fun h => h.map fun x v ⟨p, e, n, hp⟩ => by
  obtain ⟨n', e2⟩ := k.no hp n (fun _ z => nomatch z)
  exact ⟨p, e, n', e2⟩
theorem dn_sortBy (ha : DenL ta Γ t xs Γ1) (hl : xs.length ≤ 100000) (hS : ∀ x ∈ xs, S [⟨t, x⟩] ((kf x).map fun i => ⟨tInt, i⟩)) :
    DenNX (tCKw (rSortKey K f (spN S)) (tCons ta tNil) (tCons (tC (.ref f)) tNil)) Γ t (fun ys => ys.Perm xs ∧ ys.Pairwise fun a b => HT.lexLt (kf b) (kf a) = false) Γ1 := fun Z F σ H hh Q q =>
  ha Z F σ H hh _ fun a vs F1 H1 h1 p1 e r => by
    show rSortKey K f (spN S) [.ref a] [.ref f] H1 Q
    refine ⟨a, vs, fun n ks Hn => ∃ Fn, Step NoO F1 H1 Fn Hn ∧ ks.length = n ∧ Al (KeyR kf Fn Hn) (xs.take n) ks, rfl, rfl, sq_of e, by rw [← r.len]; exact hl, ⟨F1, Step.refl h1.fh, rfl, .nil⟩, ?_, ?_⟩
    · rintro i v ks Hn hv ⟨Fn, st, lk, al⟩
      obtain ⟨x, hx, rx⟩ := r.getR hv
      have hm : x ∈ xs := List.mem_of_getElem? hx
      refine ⟨Fn, [⟨t, x⟩], st.fh, .cons (t.mono st.ff rx) .nil, _, hS x hm, fun p us F' H' k np fp hp rr => ⟨F', st.trans k, by rw [List.length_append, lk]; rfl, ?_⟩⟩
      have ex : xs.take (i + 1) = xs.take i ++ [x] := by rw [List.take_add_one, hx] <;> rfl
      rw [ex]
      have eu : us = (kf x).map V.int := al_int (al_map rr)
      exact (KeyR.step k al).app (.cons ⟨p, rfl, fp, by rw [hp, eu]⟩ .nil)
    · rintro ks Hn ⟨Fn, st, lk, al⟩
      rw [← r.len, List.take_length] at al
      refine ⟨by omega, intsAt Hn, fun v hv => ?_, fun pq D hp hs nD => ?_⟩
      · obtain ⟨x, p, rfl, n, hp⟩ : ∃ x p, v = .ref p ∧ Fn p = none ∧ Hn p = some (.lst ((kf x).map V.int)) := by
          obtain ⟨j, hj⟩ := List.getElem?_of_mem hv
          obtain ⟨x, _, p, e1, e2, e3⟩ := al.getR hj
          exact ⟨x, p, e1, e2, e3⟩
        refine ⟨p, rfl, sq_of ?_⟩
        have ei : intsAt Hn (.ref p) = kf x := intsAt_at hp
        rw [ei]
        exact hp
      · have both : Al (fun (x : α) (b : V × V) => intsAt Hn b.1 = kf x ∧ t.rep Fn b.2 x) xs (ks.zip vs) := by
          have r2 : Al (fun x v => t.rep Fn v x) xs vs := r.map fun _ _ z => t.mono st.ff z
          clear hp hs q r
          have hlen := al.len
          revert al r2
          generalize ks = ks
          intro al
          clear hlen
          have key : ∀ {xs : List α} {ks vs : List V}, Al (KeyR kf Fn Hn) xs ks → Al (fun x v => t.rep Fn v x) xs vs → Al (fun (x : α) (b : V × V) => intsAt Hn b.1 = kf x ∧ t.rep Fn b.2 x) xs (ks.zip vs) := by
            intro xs ks vs a
            induction a generalizing vs with
            | nil => intro _; exact .nil
            | cons h _ ih =>
              intro b
              cases b with
              | cons h2 b =>
                refine .cons ⟨?_, h2⟩ (ih b)
                obtain ⟨p, rfl, n, hp⟩ := h
                exact intsAt_at hp
          exact key al
        obtain ⟨ys, py, ay⟩ := al_perm hp.symm both
        have h2 := h1.step st
        have hs2 : ys.Pairwise fun a b => HT.lexLt (kf b) (kf a) = false := by
          clear hp py both
          induction ay with
          | nil => exact List.Pairwise.nil
          | cons h t ih =>
            obtain ⟨z1, z2⟩ := List.pairwise_cons.mp hs
            refine List.pairwise_cons.mpr ⟨fun y hy => ?_, ih z2⟩
            obtain ⟨j, hj⟩ := List.getElem?_of_mem hy
            obtain ⟨b, hb, e1, _⟩ := t.get hj
            have z := z1 b (List.mem_of_getElem? hb)
            rw [← h.1, ← e1]
            exact z
        have rr : Al (fun x v => t.rep Fn v x) ys (pq.map (·.2)) := by
          clear hs hs2 hp py both
          induction ay with
          | nil => exact .nil
          | cons h t ih => exact .cons h.2 ih
        have sn := Step.open (o := .lst (pq.map (·.2))) h2.fh nD
        have pt : Pres Γ Γ1 σ F H Fn Hn := p1.trans (Pres.step st)
        exact q ys D _ Fn _ ⟨py, hs2⟩ (h2.step sn) (pt.trans (Pres.step sn)) (pt.new nD) (ex_none h2.fh nD) upd_same (al_unmap rr)
end
end DL
namespace DL
open PySem L2 Evl
section
variable {Z : En} {Γ Γ1 Γ2 : List Slot} {ta tb te : TE} {K : PySem.W.Frag} {ns ms : List Int} {i : Nat} {D : Ends} {α : Type} {t : Ty α} {P : List α → Prop}
theorem den_ltL (ha : DenN ta Γ (ns.map fun x => ⟨tInt, x⟩) Γ1) (hb : DenN tb Γ1 (ms.map fun x => ⟨tInt, x⟩) Γ2) : Den (tOp (rLtL K) ta tb) Γ tBool (HT.lexLt ns ms) Γ2 := fun Z F σ H hh Q q =>
  ha Z F σ H hh _ fun a vs F1 H1 h1 p1 na fa hla ra => hb Z F1 σ H1 h1 _ fun b us F2 H2 h2 p2 nb fb hlb rb => by
    have no : ∀ i, ¬ OwnAt Γ1 σ i a := fun i w => hh.notOwn na i (p1.ow i a w)
    obtain ⟨_, k⟩ := p2.keep a _ hla fa (fun _ z => nomatch z) no
    have e1 : vs = ns.map V.int := al_int (al_map ra)
    have e2 : us = ms.map V.int := al_int (al_map rb)
    exact ⟨a, b, ns, ms, rfl, rfl, sq_of (by rw [k, e1]), sq_of (by rw [hlb, e2]), q _ F2 H2 h2 (p1.trans p2) rfl⟩
theorem s_setNX (h : DenNX te Γ t P Γ1) (k : ∀ ys, P ys → OK Z (Γ1.set i (.lst t ys)) D.nx) : OK Z Γ (tAsg te (gName i) D) := fun F σ H hh =>
  h Z F σ H hh _ fun ys p vs F' H' py h' pr np fp hp rr => k ys py F' _ _ (h'.setOwn i (hh.fresh np) (fun j w => hh.notOwn np j (pr.ow j p w)) ⟨fp, vs, hp, al_map rr⟩)
end
end DL

set_option maxRecDepth 100000
/-! Dc: dicts keyed by tuples of ints, over typed data. -/
namespace DL
open PySem L2 Evl
/-- a tuple that is there may be frozen -/
theorem Step.tup {F H : Hp} {b : Addr} {vs : List V} (e : Ex F H) (h : H b = some (.tup vs)) : ∃ F', Step NoO F H F' H ∧ F' b = some (.tup vs) := by
  cases q : F b with
  | some o =>
    have z := e b o q
    rw [h] at z
    cases z
    exact ⟨F, Step.refl e, q⟩
  | none =>
    refine ⟨upd F b (.tup vs), ⟨Ex.new q, fun c u z => ?_, fun c u z n => ?_⟩, upd_same⟩
    · by_cases y : c = b
      · subst y
        rw [upd_same] at z
        cases z
        exact h
      · rw [upd_ne y] at z
        exact e c u z
    · by_cases y : c = b
      · subst y
        exact ⟨.inr ⟨vs, upd_same⟩, ⟨u, z⟩, fun _ => z⟩
      · rw [upd_ne y]
        exact ⟨.inl n, ⟨u, z⟩, fun _ => z⟩
theorem Step.tups {F H : Hp} (e : Ex F H) : ∀ (bs : List (Addr × List V)), (∀ p ∈ bs, H p.1 = some (.tup p.2)) → ∃ F', Step NoO F H F' H ∧ ∀ p ∈ bs, F' p.1 = some (.tup p.2)
  | [], _ => ⟨F, Step.refl e, fun p hp => nomatch hp⟩
  | p :: bs, h => by
    obtain ⟨F1, k1, r1⟩ := Step.tups e bs fun q hq => h q (List.mem_cons_of_mem _ hq)
    obtain ⟨F2, k2, r2⟩ := Step.tup k1.fh (h p List.mem_cons_self)
    refine ⟨F2, k1.trans k2, fun q hq => ?_⟩
    rcases List.mem_cons.mp hq with z | z
    · rw [z]
      exact r2
    · exact k2.ff _ _ (r1 q z)
/-! ### entries -/
def valD {α : Type} (kvs : List (List Int × α)) (k : List Int) : Option α := (kvs.find? fun p => decide (p.1 = k)).map (·.2)
def putL {α : Type} (kvs : List (List Int × α)) (k : List Int) (x : α) : List (List Int × α) := if (kvs.any fun p => decide (p.1 = k)) = true then kvs.map (fun p => if p.1 = k then (p.1, x) else p) else kvs ++ [(k, x)]
theorem inl_inj : ∀ {k j : List Int}, (k.map Sum.inl : List Key) = j.map Sum.inl → k = j
  | [], [], _ => rfl
  | [], _ :: _, e => by simp at e
  | _ :: _, [], e => by simp at e
  | a :: k, b :: j, e => by
    rw [List.map_cons, List.map_cons] at e
    injection e with e1 e2
    injection e1 with e1
    rw [e1, inl_inj e2]
theorem kv_inl : ∀ (k : List Int), (k.map Sum.inl : List Key).map kV = k.map V.int
  | [] => rfl
  | i :: k => by
    show V.int i :: _ = V.int i :: _
    rw [kv_inl k]
section
variable {α : Type} {t : Ty α} {F : Hp} {k : List Int} {x : α} {v : V}
theorem valD_rep : ∀ {kvs : List (List Int × α)} {ws : List (List Key × V)}, RepK F t kvs ws → (∀ x, valD kvs k = some x → ∃ v, valV ws (k.map Sum.inl) = some v ∧ t.rep F v x) ∧ (valD kvs k = none → valV ws (k.map Sum.inl) = none)
  | _, _, .nil => ⟨fun x e => (nomatch e), fun _ => rfl⟩
  | (j, y) :: kvs, (j', b) :: ws, .cons r h => by
    obtain ⟨r1, r2⟩ := r
    have r1 : j' = j.map Sum.inl := r1
    have r2 : t.rep F b y := r2
    subst r1
    obtain ⟨i1, i2⟩ := valD_rep h
    by_cases e : j = k
    · subst e
      have e1 : valD ((j, y) :: kvs) j = some y := by simp [valD, List.find?_cons]
      have e2 : valV ((j.map Sum.inl, b) :: ws) (j.map Sum.inl) = some b := by simp [valV, List.find?_cons]
      rw [e1, e2]
      exact ⟨fun x z => by cases z; exact ⟨b, rfl, r2⟩, fun z => nomatch z⟩
    · have e1 : valD ((j, y) :: kvs) k = valD kvs k := by simp [valD, List.find?_cons, e]
      have ne : ¬ (j.map Sum.inl : List Key) = k.map Sum.inl := fun z => e (inl_inj z)
      have e2 : valV ((j.map Sum.inl, b) :: ws) (k.map Sum.inl) = valV ws (k.map Sum.inl) := by simp [valV, List.find?_cons, ne]
      rw [e1, e2]
      exact ⟨i1, i2⟩
theorem putL_rep {kvs : List (List Int × α)} {ws : List (List Key × V)} (h : RepK F t kvs ws) (r : t.rep F v x) : RepK F t (putL kvs k x) (putK ws (k.map Sum.inl) v) := by
  have ea : (kvs.any fun p => decide (p.1 = k)) = (ws.any fun p => decide (p.1 = (k.map Sum.inl : List Key))) := by
    induction h with
    | nil => rfl
    | cons r h ih =>
      rw [List.any_cons, List.any_cons, ih, r.1]
      congr 1
      exact decide_eq_decide.mpr ⟨fun z => by rw [z], fun z => inl_inj z⟩
  unfold putL putK
  rw [ea]
  split
  · clear ea
    rename_i z
    clear z
    induction h with
    | nil => exact .nil
    | cons r1 h ih =>
      refine .cons ?_ ih
      rename_i p w l m
      dsimp only
      by_cases e : p.1 = k
      · rw [if_pos e, if_pos (by rw [r1.1, e])]
        exact ⟨r1.1, r⟩
      · rw [if_neg e, if_neg (by rw [r1.1]; exact fun z => e (inl_inj z))]
        exact r1
  · exact h.app (.cons ⟨rfl, r⟩ .nil)
end
end DL
/-! ### rules -/
namespace DL
open PySem L2 Evl
section
variable {α β : Type} {t : Ty α} {Z : En} {Γ Γ1 : List Slot} {i j : Nat} {D : Ends} {kvs : List (List Int × α)} {k : List Int} {x : α} {ty tv : TE} {u : Ty β} {K : PySem.W.Frag}
/-- x = {} -/
theorem s_setD (q : OK Z (Γ.set i (.dct t [])) D.nx) : OK Z Γ (tAsg tDNewT (gName i) D) := fun F σ H hh p np => q F _ _ (hh.setNew i np ⟨ex_none hh.fh np, [], upd_same, .nil⟩)
theorem dget_at {F H : Hp} {a : Addr} {v : V} {ws : List (List Key × V)} (e : Ex F H) (ha : H a = some (.dT ws)) (hk : (tTupl tInt).rep F v k) : DGet H a v (valV ws (k.map Sum.inl)) := by
  obtain ⟨b, vs, rfl, hb, al⟩ := hk
  refine DGet.t ha ?_
  rw [kv_inl, ← al_int al]
  exact e _ _ hb
/-- k in d -/
theorem den_din (h : Den ty Γ (tTupl tInt) k Γ1) (e1 : Γ1[i]? = some (.dct t kvs)) : Den (tDIn ty (tVar i)) Γ tBool (valD kvs k).isSome Γ1 := fun Z F σ H hh Q q =>
  h Z F σ H hh _ fun v F1 H1 h1 p r => by
    obtain ⟨a, ea, ⟨_, ws, hw, rw1⟩, _⟩ := h1.owned e1 rfl
    refine ⟨_, ea, a, _, rfl, dget_at h1.fh hw r, ?_⟩
    obtain ⟨g1, g2⟩ := valD_rep (k := k) rw1
    have es : (valV ws (k.map Sum.inl)).isSome = (valD kvs k).isSome := by
      cases z : valD kvs k with
      | none =>
        rw [g2 z]
        rfl
      | some y =>
        obtain ⟨v, z2, _⟩ := g1 y z
        rw [z2] <;> rfl
    rw [es]
    exact q _ F1 H1 h1 p rfl
/-- d[k] -/
theorem den_dget (e1 : Γ[i]? = some (.dct t kvs)) (h : Pu ty Γ (tTupl tInt) k) (hx : valD kvs k = some x) : Den (tDGet (tVar i) ty) Γ t x Γ := fun Z F σ H hh Q q => by
  obtain ⟨a, ea, _, _⟩ := hh.owned e1 rfl
  refine ⟨_, ea, h Z F σ H hh _ fun v F1 H1 st r => ?_⟩
  obtain ⟨a', ea', ⟨_, ws, hw, rw1⟩, _⟩ := (hh.step st).owned e1 rfl
  rw [ea] at ea'
  cases ea'
  obtain ⟨y, z, ry⟩ := (valD_rep (k := k) rw1).1 x hx
  exact ⟨a, y, rfl, by rw [← z]; exact dget_at st.fh hw r, q y F1 H1 (hh.step st) (Pres.step st) ry⟩
/-- d[k] = v -/
theorem s_dput (hv : Den tv Γ t x Γ1) (e1 : Γ1[i]? = some (.dct t kvs)) (h : Pu ty Γ1 (tTupl tInt) k) (hl : kvs.length < 100000) (q : OK Z (Γ1.set i (.dct t (putL kvs k x))) D.nx) : OK Z Γ (sDPut (tVar i) ty tv D) := fun F σ H hh =>
  hv Z F σ H hh _ fun v F1 H1 h1 p r => by
    obtain ⟨a, ea, _, _⟩ := h1.owned e1 rfl
    refine ⟨_, ea, h Z F1 σ H1 h1 _ fun b F2 H2 st rb => ?_⟩
    have h2 := h1.step st
    obtain ⟨a', ea', ⟨fa, ws, hw, rw1⟩, o⟩ := h2.owned e1 rfl
    rw [ea] at ea'
    cases ea'
    obtain ⟨c, vs, rfl, hc, al⟩ := rb
    refine ⟨a, _, rfl, DPut.t (k := k.map Sum.inl) hw (by rw [kv_inl, ← al_int al]; exact h2.fh _ _ hc) (sz_lt (by rw [← rw1.len]; exact hl)), ?_⟩
    exact q F2 σ _ (h2.mut (s := .dct t (putL kvs k x)) (o := .dT (putK ws (k.map Sum.inl) v)) o ⟨fa, _, upd_same, putL_rep rw1 (t.mono st.ff r)⟩)
/-- list(d): the keys -/
theorem dn_keys (e1 : Γ[i]? = some (.dct t kvs)) : DenN (tCB (fun xs H Q => ∃ d kvs, xs = [V.ref d] ∧ Rd H d (.dT kvs) ∧ ∀ p bs, H p = none → IsKeys H kvs bs → Q (.ref p) (upd H p (.lst (bs.map V.ref)))) (tCons (tVar i) tNil)) Γ ((kvs.map (·.1)).map fun k => ⟨tTupl tInt, k⟩) Γ := fun Z F σ H hh Q q => by
  obtain ⟨a, ea, ⟨_, ws, hw, rw1⟩, _⟩ := hh.owned e1 rfl
  refine ⟨_, ea, a, ws, rfl, .of hw, fun p bs np hk => ?_⟩
  have kk : ∀ {kvs : List (List Int × α)} {ws : List (List Key × V)} {bs : List Addr}, RepK F t kvs ws → IsKeys H ws bs → Al (fun (k : List Int) (b : Addr) => H b = some (.tup (k.map V.int))) (kvs.map (·.1)) bs := by
    intro kvs ws bs r
    induction r generalizing bs with
    | nil =>
      intro z
      cases z
      exact .nil
    | cons r _ ih =>
      intro z
      cases z with
      | cons z1 z2 =>
        refine .cons ?_ (ih z2)
        rw [z1, r.1, kv_inl]
  have al := kk rw1 hk
  obtain ⟨F', st, fr⟩ := Step.tups hh.fh (bs.map fun b => (b, match H b with
    | some (.tup vs) => vs
    | _ => [])) fun p hp => by
      obtain ⟨b, hb, rfl⟩ := List.mem_map.mp hp
      obtain ⟨n, hn⟩ := List.getElem?_of_mem hb
      obtain ⟨k, _, e⟩ := al.getR hn
      show H b = some (.tup (match H b with
        | some (.tup vs) => vs
        | _ => []))
      rw [e]
  have rr : Reps F' ((kvs.map (·.1)).map fun k => (⟨tTupl tInt, k⟩ : Dv)) (bs.map V.ref) := by
    clear hk st q
    revert al fr
    generalize kvs.map (·.1) = ks
    intro al fr
    induction al with
    | nil => exact .nil
    | cons e _ ih =>
      rename_i k b l m _x
      refine .cons ⟨b, k.map V.int, rfl, ?_, ?_⟩ (ih fun p hp => fr p (List.mem_cons_of_mem _ hp))
      · have z := fr _ (List.mem_cons_self)
        dsimp only at z
        rw [e] at z
        exact z
      · clear e ih fr
        induction k with
        | nil => exact .nil
        | cons n k ih => exact .cons rfl ih
  have h2 := hh.step st
  exact new_q (fun p vs F' H' => q p vs F' H') h2 (Pres.step st) np rr
end
end DL

set_option maxRecDepth 100000
/-! Pr: targets that are pairs, triples. -/
namespace DL
open PySem L2 Evl
abbrev gPair (K : PySem.W.Frag) (i j : Nat) : TG := gTup K 2 (gCons (gName i) (gCons (gName j) gNil))
abbrev gTri (K : PySem.W.Frag) (i j l : Nat) : TG := gTup K 3 (gCons (gName i) (gCons (gName j) (gCons (gName l) gNil)))
section
variable {α β γ : Type} {t : Ty α} {u : Ty β} {w : Ty γ} {x : α} {y : β} {Z : En} {Γ Γ' Γ1 Γ2 Γ3 : List Slot} {te wl : TE} {K : PySem.W.Frag} {D : Ends} {s1 s2 : TS} {i j l : Nat}
theorem g_pair {F H : Hp} {σ : L2.St} {v : V} {z : α × β} {Q : L2.St → Hp → Prop} (e : Ex F H) (r : (tPair t u).rep F v z) (q : ∀ v1 v2, t.rep F v1 z.1 → u.rep F v2 z.2 → Q ((σ.set i (some v1)).set j (some v2)) H) : gPair K i j v σ H Q := by
  obtain ⟨a, v1, v2, rfl, h, r1, r2⟩ := r
  exact ⟨a, [v1, v2], rfl, st_of (e _ _ h), rfl, v1, [v2], rfl, v2, [], rfl, rfl, q v1 v2 r1 r2⟩
theorem g_tri {F H : Hp} {σ : L2.St} {v : V} {z : α × β × γ} {Q : L2.St → Hp → Prop} (e : Ex F H) (r : (tTri t u w).rep F v z) (q : ∀ v1 v2 v3, t.rep F v1 z.1 → u.rep F v2 z.2.1 → w.rep F v3 z.2.2 → Q (((σ.set i (some v1)).set j (some v2)).set l (some v3)) H) : gTri K i j l v σ H Q := by
  obtain ⟨a, v1, v2, v3, rfl, h, r1, r2, r3⟩ := r
  exact ⟨a, [v1, v2, v3], rfl, st_of (e _ _ h), rfl, v1, [v2, v3], rfl, v2, [v3], rfl, v3, [], rfl, rfl, q v1 v2 v3 r1 r2 r3⟩
/-- a, b = e -/
theorem s_unp2 {z : α × β} (h : Den te Γ (tPair t u) z Γ1) (k : OK Z ((Γ1.set i (.val ⟨t, z.1⟩)).set j (.val ⟨u, z.2⟩)) D.nx) : OK Z Γ (tAsg te (gPair K i j) D) := fun F σ H hh =>
  h Z F σ H hh _ fun v F1 H1 h1 p r => g_pair h1.fh r fun v1 v2 r1 r2 => k F1 _ H1 ((h1.set (d := ⟨t, z.1⟩) i r1).set (d := ⟨u, z.2⟩) j r2)
theorem s_unp3 {z : α × β × γ} (h : Den te Γ (tTri t u w) z Γ1) (k : OK Z (((Γ1.set i (.val ⟨t, z.1⟩)).set j (.val ⟨u, z.2.1⟩)).set l (.val ⟨w, z.2.2⟩)) D.nx) : OK Z Γ (tAsg te (gTri K i j l) D) := fun F σ H hh =>
  h Z F σ H hh _ fun v F1 H1 h1 p r => g_tri h1.fh r fun v1 v2 v3 r1 r2 r3 => k F1 _ H1 (((h1.set (d := ⟨t, z.1⟩) i r1).set (d := ⟨u, z.2.1⟩) j r2).set (d := ⟨w, z.2.2⟩) l r3)
/-- for a, b in xs: xs a frozen list of pairs -/
theorem s_forP {S : Type} {xs : List (α × β)} (s0 : S) (G : S → List Slot) (I : Nat → S → Prop) (h : Den wl Γ (tList (tPair t u)) xs Γ1) (h0 : I 0 s0) (e0 : Wk Γ1 (G s0))
    (hs : ∀ Z' : En, (∀ {Γ F σ H}, Holds Z' Γ F σ H → Holds Z Γ F σ H) → ∀ n x s, xs[n]? = some x → I n s → OK Z' (((G s).set i (.val ⟨t, x.1⟩)).set j (.val ⟨u, x.2⟩)) (s1 { D with nx := LoopAt Z' G I (n + 1), ct := LoopAt Z' G I (n + 1), bk := D.nx }))
    (hd : ∀ s, I xs.length s → OK Z (G s) D.nx) : OK Z Γ (tFor (iList K wl) (gPair K i j) s1 D) := fun F σ H hh => by
  refine h Z F σ H hh _ fun v F1 H1 h1 p r => ?_
  obtain ⟨a, vs, rfl, e, rr⟩ := r
  have pm : ∀ {F F' : Hp}, Ex F F' → (F a = some (.lst vs) ∧ Al (fun x v => (tPair t u).rep F v x) xs vs) → (F' a = some (.lst vs) ∧ Al (fun x v => (tPair t u).rep F' v x) xs vs) := fun e h => ⟨e _ _ h.1, h.2.map fun _ _ z => (tPair t u).mono e z⟩
  refine ⟨a, rfl, ⟨vs, sq_of (h1.fh _ _ e)⟩, for_list (K := K) (a := a) (xs := vs) (LoopAt (Z.more _ pm) G I) ⟨s0, F1, h0, (h1.weak e0).more ⟨e, rr⟩⟩ ?_ ?_ ?_⟩
  · rintro n σ' H' _ ⟨s, F', _, hs'⟩
    exact sq_of (hs'.fh _ _ hs'.pp.2.1)
  · rintro n x σ' H' hx ⟨s, F', hi, hs'⟩
    obtain ⟨y, hy, ry⟩ := hs'.pp.2.2.getR hx
    exact g_pair hs'.fh ry fun v1 v2 r1 r2 => hs (Z.more _ pm) (fun h => h.less) n y s hy hi F' _ H' ((hs'.set (d := ⟨t, y.1⟩) i r1).set (d := ⟨u, y.2⟩) j r2)
  · rintro σ' H' ⟨s, F', hi, hs'⟩
    rw [← rr.len] at hi
    exact hd s hi F' σ' H' hs'.less
end
end DL
namespace DL
open PySem L2 Evl
section
variable {α β γ : Type} {t : Ty α} {u : Ty β} {x : α} {y : β} {Z : En} {Γ Γ' Γ1 Γ2 Γ3 : List Slot} {te ta tb tc : TE} {K : PySem.W.Frag} {D : Ends} {i j l : Nat}
/-- isinstance(x, (A, B)) -/
theorem den_isiT {c1 c2 : V} {u1 u2 τ : Value} {b : Bool} (ha : Den ta Γ t x Γ1) (k1 : ClsV c1 u1) (k2 : ClsV c2 u2) (T : IsTy K t x τ) (e : PySem.W.kitAny K τ [u1, u2] = some b) :
    Den (tCB (rIsiT K) (tCons ta (tCons (tTup (tCons (tC c1) (tCons (tC c2) tNil))) tNil))) Γ tBool b Γ1 := fun Z F σ H hh Q q =>
  ha Z F σ H hh _ fun v F1 H1 h1 p r => ⟨sz_of (by show 2 ≤ 100000; decide), fun m nm => by
    have k : Step NoO F1 H1 (upd F1 m (.tup [c1, c2])) (upd H1 m (.tup [c1, c2])) := Step.new h1.fh nm
    have h2 := h1.step k
    exact ⟨v, m, [c1, c2], τ, [u1, u2], b, rfl, upd_same, .cons k1 (.cons k2 .nil), T _ _ v h2.fh (t.mono k.ff r), e, q _ _ _ h2 (p.trans (Pres.step k)) rfl⟩⟩
/-- (a, b, c) -/
theorem den_tup3 {γ : Type} {w : Ty γ} {z : γ} (h : Den ta Γ t x Γ1) (h2 : Den tb Γ1 u y Γ2) (h3 : Den tc Γ2 w z Γ3) : Den (tTup (tCons ta (tCons tb (tCons tc tNil)))) Γ (tTri t u w) (x, y, z) Γ3 := den_as (den_row (da_cons h (da_cons h2 (da_cons h3 da_nil))) (by show 3 ≤ 100000; decide)) row_tri
/-- max, min, sum of a frozen list are told by the kit's cr_max, cr_min; a list given back as it is -/
theorem den_ifV {a b : α} {c : Bool} {tt : TT} (h : DenT tt Γ c Γ1) (h1 : c = true → Den ta Γ1 t a Γ2) (h2 : c = false → Den tb Γ1 t b Γ2) : Den (fun σ H Q => tt σ H fun k H' => if k = true then ta σ H' Q else tb σ H' Q) Γ t (if c = true then a else b) Γ2 := fun Z F σ H hh Q q =>
  h Z F σ H hh _ fun F' H' h' p => by
    cases c with
    | true => exact h1 rfl Z F' σ H' h' Q fun v F2 H2 h2' p2 r2 => q v F2 H2 h2' (p.trans p2) r2
    | false => exact h2 rfl Z F' σ H' h' Q fun v F2 H2 h2' p2 r2 => q v F2 H2 h2' (p.trans p2) r2
end
end DL
namespace DL
open PySem L2 Evl
def dec2 (Γ : List Slot) (i j : Nat) (d1 d2 : Dv) : List Slot := (Γ.set i (.val d1)).set j (.val d2)
def sg2 (σ : L2.St) (i j : Nat) (v1 v2 : V) : L2.St := ((wipe σ [i, j]).set i (some v1)).set j (some v2)
def Any2 (Γ : List Slot) (i j : Nat) : Prop := Γ[i]? = some .any ∧ Γ[j]? = some .any
section
variable {Z : En} {Γ : List Slot} {F H : Hp} {σ : L2.St} {i j k : Nat} {v1 v2 : V} {d1 d2 : Dv} {a : Addr}
theorem dec2_ne (h1 : k ≠ i) (h2 : k ≠ j) : (dec2 Γ i j d1 d2)[k]? = Γ[k]? := by
  unfold dec2
  rw [set_get_ne h2, set_get_ne h1]
theorem wip2_ne (h1 : k ≠ i) (h2 : k ≠ j) : (wipe σ [i, j])[k]? = σ[k]? := by
  show ((σ.set j none).set i none)[k]? = σ[k]?
  rw [set_get_ne h1, set_get_ne h2]
theorem sg2_ne (h1 : k ≠ i) (h2 : k ≠ j) : (sg2 σ i j v1 v2)[k]? = σ[k]? := by
  unfold sg2
  rw [set_get_ne h2, set_get_ne h1, wip2_ne h1 h2]
theorem wipe2 : wipe (sg2 σ i j v1 v2) [i, j] = wipe σ [i, j] := by
  apply List.ext_getElem?
  intro k
  show ((((((σ.set j none).set i none).set i (some v1)).set j (some v2)).set j none).set i none)[k]? = ((σ.set j none).set i none)[k]?
  by_cases h1 : k = i
  · subst h1
    by_cases lt : k < σ.length
    · rw [List.getElem?_set_self (by simpa using lt), List.getElem?_set_self (by simpa using lt)]
    · rw [List.getElem?_eq_none (by simpa using lt), List.getElem?_eq_none (by simpa using lt)]
  · by_cases h2 : k = j
    · subst h2
      by_cases lt : k < σ.length
      · rw [set_get_ne h1, set_get_ne h1, List.getElem?_set_self (by simpa using lt), List.getElem?_set_self (by simpa using lt)]
      · rw [List.getElem?_eq_none (by simpa using lt), List.getElem?_eq_none (by simpa using lt)]
    · simp only [set_get_ne h2, set_get_ne h1]
theorem inC2 (h : Holds Z Γ F σ H) (e : Any2 Γ i j) (r1 : d1.rep F v1) (r2 : d2.rep F v2) : Holds Z (dec2 Γ i j d1 d2) F (sg2 σ i j v1 v2) H := by
  have h1 : Holds Z Γ F (wipe σ [i, j]) H := h.other (by rw [wipe_length, h.len]) fun k s q => by
    by_cases z1 : k = i
    · subst z1
      rw [e.1] at q
      cases q
      exact .inl rfl
    · by_cases z2 : k = j
      · subst z2
        rw [e.2] at q
        cases q
        exact .inl rfl
      · exact .inr ⟨q, wip2_ne z1 z2⟩
  exact (h1.set i r1).set j r2
theorem outC2 (h : Holds Z (dec2 Γ i j d1 d2) F (sg2 σ i j v1 v2) H) (e : Any2 Γ i j) : Holds Z Γ F σ H :=
  h.other (by have := h.len; unfold dec2 sg2 at this; rw [List.length_set, List.length_set, List.length_set, List.length_set, wipe_length] at this; exact this) fun k s q => by
    by_cases z1 : k = i
    · subst z1
      rw [e.1] at q
      cases q
      exact .inl rfl
    · by_cases z2 : k = j
      · subst z2
        rw [e.2] at q
        cases q
        exact .inl rfl
      · exact .inr ⟨by rw [dec2_ne z1 z2]; exact q, (sg2_ne z1 z2).symm⟩
theorem dec2_no (h : k = i ∨ k = j) {s : Slot} (e : (dec2 Γ i j d1 d2)[k]? = some s) : s.isOwn = false := by
  unfold dec2 at e
  by_cases h2 : k = j
  · subst h2
    by_cases lt : k < Γ.length
    · rw [List.getElem?_set_self (by simpa using lt)] at e
      cases e
      rfl
    · rw [List.getElem?_eq_none (by simpa using lt)] at e
      cases e
  · rcases h with h | h
    · subst h
      rw [set_get_ne h2] at e
      by_cases lt : k < Γ.length
      · rw [List.getElem?_set_self lt] at e
        cases e
        rfl
      · rw [List.getElem?_eq_none (by simpa using lt)] at e
        cases e
    · exact absurd h h2
theorem ownC2 (w : OwnAt (dec2 Γ i j d1 d2) (sg2 σ i j v1 v2) k a) : OwnAt Γ σ k a := by
  obtain ⟨⟨s, e, o⟩, e2⟩ := w
  by_cases z1 : k = i
  · rw [dec2_no (.inl z1) e] at o
    cases o
  · by_cases z2 : k = j
    · rw [dec2_no (.inr z2) e] at o
      cases o
    · rw [dec2_ne z1 z2] at e
      rw [sg2_ne z1 z2] at e2
      exact ⟨⟨s, e, o⟩, e2⟩
theorem ownC2' (e0 : Any2 Γ i j) (w : OwnAt Γ σ k a) : OwnAt (dec2 Γ i j d1 d2) (sg2 σ i j v1 v2) k a := by
  obtain ⟨⟨s, e, o⟩, e2⟩ := w
  by_cases z1 : k = i
  · subst z1
    rw [e0.1] at e
    cases e
    cases o
  · by_cases z2 : k = j
    · subst z2
      rw [e0.2] at e
      cases e
      cases o
    · exact ⟨⟨s, by rw [dec2_ne z1 z2]; exact e, o⟩, by rw [sg2_ne z1 z2]; exact e2⟩
end
section
variable {α β γ : Type} {t : Ty α} {u : Ty β} {w : Ty γ} {Z : En} {Γ Γ' Γ1 Γ2 Γ3 : List Slot} {ta tb tc te : TE} {tt uu : TT} {K : PySem.W.Frag} {D : Ends} {s1 s2 : TS} {i j : Nat}
theorem LcI.at_ {β : Type} {u : Ty β} {A : List β} {σ : L2.St} {F0 H0 H' : Hp} {p : Addr} {n : Nat} (c : LcI Z u Γ Γ1 A σ F0 H0 p n H') : ∃ F', Holds Z Γ1 F' σ H' := let ⟨⟨F', _, h, _⟩, _⟩ := c; ⟨F', h⟩
theorem LcI.turn2 {β : Type} {u : Ty β} {σ : L2.St} {F0 H0 H' : Hp} {p : Addr} {n : Nat} {A A' : List β} {d1 d2 : Dv} {v1 v2 : V} {Z0 : En} (h00 : Holds Z0 Γ F0 σ H0) (np : H0 p = none) (nz : Z.H p = none) (c : LcI Z u Γ Γ1 A σ F0 H0 p n H') (hn : n < 50000) (e1 : Any2 Γ1 i j) (e3 : Any2 Γ3 i j)
    (r : ∀ F', Z.P F' → d1.rep F' v1 ∧ d2.rep F' v2)
    (hs : ∃ b, DenT tt (dec2 Γ1 i j d1 d2) b Γ2 ∧ (b = true → ∃ y, Den te Γ2 u y (dec2 Γ3 i j d1 d2) ∧ A' = A ++ [y]) ∧ (b = false → Γ2 = dec2 Γ3 i j d1 d2 ∧ A' = A)) :
    tt (sg2 σ i j v1 v2) H' fun b H3 => if b = true then te (sg2 σ i j v1 v2) H3 fun y H4 => ∃ acc, H4 p = some (.lst acc) ∧ acc.length < sizeLine ∧ LcI Z u Γ Γ3 A' σ F0 H0 p (n + 1) (upd H4 p (.lst (acc ++ [y]))) else LcI Z u Γ Γ3 A' σ F0 H0 p (n + 1) H3 := by
  obtain ⟨⟨F', acc, h, pr, fp, hp, al⟩, le⟩ := c
  obtain ⟨b, ht, hy, hf⟩ := hs
  have hc := inC2 h e1 (r F' h.pp).1 (r F' h.pp).2
  have no1 : ∀ i', ¬ OwnAt (dec2 Γ1 i j d1 d2) (sg2 σ i j v1 v2) i' p := fun i' w => h00.notOwn np i' (pr.ow i' p (ownC2 w))
  have conv : ∀ {Γa Γb : List Slot} {Fa Ha Fb Hb : Hp}, Pres (dec2 Γa i j d1 d2) (dec2 Γb i j d1 d2) (sg2 σ i j v1 v2) Fa Ha Fb Hb → Any2 Γa i j → Any2 Γb i j → Pres Γa Γb σ Fa Ha Fb Hb := fun k ea eb =>
    ⟨k.ff, fun b o hb n nt no => k.keep b o hb n nt fun i' w => no i' (ownC2 w), fun i' b w => ownC2 (k.ow i' b (ownC2' eb w)), k.th⟩
  refine ht Z F' _ H' hc _ fun F3 H3 h3 p3 => ?_
  obtain ⟨fp3, hp3⟩ := p3.keep p _ hp fp (fun _ z => nomatch z) no1
  cases b with
  | true =>
    obtain ⟨y, hden, eA⟩ := hy rfl
    show te (sg2 σ i j v1 v2) H3 fun y H4 => ∃ acc, H4 p = some (.lst acc) ∧ acc.length < sizeLine ∧ LcI Z u Γ Γ3 A' σ F0 H0 p (n + 1) (upd H4 p (.lst (acc ++ [y])))
    refine hden Z F3 _ H3 h3 _ fun vy F4 H4 h4 p4 ry => ?_
    have no3 : ∀ i', ¬ OwnAt Γ2 (sg2 σ i j v1 v2) i' p := fun i' w => no1 i' (p3.ow i' p w)
    obtain ⟨fp4, hp4⟩ := p4.keep p _ hp3 fp3 (fun _ z => nomatch z) no3
    have hout : Holds Z Γ3 F4 σ H4 := outC2 h4 e3
    have pt : Pres Γ Γ3 σ F0 H0 F4 H4 := pr.trans (conv (p3.trans p4) e1 e3)
    have no4 : ∀ i', ¬ OwnAt Γ3 σ i' p := fun i' w => h00.notOwn np i' (pt.ow i' p w)
    refine ⟨acc, hp4, sz_lt (by rw [← al.len]; omega), ⟨⟨F4, acc ++ [vy], hout.poke nz no4 fp4, ⟨pt.ff, fun b o hb n nt no => ?_, pt.ow, fun b o hb => ?_⟩, fp4, upd_same, ?_⟩, ?_⟩⟩
    · have zz : b ≠ p := ne_of_none hb np
      rw [upd_ne zz]
      exact pt.keep b o hb n nt no
    · have zz : b ≠ p := ne_of_none hb np
      rw [upd_ne zz]
      exact pt.th b o hb
    · rw [eA]
      exact (al.map fun _ _ z => u.mono (p3.ff.trans p4.ff) z).app (.cons ry .nil)
    · rw [eA, List.length_append, List.length_singleton]
      omega
  | false =>
    obtain ⟨eG, eA⟩ := hf rfl
    show LcI Z u Γ Γ3 A' σ F0 H0 p (n + 1) H3
    subst eG
    exact ⟨⟨F3, acc, outC2 h3 e3, pr.trans (conv p3 e1 e3), fp3, hp3, by rw [eA]; exact al.map fun _ _ z => u.mono p3.ff z⟩, by rw [eA]; omega⟩
theorem dn_lcP {β : Type} {u : Ty β} {tl : TE} {xs : List (α × γ)} (G : Nat → List Slot) (A : Nat → List β) (h : Den tl Γ (tList (tPair t w)) xs (G 0)) (hf : ∀ n, Any2 (G n) i j) (hl : xs.length < 50000) (h0 : A 0 = [])
    (hs : ∀ n x, xs[n]? = some x → ∃ b Γ2, DenT tt (dec2 (G n) i j ⟨t, x.1⟩ ⟨w, x.2⟩) b Γ2 ∧ (b = true → ∃ y, Den te Γ2 u y (dec2 (G (n + 1)) i j ⟨t, x.1⟩ ⟨w, x.2⟩) ∧ A (n + 1) = A n ++ [y]) ∧ (b = false → Γ2 = dec2 (G (n + 1)) i j ⟨t, x.1⟩ ⟨w, x.2⟩ ∧ A (n + 1) = A n)) :
    DenN (tLc (iList K tl) (gPair K i j) tt te [i, j]) Γ ((A xs.length).map fun y => ⟨u, y⟩) (G xs.length) := fun Z F σ H hh Q q => by
  refine h Z F σ H hh _ fun v F1 H1 h1 p1 r => ?_
  obtain ⟨a, vs, rfl, e, rr⟩ := r
  have pm : ∀ {F F' : Hp}, Ex F F' → Ex F1 F → Ex F1 F' := fun e h => h.trans e
  refine ⟨a, rfl, ⟨vs, sq_of (h1.fh _ _ e)⟩, fun p np => lc_list (K := K) (a := a) (xs := vs) (fun n H' => LcI (Z.more _ pm) u (G 0) (G n) (A n) σ F1 H1 p n H') ?_ ?_ ?_ ?_⟩
  · rw [h0]
    exact LcI.start (h1.more (Ex.refl F1)) np
  · rintro n H' _ ⟨⟨F', acc, hs', _⟩, _⟩
    exact sq_of (hs'.fh _ _ (hs'.pp.2 _ _ e))
  · intro n x H' hx c
    obtain ⟨y, hy, ry⟩ := rr.getR hx
    have hn : n < 50000 := by
      have := (List.getElem?_eq_some_iff.mp hy).1
      omega
    obtain ⟨b1, v1, v2, rfl, hb1, r1, r2⟩ := ry
    obtain ⟨b, Γ2, hb⟩ := hs n y hy
    obtain ⟨Fc, hc⟩ := c.at_
    exact ⟨b1, [v1, v2], rfl, st_of (hc.fh _ _ (hc.pp.2 _ _ hb1)), rfl, v1, [v2], rfl, v2, [], rfl, rfl, wipe2, LcI.turn2 (d1 := ⟨t, y.1⟩) (d2 := ⟨w, y.2⟩) h1 np (h1.fresh np) c hn (hf n) (hf (n + 1)) (fun F' pp => ⟨t.mono pp.2 r1, w.mono pp.2 r2⟩) ⟨b, hb⟩⟩
  · rintro H' c
    rw [← rr.len] at c
    obtain ⟨⟨F', acc, hs', pr, fp, hp, al⟩, _⟩ := c
    exact q p acc F' H' hs'.less (p1.trans pr) (p1.new np) fp hp (al_unmap al)
end
end DL

set_option maxRecDepth 100000
/-! Ic: an instance called by a local name. -/
namespace L2
open PySem PySem.Spec PyProof.Rows
section
variable {X : Cx} {k i : Nat} {f C : Addr} {fd : FuncData} {ps : List Str} {sp : Sp} {E : St → XK} {CX : CXT} {x : Str} {p pos : Pos} {e : Expr} {es : List Expr} {t : TA}
/-- what the class says of its __call__ -/
structure ICal (K : PySem.W.Frag) (C f : Addr) : Prop where
  at_ : PySem.W.findIn K (Value.ref C) "__call__" = some (some (Value.ref f))
  fn : PySem.W.isFn K (Value.ref f) = true
  fi : PySem.W.fnIn K f = true
def tICall (C : Addr) (i : Nat) (sp : Sp) (E : St → XK) (t : TA) : TE := fun σ H Q => ∃ a, σ[i]? = some (some (.ref a)) ∧ t σ H fun vs H1 => (∃ dx fs, H1 a = some (.ins C dx fs)) ∧ sp (.ref a :: vs) H1 Q (E σ)
theorem run_icall {pins : List (Addr × Obj)} {σ : St} {H : Hp} {s : Shared} {Q : VK} {a dx : Addr} {fs : List (Str × V)} {us : List Value} {vs : List V} (M : ICal X.K C f) (F : FnOk X.prog X.w X.K X.mg X.base CX k f fd ps sp) (hr : Room (k + 1) X.A) (hb : Binds X.K fd ps []) (hx : PassesAt CX X σ (E σ))
    (I : Inv X pins σ H s) (ha : H a = some (.ins C dx fs)) (r : Vals vs us) (h : sp (.ref a :: vs) H Q (E σ)) : wpAny (model X.prog X.w) X.A (call (.ref a) us) (EP X pins σ Q) X.xe s := by
  obtain ⟨mm, J, _⟩ := ins_get I.hok ha
  obtain ⟨od, J, _⟩ := J.look
  have hl := F.len _ _ _ _ h
  have r2 : Vals (V.ref a :: vs) (Value.ref a :: us) := .cons rfl r
  have hb' := hb s (.ref a :: us) I.kIn (by rw [List.append_nil, ← r2.length]; exact hl)
  rw [List.append_nil] at hb'
  refine wpAny_call (PySem.W.kco_code (a := ⟨us, []⟩) I.kIn J rfl M.at_ M.fn M.fi (codeAny_mono (F.run X.A X.stack s H ⟨.ref a :: us, []⟩ (.ref a :: us) (.ref a :: vs) Q (E σ) (hr.mono (Nat.le_succ k)) I.env0 hb' r2 h) fun q s' hq => ?_))
  cases q with
  | error e => exact hx pins H s e s' I hq
  | ok fl =>
    cases fl with
    | ret u => exact I.after hq
    | next => exact False.elim hq
    | brk => exact False.elim hq
    | cont => exact False.elim hq
end
end L2
namespace L2
open PySem PySem.Spec PySem.Calls PyProof.Rows
theorem callWith_inst {M : Model} {A : Around} {E : Value → Shared → Prop} {s : Shared} {pos : Pos} {a : Addr} {first : List Value} {Q : Value → Shared → Prop} {args : List (Bool × Sem Value)} {keywords : List (Option Str × Sem Value)} (hplain : (args.any (·.1) || keywords.any (·.1.isNone)) = false)
    (h : wpAny M A (evalArgs (.ref a) true args keywords) (fun z t => (∃ ox C od, PySem.W.InstAt t.heap a ox C od ∧ ox.data = .plain) ∧ wpAny M A (call (.ref a) (first ++ z.pos) z.kw) Q E t) E s) : wpAny M A (callWith pos (.ref a) first args keywords) Q E s := by
  unfold callWith
  apply wpAny_bind
  apply wpAny_holding
  refine wpAny_mono h (fun z t hz => wpAny_bind (wpAny_standAt ?_)) fun _ _ y => y
  obtain ⟨⟨ox, C, od, J, hd⟩, hc⟩ := hz
  simp only [hplain]
  refine wpAny_bind ((PySem.W.kco_keeper J hd).here ?_)
  exact wpAny_bind (wpAny_mono (wpAny_operateT hc) (fun r t' hr => wpAny_bind (wpAny_holding (wpAny_point (wpAny_pure hr)))) fun _ _ y => y)
section
variable {X : Cx} {k i : Nat} {f C : Addr} {fd : FuncData} {ps : List Str} {sp : Sp} {E : St → XK} {CX : CXT} {x : Str} {p pos : Pos} {e : Expr} {es : List Expr} {t : TA}
/-- x(e, ..), x a name that holds an instance -/
theorem pe_icall (M : ICal X.K C f) (F : FnOk X.prog X.w X.K X.mg X.base CX k f fd ps sp) (hr : Room (k + 1) X.A) (hN : X.N[i]? = some x) (hv : Vis X.env.scope x) (hb : Binds X.K fd ps []) (hx : ∀ σ, PassesAt CX X σ (E σ)) (ha : PA X (e :: es) t)
    (hdb : (x == ("__debug__" : Str)) = false := by decide) (hcd : (x == ("__classdict__" : Str)) = false := by decide)
    (he : starEach (e :: es) X.env = (false, eval e X.env) :: starEach es X.env := by rfl)
    (hpl : (backTo pos (starEach es X.env)).any (·.1) = false := by rfl) : PE X (.Call (.Name x p) (e :: es) [] pos) (tICall C i sp E t) := by
  constructor
  intro pins s σ H Q I h
  obtain ⟨a, hs, ht⟩ := h
  refine wpAny_Call_Name_kw (thn ((pe_var (pos := p) hN hv hdb hcd).run pins s σ H (fun v H1 => v = .ref a ∧ H1 = H) I ⟨.ref a, hs, rfl, rfl⟩) fun u s1 ⟨v, H1, I1, r1, q1⟩ => ?_)
  obtain ⟨rfl, rfl⟩ := q1
  cases r1
  have args := thn (ha.run pos pins s1 σ _ _ I1 ht) (Q' := fun us s2 => (∃ ox C od, PySem.W.InstAt s2.heap a ox C od ∧ ox.data = .plain) ∧ wpAny (model X.prog X.w) X.A (call (.ref a) ([] ++ us)) (EP X pins σ Q) X.xe s2) fun us s2 ⟨vs, H2, I2, r, ⟨dx, fs, hi⟩, q⟩ => by
    obtain ⟨mm, J, _⟩ := ins_get I2.hok hi
    obtain ⟨od, J, _⟩ := J.look
    exact ⟨⟨_, C, od, J, rfl⟩, run_icall M F hr hb (hx σ) I2 hi r q⟩
  rw [he] at args ⊢
  exact callWith_inst (by show ((false || (backTo pos (starEach es X.env)).any (·.1)) || false) = false; rw [hpl]; rfl) (evalArgs_plain args)
end
end L2
namespace DL
open PySem L2 Evl
section
variable {α γ : Type} {t : Ty α} {w : Ty γ} {x : α} {z : γ} {Γ Γ1 : List Slot} {tr : TA} {ds : List Dv} {C : Addr} {i : Nat} {E : L2.St → XK}
def InsC (t : Ty α) (x : α) (C : Addr) : Prop := ∀ F v, t.rep F v x → ∃ a dx fs, v = .ref a ∧ F a = some (.ins C dx fs)
theorem den_icall {sp : Sp} (e : Γ[i]? = some (.val ⟨t, x⟩)) (hi : InsC t x C) (h : DenA tr Γ ds Γ1) (hs : SpV sp (⟨t, x⟩ :: ds) w z) : Den (tICall C i sp E tr) Γ w z Γ1 := fun Z F σ H hh Q q => by
  obtain ⟨v, h1, h2⟩ := hh.val e
  obtain ⟨a, dx, fs, rfl, ha⟩ := hi F v h2
  refine ⟨a, h1, h Z F σ H hh _ fun vs F1 H1 h1' p1 r1 => ⟨⟨dx, fs, h1'.fh _ _ (p1.ff _ _ ha)⟩, ?_⟩⟩
  exact hs F1 H1 _ h1'.fh (.cons (t.mono p1.ff h2) r1) Q (E σ) fun v' F3 H3 k r3 => q v' F3 H3 (h1'.step k) (p1.trans (Pres.step k)) r3
end
end DL

set_option maxRecDepth 100000
set_option maxHeartbeats 1000000
/-! Ge: generators that loop over a range and hand out the lists of another def. -/
namespace L2
open PySem PySem.Spec PyProof.Rows GenW

/-- what a loop's turn does with an exception -/
def notingIt (env : Env) (e : Value) : Sem PySem.Fin := ((do noteFrame e env; theTreesLotGoes e : Sem Unit).bind fun _ => .raise e)
section
variable {prog : Program} {w : World} {A : Around} {R : GenEnd} {Y : Protocol} {n : Nat} {s₀ : Shared} {c : Code} {fs : List Frame} {s : Shared} {env : Env}
theorem seg_For {target iter : Expr} {body : List Stmt} {pos : Pos} {K : Flow → Sem PySem.Fin} {J : Value → Sem PySem.Fin} {gd : Bool → Bool} {lv : List Value → List Value}
    (h : wpAny (model prog w) (A.over c fs) (eval iter env) (fun x s1 => wpAny (model prog w) (A.over c fs) (pyIter x) (fun it s2 =>
      ∀ p, Seg (model prog w) A R Y n s₀ (.forLoop target it body [] env) ((model prog w).den (.forLoop target it body [] env)) (.ret (fun r => ((match r with | .ok f => (.pure f : Sem Flow) | .error e => .raise e).onRaise (cameBack env)).wrap K J gd lv) none (gd false) (lv []) c p [] :: fs) s2)
        (fun x s' => Seg (model prog w) A R Y n s₀ c (J x) fs s') s1) (fun x s' => Seg (model prog w) A R Y n s₀ c (J x) fs s') s)
    (hs : ∀ x, foldedSetIterable iter env x = pure x := by intro _; rfl) :
    Seg (model prog w) A R Y n s₀ c ((exec (.For target iter body [] pos) env).wrap K J gd lv) fs s := by
  rw [exec_For]
  refine seg_bind_wrap (wpAny_standAt ?_)
  refine seg_bind_wrap (wpAny_mono h (fun x s1 h1 => ?_) fun _ _ h' => h')
  refine seg_bind_wrap (wpAny_of_eq (hs x) ?_)
  refine seg_bind_wrap (wpAny_standAt ?_)
  refine seg_bind_wrap (wpAny_holding (wpAny_mono h1 (fun it s2 h2 => ?_) fun _ _ h' => h'))
  exact seg_call h2
theorem seg_forLoop {target : Expr} {it : Value} {body : List Stmt}
    (h : wpAny (model prog w) (A.over (.forLoop target it body [] env) fs) (pyNext it) (fun r s1 => match r with
      | none => Seg (model prog w) A R Y n s₀ (.block [] env) (leafOf (.ok .next)) fs s1
      | some v => wpAny (model prog w) (A.over (.forLoop target it body [] env) fs) (letOwnedTupleGo target it v) (fun _ s1' =>
          wpAny (model prog w) (A.over (.forLoop target it body [] env) fs) (assign target env v) (fun _ s2 =>
            Seg (model prog w) A R Y n s₀ (.forLoop target it body [] env) ((execs body env).wrap (fun f => match f with
              | .next | .cont => .pure (.again (.forLoop target it body [] env))
              | .brk => .pure (.done .next)
              | .ret v => .pure (.done (.ret v))) (notingIt env) id id) fs s2)
            (fun x s' => Seg (model prog w) A R Y n s₀ (.forLoop target it body [] env) (notingIt env x) fs s') s1') (fun x s' => Seg (model prog w) A R Y n s₀ (.forLoop target it body [] env) (notingIt env x) fs s') s1)
      (fun x s' => Seg (model prog w) A R Y n s₀ (.forLoop target it body [] env) (notingIt env x) fs s') s) :
    Seg (model prog w) A R Y n s₀ (.forLoop target it body [] env) ((model prog w).den (.forLoop target it body [] env)) fs s := by
  show Seg _ A R Y n s₀ _ ((forTurn target it body [] env).onRaise (fun x => do noteFrame x env; theTreesLotGoes x)) fs s
  rw [Sem.onRaise_eq_wrap]
  show Seg _ A R Y n s₀ _ ((forTurn target it body [] env).wrap Sem.pure (notingIt env) id id) fs s
  simp only [forTurn]
  refine seg_bind_wrap (wpAny_standAt ?_)
  refine seg_bind_wrap (wpAny_onRaise (wpAny_mono h (fun r s1 h1 => ?_) fun _ _ h' => wpAny_standAt h'))
  cases r with
  | none => exact seg_again rfl h1
  | some v =>
    refine seg_bind_wrap (wpAny_mono h1 (fun _ s1' h1' => ?_) fun _ _ h' => h')
    refine seg_bind_wrap (wpAny_mono h1' (fun _ s2 h2 => ?_) fun _ _ h' => h')
    rw [Sem.bind_eq_wrap', Sem.wrap_wrap]
    rw [Sem.wrap_congr (execs body env) _ _ (K' := fun f => match f with
              | .next | .cont => .pure (.again (.forLoop target it body [] env))
              | .brk => .pure (.done .next)
              | .ret v => .pure (.done (.ret v))) (H := fun e => Sem.wrap Sem.pure (notingIt env) id id (Sem.raise e)) (H' := notingIt env) (fun f => by cases f <;> rfl) (fun _ => rfl)]
    exact h2
end

section
variable {X : Cx} {st : Stmt} {rest : List Stmt}
def tGFor (wi : TI) (g : TG) (tb : TGn) : TGn := fun D ys σ H => wi σ H fun J H1 => ∃ W : Nat → Nat → List V → St → Hp → Prop, (∃ m, W 0 m ys σ H1) ∧ ∀ i m ys σ H, W i m ys σ H →
  (J.stop i H ∧ D.nx ys σ H) ∨ (J.go i H ∧ ∃ N : List V → St → Hp → Prop, (∀ ys' σ' H', N ys' σ' H' → ∃ m', m' < m ∧ W (i + 1) m' ys' σ' H') ∧ ∀ x H', J.yld i H x H' → g x σ H' fun σ2 H2 => tb { D with nx := N, ct := N, bk := D.nx } ys σ2 H2)
theorem gs_for {tg iter : Expr} {body : List Stmt} {wi : TI} {g : TG} {tb : TGn} {pos : Pos} (hp : PassesOwn (model X.prog X.w) X.A X.env X.xe) (hc : X.calm = true) (hi : PI X tg iter wi) (hg : PG X tg g) (hb : GSs X body tb)
    (hs : ∀ x, foldedSetIterable iter X.env x = pure x := by intro _; rfl) : GS X (.For tg iter body [] pos) (tGFor wi g tb) := by
  refine ⟨fun A S ip R n ys s₀ c fs K J gd lv s σ H D gc hn k hI ht => ?_⟩
  obtain ⟨acc, cc, r0, I0⟩ := hI
  refine seg_For ?_ hs
  rw [gc.over]
  refine wpAny_mono (hi.run _ s σ H _ I0 ht) (fun v s1 h1 => wpAny_mono h1 (fun itv s2 h2 => ?_) fun x s' hx => k.exc n s₀ x s' hx) fun x s' hx => k.exc n s₀ x s' hx
  obtain ⟨it, fp, tn, Jt, H2, e, I2, T, st2, f2, W, ⟨m0, w0⟩, turn⟩ := h2
  subst e
  intro p
  have fpok : ∀ {acc' : Array Value} {c' : Nat} {H' : Hp}, (∀ b ∈ fp, H' b = none) → ∀ b ∈ fp, FpOk X ((S, lstObj acc' c') :: ip) H' b := fun {acc' c' H'} hn b hb => by
    obtain ⟨_, q1, q2, q3, q4, q5⟩ := f2 b hb
    refine ⟨hn b hb, q1, q2, q3, q4, fun p hp => ?_⟩
    rcases List.mem_append.mp hp with z | z
    · exact q5 p (List.mem_append_left _ z)
    · rcases List.mem_cons.mp z with z | z
      · rw [z]; exact q5 (S, lstObj acc cc) (List.mem_append_right _ List.mem_cons_self)
      · exact q5 p (List.mem_append_right _ (List.mem_cons_of_mem _ z))
  have fpS : ∀ b ∈ fp, b ≠ S := fun b hb z => (f2 b hb).2.2.2.2.2 (S, lstObj acc cc) (List.mem_append_right _ List.mem_cons_self) z.symm
  have gl := fun (kk : Result → Sem PySem.Fin) => gc_loop (k := kk) (c' := .forLoop tg (.ref it) body [] X.env) (l := lv []) (kp := []) (p := p) gc rfl rfl
  have loop : ∀ (m i n : Nat) (ys : List V) (s₀ s : Shared) (σ : St) (H : Hp), n + ys.length = sizeLine → W i m ys σ H → GI X S ip ys σ H s → tn i s.heap → (∀ b ∈ fp, H b = none) →
      Seg (model X.prog X.w) A R (GY X S) n s₀ (.forLoop tg (.ref it) body [] X.env) ((model X.prog X.w).den (.forLoop tg (.ref it) body [] X.env))
        (.ret (fun r => ((match r with | .ok f => (.pure f : Sem Flow) | .error e => .raise e).onRaise (cameBack X.env)).wrap K J gd lv) none (gd false) (lv []) c p [] :: fs) s := by
    intro m
    induction m using Nat.strongRecOn with
    | ind m ih =>
      intro i n ys s₀ s σ H hn w hI hst hfr
      have ee : ∀ (n : Nat) (s₀ : Shared) (x : Value) (s' : Shared), X.xe x s' → Seg (model X.prog X.w) A R (GY X S) n s₀ (.forLoop tg (.ref it) body [] X.env)
          (notingIt X.env x)
          (.ret (fun r => ((match r with | .ok f => (.pure f : Sem Flow) | .error e => .raise e).onRaise (cameBack X.env)).wrap K J gd lv) none (gd false) (lv []) c p [] :: fs) s' := fun n s₀ x s' hx => by
        unfold notingIt
        rw [Sem.bind_eq_wrap]
        refine seg_wrap ?_
        rw [(gl _).over]
        refine wpAny_bind (wpAny_mono (hp x s' hx) (fun _ s'' hcb => wpAny_theTreesLotGoes ?_) fun y s'' hcb => ?_)
        · exact seg_leaf (.error x) (seg_cameBack gc k hcb)
        · exact seg_leaf (.error y) (seg_cameBack gc k hcb)
      refine seg_forLoop ?_
      rw [(gl _).over]
      obtain ⟨acc', cc', r, I⟩ := hI
      rcases turn i m ys σ H w with ⟨stop, qn⟩ | ⟨go, N, hN, step⟩
      · refine thn (T.done X rfl rfl rfl hc i _ s σ H _ I (fpok hfr) hst stop) fun rr s4 ⟨hr, I4⟩ => ?_
        subst hr
        exact seg_leaf (.ok .next) (k.ok n ys s₀ s4 .next hn ⟨σ, H, ⟨acc', cc', r, I4⟩, qn⟩)
      · refine wpAny_mono (T.item X rfl rfl rfl hc i _ s σ H X.xe I (fpok hfr) hst go) (fun rr s4 ⟨u, hr, h4⟩ => ?_) fun x s' hx => ee n s₀ x s' hx
        subst hr
        refine wpAny_mono h4 (fun _ s5 ⟨x, H5, I5, r5, y5, st5, fr5⟩ => ?_) fun x s' hx => ee n s₀ x s' hx
        have I5' := I5.pinned (fpok fr5) (T.obj _ _ st5)
        refine wpAny_mono (hg.run _ s5 σ H5 x u _ I5' r5 (step x H5 y5)) (fun _ s6 ⟨σ6, H6, I6, q6⟩ => ?_) fun x s' hx => ee n s₀ x s' hx
        have hipS : ∀ q ∈ ip ++ pinsAt fp s5.heap, q.1 ≠ S := fun q hq => (List.mem_append.mp hq).elim (fun z => gc.ip q z) fun z => fpS q.1 (of_pinsAt z).1
        have gl2 := fun (kk : Result → Sem PySem.Fin) => (⟨gc.pn, hipS, gc.apart, (gl kk).over, (gl kk).split, (gl kk).guard, rfl⟩ : GC X S (ip ++ pinsAt fp s5.heap) A (.forLoop tg (.ref it) body [] X.env) (.ret kk none (gd false) (lv []) c p [] :: fs) id)
        have un : ∀ {ys' : List V} {σ' : St} {H' : Hp} {s' : Shared}, GI X S (ip ++ pinsAt fp s5.heap) ys' σ' H' s' → GI X S ip ys' σ' H' s' ∧ tn (i + 1) s'.heap ∧ ∀ b ∈ fp, H' b = none := fun {ys' σ' H' s'} hG => by
          obtain ⟨a2, c2, r2, J2⟩ := hG
          have pn2 : ∀ b ∈ fp, ∀ o, s5.heap.get? b = some o → s'.heap.get? b = some o ∧ H' b = none := fun b hb o e =>
            let q := J2.pin (b, o) (List.mem_append_right _ (List.mem_cons_of_mem _ (List.mem_append_right _ (mem_pinsAt hb e))))
            ⟨q.1, q.2.1⟩
          refine ⟨⟨a2, c2, r2, J2.pins_of fun p hp => ?_⟩, T.keep _ _ _ st5 fun b hb o e => (pn2 b hb o e).1, fun b hb => ?_⟩
          · refine J2.pin p ?_
            refine List.mem_append_right _ ?_
            rcases List.mem_cons.mp hp with z | z
            · rw [z]; exact List.mem_cons_self
            · exact List.mem_cons_of_mem _ (List.mem_append_left _ z)
          · obtain ⟨o, e, _⟩ := T.obj _ _ st5 b hb
            exact (pn2 b hb o e).2
        refine hb.run A S (ip ++ pinsAt fp s5.heap) R n ys s₀ _ _ _ _ id id s6 σ6 H6 { D with nx := N, ct := N, bk := D.nx } (gl2 _) hn ⟨fun n' ys' s₀' s7 f hn' hs => ?_, fun n' s₀' x s7 hx => ee n' s₀' x s7 hx⟩ ⟨acc', cc', r, I6⟩ q6
        cases f with
        | next =>
          obtain ⟨σ7, H7, I7, n7⟩ := hs
          obtain ⟨m', hm, w7⟩ := hN ys' σ7 H7 n7
          obtain ⟨u1, u2, u3⟩ := un I7
          exact seg_again rfl (ih m' hm (i + 1) n' ys' s₀' s7 σ7 H7 hn' w7 u1 u2 u3)
        | cont =>
          obtain ⟨σ7, H7, I7, n7⟩ := hs
          obtain ⟨m', hm, w7⟩ := hN ys' σ7 H7 n7
          obtain ⟨u1, u2, u3⟩ := un I7
          exact seg_again rfl (ih m' hm (i + 1) n' ys' s₀' s7 σ7 H7 hn' w7 u1 u2 u3)
        | brk =>
          obtain ⟨σ7, H7, I7, q7⟩ := hs
          exact seg_leaf (.ok .next) (k.ok n' ys' s₀' s7 .next hn' ⟨σ7, H7, (un I7).1, q7⟩)
        | ret v =>
          obtain ⟨x7, σ7, H7, I7, r7, q7⟩ := hs
          exact seg_leaf (.ok (.ret v)) (k.ok n' ys' s₀' s7 (.ret v) hn' ⟨x7, σ7, H7, (un I7).1, r7, q7⟩)
  exact loop m0 0 n ys s₀ s2 σ H2 hn w0 ⟨acc, cc, r0, I2⟩ st2 fun b hb => (f2 b hb).1
end
section
variable {prog : Program} {w : World} {A : Around} {E : Value → Shared → Prop} {s : Shared}
/-- a list's iterator, asked by its own slot: an item is left -/
theorem lit_item {it a : Addr} {i : Nat} {zs : Array Value} {x : Value} {U : Option Value → Shared → Prop} (q : s.heap.get? it = some (GNX.itObj a i)) (hl : s.heap.IsList a zs) (hx : zs[i]? = some x)
    (hU : ∀ h', h'.get? it = some (GNX.itObj a (i + 1)) → Heap.SameBut it s.heap h' → U (some x) { s with heap := h' }) : wpAny (model prog w) A (callSpecial? (.ref it) "__next__") U E s := by
  have T : s.TypeIs (.ref it) "list_iterator" := ⟨_, q, rfl⟩
  refine wpAny_callSpecial?_slot (name := Str.ofString "__next__") T slot_listiter_next (wpAny_call_entry slot_listiter_next T entry_listiter_next ?_ (args_listiter_next _))
  exact GNX.next_item (Q := fun y s' => U (some y) s') q hl hx hU
/-- .. nothing is left -/
theorem lit_end {it a : Addr} {i : Nat} {zs : Array Value} {U : Option Value → Shared → Prop} (hh : A.handled = none) (q : s.heap.get? it = some (GNX.itObj a i)) (hl : s.heap.IsList a zs) (hx : zs[i]? = none)
    (hE : ∀ e h', StopX e h' → Heap.ExtBut it s.heap h' → E e { s with heap := h' }) : wpAny (model prog w) A (callSpecial? (.ref it) "__next__") U E s := by
  have T : s.TypeIs (.ref it) "list_iterator" := ⟨_, q, rfl⟩
  obtain ⟨ol, hol, _, nl, hdl⟩ := hl
  refine wpAny_callSpecial?_slot (name := Str.ofString "__next__") T slot_listiter_next (wpAny_call_entry slot_listiter_next T entry_listiter_next ?_ (args_listiter_next _))
  show wpAny _ A.in1 (field (.ref it) 0 >>= _) _ _ s
  refine wpAny_bind (wpAny_field (x := .ref a) q rfl rfl ?_)
  rw [show (Value.ref a == Value.none) = false from rfl]
  show wpAny _ A.in1 (field (.ref it) 1 >>= _) _ _ s
  refine wpAny_bind (wpAny_field (x := .int i 0) q rfl rfl ?_)
  show wpAny _ A.in1 (seqItems? (.ref a) >>= _) _ _ s
  refine wpAny_bind (wpAny_seqItems hol hdl ?_)
  simp only [hx, Int.toNat_natCast]
  refine wpAny_bind (wpAny_rule (wpAny_bind (wpAny_setField q rfl (by simp) ?_)))
  show wpAny _ A.in1 (newExc (.type "StopIteration") [] >>= _) _ _ _
  refine wpAny_bind ?_
  simp only [newTuple, newExc]
  refine wpAny_bind (wpAny_newObj_type ?_ (by size_fits))
  refine wpAny_bind (m := firstArgMember _ _) (wpAny_of_eq (a := Value.none) (by first | rfl | (simp only [firstArgMember]; rfl)) ?_)
  refine wpAny_newObj_type ?_ (by size_fits)
  simp only [raiseNew]
  refine wpAny_bind (wpAny_handled ?_)
  first | rw [show A.in1.handled = none from hh] | rw [hh]
  refine wpAny_bind (wpAny_pure (wpAny_throw ?_))
  refine hE _ _ ⟨_, _, _, rfl, Heap.get?_push_size _ rfl, rfl, rfl, ?_⟩ (((Heap.SameBut.update ..).extBut.push _).push _)
  first
    | rfl
    | (rw [Array.getElem?_append_left (by decide)]; rfl)
    | kernel_rfl
end
section
variable {X : Cx} {e : Expr} {te : TE}
def tYfLst (te : TE) : TYf := fun σ H Q => te σ H fun x H1 => ∃ a xs, x = .ref a ∧ H1 a = some (.lst xs) ∧ Q xs H1
theorem close_lit : typeLookup (.type "list_iterator") "close" = pure none := by rw [typeLookup_type, builtinLookup_eq_fast]; kernel_rfl
theorem yf_list (he : PE X e te) : YfE X e (tYfLst te) := by
  refine ⟨fun pins s σ H Q I h => thn (he.run pins s σ H _ I h) fun v s1 ⟨x, H1, I1, r1, a, xs, ex, ha, hq⟩ => ?_⟩
  subst ex
  obtain rfl : v = Value.ref a := r1
  obtain ⟨its, rits, pl, hz⟩ := I1.list (.inl (.inl ha))
  refine ⟨"list", pl.isList.typeIs, by decide, wpAny_pyIter_list pl.isList ?_⟩
  have ksz : ∀ {b : Addr} {o : Obj}, s1.heap.get? b = some o → b ≠ s1.heap.objs.size := fun e => Nat.ne_of_lt (Heap.lt_size e)
  have kp : ∀ b o, s1.heap.get? b = some o → (s1.heap.push (GNX.itObj a 0)).get? b = some o := fun b o e => Heap.get?_push_of_some _ e
  have hne : a ≠ s1.heap.objs.size := by obtain ⟨o, e, _⟩ := pl.isList; exact ksz e
  have frame : ∀ (j : Nat) (h h' : Heap), (h.get? s1.heap.objs.size = some (GNX.itObj a j) ∧ h.IsList a its.toArray) → (∀ b o, (b = s1.heap.objs.size ∨ H1 b ≠ none) → h.get? b = some o → h'.get? b = some o) → h'.get? s1.heap.objs.size = some (GNX.itObj a j) ∧ h'.IsList a its.toArray := by
    rintro j h h' ⟨q1, o2, ho2, r2⟩ hk
    exact ⟨hk _ _ (.inl rfl) q1, o2, hk _ o2 (.inr (by rw [ha]; exact fun z => by cases z)) ho2, r2⟩
  refine ⟨s1.heap.objs.size, H1, xs, fun j h => h.get? s1.heap.objs.size = some (GNX.itObj a j) ∧ h.IsList a its.toArray, rfl, I1.kept (t' := s1.toks) kp, .inr I1.sz, Nat.ne_of_gt I1.lt, fun y c hy => ?_, I1.hok.fresh (Nat.le_refl _), fun p hp => ksz (I1.pin p hp).1,
    ⟨Heap.get?_push_size _ rfl, pl.isList.at fun o e => kp a o e⟩, ⟨⟨"list_iterator", fun j h q => ⟨_, q.1, rfl⟩, close_lit, by decide⟩, frame, fun A' j x s2 Q' E' hA hx q hQ => ?_, fun A' s2 Q' E' hA q hE => ?_⟩, hq⟩
  · obtain ⟨v, o, ho, _⟩ := I1.cell y c hy
    exact ksz ho
  · obtain ⟨u, hu, ru⟩ := rits.get hx
    exact lit_item q.1 q.2 (x := u) (by simpa using hu) fun h' q1' hs => hQ u h' s2.toks ru ⟨q1', q.2.at fun o e => hs.2 a (fun z => hne z) |>.trans e⟩ fun b o hb eb => hs.extBut b o hb eb
  · have hnone : its.toArray[xs.length]? = none := by
      have e := rits.length
      have e2 : its[xs.length]? = none := List.getElem?_eq_none_iff.mpr (by omega)
      simpa using e2
    exact lit_end hA q.1 q.2 hnone fun e h' hS hk => hE e h' s2.toks hS fun b o hb eb => hk b o hb eb
end
end L2

set_option maxRecDepth 100000
set_option maxHeartbeats 1000000
/-! Zg: zip of an empty list and a generator that is never begun. -/
namespace L2
open PySem PySem.Spec PyProof.Rows GenW

abbrev zg1 (h : Heap) (l : Addr) : Heap := h.push (GNX.itObj l 0)
abbrev zg2 (h : Heap) (l g : Addr) : Heap := (zg1 h l).push { cls := .type "tuple", data := .seq #[.ref h.objs.size, .ref g] }
abbrev zg3 (h : Heap) (l g : Addr) : Heap := (zg2 h l g).push { cls := .type "tuple", data := .seq #[.none, .none] }
abbrev zg4 (h : Heap) (l g : Addr) : Heap := (zg3 h l g).push { cls := .type "zip", data := .fields #[.none, .bool false, .bool false, .ref (zg1 h l).objs.size, .ref (zg2 h l g).objs.size] }
theorem meets_zg (l a : Addr) (n : Nat) (zs : Array Value) :
    Meets (Builtin.«zip.__new__» ⟨[.type "zip", .ref l, .ref a], []⟩) (fun _ R s => s.heap.IsList l zs ∧ s.heap.IsGen a n ∧ R (.ok (.ret (.ref (zg3 s.heap l a).objs.size))) { s with heap := zg4 s.heap l a }) :=
  .of_wp fun prog w A R s z => by
    obtain ⟨hp, gg, d, tk, os⟩ := s
    obtain ⟨y1, y2, z⟩ := z
    have hsub := sub_zip
    have x1 : Heap.IsList (Shared.heap ⟨hp, gg, d, tk, os⟩) l zs := y1
    have x2 : Heap.IsGen (Shared.heap ⟨hp.push { cls := .type "list_iterator", data := .fields #[.ref l, .int 0 0] }, gg, d, tk, os⟩) a n := y2.keeps fun b o e => Heap.get?_push_of_some _ e
    wp_walk using wpAny_pyIter_list x1, wpAny_pyIter_gen x2
    exact ⟨_, rfl, z⟩
section
variable {prog : Program} {w : World} {A : Around} {E : Value → Shared → Prop} {s : Shared}
theorem call_zg {l a : Addr} {n : Nat} {zs : Array Value} {U : Value → Shared → Prop} (y1 : s.heap.IsList l zs) (y2 : s.heap.IsGen a n)
    (k : ∀ h', IsZip h' (s.heap.objs.size + 3) (s.heap.objs.size + 1) (s.heap.objs.size + 2) .none → IsPair h' (s.heap.objs.size + 1) (.ref s.heap.objs.size) (.ref a) → IsPair h' (s.heap.objs.size + 2) .none .none → h'.IsListIter s.heap.objs.size l 0 →
      (∀ c o, s.heap.get? c = some o → h'.get? c = some o) → U (.ref (s.heap.objs.size + 3)) { s with heap := h' }) : wpAny (model prog w) A (call (.type "zip") [.ref l, .ref a]) U E s := by
  refine callType_new F.called_zip (by decide) (F.typeCall_zip_2 _ _) (F.newCall_zip_2 _ _) (fun x => F.args_object_init_3 x _ _) F.entry_zip_new (meets_zg l a n zs) ⟨y1, y2, ?_⟩
  have z1 : (zg1 s.heap l).objs.size = s.heap.objs.size + 1 := Heap.size_push ..
  have z2 : (zg2 s.heap l a).objs.size = s.heap.objs.size + 2 := by rw [Heap.size_push, z1]
  have z3 : (zg3 s.heap l a).objs.size = s.heap.objs.size + 3 := by rw [Heap.size_push, z2]
  have q4 : (zg4 s.heap l a).get? (zg3 s.heap l a).objs.size = some _ := Heap.get?_push_size _ rfl
  have q3 : (zg4 s.heap l a).get? (zg2 s.heap l a).objs.size = some _ := Heap.get?_push_of_some _ (Heap.get?_push_size _ rfl)
  have q2 : (zg4 s.heap l a).get? (zg1 s.heap l).objs.size = some _ := Heap.get?_push_of_some _ (Heap.get?_push_of_some _ (Heap.get?_push_size _ rfl))
  have q1 : (zg4 s.heap l a).get? s.heap.objs.size = some _ := Heap.get?_push_of_some _ (Heap.get?_push_of_some _ (Heap.get?_push_of_some _ (Heap.get?_push_size _ rfl)))
  show _ ∧ _
  rw [z1, z2, z3] at q4
  rw [z2] at q3
  rw [z1] at q2
  rw [z3]
  exact ⟨⟨_, q4, rfl⟩, k _ q4 q2 q3 ⟨_, q1, rfl, rfl⟩ fun c o x => Heap.get?_push_of_some _ (Heap.get?_push_of_some _ (Heap.get?_push_of_some _ (Heap.get?_push_of_some _ x)))⟩
/-- the first of two is at its end: the other one is not asked -/
theorem next_zg {z TI TO i l a : Addr} {k : Nat} {zs : Array Value} {v1 v2 : Value} {U : Fin → Shared → Prop} (hh : A.handled = none) (n1 : i ≠ z) (n2 : l ≠ z)
    (hz : IsZip s.heap z TI TO .none) (hTI : IsPair s.heap TI (.ref i) (.ref a)) (hTO : IsPair s.heap TO v1 v2) (hi : s.heap.IsListIter i l k) (hl : s.heap.IsList l zs) (hend : zs[k]? = none)
    (hE : ∀ h' e, (∀ c o, c ≠ z → c ≠ i → s.heap.get? c = some o → h'.get? c = some o) → (∃ o, h'.get? e = some o ∧ o.cls = .type "StopIteration") → E (.ref e) { s with heap := h' }) :
    wpAny (model prog w) A (Builtin.«zip.__next__» ⟨[.ref z], []⟩) U E s := by
  show wpAny _ A (field (.ref z) 2 >>= _) U E s
  refine wpAny_bind (wpAny_field (x := .bool false) hz rfl rfl ?_)
  show wpAny _ A (field (.ref z) 3 >>= _) U E s
  refine wpAny_bind (wpAny_field (x := .ref TI) hz rfl rfl ?_)
  refine wpAny_bind (wpAny_seqItems hTI rfl ?_)
  show wpAny _ A (Builtin.SmallTypes.ownedTupleIsFree (.ref z) >>= _) U E s
  refine wpAny_bind ?_
  unfold Builtin.SmallTypes.ownedTupleIsFree
  refine wpAny_bind (wpAny_field (x := .none) hz rfl rfl (wpAny_pure ?_))
  simp only [if_true]
  refine wpAny_bind (wpAny_rule (wpAny_bind (wpAny_field (x := .ref TO) hz rfl rfl ?_)))
  refine wpAny_bind (wpAny_setField_rec hz (by simp) fun g1 y1 sb1 => ?_)
  replace y1 : IsZip g1 z TI TO .ellipsis := y1
  refine wpAny_bind ?_
  simp only [List.zipIdx_nil, List.zipIdx_cons, List.forIn_nil, List.forIn_cons]
  refine wpAny_bind (wpAny_bind (wpAny_onRaise ?_))
  show wpAny _ A (Builtin.SmallTypes.nextOf (.ref i) >>= _) _ _ _
  refine wpAny_bind (wpAny_nextOf_list_end hh (hi.extBut sb1.extBut n1) (hl.extBut sb1.extBut n2) hend fun g2 e sb2 he => ?_)
  obtain ⟨oe, e1, e2⟩ := he
  have y2 : IsZip g2 z TI TO .ellipsis := sb2 _ _ n1.symm y1
  have ne : e ≠ z := fun x => by
    rw [x, y2] at e1
    cases e1
    simp at e2
  exact wpAny_setField_rec y2 (by simp) fun g3 _ sb3 => hE g3 e (fun c o c1 c2 x => sb3.extBut _ _ c1 (sb2 _ _ c2 (sb1.extBut _ _ c1 x))) ⟨oe, sb3.extBut _ _ ne e1, e2⟩
theorem pyNext_zg {z TI TO i l a : Addr} {k : Nat} {zs : Array Value} {v1 v2 : Value} {U : Option Value → Shared → Prop} (hh : A.handled = none) (n1 : i ≠ z) (n2 : l ≠ z)
    (hz : IsZip s.heap z TI TO .none) (hTI : IsPair s.heap TI (.ref i) (.ref a)) (hTO : IsPair s.heap TO v1 v2) (hi : s.heap.IsListIter i l k) (hl : s.heap.IsList l zs) (hend : zs[k]? = none)
    (hU : ∀ h', (∀ c o, c ≠ z → c ≠ i → s.heap.get? c = some o → h'.get? c = some o) → U none { s with heap := h' }) : wpAny (model prog w) A (pyNext (.ref z)) U E s := by
  have T : s.TypeIs (.ref z) "zip" := ⟨_, hz, rfl⟩
  unfold pyNext
  refine wpAny_bind (wpAny_attempt (wpAny_callSpecial?_slot (name := Str.ofString "__next__") T F.slot_zip_next (wpAny_call_entry F.slot_zip_next T F.entry_zip_next (next_zg hh n1 n2 hz hTI hTO hi hl hend fun h' e hk he => ?_) (F.args_zip_next_1 _))))
  obtain ⟨o, e1, e2⟩ := he
  exact wpAny_bind (wpAny_isInstance (T := "StopIteration") (b := true) ⟨o, e1, e2⟩ isSubtype_stop (wpAny_pure (hU _ hk)))
end
section
variable {X : Cx} {k : Nat} {f : Addr} {fd : FuncData} {ps : List Str} {sp : SpG} {x : Str} {p pos pos' : Pos}
/-- nothing is handed out while the list at a is empty -/
def ItNo (K : PySem.W.Frag) (a : Addr) : It := ⟨fun _ _ => False, fun _ _ _ _ => False, fun _ H => SqL K H a []⟩
theorem turn_zg {P : Program} {w : World} {K : PySem.W.Frag} {tg : Expr} {a z TI TO i gg : Addr} (n1 : i ≠ z) (n2 : a ≠ z) :
    Turn P w K tg (ItNo K a) [z, TI, TO, i] z (fun j h => IsZip h z TI TO .none ∧ IsPair h TI (.ref i) (.ref gg) ∧ (∃ x y, IsPair h TO x y) ∧ h.IsListIter i a j) where
  mem := by simp
  obj := fun j h st c hc => by
    obtain ⟨hz, hTI, ⟨x, y, hTO⟩, o1, e1, _, d1⟩ := st
    have e' : c = z ∨ c = TI ∨ c = TO ∨ c = i := by simpa using hc
    rcases e' with q | q | q | q <;> subst q
    · exact ⟨_, hz, fun v q => by cases q⟩
    · exact ⟨_, hTI, fun v q => by cases q⟩
    · exact ⟨_, hTO, fun v q => by cases q⟩
    · exact ⟨o1, e1, fun v q => by rw [d1] at q; cases q⟩
  keep := fun j h h' st kk => by
    obtain ⟨hz, hTI, ⟨x, y, hTO⟩, h1⟩ := st
    exact ⟨kk z (by simp) _ hz, kk TI (by simp) _ hTI, ⟨x, y, kk TO (by simp) _ hTO⟩, h1.at fun o q => kk i (by simp) o q⟩
  item := fun _ _ _ _ _ _ _ _ _ _ _ _ _ _ hg => hg.elim
  done := by
    intro X hP hw hK hc j pins s σ H E I hf st hg
    subst hP hw hK
    obtain ⟨hz, hTI, ⟨x0, y0, hTO⟩, h1⟩ := st
    obtain ⟨its, rv, pl, _⟩ := I.list hg
    have hn : its.toArray[j]? = none := by
      have e := rv.length
      have e2 : its[j]? = none := List.getElem?_eq_none_iff.mpr (by simp at e; omega)
      simpa using e2
    exact pyNext_zg (I.ok.hd hc) n1 n2 hz hTI hTO h1 pl.isList hn fun h' hk => ⟨rfl, I.turnedL (t' := s.toks) (ch := [z, TI, TO, i]) (fun c o hb q => hk c o (fun q' => hb (by simp [q'])) (fun q' => hb (by simp [q'])) q) hf⟩
  self := fun A j s Q E st h => wpAny_pyIter_zip st.1 h
/-- zip(xs, g(e, ..)): xs is empty, the generator is never begun -/
def iZg (K : PySem.W.Frag) (te : TE) (sp : SpG) (dvs : List V) (ta : TA) : TI := fun σ H R => te σ H fun x H1 => ∃ a, x = .ref a ∧ ta σ H1 fun vs H2 => sp (vs ++ dvs) H2 (fun _ _ => True) (fun _ _ _ => True) ∧ SqL K H2 a [] ∧ R (ItNo K a) H2
theorem pi_zg {e a : Expr} {es : List Expr} {te : TE} {t : TA} {dvs : List V} {ds : List Value} {pz pp : Pos} (hz : Gl X "zip") (hm : X.mg "zip" = none) (he : PE X e te)
    (F : GFn X.prog X.w X.K X.mg X.base k f fd ps sp) (hr : Room k X.A) (hg : Gl X x) (hmx : X.mg x = some (.ref f)) (hk : PySem.W.keepIn X.K (.ref f) = true) (hb : Binds X.K fd ps ds) (hd : Vals dvs ds) (ha : PA X (a :: es) t)
    (hdb : (x == ("__debug__" : Str)) = false := by decide) (h1 : starEach (a :: es) X.env = (false, eval a X.env) :: starEach es X.env := by rfl) (h2 : (backTo pos' (starEach es X.env)).any (·.1) = false := by rfl)
    (hs : starEach [e, .Call (.Name x p) (a :: es) [] pos'] X.env = (false, eval e X.env) :: starEach [.Call (.Name x p) (a :: es) [] pos'] X.env := by rfl) (hs2 : starEach [.Call (.Name x p) (a :: es) [] pos'] X.env = (false, eval (.Call (.Name x p) (a :: es) [] pos') X.env) :: [] := by rfl) :
    PI X tg (.Call (.Name "zip" pz) [e, .Call (.Name x p) (a :: es) [] pos'] [] pp) (iZg X.K te sp dvs t) := by
  refine ⟨fun pins s σ H R I h => ?_⟩
  refine Call_ (ld_blt I hz hm PyProof.Rows.boot_zip (PyProof.Rows.callWith_type1 ?_ hs (by rw [hs2]; rfl)))
  rw [hs, hs2]
  show wpAny _ _ (spliced ((false, eval e X.env) :: (false, eval (.Call (.Name x p) (a :: es) [] pos') X.env) :: [])) _ _ s
  refine Calls.spliced_cons (thn (he.run pins s σ H _ I h) fun u s1 ⟨y, H1, I1, r1, l, ey, q1⟩ => ?_)
  subst ey
  obtain rfl : u = Value.ref l := r1
  refine Calls.spliced_cons ?_
  refine wpAny_Call_Name_kw (ld_glob I1 hg hmx ?_ hdb)
  refine PySem.W.callWith_K (h₀ := X.base) I.ok.mod.kin hk (thn (ha.run pos' pins s1 σ H1 _ I1 q1) fun us s2 ⟨vs, H2, I2, r, q2, q3, q4⟩ => ⟨I2.kIn, ?_⟩) h1 h2
  have r2 : Vals (vs ++ dvs) (us ++ ds) := r.append hd
  have hl2 : (us ++ ds).length = ps.length := by rw [← r2.length]; exact F.len _ _ _ _ q2
  refine wpAny_call (codeAny_mono (F.run X.A X.stack s2 H2 ⟨us, []⟩ (us ++ ds) (vs ++ dvs) _ _ hr I2.env0 (hb s2 us I2.kIn hl2) r2 q2) fun rr s3 hq => ?_)
  cases rr with
  | error e => exact hq.elim
  | ok fl =>
    cases fl with
    | next => exact hq.elim
    | brk => exact hq.elim
    | cont => exact hq.elim
    | ret u =>
      obtain ⟨b, n, c, rfl, b1, b2, b3, b4, os, bare, nl, kp, _⟩ := hq
      have I3 : Inv X pins σ H2 s3 := I2.call' (ch := []) os (Un.kept kp) (I2.hok.kept kp) bare fun b z => by simp at z
      refine Calls.spliced_nil ?_
      obtain ⟨its, rv, pl, _⟩ := I3.list q3
      have ll : l < s3.heap.objs.size := pl.lt
      refine call_zg pl.isList b3 fun h' hz hTI hTO hi hk => wpAny_pyIter_zip hz ?_
      refine ⟨s3.heap.objs.size + 3, [s3.heap.objs.size + 3, s3.heap.objs.size + 1, s3.heap.objs.size + 2, s3.heap.objs.size], _, _, H2, rfl, I3.kept (t' := s3.toks) hk, turn_zg (gg := b) (TI := s3.heap.objs.size + 1) (TO := s3.heap.objs.size + 2) (Nat.ne_of_lt (Nat.lt_add_of_pos_right (by decide))) (Nat.ne_of_lt (Nat.lt_add_right 3 ll)), ⟨hz, hTI, ⟨_, _, hTO⟩, hi⟩, fun c hcm => ?_, q4⟩
      have e' : c = s3.heap.objs.size + 3 ∨ c = s3.heap.objs.size + 1 ∨ c = s3.heap.objs.size + 2 ∨ c = s3.heap.objs.size := by simpa using hcm
      have hle : s3.heap.objs.size ≤ c := by
        rcases e' with z | z | z | z <;> rw [z]
        · exact Nat.le_add_right _ _
        · exact Nat.le_add_right _ _
        · exact Nat.le_add_right _ _
        · exact Nat.le_refl _
      exact I3.fpOk hle (I3.hok.fresh hle)
end
end L2

set_option maxRecDepth 100000
/-! Gn: generator defs over typed data; list(g(..)). -/
namespace L2
open PySem PySem.Spec PyProof.Rows GenW
section
variable {X : Cx} {k : Nat} {x : Str} {p pos : Pos} {e : Expr}
def tListGA (tg : XK → TGen) (E : St → XK) : TE := fun σ H Q => tg (E σ) σ H fun out H2 => ∀ q, H2 q = none → Q (.ref q) (upd H2 q (.lst out))
/-- list(g), what leaves it by the slots -/
theorem pe_listGA {tg : XK → TGen} {E : St → XK} {nm : Str} (h : ∀ E', PGen X k e (tg E') E') (hx : ∀ σ, PassesAt (L2.CX X.prog X.w) X σ (E σ)) (hns : ∀ σ, NoStop X.K (E σ)) (hr : Room (k + 3) X.A) (hg : Gl X nm) (hmg : X.mg nm = none) (hv : bootBuiltins nm = some (.type "list")) (hnm : nm ≠ "__name__" := by decide)
    (hdb : (nm == ("__debug__" : Str)) = false := by decide) (he : starEach [e] X.env = (false, eval e X.env) :: starEach [] X.env := by rfl) : PE X (.Call (.Name nm p) [e] [] pos) (tListGA tg E) := by
  refine ⟨fun pins s σ H Q I hq => ?_⟩
  refine wpAny_Call_Name_kw (ld_blt I hg hmg hv (PyProof.Rows.callWith_type1 ?_ he rfl) hnm hdb)
  rw [he]
  show wpAny _ _ (spliced ((false, eval e X.env) :: backTo pos (starEach [] X.env))) _ _ _
  refine Calls.spliced_cons (thn ((h (E σ)).run pins s σ H _ I hq) fun u s1 ⟨H1, sc, ex, J, hex, made⟩ => Calls.spliced_nil ?_)
  have grown : sc.heap.objs.size ≤ s1.heap.objs.size := by
    obtain ⟨a, n, c, _, b1, b2, _⟩ := made
    exact Nat.le_trans b1 (Nat.le_of_lt b2)
  refine call_list_new hr J.ok.frames made (fun S s' acc c H' ys q0 q1 q2 ql q3 q4 q5 q6 q7 q8 => ?_) fun u s' n hc => ?_
  · exact ⟨.ref S, upd H' S (.lst ys), J.drained (Nat.le_trans grown q0) ql q1 q2 hex q3 q4 q5 q6 q7, rfl, q8 S q7⟩
  have kin : X.K.In s'.heap := by
    obtain ⟨a, B, H', cls, d, _, fl, _, ub, _⟩ := id hc
    refine J.ok.mod.kin.keeps fun b o eb => fl.1 b o (ub.keep b o (J.bs b o eb).1 (J.bs b o eb).2 fun hm => ?_)
    rcases List.mem_cons.mp (J.stkSub b hm) with z | z
    · have y1 := Heap.lt_size eb
      rw [z] at y1
      exact absurd (Nat.lt_of_lt_of_le y1 (Nat.le_trans J.ok.bsz J.ok.above)) (Nat.lt_irrefl _)
    · exact J.ok.nofr eb z
  refine ⟨notStop_of (hns σ) kin hc, hx σ pins H1 sc u _ J ?_⟩
  obtain ⟨a, B, H', cls, d, y1, fl, y2, ub, y3, y4, y5, y6⟩ := hc
  exact ⟨a, B, H', cls, d, y1, fl, y2, ub, y3, y4, allBare_setGen y5 rfl, y6⟩
end
end L2
namespace DL
open PySem PySem.Spec PyProof.Rows L2 Evl
/-- a generator's promise: S: what it hands out in all; R: what is raised once it is begun -/
def spG (S : List Dv → List Dv → Prop) (R : List Dv → Value → Prop) : SpG := fun vs H Q E => ∃ F ds, Ex F H ∧ Reps F ds vs ∧
  ((∃ ys, S ds ys ∧ ∀ us F' H', Step NoO F H F' H' → Reps F' ys us → Q us H') ∨ (∃ c, R ds c ∧ ∀ F' H', Step NoO F H F' H' → E c none H'))
theorem spG_len {S : List Dv → List Dv → Prop} {R : List Dv → Value → Prop} {n : Nat} (h1 : ∀ ds r, S ds r → ds.length = n) (h2 : ∀ ds c, R ds c → ds.length = n) : ∀ vs H Q E, spG S R vs H Q E → vs.length = n := fun vs H Q E ⟨F, ds, _, r, h⟩ => by
  rw [← r.len]
  rcases h with ⟨r, h, _⟩ | ⟨c, h, _⟩
  · exact h1 _ _ h
  · exact h2 _ _ h
def DefG (W : Wd) (x : Str) (k : Nat) (ps : List Str) (sp : SpG) : Prop := ∃ f fd, GFn W.P W.w W.K W.mg W.base k f fd ps sp ∧ W.mg x = some (.ref f) ∧ PySem.W.keepIn W.K (.ref f) = true ∧ Binds W.K fd ps []
theorem defG_of {W : Wd} {x qual : Str} {params : Arguments} {body : List Stmt} {scope : Scope} {f : Addr} {fd : FuncData} {N ps : List Str} {k : Nat} {sp : SpG} (F : FunD W.K x qual params body scope [] [] f fd) (g : W.mg x = some (.ref f)) (S : GScope N ps scope) (len : ∀ vs H Q E, sp vs H Q E → vs.length = ps.length)
    (hbind : ∀ (kV doc pm : Value) (an : Option Addr) (cdv ct : Value) (us : List Value), us.length = ps.length → bindArgs (PySem.W.fnOf x qual params body scope .none kV doc pm an cdv ct) ⟨us, []⟩ = pure (ps.zip us))
    (hbody : ∀ (cv : Value) (B : Around) (up : List Env) (s : Shared) (H : Hp) (vs : List V) (Q : List V → Hp → Prop) (E : XK) (pn : List (Addr × Obj)), Room k (B.deeper (envOfC qual scope s.heap.objs.size f cv)) → sp vs H Q E →
      ∃ t, GSs (gcxOf W.P W.w W.K W.mg W.base N qual scope f cv B up s H E pn) body t ∧ t { nx := fun ys _ H' => Q ys H', rt := fun ys v H' => v = .non ∧ Q ys H' } [] (L2.start N vs) H) : DefG W x (k + 1) ps sp := by
  have bd := F.bindsN hbind
  have kp := F.kp
  obtain ⟨oc, od, dV, kV, doc, pm, an, cdv, ct, osl, rfl, lk, hcd, _, _⟩ := F.ex
  exact ⟨f, _, gfn_of lk hcd S len fun A outer s H vs Q E pn hr hsp => hbody cdv A outer s H vs Q E pn hr hsp, g, kp, bd⟩
/-- under the data Γ and what is out so far -/
def OKG (Z : En) (Γ : List Slot) (out : List Dv) (P : List V → L2.St → Hp → Prop) : Prop := ∀ F σ H ys, Holds Z Γ F σ H → Reps F out ys → P ys σ H
theorem body_G {S : List Dv → List Dv → Prop} {R : List Dv → Value → Prop} {t : TGn} {D : GEnds} {N : List Str} {vs : List V} {H : Hp} {Q : List V → Hp → Prop} {E : XK} (h : spG S R vs H Q E)
    (k : ∀ F ds, ds.length = vs.length → ((∃ ys, S ds ys ∧ ∀ us F' H', Step NoO F H F' H' → Reps F' ys us → Q us H') ∨ (∃ c, R ds c ∧ ∀ F' H', Step NoO F H F' H' → E c none H')) →
      OKG ⟨NoO, F, H, fun _ => True, fun _ h => h⟩ (vals ds ++ anys (N.length - ds.length)) [] (t D)) : t D [] (L2.start N vs) H := by
  obtain ⟨F, ds, e, r, h⟩ := h
  exact k F ds r.len h F _ H [] (start_P e r) .nil
section
variable {α β γ : Type} {Z : En} {Γ Γ' Γ1 Γ2 : List Slot} {ta tb te : TE} {ds es out ys : List Dv} {D : GEnds} {s1 s2 : TGn} {j : Nat} {tr : TA}
theorem g_seq (h : OKG Z Γ out (s1 { D with nx := fun ys' σ' H' => s2 D ys' σ' H' })) : OKG Z Γ out (tGThen s1 s2 D) := h
theorem g_nil (h : OKG Z Γ out D.nx) : OKG Z Γ out (tG0 D) := h
theorem g_drop {t : Ty α} {x : α} (h : Den te Γ t x Γ1) (k : OKG Z Γ1 out D.nx) : OKG Z Γ out (tPlain (tDrop te) D) := fun F σ H us hh r =>
  h Z F σ H hh _ fun v F' H' h' p _ => k F' σ H' us h' (r.mono p.ff)
theorem g_bot {E : XK} {c : Value} (h : Bot te Γ Γ1 E c) (e : OK Z Γ1 fun _ H => E c none H) : OKG Z Γ out (tPlain (tDrop te) D) := fun F σ H us hh r => h Z F σ H hh (fun F' H' h' => e F' σ H' h') _
def GAt (Z : En) (Γ : List Slot) (out : List Dv) : List V → L2.St → Hp → Prop := fun us σ H => ∃ F, Holds Z Γ F σ H ∧ Reps F out us
theorem g_at (k : Wk Γ Γ') : OKG Z Γ out (GAt Z Γ' out) := fun F σ H us hh r => ⟨F, hh.weak k, r⟩
theorem g_forR {m : Int} (G : Nat → List Slot) (O : Nat → List Dv) (h : DenA tr Γ [⟨tInt, m⟩] (G 0)) (hl : m < 50000) (hm : -50000 ≤ m) (h0 : O 0 = out)
    (hs : ∀ (n : Nat), (n : Int) < m → OKG Z ((G n).set j (.val ⟨tInt, (n : Int)⟩)) (O n) (s1 { D with nx := GAt Z (G (n + 1)) (O (n + 1)), ct := GAt Z (G (n + 1)) (O (n + 1)), bk := D.nx }))
    (hd : OKG Z (G m.toNat) (O m.toNat) D.nx) : OKG Z Γ out (tGFor (iRng1 tr) (gName j) s1 D) := fun F σ H us hh r => by
  refine h Z F σ H hh _ fun vs F1 H1 h1 p1 rr => ?_
  cases rr with
  | cons r1 r2 =>
    cases r2
    cases r1
    refine ⟨m, rfl, by omega, by omega, fun i q us σ H => q = m.toNat - i ∧ i ≤ m.toNat ∧ GAt Z (G i) (O i) us σ H, ⟨m.toNat, by simp, Nat.zero_le _, F1, h1, by rw [h0]; exact r.mono p1.ff⟩, ?_⟩
    rintro i q us σ H ⟨rfl, hi, F2, h2, r2⟩
    by_cases lt : i < m.toNat
    · refine .inr ⟨lt, GAt Z (G (i + 1)) (O (i + 1)), fun us' σ' H' g => ⟨m.toNat - (i + 1), by omega, rfl, lt, g⟩, fun x H' y => ?_⟩
      obtain ⟨y1, y2⟩ := y
      subst y1 y2
      rw [show (0 : Int) + (i : Int) = (i : Int) from Int.zero_add _]
      exact hs i (by omega) F2 _ H' us (h2.set j rfl) r2
    · have e : i = m.toNat := by omega
      subst e
      exact .inl ⟨Nat.le_refl _, hd F2 σ H us h2 r2⟩
theorem g_from (h : DenN te Γ ds Γ1) (hl : out.length + ds.length ≤ 100000) (k : OKG Z Γ1 (out ++ ds) D.nx) : OKG Z Γ out (tGFrom (tYfLst te) D) := fun F σ H us hh r =>
  h Z F σ H hh _ fun p vs F' H' h' pr np fp hp rr => ⟨p, vs, rfl, hp, sz_of (by rw [← r.len, ← rr.len]; exact hl), k F' σ H' _ h' ((r.mono pr.ff).app rr)⟩
theorem g_end {F0 H0 : Hp} {Q : List V → Hp → Prop} (hZ : Z.F = F0 ∧ Z.H = H0 ∧ Z.O = NoO) (hD : ∀ us σ H, Q us H → D.nx us σ H) (q : ∀ us F' H', Step NoO F0 H0 F' H' → Reps F' ys us → Q us H') (e : ys = out) : OKG Z Γ out D.nx := fun F σ H us hh r => by
  obtain ⟨z1, z2, z3⟩ := hZ
  refine hD us σ H (q us F H ?_ (by rw [e]; exact r))
  rw [← z1, ← z2, ← z3]
  exact hh.st
/-! ### at the call -/
theorem dn_listG {S : List Dv → List Dv → Prop} {R : List Dv → Value → Prop} {E : L2.St → XK} (h : DenA tr Γ ds Γ1) (hs : S ds es) : DenN (tListGA (fun E => tCallG (spG S R) [] E tr) E) Γ es Γ1 := fun Z F σ H hh Q q =>
  h Z F σ H hh _ fun vs F1 H1 h1 p1 r1 => by
    rw [List.append_nil]
    refine ⟨F1, ds, h1.fh, r1, .inl ⟨es, hs, fun us F' H' k r p np => ?_⟩⟩
    exact new_q (H := H) (Γ' := Γ1) q (h1.step k) (p1.trans (Pres.step k)) np r
/-- only c is let out -/
def XOnly (c : Value) (E : L2.St → XK) : L2.St → XK := fun σ cls d H => (cls = c ∧ d = none) ∧ E σ cls d H
theorem bots_listG {S : List Dv → List Dv → Prop} {R : List Dv → Value → Prop} {E : L2.St → XK} {c : Value} (h : DenA tr Γ ds Γ1) (hs : R ds c) : BotS (tListGA (fun E => tCallG (spG S R) [] E tr) (XOnly c E)) Γ Γ1 E c := fun Z F σ H hh e Q =>
  h Z F σ H hh _ fun vs F1 H1 h1 p1 r1 => by
    rw [List.append_nil]
    exact ⟨F1, ds, h1.fh, r1, .inr ⟨c, hs, fun F' H' k => ⟨⟨rfl, rfl⟩, e F' H' (h1.step k)⟩⟩⟩
theorem nostop_only {K : PySem.W.Frag} {c : Value} {E : L2.St → XK} (h : PySem.W.subIn K c (.type "StopIteration") = some false) (σ : L2.St) : NoStop K (XOnly c E σ) := fun cls d H ⟨⟨z, _⟩, _⟩ => by rw [z]; exact h
theorem passes_only {X : Cx} {c : Value} {E : L2.St → XK} (h : ∀ σ, PassesAt (L2.CX X.prog X.w) X σ (E σ)) (σ : L2.St) : PassesAt (L2.CX X.prog X.w) X σ (XOnly c E σ) := fun pins H s e s' I z => h σ pins H s e s' I <| by
  obtain ⟨a, B, H', cls, d, y1, fl, y2, ub, y3, y4, y5, y6⟩ := z
  exact ⟨a, B, H', cls, d, y1, fl, y2, ub, y3, y4, y5, y6.2⟩
end
end DL

set_option maxRecDepth 100000
/-! Bi: math.factorial, all, tuples joined and cut, a falling range, borrowed lists, promises of a new list or an exception. -/
namespace L2
open PySem PySem.Spec PyProof.Rows
def rFac : List V → Hp → VK → Prop := fun vs H Q => ∃ a : Int, vs = [.int a] ∧ 0 ≤ a ∧ a ≤ 20000 ∧ Q (.int ((Builtin.Math.factorialNat a.toNat : Nat) : Int)) H
theorem cr_fac {X : Cx} : CallR X (.builtin "math.factorial") rFac := by
  intro pins s σ H vs us Q I r h
  obtain ⟨a, rfl, h0, h1, q⟩ := h
  obtain ⟨u, rfl, ru⟩ := vals1 r
  obtain ⟨t, rfl⟩ := ru
  exact PySem.W.mc_factorial h0 h1 fun _ => ⟨.int _, H, I.tok _, ⟨_, rfl⟩, q⟩
theorem gs_yieldFromC {X : Cx} {t : TYf} {e : Expr} {yp pos : Pos} (he : YfE X e t) (hc : X.calm = true) (hi : interactive X.env = false := by rfl) : GS X (.Expr (.YieldFrom e yp) pos) (tGFrom t) := by
  refine ⟨fun A S ip R n ys s₀ c fs K J gd lv s σ H D g hn k hI ht => ?_⟩
  obtain ⟨acc, cc, r, I⟩ := id hI
  exact (gs_yieldFrom he (I.ok.hd hc) hi).run A S ip R n ys s₀ c fs K J gd lv s σ H D g hn k hI ht
/-- sum of a list or a tuple of ints -/
def rSumQ (K : PySem.W.Frag) : List V → Hp → VK → Prop := fun vs H Q => ∃ (a : Addr) (ns : List Int), vs = [V.ref a] ∧ (SqL K H a (ns.map V.int) ∨ SqT K H a (ns.map V.int)) ∧ Q (.int ns.sum) H
theorem cr_sumQ {X : Cx} (hc : X.calm = true) : CallR X (.builtin "sum") (rSumQ X.K) := by
  intro pins s σ H vs us Q I r h
  obtain ⟨a, ns, rfl, hs, q⟩ := h
  rcases hs with hs | hs
  · exact cr_sum hc pins s σ H _ us Q I r ⟨a, ns, rfl, hs, q⟩
  · obtain ⟨its, rv, ht, _⟩ := I.tuple hs
    rw [Vals.ref1 r]
    obtain ⟨xs, e⟩ := rv.ints.allInts.items
    have hn : numsOf (intItems xs).toList = ns := by rw [← e]; exact rv.ints.numsOf
    rw [nums_intItems] at hn
    rw [e] at ht
    refine PySem.W.ktm_sumG (I.ok.hd hc) ht fun h' tk t' hk => ?_
    rw [preSum_eq, List.take_of_length_le (by simp), hn]
    exact ⟨.int _, H, I.kept hk, ⟨_, rfl⟩, q⟩
end L2
namespace DL
open PySem PySem.Spec PyProof.Rows L2 Evl
theorem passes_no {X : Cx} (σ : L2.St) : PassesAt (L2.CX X.prog X.w) X σ ((fun _ _ _ _ => False : L2.St → XK) σ) := fun pins H s e s' I z => by
  obtain ⟨a, B, H', cls, d, y1, fl, y2, ub, y3, y4, y5, y6⟩ := z
  exact y6.elim
theorem nostop_no {K : PySem.W.Frag} (σ : L2.St) : NoStop K ((fun _ _ _ _ => False : L2.St → XK) σ) := fun _ _ _ h => h.elim
/-- a new open list, or an exception -/
def spNR (S : List Dv → List Dv → Prop) (R : List Dv → Value → Prop) : Sp := fun vs H Q E => ∃ F ds, Ex F H ∧ Reps F ds vs ∧
  ((∃ r, S ds r ∧ ∀ p us F' H', Step NoO F H F' H' → H p = none → F' p = none → H' p = some (.lst us) → Reps F' r us → Q (.ref p) H') ∨ (∃ c, R ds c ∧ ∀ F' H', Step NoO F H F' H' → E c none H'))
theorem spNR_len {S : List Dv → List Dv → Prop} {R : List Dv → Value → Prop} {n : Nat} (h1 : ∀ ds r, S ds r → ds.length = n) (h2 : ∀ ds c, R ds c → ds.length = n) : ∀ vs H Q E, spNR S R vs H Q E → vs.length = n := fun vs H Q E ⟨F, ds, _, r, h⟩ => by
  rw [← r.len]
  rcases h with ⟨r, h, _⟩ | ⟨c, h, _⟩
  · exact h1 _ _ h
  · exact h2 _ _ h
theorem body_NR {S : List Dv → List Dv → Prop} {R : List Dv → Value → Prop} {t : TS} {N : List Str} {vs : List V} {H : Hp} {Q : VK} {E : XK} (h : spNR S R vs H Q E)
    (k : ∀ F ds, ds.length = vs.length → ((∃ r, S ds r ∧ ∀ p us F' H', Step NoO F H F' H' → H p = none → F' p = none → H' p = some (.lst us) → Reps F' r us → Q (.ref p) H') ∨ (∃ c, R ds c ∧ ∀ F' H', Step NoO F H F' H' → E c none H')) →
      OK ⟨NoO, F, H, fun _ => True, fun _ h => h⟩ (vals ds ++ anys (N.length - ds.length)) (t { nx := fun _ H' => Q .non H', rt := Q })) : t { nx := fun _ H' => Q .non H', rt := Q } (L2.start N vs) H := by
  obtain ⟨F, ds, e, r, h⟩ := h
  exact k F ds r.len h F _ H (start_P e r)
/-- a value that needs no heap -/
def Flat {γ : Type} (w : Ty γ) (z : γ) : Prop := ∀ F F' v, w.rep F v z → w.rep F' v z
theorem flat_bool {b : Bool} : Flat tBool b := fun _ _ _ h => h
theorem flat_int {b : Int} : Flat tInt b := fun _ _ _ h => h
theorem flat_non : Flat tNon () := fun _ _ _ h => h
def NotNon {α : Type} (t : Ty α) (x : α) : Prop := ∀ F v, t.rep F v x → v ≠ V.non
section
variable {α β γ : Type} {t : Ty α} {u : Ty β} {w : Ty γ} {x : α} {y : β} {z : γ} {Z : En} {Γ Γ' Γ0 Γ1 Γ2 Γ3 Γ4 : List Slot} {ta tb tc td te : TE} {tt uu : TT} {r r' : R2} {ds es : List Dv} {K : PySem.W.Frag} {D : Ends} {s1 s2 : TS} {i j : Nat} {tr : TA}
theorem on_fac {i : Int} (h0 : 0 ≤ i) (h1 : i ≤ 20000) : OpN rFac [⟨tInt, i⟩] tInt ((Builtin.Math.factorialNat i.toNat : Nat) : Int) := fun F H vs e r Q q => by
  cases r with
  | cons r r' =>
    cases r'
    cases r
    exact ⟨i, rfl, h0, h1, q _ F H (Step.refl e) rfl⟩
theorem al_bl {F : Hp} : ∀ {xs : List Bool} {vs : List V}, Al (fun x v => tBool.rep F v x) xs vs → vs = xs.map V.bl
  | _, _, .nil => rfl
  | _, _, .cons r h => by
    rw [List.map_cons, ← al_bl h]
    cases r
    rfl
theorem den_all {bs : List Bool} (h : DenL ta Γ tBool bs Γ1) : Den (tCB (rAll K) (tCons ta tNil)) Γ tBool (bs.all id) Γ1 := fun Z F σ H hh Q q =>
  h Z F σ H hh _ fun a vs F' H' h' p e r => ⟨a, bs, rfl, sq_of (by rw [e, al_bl r]), q _ F' H' h' p rfl⟩
theorem den_any {bs : List Bool} (h : DenL ta Γ tBool bs Γ1) : Den (tCB (rAny K) (tCons ta tNil)) Γ tBool (bs.any id) Γ1 := fun Z F σ H hh Q q =>
  h Z F σ H hh _ fun a vs F' H' h' p e r => ⟨a, bs, rfl, sq_of (by rw [e, al_bl r]), q _ F' H' h' p rfl⟩
/-! ### tuples -/
theorem op_catTT {xs ys : List α} (hx : xs ≠ []) (hl : xs.length + ys.length ≤ 100000) : Op2 (rCatT K) (tTupl t) xs (tTupl t) ys (tTupl t) (xs ++ ys) := fun F H v1 v2 e r1 r2 Q q => by
  obtain ⟨a, vs, rfl, ha, ra⟩ := r1
  obtain ⟨b, us, rfl, hb, rb⟩ := r2
  have nv : vs ≠ [] := fun z => by
    subst z
    cases ra
    exact hx rfl
  refine ⟨a, b, vs, us, rfl, rfl, st_of (e _ _ ha), st_of (e _ _ hb), nv, sz_of (by rw [← ra.len, ← rb.len]; exact hl), fun z => ?_, fun _ p np => ?_⟩
  · subst z
    cases rb
    rw [List.append_nil] at q
    exact q _ F H (Step.refl e) ⟨a, vs, rfl, ha, ra⟩
  · have k : Step NoO F H (upd F p (.tup (vs ++ us))) (upd H p (.tup (vs ++ us))) := Step.new e np
    exact q _ _ _ k ⟨p, _, rfl, upd_same, (ra.map fun _ _ z => t.mono k.ff z).app (rb.map fun _ _ z => t.mono k.ff z)⟩
theorem den_tuplN {xs : List α} (h : DenA tr Γ ds Γ1) (e : ds = xs.map fun x => ⟨t, x⟩) (hl : ds.length ≤ 100000) : Den (tTup tr) Γ (tTupl t) xs Γ1 := by
  subst e
  exact den_as (den_row h hl) row_tup
theorem den_tuple0 : Den (tTup tNil) Γ (tTupl t) [] Γ := den_tuplN da_nil rfl (Nat.zero_le _)
theorem den_tuple1 (h : Den ta Γ t x Γ1) : Den (tTup (tCons ta tNil)) Γ (tTupl t) [x] Γ1 := den_tuplN (da_cons h da_nil) rfl (by show 1 ≤ 100000; decide)
theorem den_slT {xs : List α} {lo hi : Option Int} {tl th : TO} (ha : Den ta Γ (tTupl t) xs Γ1) (hl : PuO tl Γ1 lo) (hh' : PuO th Γ1 hi) (hw : ¬ (HT.sIx xs.length 0 lo = 0 ∧ HT.sIx xs.length xs.length hi = xs.length)) :
    Den (tSl (rSlT K) ta tl th) Γ (tTupl t) ((xs.drop (HT.sIx xs.length 0 lo)).take (HT.sIx xs.length xs.length hi - HT.sIx xs.length 0 lo)) Γ1 := fun Z F σ H hh Q q =>
  ha Z F σ H hh _ fun v F1 H1 h1 p r => hl Z F1 σ H1 h1 _ fun F2 H2 k2 => hh' Z F2 σ H2 (h1.step k2) _ fun F3 H3 k3 => by
    obtain ⟨a, vs, rfl, e, rr⟩ := r
    have k := k2.trans k3
    refine ⟨a, vs, rfl, st_of ((h1.step k).fh _ _ (k.ff _ _ e)), by rw [← rr.len]; exact hw, fun l nl => ?_⟩
    have kn : Step NoO F3 H3 (upd F3 l (.tup (cutV vs lo hi))) (upd H3 l (.tup (cutV vs lo hi))) := Step.new (h1.step k).fh nl
    refine q _ _ _ ((h1.step k).step kn) ((p.trans (Pres.step k)).trans (Pres.step kn)) ⟨l, _, rfl, upd_same, ?_⟩
    have r3 : Al (fun x v => t.rep (upd F3 l (.tup (cutV vs lo hi))) v x) xs vs := rr.map fun _ _ z => t.mono (k.ff.trans kn.ff) z
    have r4 := (r3.drop (HT.sIx xs.length 0 lo)).take (HT.sIx xs.length xs.length hi - HT.sIx xs.length 0 lo)
    have e1 : cutV vs lo hi = (vs.drop (HT.sIx xs.length 0 lo)).take (HT.sIx xs.length xs.length hi - HT.sIx xs.length 0 lo) := by
      unfold cutV
      rw [← rr.len]
    rw [e1] at r4 ⊢
    exact r4
theorem dn_lst4 {x y z z' : α} (h : Den ta Γ t x Γ1) (h2 : Den tb Γ1 t y Γ2) (h3 : Den tc Γ2 t z Γ3) (h4 : Den td Γ3 t z' Γ4) : DenN (tLst (tCons ta (tCons tb (tCons tc (tCons td tNil))))) Γ ([x, y, z, z'].map fun x => ⟨t, x⟩) Γ4 := dn_lst (da_cons h (da_cons h2 (da_cons h3 (da_cons h4 da_nil)))) (by show 4 ≤ 100000; decide)
/-! ### tests -/
theorem den_chain {a b : Bool} (ha : Den ta Γ t x Γ) (hb : Den tb Γ u y Γ) (hr : Op2 r t x u y tBool a) (hc : Den tc Γ w z Γ) (hr' : Op2 r' u y w z tBool b) : Den (tChain r r' ta tb tc) Γ tBool (a && b) Γ := fun Z F σ H hh Q q =>
  ha Z F σ H hh _ fun v1 F1 H1 h1 p1 r1 => hb Z F1 σ H1 h1 _ fun v2 F2 H2 h2 p2 r2 => hr F2 H2 v1 v2 h2.fh (t.mono p2.ff r1) r2 _ fun v F3 H3 k r3 => ⟨a, r3, by
    have h3 := h2.step k
    have p3 := (p1.trans p2).trans (Pres.step k)
    cases a with
    | true =>
      rw [if_pos rfl]
      refine hc Z F3 σ H3 h3 _ fun v4 F4 H4 h4 p4 r4 => hr' F4 H4 v2 v4 h4.fh (u.mono (k.ff.trans p4.ff) r2) r4 Q fun v5 F5 H5 k5 r5 => ?_
      exact q v5 F5 H5 (h4.step k5) ((p3.trans p4).trans (Pres.step k5)) r5
    | false =>
      rw [if_neg (by decide)]
      exact q _ F3 H3 h3 p3 rfl⟩
theorem ty_tup {xs : List α} : IsTy K (tTupl t) xs (.type "tuple") := fun F H v e r => by
  obtain ⟨a, vs, rfl, h, _⟩ := r
  exact .base (.tup (e _ _ h))
theorem ty_lst {xs : List α} : IsTy K (tList t) xs (.type "list") := fun F H v e r => by
  obtain ⟨a, vs, rfl, h, _⟩ := r
  exact .base (.lst (e _ _ h))
theorem nn_tup {xs : List α} : NotNon (tTupl t) xs := fun F v r z => by
  obtain ⟨a, vs, rfl, h, _⟩ := r
  cases z
theorem den_notN (h : Den ta Γ t x Γ1) (n : NotNon t x) : Den (tNotN ta) Γ tBool true Γ1 := fun Z F σ H hh Q q => h Z F σ H hh _ fun v F1 H1 h1 p1 r1 => by
  have e : (!decide (v = V.non)) = true := by simp [n _ _ r1]
  rw [e]
  exact q _ F1 H1 h1 p1 rfl
theorem den_notNN (h : Den ta Γ tNon () Γ1) : Den (tNotN ta) Γ tBool false Γ1 := fun Z F σ H hh Q q => h Z F σ H hh _ fun v F1 H1 h1 p1 r1 => by
  cases r1
  exact q _ F1 H1 h1 p1 rfl
theorem den_isN (h : Den ta Γ t x Γ1) (n : NotNon t x) : Den (tIsN ta) Γ tBool false Γ1 := fun Z F σ H hh Q q => h Z F σ H hh _ fun v F1 H1 h1 p1 r1 => by
  have e : (decide (v = V.non)) = false := by simp [n _ _ r1]
  rw [e]
  exact q _ F1 H1 h1 p1 rfl
theorem den_isNN (h : Den ta Γ tNon () Γ1) : Den (tIsN ta) Γ tBool true Γ1 := fun Z F σ H hh Q q => h Z F σ H hh _ fun v F1 H1 h1 p1 r1 => by
  cases r1
  exact q _ F1 H1 h1 p1 rfl
theorem den_eqNil (ha : DenN ta Γ [] Γ1) (hb : DenN tb Γ1 [] Γ2) : Den (tOp (rEqD K) ta tb) Γ tBool true Γ2 := fun Z F σ H hh Q q =>
  ha Z F σ H hh _ fun a vs F1 H1 h1 p1 na fa hla ra => hb Z F1 σ H1 h1 _ fun b us F2 H2 h2 p2 nb fb hlb rb => by
    have no : ∀ i, ¬ OwnAt Γ1 σ i a := fun i w => hh.notOwn na i (p1.ow i a w)
    obtain ⟨_, k⟩ := p2.keep a _ hla fa (fun _ z => nomatch z) no
    cases ra
    cases rb
    exact ⟨.list [], .list [], .lst (sq_of k) .nil, .lst (sq_of hlb) .nil, by decide +kernel, by decide +kernel, q _ F2 H2 h2 (p1.trans p2) rfl⟩
/-! ### falling ranges -/
theorem s_forDown {S : Type} {i : Int} (s0 : S) (G : S → List Slot) (I : Nat → S → Prop) (h : DenA tr Γ [⟨tInt, i⟩, ⟨tInt, -1⟩, ⟨tInt, -1⟩] Γ1) (hn : i ≤ 1000000) (hm : -1000000 ≤ i) (h0 : I 0 s0) (e0 : Wk Γ1 (G s0))
    (hs : ∀ (k : Nat) s, (k : Int) ≤ i → I k s → OK Z ((G s).set j (.val ⟨tInt, i - (k : Int)⟩)) (s1 { D with nx := LoopAt Z G I (k + 1), ct := LoopAt Z G I (k + 1), bk := D.nx }))
    (hd : ∀ s, I (i + 1).toNat s → OK Z (G s) D.nx) : OK Z Γ (tFor (iRng3 tr) (gName j) s1 D) := fun F σ H hh => by
  refine h Z F σ H hh _ fun vs F1 H1 h1 p r => ?_
  cases r with
  | cons r q => cases q with
    | cons r2 q => cases q with
      | cons r3 q =>
        cases q
        cases r
        cases r2
        cases r3
        refine ⟨i, -1, -1, (i - -1).toNat, rfl, RgC.neg (by omega) (by omega) (by omega) (by omega), for_rangeC (LoopAt Z G I) ⟨s0, F1, h0, h1.weak e0⟩ ?_ ?_⟩
        · rintro k σ' H' hk ⟨s, F', hi, hs'⟩
          have e : i + (k : Int) * (-1) = i - (k : Int) := by omega
          rw [e]
          exact hs k s (by omega) hi F' _ H' (hs'.set j rfl)
        · rintro σ' H' ⟨s, F', hi, hs'⟩
          rw [show i - -1 = i + 1 from by omega] at hi
          exact hd s hi F' σ' H' hs'
/-! ### calls -/
/-- the owned list of slot i is read by a def that gives a plain value back -/
theorem den_callBr {sp : Sp} {E : XK} {xs : List α} (e : Γ[i]? = some (.lst t xs)) (h : DenA tr Γ ds Γ1) (e1 : Γ1[i]? = some (.lst t xs)) (hs : SpV sp (⟨tList t, xs⟩ :: ds) w z) (fl : Flat w z) : Den (tCall sp [] E (tCons (tVar i) tr)) Γ w z Γ1 := fun Z F σ H hh Q q => by
  obtain ⟨a, h1, _, _⟩ := hh.owned e rfl
  refine ⟨_, h1, ?_⟩
  refine h Z F σ H hh _ fun vs F1 H1 h2 p1 r1 => ?_
  obtain ⟨a', h1', ⟨n1, us, hu, ru⟩, _⟩ := h2.owned e1 rfl
  rw [h1] at h1'
  cases h1'
  rw [List.append_nil]
  have ff : Ex F1 (upd F1 a (.lst us)) := Ex.new n1
  refine hs (upd F1 a (.lst us)) H1 _ (fun b o q => ?_) (.cons ⟨a, us, rfl, upd_same, ru.map fun _ _ z => t.mono ff z⟩ (r1.mono ff)) Q E fun v F' H' k rv => ?_
  · by_cases zz : b = a
    · rw [zz, upd_same] at q
      cases q
      rw [zz]
      exact hu
    · rw [upd_ne zz] at q
      exact h2.fh b o q
  · have st : Step NoO F1 H1 F1 H' := by
      refine ⟨Ex.refl F1, (ff.trans k.ff).trans k.fh, fun b o q n => ?_⟩
      by_cases zz : b = a
      · subst zz
        rw [hu] at q
        cases q
        have e2 := k.fh b _ (k.ff b _ upd_same)
        exact ⟨.inl n, ⟨_, e2⟩, fun _ => e2⟩
      · have n2 : upd F1 a (.lst us) b = none := by rw [upd_ne zz]; exact n
        obtain ⟨_, h3, k3⟩ := k.keep b o q n2
        exact ⟨.inl n, h3, k3⟩
    exact q v F1 H' (h2.step st) (p1.trans (Pres.step st)) (fl _ _ _ rv)
/-- the same, what follows the pool changes it, too -/
theorem den_callM2 {S : List Dv → List Dv → List Dv → Dv → Prop} {E : XK} {ps0 ps ps' : List Dv} {oa ob : Option Addr} (e : Γ[i]? = some (.own ob ps0)) (h : DenA tr Γ ds Γ0) (e0 : Γ0[i]? = some (.own oa ps)) (hs : S ps ds ps' ⟨w, z⟩) (e' : Γ0.set i (.own oa ps') = Γ1) :
    Den (tCall (spM S) [] E (tCons (tVar i) tr)) Γ w z Γ1 := fun Z F σ H hh Q q => by
  obtain ⟨a, h1, _, o1⟩ := hh.owned e rfl
  refine ⟨_, h1, ?_⟩
  refine h Z F σ H hh _ fun vs F1 H1 h2 p1 r1 => ?_
  obtain ⟨a', h1', ⟨n1, ad, us, hu, ru⟩, o2⟩ := h2.owned e0 rfl
  rw [h1] at h1'
  cases h1'
  rw [List.append_nil]
  refine ⟨F1, a, us, vs, ps, ds, rfl, h2.fh, n1, hu, ru, r1, ps', ⟨w, z⟩, hs, fun v F' H' us' k n' hu' ru' rv => ?_⟩
  have k0 : Step NoO F1 H1 F' (upd H' a (.lst us)) := by
    refine ⟨k.ff, fun b o q => ?_, fun b o q n => ?_⟩
    · have : b ≠ a := fun z => by rw [z, n'] at q; cases q
      rw [upd_ne this]
      exact k.fh b o q
    · obtain ⟨n2, hn2, kk⟩ := k.keep b o q n
      by_cases zz : b = a
      · subst zz
        rw [hu] at q
        cases q
        exact ⟨n2, ⟨_, upd_same⟩, fun _ => upd_same⟩
      · rw [upd_ne zz]
        exact ⟨n2, hn2, fun _ => kk zz⟩
  have h3 := h2.step k0
  have o3 : OwnAt Γ0 σ i a := o2
  have h4 := h3.mut (s := .own oa ps') (o := .lst us') o3 ⟨n', ad, us', upd_same, ru'⟩
  have ee : upd (upd H' a (.lst us)) a (.lst us') = H' := by
    rw [upd_upd]
    funext b
    unfold upd
    split
    · rename_i zz
      rw [zz, hu']
    · rfl
  rw [ee, e'] at h4
  have ow : ∀ j b, OwnAt Γ1 σ j b → OwnAt Γ0 σ j b := fun j b wo => by
    subst e'
    by_cases zz : i = j
    · subst zz
      exact ⟨⟨_, e0, rfl⟩, wo.2⟩
    · obtain ⟨⟨s, e1, e2⟩, e3⟩ := wo
      rw [List.getElem?_set_ne zz] at e1
      exact ⟨⟨s, e1, e2⟩, e3⟩
  have pp : Pres Γ0 Γ1 σ F1 H1 F' H' := ⟨k.ff, fun b o q n nt no => by
    obtain ⟨n2, _, kk⟩ := k.keep b o q n
    have e2 := kk fun zz => no i (zz ▸ o2)
    refine ⟨n2.elim id fun ⟨vs, z⟩ => ?_, e2⟩
    have e3 := k.fh b _ z
    rw [e2] at e3
    cases e3
    exact absurd rfl (nt vs), ow, fun b o q => by
    cases qf : F1 b with
    | none => exact (k.keep b o q qf).2.1
    | some o' => exact ⟨o', k.fh b o' (k.ff b o' qf)⟩⟩
  exact q v F' H' h4 (p1.trans pp) rv
theorem dn_callR {S : List Dv → List Dv → Prop} {R : List Dv → Value → Prop} {E : XK} (h : DenA tr Γ ds Γ1) (hs : S ds es) : DenN (tCall (spNR S R) [] E tr) Γ es Γ1 := fun Z F σ H hh Q q =>
  h Z F σ H hh _ fun vs F1 H1 h1 p1 r1 => by
    rw [List.append_nil]
    exact ⟨F1, ds, h1.fh, r1, .inl ⟨es, hs, fun p us F' H' k np fp hp rr => q p us F' H' (h1.step k) (p1.trans (Pres.step k)) (p1.new np) fp hp rr⟩⟩
theorem bots_callV {sp : Sp} {E : L2.St → XK} {c : Value} (h : DenA tr Γ ds Γ1) (hs : SpX sp ds c) : BotS (tCallS sp E tr) Γ Γ1 E c := fun Z F σ H hh e Q =>
  h Z F σ H hh _ fun vs F1 H1 h1 p1 r1 => hs F1 H1 vs h1.fh r1 Q (E σ) fun F3 H3 k => e F3 H3 (h1.step k)
theorem spNR_x {S : List Dv → List Dv → Prop} {R : List Dv → Value → Prop} {c : Value} (h : R ds c) : SpX (spNR S R) ds c := fun F H vs e r Q E q => ⟨F, ds, e, r, .inr ⟨c, h, q⟩⟩
theorem bot_callNR {S : List Dv → List Dv → Prop} {R : List Dv → Value → Prop} {E : XK} {c : Value} (h : DenA tr Γ ds Γ1) (hs : R ds c) : Bot (tCall (spNR S R) [] E tr) Γ Γ1 E c := bot_call h (spNR_x hs)
/-- an owned list of ours is given back -/
theorem s_retOP {F0 H0 : Hp} {Q : VK} {rs : List Dv} {xs : List α} (hZ : Z.F = F0 ∧ Z.H = H0 ∧ Z.O = NoO) (hD : D.rt = Q) (q : ∀ p us F' H', Step NoO F0 H0 F' H' → H0 p = none → F' p = none → H' p = some (.lst us) → Reps F' rs us → Q (.ref p) H') (e : Γ[i]? = some (.lst t xs)) (er : rs = xs.map fun x => ⟨t, x⟩) : OK Z Γ (tRet (tVar i) D) :=
  s_retO e fun F σ H p vs hh np fp hp rr => by
    obtain ⟨z1, z2, z3⟩ := hZ
    rw [hD]
    refine q p vs F H ?_ ?_ fp hp (by rw [er]; exact al_unmap rr)
    · rw [← z1, ← z2, ← z3]
      exact hh.st
    · rcases np with np | np
      · rw [z3] at np
        exact np.elim
      · rw [← z2]
        exact np
/-- [.. for .. in zip([], g(..))] -/
theorem dn_lcZ {S : List Dv → List Dv → Prop} {R : List Dv → Value → Prop} {tz : TE} {g : TG} {own : List Nat} (hz : DenN tz Γ [] Γ1) (h : DenA tr Γ1 ds Γ2) (hs : (∃ ys, S ds ys) ∨ ∃ c, R ds c) : DenN (tLc (iZg K tz (spG S R) [] tr) g tt te own) Γ [] Γ2 := fun Z F σ H hh Q q =>
  hz Z F σ H hh _ fun a vs F1 H1 h1 p1 na fa hla ra => by
    cases ra
    refine ⟨a, rfl, ?_⟩
    refine h Z F1 σ H1 h1 _ fun vs F2 H2 h2 p2 r2 => ?_
    have no : ∀ i, ¬ OwnAt Γ1 σ i a := fun i w => hh.notOwn na i (p1.ow i a w)
    obtain ⟨fa2, k⟩ := p2.keep a _ hla fa (fun _ z => nomatch z) no
    refine ⟨⟨F2, ds, h2.fh, by rw [List.append_nil]; exact r2, ?_⟩, sq_of k, fun D nD => ⟨fun _ _ H' => H' = upd H2 D (.lst []), ⟨0, rfl⟩, fun i m H' e => .inl ?_⟩⟩
    · rcases hs with ⟨ys, hs⟩ | ⟨c, hs⟩
      · exact .inl ⟨ys, hs, fun _ _ _ _ _ => trivial⟩
      · exact .inr ⟨c, hs, fun _ _ _ => trivial⟩
    · subst e
      have nea : a ≠ D := ne_of_none k nD
      refine ⟨sq_of (by rw [upd_ne nea]; exact k), ?_⟩
      exact new_q (H := H) (Γ' := Γ2) q h2 (p1.trans p2) nD .nil
/-! ### comprehensions without a test, by a function -/
theorem dt_yes : DenT tYes Γ true Γ := fun Z F σ H hh Q q => q F H hh Pres.refl
theorem dn_lcT1 {tl : TE} {xs : List α} (f : α → β) (h : Den tl Γ (tTupl t) xs Γ0) (hf : Γ0[j]? = some .any) (hl : xs.length < 50000) (hs : ∀ (n : Nat) x, xs[n]? = some x → Den te (Γ0.set j (.val ⟨t, x⟩)) u (f x) (Γ0.set j (.val ⟨t, x⟩))) :
    DenN (tLc (iTup K tl) (gName j) tYes te [j]) Γ ((xs.map f).map fun y => ⟨u, y⟩) Γ0 := by
  have key := dn_lcT (K := K) (j := j) (te := te) (tt := tYes) (u := u) (fun _ => Γ0) (fun n => (xs.take n).map f) h (fun _ => hf) hl rfl fun n x hx => ⟨true, _, dt_yes, fun _ => ⟨f x, hs n x hx, by
    rw [List.take_add_one, hx, List.map_append] <;> rfl⟩, fun z => nomatch z⟩
  rw [List.take_length] at key
  exact key
theorem dn_lcL1 {tl : TE} {xs : List α} (f : α → β) (h : Den tl Γ (tList t) xs Γ0) (hf : Γ0[j]? = some .any) (hl : xs.length < 50000) (hs : ∀ (n : Nat) x, xs[n]? = some x → Den te (Γ0.set j (.val ⟨t, x⟩)) u (f x) (Γ0.set j (.val ⟨t, x⟩))) :
    DenN (tLc (iList K tl) (gName j) tYes te [j]) Γ ((xs.map f).map fun y => ⟨u, y⟩) Γ0 := by
  have key := dn_lcL (K := K) (j := j) (te := te) (tt := tYes) (u := u) (fun _ => Γ0) (fun n => (xs.take n).map f) h (fun _ => hf) hl rfl fun n x hx => ⟨true, _, dt_yes, fun _ => ⟨f x, hs n x hx, by
    rw [List.take_add_one, hx, List.map_append] <;> rfl⟩, fun z => nomatch z⟩
  rw [List.take_length] at key
  exact key
theorem dn_lcR1 {m : Int} (f : Nat → β) (h : DenA tr Γ [⟨tInt, m⟩] Γ0) (hf : Γ0[j]? = some .any) (hl : m < 50000) (hm : -50000 ≤ m) (hs : ∀ n : Nat, (n : Int) < m → Den te (Γ0.set j (.val ⟨tInt, (n : Int)⟩)) u (f n) (Γ0.set j (.val ⟨tInt, (n : Int)⟩))) :
    DenN (tLc (iRng1 tr) (gName j) tYes te [j]) Γ (((List.range m.toNat).map f).map fun y => ⟨u, y⟩) Γ0 :=
  dn_lcR (j := j) (te := te) (tt := tYes) (u := u) (fun _ => Γ0) (fun n => (List.range n).map f) h (fun _ => hf) hl hm rfl fun n hn => ⟨true, _, dt_yes, fun _ => ⟨f n, hs n hn, by
    rw [List.range_succ, List.map_append] <;> rfl⟩, fun z => nomatch z⟩
theorem den_sumQ {xs : List Int} (h : DenQ ta Γ tInt xs Γ1) : Den (tCB (rSumQ K) (tCons ta tNil)) Γ tInt xs.sum Γ1 := den_sum h
theorem ma_den {X : List Slot → Dv → Prop} (h : Den te Γ t x Γ1) (hx : X Γ1 ⟨t, x⟩) : DenMA te Γ X := fun Z F σ H hh Q q => h Z F σ H hh _ fun v F' H' h' p r => q Γ1 ⟨t, x⟩ hx v F' H' h' r
theorem den_to (h : Den te Γ t x Γ1) (e : Γ1 = Γ2) : Den te Γ t x Γ2 := e ▸ h
theorem dt_to {b : Bool} (h : DenT tt Γ b Γ1) (e : Γ1 = Γ2) : DenT tt Γ b Γ2 := e ▸ h
theorem da_to (h : DenA tr Γ ds Γ1) (e : Γ1 = Γ2) : DenA tr Γ ds Γ2 := e ▸ h
/-! ### ends and ifs -/
theorem s_endP {P : L2.St → Hp → Prop} {F0 H0 : Hp} {Q : VK} {d : Dv} (hZ : Z.F = F0 ∧ Z.H = H0 ∧ Z.O = NoO) (hP : ∀ σ H, Q .non H → P σ H) (q : ∀ v F' H', Step NoO F0 H0 F' H' → d.rep F' v → Q v H') (e : d = ⟨tNon, ()⟩) : OK Z Γ P := fun F σ H hh => by
  obtain ⟨z1, z2, z3⟩ := hZ
  subst e
  refine hP σ H (q .non F H ?_ rfl)
  rw [← z1, ← z2, ← z3]
  exact hh.st
/-- if t: x = e, and what holds behind it -/
theorem s_ifJ1 {X : List Slot → Prop} (h : ∃ b Γ1, DenT tt Γ b Γ1 ∧ (b = true → ∃ x Γ2, Den te Γ1 t x Γ2 ∧ X (Γ2.set i (.val ⟨t, x⟩))) ∧ (b = false → X Γ1)) (k : ∀ Γ', X Γ' → OK Z Γ' D.nx) : OK Z Γ (tIfS tt (tAsg te (gName i)) tNext D) := by
  obtain ⟨b, Γ1, ht, h1, h2⟩ := h
  refine s_if ht (fun hb => ?_) fun hb => s_nx (k _ (h2 hb))
  obtain ⟨x, Γ2, hd, hx⟩ := h1 hb
  exact s_set hd (k _ hx)
/-- if t: x = e else: x = e' -/
theorem s_ifJ2 {X : List Slot → Prop} (h : ∃ b Γ1, DenT tt Γ b Γ1 ∧ (b = true → ∃ x Γ2, Den te Γ1 t x Γ2 ∧ X (Γ2.set i (.val ⟨t, x⟩))) ∧ (b = false → ∃ x Γ2, Den ta Γ1 t x Γ2 ∧ X (Γ2.set i (.val ⟨t, x⟩)))) (k : ∀ Γ', X Γ' → OK Z Γ' D.nx) : OK Z Γ (tIfS tt (tAsg te (gName i)) (tAsg ta (gName i)) D) := by
  obtain ⟨b, Γ1, ht, h1, h2⟩ := h
  refine s_if ht (fun hb => ?_) fun hb => ?_
  · obtain ⟨x, Γ2, hd, hx⟩ := h1 hb
    exact s_set hd (k _ hx)
  · obtain ⟨x, Γ2, hd, hx⟩ := h2 hb
    exact s_set hd (k _ hx)
end
section
variable {W : Wd} {x qual : Str} {params : Arguments} {body : List Stmt} {scope : Scope} {f : Addr} {fd : FuncData} {N ps : List Str} {k : Nat} {sp : Sp}
/-- a promise that nobody asks for -/
theorem defOk_no (F : FunD W.K x qual params body scope [] [] f fd) (g : W.mg x = some (.ref f)) (S : FnScope N ps scope)
    (hbind : ∀ (kV doc pm : Value) (an : Option Addr) (cdv ct : Value) (us : List Value), us.length = ps.length → bindArgs (PySem.W.fnOf x qual params body scope .none kV doc pm an cdv ct) ⟨us, []⟩ = pure (ps.zip us))
    (no : ∀ vs H Q E, ¬ sp vs H Q E) : DefOk W x (k + 1) ps sp := defOk_of F g S (fun vs H Q E h => (no vs H Q E h).elim) hbind fun _ _ _ _ H vs Q E _ h => (no vs H Q E h).elim
end
end DL

set_option maxRecDepth 100000
namespace LW
open PySem PySem.Spec PyProof.Rows L2 DL GenW
local macro_rules | `(tactic| exists "side") => `(tactic| first | assumption | omega | decide | rfl | (simp only [List.length_cons, List.length_nil, List.length_append]; omega) | (apply mulw_small <;> omega) | (apply divx_small <;> omega) | (apply divx_of; omega; assumption) | (with_reducible apply cpow_small <;> decide))
local macro_rules | `(tactic| exists "s") => `(tactic| ((repeat' (first | rfl | apply And.intro | apply Exists.intro)) <;> (try exists "side")))
local macro_rules | `(tactic| exists "d") => `(tactic| first
  | with_reducible apply den_int
  | with_reducible apply den_bl
  | with_reducible apply den_str
  | with_reducible apply den_non
  | with_reducible apply pu_int
  | with_reducible apply da_nil
  | with_reducible apply po_no
  | ((with_reducible apply den_var); rfl)
  | ((with_reducible apply pu_var); rfl)
  | ((with_reducible apply dl_var); rfl)
  | ((with_reducible apply da_cons) <;> exists "d")
  | ((with_reducible apply po_part) <;> exists "d")
  | (with_reducible apply op_I0)
  | (with_reducible apply op_I0b)
  | ((with_reducible apply op_I); try exists "side")
  | (with_reducible apply op_eqI)
  | (with_reducible apply op_neI)
  | (with_reducible apply op_eqB)
  | (with_reducible apply op_neB)
  | (with_reducible apply op_eqS)
  | (with_reducible apply op_neS)
  | (with_reducible apply DL.un_neg)
  | (with_reducible apply on_int)
  | (with_reducible apply on_abs)
  | (with_reducible apply on_bool)
  | (with_reducible apply on_max)
  | (with_reducible apply on_min)
  | ((with_reducible apply den_ixH); rfl; rfl; decide)
  | ((with_reducible apply den_ixL) <;> exists "d")
  | ((with_reducible apply den_ixLM) <;> exists "d")
  | ((with_reducible apply den_ixT) <;> exists "d")
  | ((with_reducible apply den_op) <;> exists "d")
  | ((with_reducible apply den_un) <;> exists "d")
  | ((with_reducible apply pu_op) <;> exists "d")
  | ((with_reducible apply pu_un) <;> exists "d")
  | ((with_reducible apply den_len) <;> exists "d")
  | ((with_reducible apply den_bits) <;> exists "d")
  | ((with_reducible apply den_cb) <;> exists "d")
  | ((with_reducible apply den_callM); rfl; exists "d"; exists "s"; rfl)
  | ((with_reducible apply den_call); exists "d"; apply spP_v; exists "s")
  | ((with_reducible apply dn_slice) <;> exists "d")
  | ((with_reducible apply den_list) <;> exists "d")
  | (with_reducible apply dn_lst0)
  | ((with_reducible apply dn_lst1) <;> exists "d")
  | ((with_reducible apply dn_lst2) <;> exists "d")
  | ((with_reducible apply dn_lst3) <;> exists "d")
  | ((with_reducible apply dn_cat) <;> exists "d")
  | ((with_reducible apply dn_call); exists "d"; exists "s")
  | ((with_reducible apply dt_test) <;> exists "d")
  | ((with_reducible apply dt_B) <;> exists "d")
  | ((with_reducible apply dt_not) <;> exists "d")
  | ((with_reducible apply dt_and) <;> exists "d")
  | ((with_reducible apply dt_or) <;> exists "d")
  | ((with_reducible apply den_andV) <;> exists "d")
  | ((with_reducible apply den_orV) <;> exists "d")
  | ((with_reducible apply den_notV) <;> exists "d")
  | ((with_reducible apply DenL.q); exists "d")
  | ((with_reducible apply dn_l); exists "d")
  | ((with_reducible apply den_l); exists "d")
  | ((with_reducible apply DenU.q); exists "d")
  | ((with_reducible apply den_u); exists "d")
  | ((with_reducible apply den_n); exists "d"; rfl)
  | exists "side"
  | ((with_reducible intro h_); exists "d"))

local macro_rules | `(tactic| exists "n") => `(tactic| ((try dsimp only [List.set_cons_zero, List.set_cons_succ]); (repeat ((with_reducible apply s_nx); (try dsimp only [List.set_cons_zero, List.set_cons_succ]))); (try with_reducible apply s_seq)))
local macro_rules | `(tactic| exists "if") => `(tactic| ((exists "n"); (with_reducible apply s_if); (exists "d")))
local macro_rules | `(tactic| exists "set") => `(tactic| ((exists "n"); (with_reducible apply s_set); (exists "d")))
local macro_rules | `(tactic| exists "let") => `(tactic| ((exists "n"); (with_reducible apply s_let); (exists "d")))

def top (i : Nat) : Stmt := PySem.Challenge.pw_spotheights_k02_monomials_in_order.main.body.getD i (.Pass ⟨0, 0, 0, 0⟩)
abbrev s__law_pool : Stmt := top 16
abbrev s__law_take : Stmt := top 17
abbrev s_check_dimension : Stmt := top 7
abbrev s_check_length : Stmt := top 8
abbrev s_standard_key : Stmt := top 9
abbrev s_monomials_of_degree : Stmt := top 10
abbrev s_monomials_up_to : Stmt := top 11
abbrev s_comes_before : Stmt := top 12
abbrev s_divides : Stmt := top 13
abbrev s_monomial_factorial : Stmt := top 14
abbrev s__law_integer : Stmt := top 18
abbrev s__law_exponents : Stmt := top 19
abbrev s__law_of_degree : Stmt := top 20
abbrev s__law_second : Stmt := top 21
abbrev s__law_before : Stmt := top 22
abbrev s__law_within : Stmt := top 23
abbrev s__law_factors : Stmt := top 24
abbrev s__law_many : Stmt := top 25
abbrev s__law_listed : Stmt := top 26
abbrev s__law_idle : Stmt := top 27
abbrev s__law_lists : Stmt := top 28
abbrev s__law_says : Stmt := top 29
abbrev s__law_relations : Stmt := top 30
abbrev s__law_refused : Stmt := top 31
abbrev s_law : Stmt := top 32
/-! the law's numbers: a pool of the script's ints -/
structure Pl where
  gr : List Int
  sm : List Int
  ct : Int
/-- what a pool is -/
structure Pok (p : Pl) : Prop where
  sm : p.sm ≠ []
  lt : ∀ x ∈ p.sm, 0 ≤ x ∧ x < 1000000000000000000
  ct : 0 ≤ p.ct
  gl : p.gr.length ≤ 1000
  sl : p.sm.length ≤ 1000
def pool3 (p : Pl) : List Dv := [⟨tList tInt, p.gr⟩, ⟨tList tInt, p.sm⟩, ⟨tInt, p.ct⟩]
def mix0 (seed c : Int) : Int := (seed * 48271 + c * 69621 + 12345) % 2147483647
def mix1 (m c : Int) : Int := (m * m + c * 40692 + 7) % 2147483399
def mix2 (m seed : Int) : Int := (m * m + seed + 3) % 2147483563
def seedOf (p : Pl) : Int := (p.sm[((p.ct.fdiv 4) % (p.sm.length : Int)).toNat]?).getD 0
/-- one number below m, and the pool behind -/
def take (p : Pl) (m : Int) : Int × Pl :=
  if m < 2 then (0, p) else
  match p.gr with
  | v :: r => (v % m, { p with gr := if 0 < v.fdiv m then v.fdiv m :: r else r })
  | [] => ((mix2 (mix1 (mix0 (seedOf p) p.ct) p.ct) (seedOf p)).fdiv 7 % m, { p with ct := p.ct + 1 })
theorem take_lt {p : Pl} {m : Int} (h : 2 ≤ m) : 0 ≤ (take p m).1 ∧ (take p m).1 < m := by
  unfold take
  rw [if_neg (by omega)]
  split
  · exact ⟨Int.emod_nonneg _ (by omega), Int.emod_lt_of_pos _ (by omega)⟩
  · exact ⟨Int.emod_nonneg _ (by omega), Int.emod_lt_of_pos _ (by omega)⟩
theorem take_ok {p : Pl} {m : Int} (h : Pok p) : Pok (take p m).2 := by
  unfold take
  split
  · exact h
  · split
    · rename_i v r e
      refine ⟨h.sm, h.lt, h.ct, ?_, h.sl⟩
      have := h.gl
      rw [e, List.length_cons] at this
      show (if 0 < v.fdiv m then v.fdiv m :: r else r).length ≤ 1000
      split
      · rw [List.length_cons]
        omega
      · omega
    · exact ⟨h.sm, h.lt, by have := h.ct; show 0 ≤ p.ct + 1; omega, h.gl, h.sl⟩
theorem take_ct {p : Pl} {m : Int} : (take p m).2.ct ≤ p.ct + 1 := by
  unfold take
  split
  · show p.ct ≤ p.ct + 1; omega
  · split
    · show p.ct ≤ p.ct + 1; omega
    · exact Int.le_refl _
def poolSplit (ns : List Int) : List Int × List Int := ((ns.map iabs).filter fun x => decide (1000000000000000000 ≤ x), (ns.map iabs).filter fun x => !decide (1000000000000000000 ≤ x))
/-- the pool of a script -/
def pool (ns : List Int) : Pl := ⟨(poolSplit ns).1, if (poolSplit ns).2 = [] then [((poolSplit ns).1.length : Int)] else (poolSplit ns).2, 0⟩
theorem poolSplit_len (ns : List Int) : (poolSplit ns).1.length ≤ ns.length ∧ (poolSplit ns).2.length ≤ ns.length := by
  unfold poolSplit
  constructor
  · exact Nat.le_trans (List.length_filter_le _ _) (by rw [List.length_map]; exact Nat.le_refl _)
  · exact Nat.le_trans (List.length_filter_le _ _) (by rw [List.length_map]; exact Nat.le_refl _)
theorem take_snoc {α : Type} {xs : List α} {n : Nat} {x : α} (h : xs[n]? = some x) : xs.take (n + 1) = xs.take n ++ [x] := by
  rw [List.take_add_one, h] <;> rfl
theorem poolSplit_yes {ns : List Int} {n : Nat} {x : Int} (h : ns[n]? = some x) (hc : 1000000000000000000 ≤ iabs x) : poolSplit (ns.take (n + 1)) = ((poolSplit (ns.take n)).1 ++ [iabs x], (poolSplit (ns.take n)).2) := by
  rw [take_snoc h]
  unfold poolSplit
  simp [List.filter_append, hc]
theorem poolSplit_no {ns : List Int} {n : Nat} {x : Int} (h : ns[n]? = some x) (hc : ¬ 1000000000000000000 ≤ iabs x) : poolSplit (ns.take (n + 1)) = ((poolSplit (ns.take n)).1, (poolSplit (ns.take n)).2 ++ [iabs x]) := by
  rw [take_snoc h]
  unfold poolSplit
  simp [List.filter_append, hc]
theorem take_low {p : Pl} {m : Int} (h : m < 2) : take p m = (0, p) := by
  unfold take
  rw [if_pos h]
theorem take_yes {v m ct : Int} {r sm : List Int} (h : 2 ≤ m) (hc : 0 < v.fdiv m) : take ⟨v :: r, sm, ct⟩ m = (v % m, ⟨v.fdiv m :: r, sm, ct⟩) := by
  unfold take
  rw [if_neg (by omega)]
  show (v % m, (⟨if 0 < v.fdiv m then v.fdiv m :: r else r, sm, ct⟩ : Pl)) = _
  rw [if_pos hc]
theorem take_no {v m ct : Int} {r sm : List Int} (h : 2 ≤ m) (hc : ¬ 0 < v.fdiv m) : take ⟨v :: r, sm, ct⟩ m = (v % m, ⟨r, sm, ct⟩) := by
  unfold take
  rw [if_neg (by omega)]
  show (v % m, (⟨if 0 < v.fdiv m then v.fdiv m :: r else r, sm, ct⟩ : Pl)) = _
  rw [if_neg hc]
theorem take_nil {m ct : Int} {sm : List Int} (h : 2 ≤ m) : take ⟨[], sm, ct⟩ m = ((mix2 (mix1 (mix0 (seedOf ⟨[], sm, ct⟩) ct) ct) (seedOf ⟨[], sm, ct⟩)).fdiv 7 % m, ⟨[], sm, ct + 1⟩) := by
  unfold take
  rw [if_neg (by omega)]
theorem seed_at {sm : List Int} {ct : Int} (hp : Pok ⟨[], sm, ct⟩) : 0 ≤ ct.fdiv 4 % (sm.length : Int) ∧ sm[(ct.fdiv 4 % (sm.length : Int)).toNat]? = some (seedOf ⟨[], sm, ct⟩) ∧ 0 ≤ seedOf ⟨[], sm, ct⟩ ∧ seedOf ⟨[], sm, ct⟩ < 1000000000000000000 := by
  have hl : 0 < sm.length := List.length_pos_iff.mpr hp.sm
  have h0 : 0 ≤ ct.fdiv 4 % (sm.length : Int) := Int.emod_nonneg _ (by omega)
  have h1 : ct.fdiv 4 % (sm.length : Int) < (sm.length : Int) := Int.emod_lt_of_pos _ (by omega)
  have h2 : (ct.fdiv 4 % (sm.length : Int)).toNat < sm.length := by omega
  have e : sm[(ct.fdiv 4 % (sm.length : Int)).toNat]? = some sm[(ct.fdiv 4 % (sm.length : Int)).toNat] := List.getElem?_eq_getElem h2
  have e2 : seedOf ⟨[], sm, ct⟩ = sm[(ct.fdiv 4 % (sm.length : Int)).toNat] := by
    show (sm[(ct.fdiv 4 % (sm.length : Int)).toNat]?).getD 0 = _
    rw [e] <;> rfl
  rw [e2]
  exact ⟨h0, e, hp.lt _ (List.getElem_mem h2)⟩
theorem emod_r (a : Int) {m : Int} (h : 0 < m) : 0 ≤ a % m ∧ a % m < m := ⟨Int.emod_nonneg _ (by omega), Int.emod_lt_of_pos _ h⟩

abbrev S_take : List Dv → List Dv → List Dv → Dv → Prop := fun ps ds ps' r => ∃ p m, ps = pool3 p ∧ ds = [⟨tInt, m⟩] ∧ Pok p ∧ p.ct < 1000000000 ∧ m.natAbs.log2 < 9000 ∧ ps' = pool3 (take p m).2 ∧ r = ⟨tInt, (take p m).1⟩
abbrev S_pool (K : PySem.W.Frag) : List Dv → List Dv → Prop := fun ds r => ∃ ns : List Int, ds = [⟨tScr K, ns⟩] ∧ ns.length ≤ 63 ∧ r = pool3 (pool ns)
/-! monomials -/
def keyM (xs : List Int) : List Int := [xs.sum] ++ xs.map fun e => -e
def mons : Nat → Nat → List (List Int)
  | 0, _ => []
  | 1, g => [[(g : Int)]]
  | d + 2, g => (List.range (g + 1)).flatMap fun k => (mons (d + 1) k).map fun r => ((g : Int) - (k : Int)) :: r
def upM (d n : Nat) : List (List Int) := (List.range n).flatMap fun g => mons d g
def accM (d g n : Nat) : List (List Int) := (List.range n).flatMap fun k => (mons (d + 1) k).map fun r => ((g : Int) - (k : Int)) :: r
theorem accM_succ (d g n : Nat) : accM d g (n + 1) = accM d g n ++ (mons (d + 1) n).map fun r => ((g : Int) - (n : Int)) :: r := by
  unfold accM
  rw [List.range_succ, List.flatMap_append]
  simp
theorem upM_succ (d n : Nat) : upM d (n + 1) = upM d n ++ mons d n := by
  unfold upM
  rw [List.range_succ, List.flatMap_append]
  simp
theorem mons_two (d g : Nat) : mons (d + 2) g = accM d g (g + 1) := rfl
def monL (d g : Nat) : Bool := decide ((mons d g).length ≤ 1000)
theorem mons_len {d g : Nat} (hd : d ≤ 3) (hg : g ≤ 16) : (mons d g).length ≤ 1000 := by
  have h : ∀ d < 4, ∀ g < 17, (mons d g).length ≤ 1000 := by decide +kernel
  exact h d (by omega) g (by omega)
theorem accM_len {d g n : Nat} (hd : d ≤ 1) (hn : n ≤ 17) : (accM d g n).length ≤ 5000 := by
  have h : ∀ d < 2, ∀ n < 18, (accM d 0 n).length ≤ 5000 := by decide +kernel
  have e : (accM d g n).length = (accM d 0 n).length := by
    unfold accM
    simp [List.length_flatMap]
  rw [e]
  exact h d (by omega) n (by omega)
theorem upM_len {d n : Nat} (hd : d ≤ 3) (hn : n ≤ 17) : (upM d n).length ≤ 5000 := by
  have h : ∀ d < 4, ∀ n < 18, (upM d n).length ≤ 5000 := by decide +kernel
  exact h d (by omega) n (by omega)
abbrev inD (d : Int) : Prop := 1 ≤ d ∧ d ≤ 3
abbrev S_cd : List Dv → Dv → Prop := fun ds r => ∃ d : Int, ds = [⟨tInt, d⟩] ∧ inD d ∧ r = ⟨tNon, ()⟩
abbrev R_cd (C : Addr) : List Dv → Value → Prop := fun ds c => ∃ d : Int, ds = [⟨tInt, d⟩] ∧ ¬ inD d ∧ c = .ref C
abbrev S_cl : List Dv → Dv → Prop := fun ds r => ∃ (xs : List Int) (d : Int), ds = [⟨tTupl tInt, xs⟩, ⟨tInt, d⟩] ∧ (xs.length : Int) = d ∧ r = ⟨tNon, ()⟩
abbrev R_cl (C : Addr) : List Dv → Value → Prop := fun ds c => ∃ (xs : List Int) (d : Int), ds = [⟨tTupl tInt, xs⟩, ⟨tInt, d⟩] ∧ (xs.length : Int) ≠ d ∧ c = .ref C
abbrev S_key : List Dv → List Dv → Prop := fun ds r => ∃ xs : List Int, ds = [⟨tTupl tInt, xs⟩] ∧ xs.length ≤ 100 ∧ r = (keyM xs).map fun i => ⟨tInt, i⟩
abbrev S_mod (m : Nat) : List Dv → List Dv → Prop := fun ds r => ∃ d g : Nat, ds = [⟨tInt, (d : Int)⟩, ⟨tInt, (g : Int)⟩] ∧ 1 ≤ d ∧ d ≤ m ∧ d ≤ 3 ∧ g ≤ 16 ∧ r = (mons d g).map fun x => ⟨tTupl tInt, x⟩
abbrev R_mod (C : Addr) (m : Nat) : List Dv → Value → Prop := fun ds c => ∃ d g : Int, ds = [⟨tInt, d⟩, ⟨tInt, g⟩] ∧ 0 < m ∧ ¬ inD d ∧ c = .ref C
abbrev spMod (C : Addr) (m : Nat) : Sp := spNR (S_mod m) (R_mod C m)
abbrev S_up : List Dv → List Dv → Prop := fun ds r => ∃ (d : Nat) (h : Int), ds = [⟨tInt, (d : Int)⟩, ⟨tInt, h⟩] ∧ 1 ≤ d ∧ d ≤ 3 ∧ -1 ≤ h ∧ h ≤ 16 ∧ r = (upM d (h + 1).toNat).map fun x => ⟨tTupl tInt, x⟩
abbrev R_up (C : Addr) : List Dv → Value → Prop := fun ds c => ∃ d h : Int, ds = [⟨tInt, d⟩, ⟨tInt, h⟩] ∧ ¬ inD d ∧ c = .ref C
abbrev S_cmp (f : List Int → List Int → Bool) : List Dv → Dv → Prop := fun ds r => ∃ xs ys : List Int, ds = [⟨tTupl tInt, xs⟩, ⟨tTupl tInt, ys⟩] ∧ inD (xs.length : Int) ∧ ys.length = xs.length ∧ r = ⟨tBool, f xs ys⟩
abbrev R_cmp (C : Addr) : List Dv → Value → Prop := fun ds c => ∃ xs ys : List Int, ds = [⟨tTupl tInt, xs⟩, ⟨tTupl tInt, ys⟩] ∧ (¬ inD (xs.length : Int) ∨ (inD (xs.length : Int) ∧ ys.length ≠ xs.length)) ∧ c = .ref C
def ltM (xs ys : List Int) : Bool := HT.lexLt (keyM xs) (keyM ys)
def leM (xs ys : List Int) : Bool := ((List.range xs.length).map fun k => decide (xs.getD k 0 ≤ ys.getD k 0)).all id
def facM (xs : List Int) : Int := xs.foldl (fun a e => a * ((Builtin.Math.factorialNat e.toNat : Nat) : Int)) 1
abbrev S_fac : List Dv → Dv → Prop := fun ds r => ∃ xs : List Int, ds = [⟨tTupl tInt, xs⟩] ∧ inD (xs.length : Int) ∧ (∀ x ∈ xs, 0 ≤ x ∧ x ≤ 16) ∧ r = ⟨tInt, facM xs⟩
abbrev R_fac (C : Addr) : List Dv → Value → Prop := fun ds c => ∃ xs : List Int, ds = [⟨tTupl tInt, xs⟩] ∧ ¬ inD (xs.length : Int) ∧ c = .ref C
theorem mons_dim {d g : Nat} (hd : d ≤ 3) (hg : g ≤ 16) : ∀ x ∈ mons d g, x.length ≤ 1000 := by
  have h : ∀ d < 4, ∀ g < 17, ∀ x ∈ mons d g, x.length ≤ 1000 := by decide +kernel
  exact h d (by omega) g (by omega)
theorem facM_bd {xs : List Int} (hl : xs.length ≤ 3) (hx : ∀ x ∈ xs, 0 ≤ x ∧ x ≤ 16) : (facM xs).natAbs < 2 ^ 136 := by
  have hf : ∀ n < 17, Builtin.Math.factorialNat n < 2 ^ 45 := by decide +kernel
  have hk : ∀ (ys : List Int) (a : Int) (k : Nat), (∀ y ∈ ys, 0 ≤ y ∧ y ≤ 16) → a.natAbs < 2 ^ k → (ys.foldl (fun a e => a * ((Builtin.Math.factorialNat e.toNat : Nat) : Int)) a).natAbs < 2 ^ (k + 45 * ys.length) := by
    intro ys
    induction ys with
    | nil => intro a k _ ha; exact ha
    | cons y ys ih =>
      intro a k hy ha
      have hy0 := hy y (List.mem_cons_self ..)
      have h1 := hf y.toNat (by omega)
      have h2 := ih (a * ((Builtin.Math.factorialNat y.toNat : Nat) : Int)) (k + 45) (fun z hz => hy z (List.mem_cons_of_mem _ hz)) (by
        rw [Int.natAbs_mul, Int.natAbs_natCast, Nat.pow_add]
        exact Nat.mul_lt_mul'' ha h1)
      rw [List.foldl_cons, List.length_cons]
      have e : k + 45 * (ys.length + 1) = k + 45 + 45 * ys.length := by omega
      rw [e]
      exact h2
  have h := hk xs 1 1 hx (by decide)
  have hp : 1 + 45 * xs.length ≤ 136 := by omega
  exact Nat.lt_of_lt_of_le h (Nat.pow_le_pow_right (by decide) hp)
theorem facM_bd1 {xs : List Int} (hl : xs.length ≤ 3) (hx : ∀ x ∈ xs, 0 ≤ x ∧ x ≤ 16) : (facM xs).natAbs < 2 ^ 200 := Nat.lt_of_lt_of_le (facM_bd hl hx) (Nat.pow_le_pow_right (by decide) (by decide))
theorem fac_bd {x : Int} (h0 : 0 ≤ x) (h1 : x ≤ 16) : (((Builtin.Math.factorialNat x.toNat : Nat) : Int)).natAbs < 2 ^ 45 := by
  have hf : ∀ n < 17, Builtin.Math.factorialNat n < 2 ^ 45 := by decide +kernel
  rw [Int.natAbs_natCast]
  exact hf x.toNat (by omega)
theorem mulw_of {i j : Int} (hi : i.natAbs < 2 ^ 200) (hj : j.natAbs < 2 ^ 45) : CMulW i j := wide_mul (a := 200) (b := 45) hi hj (by decide) (by decide) (by decide)
/-! what the law draws -/
theorem log_small {m : Int} (h0 : 0 ≤ m) (h : m ≤ 1000000) : m.natAbs.log2 < 9000 := by
  by_cases z : m.natAbs = 0
  · rw [z]
    decide
  · refine (Nat.log2_lt z).mpr (Nat.lt_of_lt_of_le (m := 2 ^ 20) (by omega) (Nat.pow_le_pow_right (by decide) (by decide)))
theorem take_rg {p : Pl} {m : Int} : 0 ≤ (take p m).1 ∧ (1 ≤ m → (take p m).1 < m) := by
  by_cases h : 2 ≤ m
  · exact ⟨(take_lt h).1, fun _ => (take_lt h).2⟩
  · rw [take_low (by omega)]
    exact ⟨Int.le_refl 0, fun h1 => by show (0 : Int) < m; omega⟩
def exL (p : Pl) (h : Int) : Nat → Pl × Int × List Int
  | 0 => (p, h, [])
  | n + 1 => ((take (exL p h n).1 ((exL p h n).2.1 + 1)).2, (exL p h n).2.1 - (take (exL p h n).1 ((exL p h n).2.1 + 1)).1, (exL p h n).2.2 ++ [(take (exL p h n).1 ((exL p h n).2.1 + 1)).1])
structure ExOk (p : Pl) (h : Int) (n : Nat) : Prop where
  ok : Pok (exL p h n).1
  ct : (exL p h n).1.ct ≤ p.ct + n
  lo : 0 ≤ (exL p h n).2.1
  le : (exL p h n).2.1 ≤ h
  sm : (exL p h n).2.2.sum = h - (exL p h n).2.1
  ln : (exL p h n).2.2.length = n
  nn : ∀ x ∈ (exL p h n).2.2, 0 ≤ x
theorem exL_ok {p : Pl} {h : Int} (hp : Pok p) (h0 : 0 ≤ h) : ∀ n, ExOk p h n
  | 0 => ⟨hp, by show p.ct ≤ p.ct + ((0 : Nat) : Int); omega, h0, Int.le_refl _, by show (0 : Int) = h - h; omega, rfl, fun x hx => nomatch hx⟩
  | n + 1 => by
    have i := exL_ok hp h0 n
    have t1 := take_rg (p := (exL p h n).1) (m := (exL p h n).2.1 + 1)
    have t2 := take_ct (p := (exL p h n).1) (m := (exL p h n).2.1 + 1)
    have t3 := t1.2 (by have := i.lo; omega)
    have ic := i.ct
    have il := i.lo
    have ih := i.le
    refine ⟨take_ok i.ok, ?_, ?_, ?_, ?_, ?_, ?_⟩
    · show (take (exL p h n).1 ((exL p h n).2.1 + 1)).2.ct ≤ p.ct + ((n + 1 : Nat) : Int)
      omega
    · show 0 ≤ (exL p h n).2.1 - (take (exL p h n).1 ((exL p h n).2.1 + 1)).1
      omega
    · show (exL p h n).2.1 - (take (exL p h n).1 ((exL p h n).2.1 + 1)).1 ≤ h
      omega
    · show ((exL p h n).2.2 ++ [(take (exL p h n).1 ((exL p h n).2.1 + 1)).1]).sum = h - ((exL p h n).2.1 - (take (exL p h n).1 ((exL p h n).2.1 + 1)).1)
      have := i.sm
      rw [List.sum_append]
      simp only [List.sum_cons, List.sum_nil]
      omega
    · show ((exL p h n).2.2 ++ [_]).length = n + 1
      rw [List.length_append, i.ln]
      rfl
    · intro x hx
      have hx : x ∈ (exL p h n).2.2 ++ [(take (exL p h n).1 ((exL p h n).2.1 + 1)).1] := hx
      rcases List.mem_append.mp hx with hx | hx
      · exact i.nn x hx
      · rw [List.mem_singleton.mp hx]
        exact t1.1
def cutE (p : Pl) (d : Nat) (h : Int) : Int × Pl := take (exL p h d).1 (d : Int)
def exps (p : Pl) (d : Nat) (h : Int) : List Int × Pl := ((exL p h d).2.2.drop (cutE p d h).1.toNat ++ (exL p h d).2.2.take (cutE p d h).1.toNat, (cutE p d h).2)
structure Mon (d : Nat) (s : Int) (xs : List Int) : Prop where
  ln : xs.length = d
  nn : ∀ x ∈ xs, 0 ≤ x
  le : xs.sum ≤ s
theorem sum_nn : ∀ {xs : List Int}, (∀ x ∈ xs, 0 ≤ x) → 0 ≤ xs.sum
  | [], _ => Int.le_refl 0
  | x :: xs, h => by
    have h1 := h x (List.mem_cons_self ..)
    have h2 := sum_nn (xs := xs) fun y hy => h y (List.mem_cons_of_mem _ hy)
    rw [List.sum_cons]
    omega
theorem mem_le_sum : ∀ {xs : List Int}, (∀ x ∈ xs, 0 ≤ x) → ∀ x ∈ xs, x ≤ xs.sum
  | y :: xs, h, x, hx => by
    have h1 := h y (List.mem_cons_self ..)
    have h3 : ∀ z ∈ xs, 0 ≤ z := fun z hz => h z (List.mem_cons_of_mem _ hz)
    have h2 := sum_nn h3
    rw [List.sum_cons]
    rcases List.mem_cons.mp hx with rfl | hx
    · omega
    · have := mem_le_sum h3 x hx
      omega
theorem Mon.en {d : Nat} {s : Int} {xs : List Int} (m : Mon d s xs) : ∀ x ∈ xs, 0 ≤ x ∧ x ≤ s := fun x hx => ⟨m.nn x hx, Int.le_trans (mem_le_sum m.nn x hx) m.le⟩
theorem Mon.s0 {d : Nat} {s : Int} {xs : List Int} (m : Mon d s xs) : 0 ≤ xs.sum := sum_nn m.nn
theorem Mon.mono {d : Nat} {s t : Int} {xs : List Int} (m : Mon d s xs) (h : s ≤ t) : Mon d t xs := ⟨m.ln, m.nn, Int.le_trans m.le h⟩
theorem exps_ok {p : Pl} {d : Nat} {h : Int} (hp : Pok p) (h0 : 0 ≤ h) : Pok (exps p d h).2 ∧ (exps p d h).2.ct ≤ p.ct + d + 1 ∧ Mon d h (exps p d h).1 := by
  have i := exL_ok hp h0 d
  have t2 := take_ct (p := (exL p h d).1) (m := (d : Int))
  have ic := i.ct
  refine ⟨take_ok i.ok, ?_, ?_, fun x hx => ?_, ?_⟩
  · show (take (exL p h d).1 (d : Int)).2.ct ≤ _
    omega
  · show ((exL p h d).2.2.drop (cutE p d h).1.toNat ++ (exL p h d).2.2.take (cutE p d h).1.toNat).length = d
    have := i.ln
    rw [List.length_append, List.length_drop, List.length_take]
    omega
  · rcases List.mem_append.mp hx with hx | hx
    · exact i.nn x (List.mem_of_mem_drop hx)
    · exact i.nn x (List.mem_of_mem_take hx)
  · show ((exL p h d).2.2.drop (cutE p d h).1.toNat ++ (exL p h d).2.2.take (cutE p d h).1.toNat).sum ≤ h
    have e : ((exL p h d).2.2.take (cutE p d h).1.toNat ++ (exL p h d).2.2.drop (cutE p d h).1.toNat).sum = (exL p h d).2.2.sum := by rw [List.take_append_drop]
    rw [List.sum_append] at e ⊢
    have := i.sm
    have := i.lo
    omega
theorem slLo {α : Type} {xs : List α} {c : Int} (h0 : 0 ≤ c) : (xs.drop (HT.sIx xs.length 0 (some c))).take (HT.sIx xs.length xs.length none - HT.sIx xs.length 0 (some c)) = xs.drop c.toNat := by
  obtain ⟨k, rfl⟩ := Int.eq_ofNat_of_zero_le h0
  rw [HT.sIx_nat, HT.sIx_none, Int.toNat_natCast]
  rw [List.take_of_length_le (by rw [List.length_drop]; omega)]
  by_cases h : k ≤ xs.length
  · rw [Nat.min_eq_left h]
  · rw [Nat.min_eq_right (by omega), List.drop_length, List.drop_eq_nil_of_le (by omega)]
theorem slHi {α : Type} {xs : List α} {c : Int} (h0 : 0 ≤ c) : (xs.drop (HT.sIx xs.length 0 none)).take (HT.sIx xs.length xs.length (some c) - HT.sIx xs.length 0 none) = xs.take c.toNat := by
  obtain ⟨k, rfl⟩ := Int.eq_ofNat_of_zero_le h0
  rw [HT.sIx_nat, HT.sIx_none, Int.toNat_natCast, List.drop_zero, Nat.sub_zero]
  by_cases h : k ≤ xs.length
  · rw [Nat.min_eq_left h]
  · rw [Nat.min_eq_right (by omega), List.take_length, List.take_of_length_le (by omega)]
abbrev S_exps : List Dv → List Dv → List Dv → Dv → Prop := fun ps ds ps' r => ∃ p, ∃ d : Nat, ∃ h, ps = pool3 p ∧ ds = [⟨tInt, (d : Int)⟩, ⟨tInt, h⟩] ∧ Pok p ∧ p.ct < 900000000 ∧ 1 ≤ d ∧ d ≤ 3 ∧ 0 ≤ h ∧ h ≤ 16 ∧ ps' = pool3 (exps p d h).2 ∧ r = ⟨tTupl tInt, (exps p d h).1⟩
/-- a monomial is drawn -/
abbrev S_mon : Pl × Nat × Int → List Dv → Dv → Prop := fun g ps' r => ∃ p' xs, ps' = pool3 p' ∧ r = ⟨tTupl tInt, xs⟩ ∧ Pok p' ∧ p'.ct ≤ g.1.ct + 20 ∧ Mon g.2.1 16 xs
abbrev P_od : Pl × Nat × Int → List Dv → List Dv → Prop := fun g ps ds => ps = pool3 g.1 ∧ ds = [⟨tInt, (g.2.1 : Int)⟩, ⟨tInt, g.2.2⟩] ∧ Pok g.1 ∧ g.1.ct < 800000000 ∧ 1 ≤ g.2.1 ∧ g.2.1 ≤ 3 ∧ 0 ≤ g.2.2 ∧ g.2.2 ≤ 16
abbrev S_mon2 : Pl × List Int → List Dv → Dv → Prop := fun g ps' r => ∃ p' xs, ps' = pool3 p' ∧ r = ⟨tTupl tInt, xs⟩ ∧ Pok p' ∧ p'.ct ≤ g.1.ct + 40 ∧ Mon g.2.length 16 xs
abbrev P_sec : Pl × List Int → List Dv → List Dv → Prop := fun g ps ds => ps = pool3 g.1 ∧ ds = [⟨tTupl tInt, g.2⟩] ∧ Pok g.1 ∧ g.1.ct < 700000000 ∧ 1 ≤ g.2.length ∧ g.2.length ≤ 3 ∧ Mon g.2.length 16 g.2
theorem sum_set : ∀ {xs : List Int} {i : Nat} {x y : Int}, xs[i]? = some x → (xs.set i y).sum = xs.sum - x + y
  | z :: xs, 0, x, y, h => by
    simp at h
    subst h
    simp only [List.set_cons_zero, List.sum_cons]
    omega
  | z :: xs, i + 1, x, y, h => by
    have := sum_set (xs := xs) (i := i) (x := x) (y := y) (by simpa using h)
    simp only [List.set_cons_succ, List.sum_cons]
    omega
theorem od_mon {d : Nat} {t x : Int} {xs : List Int} {i : Nat} (m : Mon d t xs) (h : xs[i]? = some x) (ht : t ≤ 16) : Mon d 16 (xs.set i (x + t - xs.sum)) := by
  have hm := m.en x (List.mem_of_getElem? h)
  refine ⟨by rw [List.length_set]; exact m.ln, fun y hy => ?_, ?_⟩
  · have hl := m.le
    rcases List.mem_or_eq_of_mem_set hy with hy | hy
    · exact m.nn y hy
    · omega
  · rw [sum_set h]
    omega
def drL (p : Pl) (xs : List Int) : Nat → Pl × List Int
  | 0 => (p, [])
  | n + 1 => ((take (drL p xs n).1 (xs.getD n 0 + 1)).2, (drL p xs n).2 ++ [(take (drL p xs n).1 (xs.getD n 0 + 1)).1])
theorem drL_ok {p : Pl} {xs : List Int} (hp : Pok p) (hx : ∀ x ∈ xs, 0 ≤ x) : ∀ n, n ≤ xs.length → Pok (drL p xs n).1 ∧ (drL p xs n).1.ct ≤ p.ct + n ∧ (drL p xs n).2.length = n ∧ (∀ y ∈ (drL p xs n).2, 0 ≤ y) ∧ (drL p xs n).2.sum ≤ (xs.take n).sum
  | 0, _ => ⟨hp, by show p.ct ≤ p.ct + ((0 : Nat) : Int); omega, rfl, fun y hy => (nomatch hy), Int.le_refl _⟩
  | n + 1, h => by
    obtain ⟨h1, h2, h3, h4, h5⟩ := drL_ok hp hx n (by omega)
    have t1 := take_rg (p := (drL p xs n).1) (m := xs.getD n 0 + 1)
    have t2 := take_ct (p := (drL p xs n).1) (m := xs.getD n 0 + 1)
    have e : xs[n]? = some (xs.getD n 0) := by
      rw [List.getD_eq_getElem?_getD, List.getElem?_eq_getElem (by omega)] <;> rfl
    have hn := hx _ (List.mem_of_getElem? e)
    have t3 := t1.2 (by omega)
    refine ⟨take_ok h1, ?_, ?_, fun y hy => ?_, ?_⟩
    · show (take (drL p xs n).1 (xs.getD n 0 + 1)).2.ct ≤ p.ct + ((n + 1 : Nat) : Int)
      omega
    · show ((drL p xs n).2 ++ [_]).length = n + 1
      rw [List.length_append, h3]
      rfl
    · rcases List.mem_append.mp (show y ∈ (drL p xs n).2 ++ [(take (drL p xs n).1 (xs.getD n 0 + 1)).1] from hy) with hy | hy
      · exact h4 y hy
      · rw [List.mem_singleton.mp hy]
        exact t1.1
    · show ((drL p xs n).2 ++ [(take (drL p xs n).1 (xs.getD n 0 + 1)).1]).sum ≤ _
      rw [take_snoc e, List.sum_append, List.sum_append]
      simp only [List.sum_cons, List.sum_nil]
      omega
def addM (xs ys : List Int) : List Int := (List.range xs.length).map fun k => xs.getD k 0 + ys.getD k 0
theorem map_add_sum (f g : Nat → Int) : ∀ (l : List Nat), (l.map fun k => f k + g k).sum = (l.map f).sum + (l.map g).sum
  | [] => rfl
  | a :: l => by
    have := map_add_sum f g l
    simp only [List.map_cons, List.sum_cons]
    omega
theorem map_getD (xs : List Int) : (List.range xs.length).map (fun k => xs.getD k 0) = xs := by
  apply List.ext_getElem?
  intro i
  by_cases h : i < xs.length
  · have e : xs.getD i 0 = xs[i] := by
      rw [List.getD_eq_getElem?_getD, List.getElem?_eq_getElem h] <;> rfl
    rw [List.getElem?_map, List.getElem?_range h, List.getElem?_eq_getElem h, ← e] <;> rfl
  · rw [List.getElem?_eq_none (by rw [List.length_map, List.length_range]; omega), List.getElem?_eq_none (by omega)]
theorem getD_nn {xs : List Int} (h : ∀ x ∈ xs, 0 ≤ x) (k : Nat) : 0 ≤ xs.getD k 0 := by
  rw [List.getD_eq_getElem?_getD]
  cases q : xs[k]? with
  | none => exact Int.le_refl 0
  | some x => exact h x (List.mem_of_getElem? q)
theorem addM_mon {d : Nat} {s t : Int} {xs ys : List Int} (m : Mon d s xs) (m2 : Mon d t ys) : Mon d (xs.sum + t) (addM xs ys) := by
  refine ⟨by rw [addM, List.length_map, List.length_range]; exact m.ln, fun x hx => ?_, ?_⟩
  · obtain ⟨k, _, rfl⟩ := List.mem_map.mp hx
    have := getD_nn m.nn k
    have := getD_nn m2.nn k
    omega
  · have e2 : (List.range xs.length).map (fun k => ys.getD k 0) = ys := by rw [m.ln, ← m2.ln]; exact map_getD ys
    have e : (addM xs ys).sum = xs.sum + ys.sum := by
      rw [addM, map_add_sum, map_getD, e2]
    rw [e]
    have := m2.le
    omega
/-! what the law decides -/
def befL : List Int → List Int → Bool
  | x :: xs, y :: ys => if x ≠ y then decide (x > y) else befL xs ys
  | _, _ => false
def befM (xs ys : List Int) : Bool := if xs.sum ≠ ys.sum then decide (xs.sum < ys.sum) else befL xs ys
def leL : List Int → List Int → Bool
  | x :: xs, y :: ys => if x > y then false else leL xs ys
  | _, _ => true
abbrev S_isint : List Dv → Dv → Prop := fun ds r => ∃ i : Int, ds = [⟨tInt, i⟩] ∧ r = ⟨tBool, true⟩
abbrev S_pairB (f : List Int → List Int → Bool) : List Dv → Dv → Prop := fun ds r => ∃ xs ys : List Int, ds = [⟨tTupl tInt, xs⟩, ⟨tTupl tInt, ys⟩] ∧ ys.length = xs.length ∧ xs.length ≤ 100 ∧ r = ⟨tBool, f xs ys⟩
abbrev S_facs : List Dv → Dv → Prop := fun ds r => ∃ xs : List Int, ds = [⟨tTupl tInt, xs⟩] ∧ xs.length ≤ 3 ∧ (∀ x ∈ xs, 0 ≤ x ∧ x ≤ 16) ∧ r = ⟨tInt, facM xs⟩
def manyM (d : Nat) (h : Int) : Int := if d = 1 then h + 1 else if d = 2 then ((h + 1) * (h + 2)).fdiv 2 else ((h + 1) * (h + 2) * (h + 3)).fdiv 6
abbrev S_many : List Dv → Dv → Prop := fun ds r => ∃ d : Nat, ∃ h : Int, ds = [⟨tInt, (d : Int)⟩, ⟨tInt, h⟩] ∧ 1 ≤ d ∧ d ≤ 3 ∧ -1 ≤ h ∧ h ≤ 16 ∧ r = ⟨tInt, manyM d h⟩
def okM (d : Nat) (lo hi : Int) (x : List Int) : Bool := decide (x.length = d) && x.all (fun e => decide (0 ≤ e)) && decide (lo ≤ x.sum) && decide (x.sum ≤ hi)
def chainM : List (List Int) → Bool
  | a :: b :: r => befM a b && chainM (b :: r)
  | _ => true
def lstB (d : Nat) (lo hi : Int) (ts : List (List Int)) : Bool := ts.all (okM d lo hi) && chainM ts
theorem chain_at : ∀ {ts : List (List Int)} {n : Nat} {a b : List Int}, chainM ts = true → ts[n]? = some a → ts[n + 1]? = some b → befM a b = true
  | [], n, _, _, _, h, _ => by simp at h
  | [x], n, _, _, _, _, h => by simp at h
  | x :: y :: r, 0, a, b, hc, ha, hb => by
    simp at ha hb
    subst ha hb
    exact (Bool.and_eq_true_iff.mp hc).1
  | x :: y :: r, n + 1, a, b, hc, ha, hb => chain_at (ts := y :: r) (n := n) (Bool.and_eq_true_iff.mp hc).2 (by simpa using ha) (by simpa using hb)
abbrev S_listed : List Dv → Dv → Prop := fun ds r => ∃ ts, ∃ d : Nat, ∃ lo hi many : Int, ds = [⟨tList (tTupl tInt), ts⟩, ⟨tInt, (d : Int)⟩, ⟨tInt, lo⟩, ⟨tInt, hi⟩, ⟨tInt, many⟩] ∧ lstB d lo hi ts = true ∧ many = (ts.length : Int) ∧ ts.length ≤ 5000 ∧ d ≤ 3 ∧ r = ⟨tBool, true⟩
abbrev S_idle : List Dv → Dv → Prop := fun ds r => ∃ d h : Int, ds = [⟨tInt, d⟩, ⟨tInt, h⟩] ∧ ¬ inD d ∧ r = ⟨tBool, true⟩
abbrev S_lists : List Dv → Dv → Prop := fun ds r => ∃ d : Nat, ∃ h : Int, ds = [⟨tInt, (d : Int)⟩, ⟨tInt, h⟩] ∧ 1 ≤ d ∧ d ≤ 3 ∧ -1 ≤ h ∧ h ≤ 16 ∧ r = ⟨tBool, true⟩
abbrev S_says : List Dv → Dv → Prop := fun ds r => ∃ b c : Bool, ds = [⟨tBool, b⟩, ⟨tBool, c⟩] ∧ b = c ∧ r = ⟨tBool, true⟩
abbrev S_rel : List Dv → Dv → Prop := fun ds r => ∃ xs ys, ∃ d : Nat, ds = [⟨tTupl tInt, xs⟩, ⟨tTupl tInt, ys⟩] ∧ Mon d 16 xs ∧ Mon d 16 ys ∧ 1 ≤ d ∧ d ≤ 3 ∧ r = ⟨tBool, true⟩
def BadK (k : Int) (xs ys : List Int) (d : Int) : Prop :=
  ((k = 0 ∨ k = 1) ∧ (¬ inD (xs.length : Int) ∨ (inD (xs.length : Int) ∧ ys.length ≠ xs.length))) ∨ ((k = 2 ∨ k = 3) ∧ ¬ inD d) ∨ (k = 4 ∧ ¬ inD (xs.length : Int))
abbrev S_ref : List Dv → Dv → Prop := fun ds r => ∃ (k : Int) (xs ys : List Int) (d h : Int), ds = [⟨tInt, k⟩, ⟨tTupl tInt, xs⟩, ⟨tTupl tInt, ys⟩, ⟨tInt, d⟩, ⟨tInt, h⟩] ∧ BadK k xs ys d ∧ r = ⟨tBool, true⟩
abbrev S_law (K : PySem.W.Frag) : List Dv → Dv → Prop := fun ds r => ∃ ns : List Int, ds = [⟨tScr K, ns⟩] ∧ ns.length ≤ 63 ∧ r = ⟨tBool, true⟩
/-! the plain law -/
theorem up_all {d : Nat} {h : Int} (h1 : 1 ≤ d) (h2 : d ≤ 3) (h3 : -1 ≤ h) (h4 : h ≤ 16) : lstB d 0 h (upM d (h + 1).toNat) = true ∧ manyM d h = ((upM d (h + 1).toNat).length : Int) := by
  have key : ∀ d : Nat, d < 3 → ∀ n : Nat, n < 18 → lstB (d + 1) 0 ((n : Int) - 1) (upM (d + 1) n) = true ∧ manyM (d + 1) ((n : Int) - 1) = ((upM (d + 1) n).length : Int) := by decide +kernel
  have k := key (d - 1) (by omega) (h + 1).toNat (by omega)
  have e1 : d - 1 + 1 = d := by omega
  have e2 : (((h + 1).toNat : Nat) : Int) - 1 = h := by omega
  rw [e1, e2] at k
  exact k
theorem deg_all {d g : Nat} (h1 : 1 ≤ d) (h2 : d ≤ 3) (h4 : g ≤ 16) : lstB d (g : Int) (g : Int) (mons d g) = true ∧ manyM d (g : Int) - manyM d ((g : Int) - 1) = ((mons d g).length : Int) ∧ 0 < (mons d g).length := by
  have key : ∀ d : Nat, d < 3 → ∀ g : Nat, g < 17 → lstB (d + 1) (g : Int) (g : Int) (mons (d + 1) g) = true ∧ manyM (d + 1) (g : Int) - manyM (d + 1) ((g : Int) - 1) = ((mons (d + 1) g).length : Int) ∧ 0 < (mons (d + 1) g).length := by decide +kernel
  have k := key (d - 1) (by omega) g (by omega)
  have e1 : d - 1 + 1 = d := by omega
  rw [e1] at k
  exact k
theorem lex_neg : ∀ {xs ys : List Int}, ys.length = xs.length → HT.lexLt (xs.map fun e => -e) (ys.map fun e => -e) = befL xs ys
  | [], [], _ => rfl
  | [], _ :: _, h => by simp at h
  | _ :: _, [], h => by simp at h
  | x :: xs, y :: ys, h => by
    have ih := lex_neg (xs := xs) (ys := ys) (by simpa using h)
    simp only [List.map_cons, befL, HT.lexLt]
    rw [ih]
    by_cases e : x = y
    · subst e
      simp
    · have e' : ¬ (-x = -y) := by omega
      by_cases l : x > y
      · simp [e, e', l]
      · simp [e, e', l]
theorem ltM_bef {xs ys : List Int} (h : ys.length = xs.length) : ltM xs ys = befM xs ys := by
  unfold ltM keyM befM
  simp only [List.cons_append, List.nil_append, HT.lexLt]
  rw [lex_neg h]
  by_cases e : xs.sum = ys.sum
  · simp [e]
  · simp [e]
theorem leM_le : ∀ {xs ys : List Int}, ys.length = xs.length → leM xs ys = leL xs ys
  | [], [], _ => rfl
  | [], _ :: _, h => by simp at h
  | _ :: _, [], h => by simp at h
  | x :: xs, y :: ys, h => by
    have ih := leM_le (xs := xs) (ys := ys) (by simpa using h)
    unfold leM at ih ⊢
    rw [List.length_cons, List.range_succ_eq_map, List.map_cons, List.map_map, List.all_cons]
    have e : ((fun k => decide ((x :: xs).getD k 0 ≤ (y :: ys).getD k 0)) ∘ Nat.succ) = fun k => decide (xs.getD k 0 ≤ ys.getD k 0) := by
      funext k
      simp
    rw [e, ih]
    simp only [leL, id, List.getD_cons_zero]
    by_cases l : x > y
    · have l' : ¬ x ≤ y := by omega
      simp [l, l']
    · have l' : x ≤ y := by omega
      simp [l, l']
theorem facA {a : Int} {k : Nat} (h : a.natAbs < 2 ^ 136) (hk : k ≤ 16) : (a * ((Builtin.Math.factorialNat k : Nat) : Int)).natAbs < 2 ^ 200 := by
  have hf : ∀ n < 17, Builtin.Math.factorialNat n < 2 ^ 45 := by decide +kernel
  rw [Int.natAbs_mul, Int.natAbs_natCast]
  exact Nat.lt_trans (Nat.mul_lt_mul'' h (hf k (by omega))) (by decide)
theorem many_bd {h : Int} (h3 : -1 ≤ h) (h4 : h ≤ 16) : ((h + 1) * (h + 2)).natAbs < 1000000 ∧ ((h + 1) * (h + 2) * (h + 3)).natAbs < 1000000 := by
  have key : ∀ n : Nat, n < 18 → (((n : Int) - 1 + 1) * ((n : Int) - 1 + 2)).natAbs < 1000000 ∧ (((n : Int) - 1 + 1) * ((n : Int) - 1 + 2) * ((n : Int) - 1 + 3)).natAbs < 1000000 := by decide +kernel
  have k := key (h + 1).toNat (by omega)
  have e2 : (((h + 1).toNat : Nat) : Int) - 1 = h := by omega
  rw [e2] at k
  exact k
def befS : Option (List Int) → Slot
  | none => .val ⟨tNon, ()⟩
  | some b => .val ⟨tTupl tInt, b⟩
theorem bad01 {k : Int} {xs ys : List Int} {d : Int} (hk : k = 0 ∨ k = 1) (h : BadK k xs ys d) : ¬ inD (xs.length : Int) ∨ (inD (xs.length : Int) ∧ ys.length ≠ xs.length) := by
  rcases h with ⟨_, h⟩ | ⟨h, _⟩ | ⟨h, _⟩
  · exact h
  · exfalso; omega
  · exfalso; omega
theorem bad23 {k : Int} {xs ys : List Int} {d : Int} (hk : k = 2 ∨ k = 3) (h : BadK k xs ys d) : ¬ inD d := by
  rcases h with ⟨h, _⟩ | ⟨_, h⟩ | ⟨h, _⟩
  · exfalso; omega
  · exact h
  · exfalso; omega
theorem bad4 {xs ys : List Int} {d : Int} (h : BadK 4 xs ys d) : ¬ inD (xs.length : Int) := by
  rcases h with ⟨h, _⟩ | ⟨h, _⟩ | ⟨_, h⟩
  · exfalso; omega
  · exfalso; omega
  · exact h
theorem pool_ok {ns : List Int} (h : ns.length ≤ 63) : Pok (pool ns) ∧ (pool ns).ct = 0 := by
  have hl := poolSplit_len ns
  have hn : ∀ x ∈ (poolSplit ns).2, 0 ≤ x ∧ x < 1000000000000000000 := fun x hx => by
    unfold poolSplit at hx
    obtain ⟨h1, h2⟩ := List.mem_filter.mp hx
    obtain ⟨y, _, rfl⟩ := List.mem_map.mp h1
    have : 0 ≤ iabs y := by
      unfold iabs
      split <;> omega
    simp at h2
    omega
  refine ⟨⟨?_, ?_, Int.le_refl 0, by show (poolSplit ns).1.length ≤ 1000; omega, ?_⟩, rfl⟩
  · show (if (poolSplit ns).2 = [] then [((poolSplit ns).1.length : Int)] else (poolSplit ns).2) ≠ []
    split
    · exact fun e => nomatch e
    · assumption
  · show ∀ x ∈ (if (poolSplit ns).2 = [] then [((poolSplit ns).1.length : Int)] else (poolSplit ns).2), 0 ≤ x ∧ x < 1000000000000000000
    split
    · intro x hx
      rw [List.mem_singleton.mp hx]
      omega
    · exact hn
  · show (if (poolSplit ns).2 = [] then [((poolSplit ns).1.length : Int)] else (poolSplit ns).2).length ≤ 1000
    split
    · show 1 ≤ 1000; decide
    · omega
theorem spMod_no {C : Addr} : ∀ vs H Q E, ¬ spMod C 0 vs H Q E := fun vs H Q E ⟨F, ds, _, _, h⟩ => by
  rcases h with ⟨r, ⟨d, g, _, h1, h2, _⟩, _⟩ | ⟨c, ⟨d, g, _, h0, _⟩, _⟩
  · omega
  · omega


local macro_rules | `(tactic| exists "d") => `(tactic| first
  | ((with_reducible apply den_isi); (exists "d"); constructor; (first | exact ty_int | exact ty_bool | exact ty_tup | exact ty_lst); (first | exact kit_self | exact kit_ty (r := false) (by decide +kernel) | exact kit_ty (r := true) (by decide +kernel)))
  | ((with_reducible apply den_chain) <;> exists "d")
  | ((with_reducible apply den_sumQ) <;> exists "d")
  | ((with_reducible apply den_tuple0))
  | ((with_reducible apply den_tuple1) <;> exists "d")
  | ((with_reducible apply den_tup2) <;> exists "d")
  | ((with_reducible apply den_fst); exists "d")
  | ((with_reducible apply den_snd); exists "d")
  | ((with_reducible apply den_tuple) <;> exists "d"))

local macro_rules | `(tactic| exists "d") => `(tactic| ((with_reducible apply den_isE); rfl; constructor; (first | exact kit_self | assumption)))

section
variable {W : Wd} {f : Addr} {fd : FuncData} {C_WrongDimension C_SpotError C_BadMonomial C_BadIndex : Addr}
theorem sc__law_pool : FnScope ["script", "greats", "smalls", "cell"] ["script"] (defScope s__law_pool) := ⟨rfl, rfl, rfl, by decide +kernel, rfl, by decide +kernel, by decide +kernel⟩
set_option maxHeartbeats 4000000 in
theorem ok__law_pool (F : FunD W.K "_law_pool" "_law_pool" (defArgs s__law_pool) (defBody s__law_pool) (defScope s__law_pool) [] [] f fd)(g : W.mg "_law_pool" = some (.ref f))
    (z_int : W.mg "int" = none)
    (z_abs : W.mg "abs" = none)
    (z_len : W.mg "len" = none) : DefOk W "_law_pool" 1 ["script"] (spN (S_pool W.K)) := by
  refine defOk_of F g sc__law_pool (spN_len (n := 1) fun ds r ⟨_, e, _⟩ => by rw [e]; rfl) (fun _ _ _ _ _ _ us hl => match us, hl with | [_], _ => rfl) (fun cdv A outer s H vs Q E hr h => ⟨_, (pss_cons (ps_set (i := 1) sc__law_pool.nd rfl (Or.inl rfl) (pe_lst pa_nil))
    (pss_cons (ps_set (i := 2) sc__law_pool.nd rfl (Or.inl rfl) (pe_lst pa_nil))
    (pss_cons (ps_for (passes_of rfl) rfl (pi_list (pv 0)) (pg_name (i := 3) sc__law_pool.nd rfl (Or.inl rfl)) (pss_one (ps_if (pt_cmpR op_ge (pe_callB call_abs (by rfl) z_abs (by decide +kernel) (pa_cons (pe_callTy call_int1 (by rfl) z_int (by decide +kernel) (pa_cons (pv 3) pa_nil)) pa_nil)) (pe_op op_pow pe_int pe_int) (nomark _)) (pss_one (ps_expr (pe_bm PySem.F.plainAttrs_list PySem.F.slot_list_append PySem.F.type_list_append mt_append (pv 1) (pa_cons (pe_callB call_abs (by rfl) z_abs (by decide +kernel) (pa_cons (pe_callTy call_int1 (by rfl) z_int (by decide +kernel) (pa_cons (pv 3) pa_nil)) pa_nil)) pa_nil)))) (pss_one (ps_expr (pe_bm PySem.F.plainAttrs_list PySem.F.slot_list_append PySem.F.type_list_append mt_append (pv 2) (pa_cons (pe_callB call_abs (by rfl) z_abs (by decide +kernel) (pa_cons (pe_callTy call_int1 (by rfl) z_int (by decide +kernel) (pa_cons (pv 3) pa_nil)) pa_nil)) pa_nil)))))))
    (pss_cons (ps_if (pt_cmpR op_eq (pe_callB call_len_seq (by rfl) z_len PySem.boot_len (pa_cons (pv 2) pa_nil)) pe_int (nomark _)) (pss_one (ps_expr (pe_bm PySem.F.plainAttrs_list PySem.F.slot_list_append PySem.F.type_list_append mt_append (pv 2) (pa_cons (pe_callB call_len_seq (by rfl) z_len PySem.boot_len (pa_cons (pv 1) pa_nil)) pa_nil)))) pss_nil)
    (pss_one (ps_ret (pe_lst (pa_cons (pv 1) (pa_cons (pv 2) (pa_cons pe_int pa_nil)))))))))), ?_⟩)
  refine body_N h fun F ds r _ hS q => ?_
  obtain ⟨ns, rfl, hl, rfl⟩ := hS
  refine (show OK _ [_, _, _, _] _ from ?_)
  exists "n"
  apply s_setN (t := tInt) (xs := [])
  · exists "d"
  exists "n"
  apply s_setN (t := tInt) (xs := [])
  · exists "d"
  exists "n"
  refine s_forScr (s0 := (([], []) : List Int × List Int)) (fun s => [.val ⟨tScr W.K, ns⟩, .lst tInt s.1, .lst tInt s.2, .any]) (fun n s => s = poolSplit (ns.take n)) (by exists "d") rfl (by exact Wk.refl _) ?_ ?_
  · intro Z' hZ n x s hx hs
    subst hs
    have hn : n < 63 := by
      have := (List.getElem?_eq_some_iff.mp hx).1
      omega
    have l1 := poolSplit_len (ns.take n)
    have l2 : (ns.take n).length ≤ n := by
      rw [List.length_take]
      omega
    exists "if"
    · intro hc
      have hc : 1000000000000000000 ≤ iabs x := of_decide_eq_true hc
      exists "n"
      apply s_app
      · rfl
      · exists "d"
      · rfl
      · show (poolSplit (ns.take n)).1.length < 100000
        omega
      exists "n"
      apply s_next (poolSplit (ns.take (n + 1)))
      · rfl
      rw [poolSplit_yes hx hc]
      exact .cons (.inr rfl) (.cons (.inr rfl) (.cons (.inr rfl) (.cons (.inl rfl) .nil)))
    · intro hc
      have hc : ¬ 1000000000000000000 ≤ iabs x := of_decide_eq_false hc
      exists "n"
      apply s_app
      · rfl
      · exists "d"
      · rfl
      · show (poolSplit (ns.take n)).2.length < 100000
        omega
      exists "n"
      apply s_next (poolSplit (ns.take (n + 1)))
      · rfl
      rw [poolSplit_no hx hc]
      exact .cons (.inr rfl) (.cons (.inr rfl) (.cons (.inr rfl) (.cons (.inl rfl) .nil)))
  · intro s hs
    subst hs
    rw [List.take_length]
    exists "if"
    · intro hc
      have e0 : (poolSplit ns).2 = [] := by
        have := of_decide_eq_true hc
        have h0 : (poolSplit ns).2.length = 0 := by omega
        exact List.eq_nil_of_length_eq_zero h0
      exists "n"
      apply s_app
      · rfl
      · exists "d"
      · rfl
      · show (poolSplit ns).2.length < 100000
        rw [e0]
        decide
      have ep : pool ns = ⟨(poolSplit ns).1, [((poolSplit ns).1.length : Int)], 0⟩ := by
        unfold pool
        rw [if_pos e0]
      rw [ep] at q
      exists "n"
      refine s_freeze (i := 1) (t := tInt) rfl (fun _ _ _ _ z => z) ?_
      refine s_freeze (i := 2) (t := tInt) rfl (fun _ _ _ _ z => z) ?_
      apply s_retNP ⟨rfl, rfl, rfl⟩ rfl q
      · with_reducible apply dn_lst
        · exists "d"
        · show 3 ≤ 100000; decide
      · show pool3 _ = _
        rw [e0]
        rfl
    · intro hc
      have e0 : (poolSplit ns).2 ≠ [] := fun e => by
        rw [e] at hc
        exact absurd hc (by decide)
      have ep : pool ns = ⟨(poolSplit ns).1, (poolSplit ns).2, 0⟩ := by
        unfold pool
        rw [if_neg e0]
      rw [ep] at q
      exists "n"
      refine s_freeze (i := 1) (t := tInt) rfl (fun _ _ _ _ z => z) ?_
      refine s_freeze (i := 2) (t := tInt) rfl (fun _ _ _ _ z => z) ?_
      apply s_retNP ⟨rfl, rfl, rfl⟩ rfl q
      · with_reducible apply dn_lst
        · exists "d"
        · show 3 ≤ 100000; decide
      · rfl

theorem sc__law_take : FnScope ["pool", "most", "value", "rest", "count", "seed", "mixed"] ["pool", "most"] (defScope s__law_take) := ⟨rfl, rfl, rfl, by decide +kernel, rfl, by decide +kernel, by decide +kernel⟩
set_option maxHeartbeats 4000000 in
theorem ok__law_take (F : FunD W.K "_law_take" "_law_take" (defArgs s__law_take) (defBody s__law_take) (defScope s__law_take) [] [] f fd)(g : W.mg "_law_take" = some (.ref f))
    (z_len : W.mg "len" = none)
    (z_list : W.mg "list" = none)
    (z_int : W.mg "int" = none) : DefOk W "_law_take" 1 ["pool", "most"] (spM S_take) := by
  refine defOk_of F g sc__law_take (spM_len (n := 1) fun ps ds ps' r ⟨_, _, _, e, _⟩ => by rw [e]; rfl) (fun _ _ _ _ _ _ us hl => match us, hl with | [_, _], _ => rfl) (fun cdv A outer s H vs Q E hr h => ⟨_, (pss_cons (ps_if (pt_cmpR op_lt (pv 1) pe_int (nomark _)) (pss_one (ps_ret pe_int)) pss_nil)
    (pss_cons (ps_if (pt_cmpR op_gt (pe_callB call_len_seq (by rfl) z_len PySem.boot_len (pa_cons (pe_ix ix_list (pv 0) pe_int (fun _ _ => rfl)) pa_nil)) pe_int (nomark _)) (pss_cons (ps_set (i := 2) sc__law_take.nd rfl (Or.inl rfl) (pe_ix ix_list (pe_ix ix_list (pv 0) pe_int (fun _ _ => rfl)) pe_int (fun _ _ => rfl)))
    (pss_cons (ps_set (i := 3) sc__law_take.nd rfl (Or.inl rfl) (pe_callTy call_list_of (by rfl) z_list (by decide +kernel) (pa_cons (pe_slice sl_list (pe_ix ix_list (pv 0) pe_int (fun _ _ => rfl)) (po_some pe_int) po_none) pa_nil)))
    (pss_cons (ps_if (pt_cmpR op_gt (pe_op op_fdivX (pv 2) (pv 1)) pe_int (nomark _)) (pss_one (ps_set (i := 3) sc__law_take.nd rfl (Or.inl rfl) (pe_op op_cat (pe_lst (pa_cons (pe_op op_fdivX (pv 2) (pv 1)) pa_nil)) (pv 3)))) pss_nil)
    (pss_cons (ps_asg (pv 3) (pg_sub (pv 0) pe_int set_list))
    (pss_one (ps_ret (pe_op op_mod (pe_callTy call_int1 (by rfl) z_int (by decide +kernel) (pa_cons (pv 2) pa_nil)) (pv 1)))))))) pss_nil)
    (pss_cons (ps_set (i := 4) sc__law_take.nd rfl (Or.inl rfl) (pe_ix ix_list (pv 0) pe_int (fun _ _ => rfl)))
    (pss_cons (ps_asg (pe_op op_add (pv 4) pe_int) (pg_sub (pv 0) pe_int set_list))
    (pss_cons (ps_set (i := 5) sc__law_take.nd rfl (Or.inl rfl) (pe_ix ix_list (pe_ix ix_list (pv 0) pe_int (fun _ _ => rfl)) (pe_op op_mod (pe_callTy call_int1 (by rfl) z_int (by decide +kernel) (pa_cons (pe_op op_fdivX (pv 4) pe_int) pa_nil)) (pe_callB call_len_seq (by rfl) z_len PySem.boot_len (pa_cons (pe_ix ix_list (pv 0) pe_int (fun _ _ => rfl)) pa_nil))) (fun _ _ => rfl)))
    (pss_cons (ps_set (i := 6) sc__law_take.nd rfl (Or.inl rfl) (pe_op op_mod (pe_callTy call_int1 (by rfl) z_int (by decide +kernel) (pa_cons (pe_op op_add (pe_op op_add (pe_op op_mulW (pv 5) pe_int) (pe_op op_mulW (pv 4) pe_int)) pe_int) pa_nil)) pe_int))
    (pss_cons (ps_set (i := 6) sc__law_take.nd rfl (Or.inl rfl) (pe_op op_mod (pe_callTy call_int1 (by rfl) z_int (by decide +kernel) (pa_cons (pe_op op_add (pe_op op_add (pe_op op_mulW (pv 6) (pv 6)) (pe_op op_mulW (pv 4) pe_int)) pe_int) pa_nil)) pe_int))
    (pss_cons (ps_set (i := 6) sc__law_take.nd rfl (Or.inl rfl) (pe_op op_mod (pe_callTy call_int1 (by rfl) z_int (by decide +kernel) (pa_cons (pe_op op_add (pe_op op_add (pe_op op_mulW (pv 6) (pv 6)) (pv 5)) pe_int) pa_nil)) pe_int))
    (pss_one (ps_ret (pe_op op_mod (pe_callTy call_int1 (by rfl) z_int (by decide +kernel) (pa_cons (pe_op op_fdivX (pv 6) pe_int) pa_nil)) (pv 1)))))))))))), ?_⟩)
  refine body_M h fun F a ps ds ps' r _ hS q => ?_
  obtain ⟨p, m, rfl, rfl, hp, hc, hm, rfl, rfl⟩ := hS
  refine (show OK _ [_, _, _, _, _, _, _] _ from ?_)
  exists "if"
  · intro hb
    rw [take_low (of_decide_eq_true hb)] at q
    apply s_retM ⟨rfl, rfl, rfl⟩ rfl q
    · exists "d"
    · rfl
    · rfl
  intro hb
  have hb : 2 ≤ m := by
    have := of_decide_eq_false hb
    omega
  obtain ⟨gr, sm, ct⟩ := p
  cases gr with
  | cons v r =>
    exists "if"
    rotate_left
    · intro hb
      exact absurd (of_decide_eq_false hb) (by simp)
    intro _
    exists "set"
    exists "let"
    intro rest hrest
    have hrest : rest = r := by
      rw [hrest]
      simp [HT.sIx]
    subst hrest
    have hl : rest.length ≤ 1000 := by
      have := hp.gl
      rw [List.length_cons] at this
      omega
    exists "if"
    · intro hc
      rw [take_yes hb (of_decide_eq_true hc)] at q
      exists "set"
      exists "n"
      apply s_setIxH
      · exists "d"
      · rfl
      · decide
      · show 0 < 3; decide
      exists "n"
      apply s_retM ⟨rfl, rfl, rfl⟩ rfl q
      · exists "d"
      · rfl
      · rfl
    · intro hc
      rw [take_no hb (of_decide_eq_false hc)] at q
      exists "n"
      apply s_setIxH
      · exists "d"
      · rfl
      · decide
      · show 0 < 3; decide
      exists "n"
      apply s_retM ⟨rfl, rfl, rfl⟩ rfl q
      · exists "d"
      · rfl
      · rfl
  | nil =>
    obtain ⟨x0, xs, x1, x2⟩ := seed_at hp
    rw [take_nil hb] at q
    generalize hseed : seedOf ⟨[], sm, ct⟩ = seed at *
    have hct : 0 ≤ ct := hp.ct
    have hsl : 0 < (sm.length : Int) := by
      have := List.length_pos_iff.mpr (show sm ≠ [] from hp.sm)
      omega
    have hc : ct < 1000000000 := hc
    exists "if"
    · intro hb
      exact absurd (of_decide_eq_true hb) (by simp)
    intro _
    exists "set"
    exists "n"
    apply s_setIxH
    · exists "d"
    · rfl
    · decide
    · show 2 < 3; decide
    exists "set"
    exists "let"
    intro m0 h0
    have b0 := emod_r (seed * 48271 + ct * 69621 + 12345) (m := 2147483647) (by decide)
    rw [← h0] at b0
    exists "let"
    intro m1 h1
    have b1 := emod_r (m0 * m0 + ct * 40692 + 7) (m := 2147483399) (by decide)
    rw [← h1] at b1
    exists "let"
    intro m2 h2
    have b2 := emod_r (m1 * m1 + seed + 3) (m := 2147483563) (by decide)
    rw [← h2] at b2
    have e : mix2 (mix1 (mix0 seed ct) ct) seed = m2 := by
      rw [h2, h1, h0] <;> rfl
    rw [e] at q
    exists "n"
    apply s_retM ⟨rfl, rfl, rfl⟩ rfl q
    · exists "d"
    · rfl
    · rfl

theorem sc_check_dimension : FnScope ["dimension"] ["dimension"] (defScope s_check_dimension) := ⟨rfl, rfl, rfl, by decide +kernel, rfl, by decide +kernel, by decide +kernel⟩
set_option maxHeartbeats 4000000 in
theorem ok_check_dimension (F : FunD W.K "check_dimension" "check_dimension" (defArgs s_check_dimension) (defBody s_check_dimension) (defScope s_check_dimension) [] [] f fd)(g : W.mg "check_dimension" = some (.ref f))
    (xc_WrongDimension : ExcOk W "WrongDimension" C_WrongDimension) : DefOk W "check_dimension" 1 ["dimension"] (spP S_cd (R_cd C_WrongDimension)) := by
  refine defOk_of F g sc_check_dimension (spP_len (n := 1) (fun ds r h => by obtain ⟨_, rfl, _⟩ := h; rfl) (fun ds r h => by obtain ⟨_, rfl, _⟩ := h; rfl)) (fun _ _ _ _ _ _ us hl => match us, hl with | [_], _ => rfl) (fun cdv A outer s H vs Q E hr h => ⟨_, (pss_one (ps_if (pt_not (pt_chain op_le op_le pe_int (pv 0) pe_int)) (pss_one (ps_raise rfl (takes_of rfl rfl rfl rfl) (pmk_own PySem.F.excBase_ValueError xc_WrongDimension.x xc_WrongDimension.g xc_WrongDimension.k (raises_own xc_WrongDimension.b xc_WrongDimension.t) rfl))) pss_nil)), ?_⟩)
  refine body_P h fun F ds _ hS => ?_
  rcases hS with ⟨r, ⟨d, rfl, hd, rfl⟩, q⟩ | ⟨c, ⟨d, rfl, hd, rfl⟩, q⟩
  · refine (show OK _ [_] _ from ?_)
    exists "if"
    · intro hc
      simp [hd.1, hd.2] at hc
    intro _
    exists "n"
    exact s_endP ⟨rfl, rfl, rfl⟩ (fun σ H h => h) q rfl
  · refine (show OK _ [_] _ from ?_)
    exists "if"
    · intro _
      exists "n"
      exact s_raise ⟨rfl, rfl, rfl⟩ q (fun σ H h => h)
    · intro hc
      exfalso
      simp at hc
      exact hd hc

theorem sc_check_length : FnScope ["entries", "dimension"] ["entries", "dimension"] (defScope s_check_length) := ⟨rfl, rfl, rfl, by decide +kernel, rfl, by decide +kernel, by decide +kernel⟩
set_option maxHeartbeats 4000000 in
theorem ok_check_length (F : FunD W.K "check_length" "check_length" (defArgs s_check_length) (defBody s_check_length) (defScope s_check_length) [] [] f fd)(g : W.mg "check_length" = some (.ref f))
    (z_len : W.mg "len" = none)
    (xc_WrongDimension : ExcOk W "WrongDimension" C_WrongDimension) : DefOk W "check_length" 1 ["entries", "dimension"] (spP S_cl (R_cl C_WrongDimension)) := by
  refine defOk_of F g sc_check_length (spP_len (n := 2) (fun ds r h => by obtain ⟨_, _, rfl, _⟩ := h; rfl) (fun ds r h => by obtain ⟨_, _, rfl, _⟩ := h; rfl)) (fun _ _ _ _ _ _ us hl => match us, hl with | [_, _], _ => rfl) (fun cdv A outer s H vs Q E hr h => ⟨_, (pss_one (ps_if (pt_cmpR op_ne (pe_callB call_len_seq (by rfl) z_len PySem.boot_len (pa_cons (pv 0) pa_nil)) (pv 1) (nomark _)) (pss_one (ps_raise rfl (takes_of rfl rfl rfl rfl) (pmk_own PySem.F.excBase_ValueError xc_WrongDimension.x xc_WrongDimension.g xc_WrongDimension.k (raises_own xc_WrongDimension.b xc_WrongDimension.t) rfl))) pss_nil)), ?_⟩)
  refine body_P h fun F ds _ hS => ?_
  rcases hS with ⟨r, ⟨xs, d, rfl, hd, rfl⟩, q⟩ | ⟨c, ⟨xs, d, rfl, hd, rfl⟩, q⟩
  · refine (show OK _ [_, _] _ from ?_)
    exists "if"
    · intro hc
      simp [hd] at hc
    intro _
    exists "n"
    exact s_endP ⟨rfl, rfl, rfl⟩ (fun σ H h => h) q rfl
  · refine (show OK _ [_, _] _ from ?_)
    exists "if"
    · intro _
      exists "n"
      exact s_raise ⟨rfl, rfl, rfl⟩ q (fun σ H h => h)
    · intro hc
      exfalso
      simp at hc
      exact hd hc

theorem sc_standard_key : FnScope ["exponents", "exponent"] ["exponents"] (defScope s_standard_key) := ⟨rfl, rfl, rfl, by decide +kernel, rfl, by decide +kernel, by decide +kernel⟩
set_option maxHeartbeats 4000000 in
theorem ok_standard_key (F : FunD W.K "standard_key" "standard_key" (defArgs s_standard_key) (defBody s_standard_key) (defScope s_standard_key) [] [] f fd)(g : W.mg "standard_key" = some (.ref f))
    (z_sum : W.mg "sum" = none) : DefOk W "standard_key" 1 ["exponents"] (spN S_key) := by
  refine defOk_of F g sc_standard_key (spN_len (n := 1) fun ds r ⟨_, e, _⟩ => by rw [e]; rfl) (fun _ _ _ _ _ _ us hl => match us, hl with | [_], _ => rfl) (fun cdv A outer s H vs Q E hr h => ⟨_, (pss_one (ps_ret (pe_op op_cat (pe_lst (pa_cons (pe_callB (cr_sumQ rfl) (by rfl) z_sum (by decide +kernel) (pa_cons (pv 0) pa_nil)) pa_nil)) (pe_lc (own := [("exponent", 1)]) (g := gName 1) (tt := tYes) rfl sc_standard_key.nd (pi_tup (pv 0)) (blkOk_by (N := ["exponents", "exponent"]) (sc := defScope s_standard_key) (by decide +kernel)) (fun _ _ _ _ _ => pg_name (i := 1) sc_standard_key.nd rfl (Or.inl rfl)) (fun _ _ _ _ _ => pts_nil) (fun _ _ _ _ _ => (pe_un un_neg (pv 1))))))), ?_⟩)
  refine body_N h fun F ds r _ hS q => ?_
  obtain ⟨xs, rfl, hl, rfl⟩ := hS
  refine (show OK _ [_, _] _ from ?_)
  exists "n"
  apply s_retNP ⟨rfl, rfl, rfl⟩ rfl q
  · apply dn_cat (t := tInt) (xs := [xs.sum]) (ys := xs.map fun e => -e)
    · exists "d"
    · apply den_n
      · apply dn_lcT1 (u := tInt) (t := tInt) (xs := xs) (fun e => -e)
        · exists "d"
        · rfl
        · omega
        · intro n x hx
          exists "d"
      · rfl
    · show 1 + (xs.map fun e => -e).length ≤ 100000
      rw [List.length_map]
      omega
  · rfl

theorem sc_monomials_of_degree : FnScope ["dimension", "degree", "found", "first", "rest"] ["dimension", "degree"] (defScope s_monomials_of_degree) := ⟨rfl, rfl, rfl, by decide +kernel, rfl, by decide +kernel, by decide +kernel⟩
set_option maxHeartbeats 4000000 in
theorem ok_monomials_of_degree (m_ : Nat) (F : FunD W.K "monomials_of_degree" "monomials_of_degree" (defArgs s_monomials_of_degree) (defBody s_monomials_of_degree) (defScope s_monomials_of_degree) [] [] f fd)(g : W.mg "monomials_of_degree" = some (.ref f))
    (h_check_dimension : DefOk W "check_dimension" 1 ["dimension"] (spP S_cd (R_cd C_WrongDimension)))
    (z_range : W.mg "range" = none)
    (h_monomials_of_degree : DefOk W "monomials_of_degree" (m_ + 1) ["dimension", "degree"] (spMod C_WrongDimension m_)) : DefOk W "monomials_of_degree" (m_ + 2) ["dimension", "degree"] (spMod C_WrongDimension (m_ + 1)) := by
  obtain ⟨f_check_dimension, fd_check_dimension, G_check_dimension, g_check_dimension, k_check_dimension, b_check_dimension⟩ := h_check_dimension
  obtain ⟨f_monomials_of_degree, fd_monomials_of_degree, G_monomials_of_degree, g_monomials_of_degree, k_monomials_of_degree, b_monomials_of_degree⟩ := h_monomials_of_degree
  refine defOk_of F g sc_monomials_of_degree (spNR_len (n := 2) (fun ds r h => by obtain ⟨_, _, rfl, _⟩ := h; rfl) (fun ds r h => by obtain ⟨_, _, rfl, _⟩ := h; rfl)) (fun _ _ _ _ _ _ us hl => match us, hl with | [_, _], _ => rfl) (fun cdv A outer s H vs Q E hr h => ⟨_, (pss_cons (ps_expr (pe_call G_check_dimension (hr.mono (by omega)) rfl g_check_dimension k_check_dimension b_check_dimension .nil (passes_call (takes_of rfl rfl rfl rfl) (fun _ _ _ _ h => h)) (pa_cons (pv 0) pa_nil)))
    (pss_cons (ps_if (pt_cmpR op_eq (pv 0) pe_int (nomark _)) (pss_one (ps_ret (pe_lst (pa_cons (pe_tup (pa_cons (pv 1) pa_nil)) pa_nil)))) pss_nil)
    (pss_cons (ps_set (i := 2) sc_monomials_of_degree.nd rfl (Or.inl rfl) (pe_lst pa_nil))
    (pss_cons (ps_for (passes_of rfl) rfl (pi_range3 (by rfl) z_range (pa_cons (pv 1) (pa_cons (pe_un un_neg pe_int) (pa_cons (pe_un un_neg pe_int) pa_nil)))) (pg_name (i := 3) sc_monomials_of_degree.nd rfl (Or.inl rfl)) (pss_one (ps_for (passes_of rfl) rfl (pi_list (pe_call G_monomials_of_degree (hr.mono (by omega)) rfl g_monomials_of_degree k_monomials_of_degree b_monomials_of_degree .nil (passes_call (takes_of rfl rfl rfl rfl) (fun _ _ _ _ h => h)) (pa_cons (pe_op op_sub (pv 0) pe_int) (pa_cons (pe_op op_sub (pv 1) (pv 3)) pa_nil)))) (pg_name (i := 4) sc_monomials_of_degree.nd rfl (Or.inl rfl)) (pss_one (ps_expr (pe_bm PySem.F.plainAttrs_list PySem.F.slot_list_append PySem.F.type_list_append mt_append (pv 2) (pa_cons (pe_op op_catT (pe_tup (pa_cons (pv 3) pa_nil)) (pv 4)) pa_nil)))))))
    (pss_one (ps_ret (pv 2))))))), ?_⟩)
  refine body_NR h fun F ds _ hS => ?_
  rcases hS with ⟨r, ⟨d, g, rfl, h1, h2, h3, h4, rfl⟩, q⟩ | ⟨c, ⟨d, g, rfl, h0, hd, rfl⟩, q⟩
  rotate_left
  · refine (show OK _ [_, _, _, _, _] _ from ?_)
    exists "n"
    apply s_bot (c := .ref C_WrongDimension)
    · apply bot_call (ds := [⟨tInt, d⟩])
      · exists "d"
      · exact spP_x ⟨d, rfl, hd, rfl⟩
    · exact fun F' σ H' hh => q F' H' hh.st
  refine (show OK _ [_, _, _, _, _] _ from ?_)
  have hd : inD (d : Int) := by unfold inD; omega
  exists "n"
  apply s_drop (t := tNon) (x := ())
  · exists "d"
  exists "if"
  · intro hc
    have hc := of_decide_eq_true hc
    have e : d = 1 := by omega
    subst e
    exists "n"
    apply s_retNP ⟨rfl, rfl, rfl⟩ rfl q
    · apply dn_lst1 (t := tTupl tInt)
      exists "d"
    · rfl
  intro hc
  have hc := of_decide_eq_false hc
  obtain ⟨d', rfl⟩ : ∃ d', d = d' + 2 := ⟨d - 2, by omega⟩
  exists "n"
  apply s_setN (t := tTupl tInt) (xs := [])
  · exists "d"
  exists "n"
  apply s_forDown (i := (g : Int)) (0 : Nat) (fun n => [.val ⟨tInt, ((d' + 2 : Nat) : Int)⟩, .val ⟨tInt, (g : Int)⟩, .lst (tTupl tInt) (accM d' g n), .any, .any]) (fun k n => k = n)
  · exists "d"
  · omega
  · omega
  · rfl
  · exact Wk.refl _
  · intro k n hk hn
    subst hn
    exists "n"
    apply s_forF (t := tTupl tInt) (xs := mons (d' + 1) k) (0 : Nat) (fun n => [.val ⟨tInt, ((d' + 2 : Nat) : Int)⟩, .val ⟨tInt, (g : Int)⟩, .lst (tTupl tInt) (accM d' g k ++ ((mons (d' + 1) k).take n).map fun r => ((g : Int) - (k : Int)) :: r), .val ⟨tInt, (g : Int) - (k : Int)⟩, .any]) (fun i n => n = i)
    · apply den_n
      · apply dn_callR
        · exists "d"
        · refine ⟨d' + 1, k, ?_, by omega, by omega, by omega, by omega, rfl⟩
          have e1 : ((d' + 2 : Nat) : Int) - 1 = ((d' + 1 : Nat) : Int) := by omega
          have e2 : (g : Int) - ((g : Int) - (k : Int)) = (k : Int) := by omega
          rw [e1, e2]
      · rfl
    · rfl
    · show Wk _ [_, _, .lst (tTupl tInt) (accM d' g k ++ []), _, _]
      rw [List.append_nil]
      exact Wk.refl _
    · intro Z' hZ n x s hx hs
      subst hs
      exists "n"
      apply s_app
      · rfl
      · apply den_op
        · exists "d"
        · exists "d"
        · apply op_catTT (t := tInt) (xs := [(g : Int) - (k : Int)]) (ys := x)
          · simp
          · have hm := List.mem_of_getElem? hx
            have := mons_dim (d := d' + 1) (g := k) (by omega) (by omega) x hm
            show 1 + x.length ≤ 100000
            omega
      · rfl
      · rw [List.length_append, List.length_map, List.length_take]
        have l1 := accM_len (d := d') (g := g) (n := k) (by omega) (by omega)
        have l2 := mons_len (d := d' + 1) (g := k) (by omega) (by omega)
        omega
      exists "n"
      refine s_next (s + 1) rfl ?_
      have e : (accM d' g k ++ ((mons (d' + 1) k).take s).map fun r => ((g : Int) - (k : Int)) :: r) ++ [[(g : Int) - (k : Int)] ++ x] = accM d' g k ++ ((mons (d' + 1) k).take (s + 1)).map fun r => ((g : Int) - (k : Int)) :: r := by
        rw [take_snoc hx, List.map_append, List.append_assoc]
        rfl
      rw [e]
      exact .cons (.inr rfl) (.cons (.inr rfl) (.cons (.inr rfl) (.cons (.inr rfl) (.cons (.inl rfl) .nil))))
    · intro s hs
      subst hs
      rw [List.take_length, ← accM_succ]
      exists "n"
      refine s_next (k + 1) rfl ?_
      exact .cons (.inr rfl) (.cons (.inr rfl) (.cons (.inr rfl) (.cons (.inl rfl) (.cons (.inl rfl) .nil))))
  · intro s hs
    subst hs
    exists "n"
    apply s_retOP ⟨rfl, rfl, rfl⟩ rfl q
    · rfl
    · rw [mons_two]
      have e : ((g : Int) + 1).toNat = g + 1 := by omega
      rw [e]

theorem sc_monomials_up_to : GScope ["dimension", "degree", "level"] ["dimension", "degree"] (defScope s_monomials_up_to) := ⟨rfl, rfl, rfl, by decide +kernel, rfl, by decide +kernel, by decide +kernel⟩
set_option maxHeartbeats 4000000 in
theorem ok_monomials_up_to (F : FunD W.K "monomials_up_to" "monomials_up_to" (defArgs s_monomials_up_to) (defBody s_monomials_up_to) (defScope s_monomials_up_to) [] [] f fd)(g : W.mg "monomials_up_to" = some (.ref f))
    (z_range : W.mg "range" = none)
    (h_monomials_of_degree : DefOk W "monomials_of_degree" 4 ["dimension", "degree"] (spMod C_WrongDimension 3))
    (h_check_dimension : DefOk W "check_dimension" 1 ["dimension"] (spP S_cd (R_cd C_WrongDimension))) : DefG W "monomials_up_to" 6 ["dimension", "degree"] (spG S_up (R_up C_WrongDimension)) := by
  obtain ⟨f_monomials_of_degree, fd_monomials_of_degree, G_monomials_of_degree, g_monomials_of_degree, k_monomials_of_degree, b_monomials_of_degree⟩ := h_monomials_of_degree
  obtain ⟨f_check_dimension, fd_check_dimension, G_check_dimension, g_check_dimension, k_check_dimension, b_check_dimension⟩ := h_check_dimension
  refine defG_of F g sc_monomials_up_to (spG_len (n := 2) (fun ds r h => by obtain ⟨_, _, rfl, _⟩ := h; rfl) (fun ds r h => by obtain ⟨_, _, rfl, _⟩ := h; rfl)) (fun _ _ _ _ _ _ us hl => match us, hl with | [_, _], _ => rfl) (fun cdv A outer s H vs Q E pn hr h => ⟨_, (gss_cons (gs_ps (ps_expr (pe_call G_check_dimension (hr.mono (by decide)) rfl g_check_dimension k_check_dimension b_check_dimension .nil (passes_call takes_gcx (fun _ _ _ _ h => h)) (pa_cons (pv 0) pa_nil))))
    (gss_cons (gs_for owns_gcx rfl (pi_range1 (by rfl) z_range (pa_cons (pe_op op_add (pv 1) pe_int) pa_nil)) (pg_name (i := 2) sc_monomials_up_to.nd rfl (Or.inl rfl)) (gss_cons (gs_yieldFromC (yf_list (pe_call G_monomials_of_degree (hr.mono (by decide)) rfl g_monomials_of_degree k_monomials_of_degree b_monomials_of_degree .nil (passes_call takes_gcx (fun _ _ _ _ h => h)) (pa_cons (pv 0) (pa_cons (pv 2) pa_nil)))) rfl)
    gss_nil))
    gss_nil)), ?_⟩)
  refine body_G h fun F ds _ hS => ?_
  rcases hS with ⟨ys, ⟨d, h, rfl, h1, h2, h3, h4, rfl⟩, q⟩ | ⟨c, ⟨d, h, rfl, hd, rfl⟩, q⟩
  rotate_left
  · refine (show OKG _ [_, _, _] [] _ from ?_)
    try dsimp only
    with_reducible apply g_seq
    apply g_bot (c := .ref C_WrongDimension)
    · apply bot_call (ds := [⟨tInt, d⟩])
      · exists "d"
      · exact spP_x ⟨d, rfl, hd, rfl⟩
    · exact fun F' σ H' hh => q F' H' hh.st
  refine (show OKG _ [_, _, _] [] _ from ?_)
  have hd : inD (d : Int) := by unfold inD; omega
  try dsimp only
  with_reducible apply g_seq
  apply g_drop (t := tNon) (x := ())
  · exists "d"
  try dsimp only
  with_reducible apply g_seq
  refine g_forR (m := h + 1) (fun _ => [.val ⟨tInt, (d : Int)⟩, .val ⟨tInt, h⟩, .any]) (fun n => (upM d n).map fun x => ⟨tTupl tInt, x⟩) ?_ (by omega) (by omega) rfl ?_ ?_
  · exists "d"
  · intro n hn
    dsimp only [List.set_cons_zero, List.set_cons_succ]
    try dsimp only
    with_reducible apply g_seq
    apply g_from (ds := (mons d n).map fun x => ⟨tTupl tInt, x⟩)
    · apply dn_callR
      · exists "d"
      · exact ⟨d, n, rfl, h1, h2, h2, by omega, rfl⟩
    · have l1 := upM_len (d := d) (n := n) (by omega) (by omega)
      have l2 := mons_len (d := d) (g := n) (by omega) (by omega)
      rw [List.length_map, List.length_map]
      omega
    apply g_nil
    rw [← List.map_append, ← upM_succ]
    exact g_at (.cons (.inr rfl) (.cons (.inr rfl) (.cons (.inl rfl) .nil)))
  · apply g_nil
    exact g_end ⟨rfl, rfl, rfl⟩ (fun us σ H h => h) q rfl

theorem sc_comes_before : FnScope ["first", "second"] ["first", "second"] (defScope s_comes_before) := ⟨rfl, rfl, rfl, by decide +kernel, rfl, by decide +kernel, by decide +kernel⟩
set_option maxHeartbeats 4000000 in
theorem ok_comes_before (F : FunD W.K "comes_before" "comes_before" (defArgs s_comes_before) (defBody s_comes_before) (defScope s_comes_before) [] [] f fd)(g : W.mg "comes_before" = some (.ref f))
    (z_len : W.mg "len" = none)
    (h_check_dimension : DefOk W "check_dimension" 1 ["dimension"] (spP S_cd (R_cd C_WrongDimension)))
    (h_check_length : DefOk W "check_length" 1 ["entries", "dimension"] (spP S_cl (R_cl C_WrongDimension)))
    (h_standard_key : DefOk W "standard_key" 1 ["exponents"] (spN S_key)) : DefOk W "comes_before" 3 ["first", "second"] (spP (S_cmp ltM) (R_cmp C_WrongDimension)) := by
  obtain ⟨f_check_dimension, fd_check_dimension, G_check_dimension, g_check_dimension, k_check_dimension, b_check_dimension⟩ := h_check_dimension
  obtain ⟨f_check_length, fd_check_length, G_check_length, g_check_length, k_check_length, b_check_length⟩ := h_check_length
  obtain ⟨f_standard_key, fd_standard_key, G_standard_key, g_standard_key, k_standard_key, b_standard_key⟩ := h_standard_key
  refine defOk_of F g sc_comes_before (spP_len (n := 2) (fun ds r h => by obtain ⟨_, _, rfl, _⟩ := h; rfl) (fun ds r h => by obtain ⟨_, _, rfl, _⟩ := h; rfl)) (fun _ _ _ _ _ _ us hl => match us, hl with | [_, _], _ => rfl) (fun cdv A outer s H vs Q E hr h => ⟨_, (pss_cons (ps_expr (pe_call G_check_dimension (hr.mono (by decide)) rfl g_check_dimension k_check_dimension b_check_dimension .nil (passes_call (takes_of rfl rfl rfl rfl) (fun _ _ _ _ h => h)) (pa_cons (pe_callB call_len_seq (by rfl) z_len PySem.boot_len (pa_cons (pv 0) pa_nil)) pa_nil)))
    (pss_cons (ps_expr (pe_call G_check_length (hr.mono (by decide)) rfl g_check_length k_check_length b_check_length .nil (passes_call (takes_of rfl rfl rfl rfl) (fun _ _ _ _ h => h)) (pa_cons (pv 1) (pa_cons (pe_callB call_len_seq (by rfl) z_len PySem.boot_len (pa_cons (pv 0) pa_nil)) pa_nil))))
    (pss_one (ps_ret (pe_cmpR (op_ltL hr.units0) (pe_call G_standard_key (hr.mono (by decide)) rfl g_standard_key k_standard_key b_standard_key .nil passL (pa_cons (pv 0) pa_nil)) (pe_call G_standard_key (hr.mono (by decide)) rfl g_standard_key k_standard_key b_standard_key .nil passL (pa_cons (pv 1) pa_nil)) (nomark _)))))), ?_⟩)
  refine body_P h fun F ds _ hS => ?_
  rcases hS with ⟨r, ⟨xs, ys, rfl, hd, hl, rfl⟩, q⟩ | ⟨c, ⟨xs, ys, rfl, hd | ⟨hd, hl⟩, rfl⟩, q⟩
  rotate_left
  · refine (show OK _ [_, _] _ from ?_)
    exists "n"
    apply s_bot (c := .ref C_WrongDimension)
    · apply bot_call (ds := [⟨tInt, (xs.length : Int)⟩])
      · exists "d"
      · exact spP_x ⟨_, rfl, hd, rfl⟩
    · exact fun F' σ H' hh => q F' H' hh.st
  · refine (show OK _ [_, _] _ from ?_)
    exists "n"
    apply s_drop (t := tNon) (x := ())
    · exists "d"
    exists "n"
    apply s_bot (c := .ref C_WrongDimension)
    · apply bot_call (ds := [⟨tTupl tInt, ys⟩, ⟨tInt, (xs.length : Int)⟩])
      · exists "d"
      · exact spP_x ⟨_, _, rfl, by omega, rfl⟩
    · exact fun F' σ H' hh => q F' H' hh.st
  refine (show OK _ [_, _] _ from ?_)
  exists "n"
  apply s_drop (t := tNon) (x := ())
  · exists "d"
  exists "n"
  apply s_drop (t := tNon) (x := ())
  · exists "d"
  exists "n"
  apply s_retP ⟨rfl, rfl, rfl⟩ rfl q
  
  · apply den_ltL (ns := keyM xs) (ms := keyM ys)
    · apply dn_call
      · exists "d"
      · exact ⟨xs, rfl, by have := hd.2; omega, rfl⟩
    · apply dn_call
      · exists "d"
      · exact ⟨ys, rfl, by have := hd.2; omega, rfl⟩
  · rfl

theorem sc_divides : FnScope ["first", "second", "k"] ["first", "second"] (defScope s_divides) := ⟨rfl, rfl, rfl, by decide +kernel, rfl, by decide +kernel, by decide +kernel⟩
set_option maxHeartbeats 4000000 in
theorem ok_divides (F : FunD W.K "divides" "divides" (defArgs s_divides) (defBody s_divides) (defScope s_divides) [] [] f fd)(g : W.mg "divides" = some (.ref f))
    (z_len : W.mg "len" = none)
    (h_check_dimension : DefOk W "check_dimension" 1 ["dimension"] (spP S_cd (R_cd C_WrongDimension)))
    (h_check_length : DefOk W "check_length" 1 ["entries", "dimension"] (spP S_cl (R_cl C_WrongDimension)))
    (z_range : W.mg "range" = none)
    (z_all : W.mg "all" = none) : DefOk W "divides" 3 ["first", "second"] (spP (S_cmp leM) (R_cmp C_WrongDimension)) := by
  obtain ⟨f_check_dimension, fd_check_dimension, G_check_dimension, g_check_dimension, k_check_dimension, b_check_dimension⟩ := h_check_dimension
  obtain ⟨f_check_length, fd_check_length, G_check_length, g_check_length, k_check_length, b_check_length⟩ := h_check_length
  refine defOk_of F g sc_divides (spP_len (n := 2) (fun ds r h => by obtain ⟨_, _, rfl, _⟩ := h; rfl) (fun ds r h => by obtain ⟨_, _, rfl, _⟩ := h; rfl)) (fun _ _ _ _ _ _ us hl => match us, hl with | [_, _], _ => rfl) (fun cdv A outer s H vs Q E hr h => ⟨_, (pss_cons (ps_expr (pe_call G_check_dimension (hr.mono (by decide)) rfl g_check_dimension k_check_dimension b_check_dimension .nil (passes_call (takes_of rfl rfl rfl rfl) (fun _ _ _ _ h => h)) (pa_cons (pe_callB call_len_seq (by rfl) z_len PySem.boot_len (pa_cons (pv 0) pa_nil)) pa_nil)))
    (pss_cons (ps_expr (pe_call G_check_length (hr.mono (by decide)) rfl g_check_length k_check_length b_check_length .nil (passes_call (takes_of rfl rfl rfl rfl) (fun _ _ _ _ h => h)) (pa_cons (pv 1) (pa_cons (pe_callB call_len_seq (by rfl) z_len PySem.boot_len (pa_cons (pv 0) pa_nil)) pa_nil))))
    (pss_one (ps_ret (pe_callB (cr_all rfl) (by rfl) z_all (by decide +kernel) (pa_cons (pe_lc (own := [("k", 2)]) (g := gName 2) (tt := tYes) rfl sc_divides.nd (pi_range1 (by rfl) z_range (pa_cons (pe_callB call_len_seq (by rfl) z_len PySem.boot_len (pa_cons (pv 0) pa_nil)) pa_nil)) (blkOk_by (N := ["first", "second", "k"]) (sc := defScope s_divides) (by decide +kernel)) (fun _ _ _ _ _ => pg_name (i := 2) sc_divides.nd rfl (Or.inl rfl)) (fun _ _ _ _ _ => pts_nil) (fun _ _ _ _ _ => (pe_cmpR op_le (pe_ix (r := rIxT W.K) ix_tup (pv 0) (pv 2) (fun _ _ => rfl)) (pe_ix (r := rIxT W.K) ix_tup (pv 1) (pv 2) (fun _ _ => rfl)) (nomark _)))) pa_nil)))))), ?_⟩)
  refine body_P h fun F ds _ hS => ?_
  rcases hS with ⟨r, ⟨xs, ys, rfl, hd, hl, rfl⟩, q⟩ | ⟨c, ⟨xs, ys, rfl, hd | ⟨hd, hl⟩, rfl⟩, q⟩
  rotate_left
  · refine (show OK _ [_, _, _] _ from ?_)
    exists "n"
    apply s_bot (c := .ref C_WrongDimension)
    · apply bot_call (ds := [⟨tInt, (xs.length : Int)⟩])
      · exists "d"
      · exact spP_x ⟨_, rfl, hd, rfl⟩
    · exact fun F' σ H' hh => q F' H' hh.st
  · refine (show OK _ [_, _, _] _ from ?_)
    exists "n"
    apply s_drop (t := tNon) (x := ())
    · exists "d"
    exists "n"
    apply s_bot (c := .ref C_WrongDimension)
    · apply bot_call (ds := [⟨tTupl tInt, ys⟩, ⟨tInt, (xs.length : Int)⟩])
      · exists "d"
      · exact spP_x ⟨_, _, rfl, by omega, rfl⟩
    · exact fun F' σ H' hh => q F' H' hh.st
  refine (show OK _ [_, _, _] _ from ?_)
  exists "n"
  apply s_drop (t := tNon) (x := ())
  · exists "d"
  exists "n"
  apply s_drop (t := tNon) (x := ())
  · exists "d"
  exists "n"
  apply s_retP ⟨rfl, rfl, rfl⟩ rfl q
  
  · apply den_all
    apply dn_l
    apply dn_lcR1 (u := tBool) (m := (xs.length : Int)) (fun k => decide (xs.getD k 0 ≤ ys.getD k 0))
    · exists "d"
    · rfl
    · have := hd.2; omega
    · omega
    · intro n hn
      have hn : n < xs.length := by omega
      have e1 : xs[((n : Int)).toNat]? = some (xs.getD n 0) := by
        rw [Int.toNat_natCast, List.getD_eq_getElem?_getD, List.getElem?_eq_getElem hn] <;> rfl
      have e2 : ys[((n : Int)).toNat]? = some (ys.getD n 0) := by
        rw [Int.toNat_natCast, List.getD_eq_getElem?_getD, List.getElem?_eq_getElem (by omega)] <;> rfl
      exists "d"
  · show _ = (⟨tBool, leM xs ys⟩ : Dv)
    rfl

theorem sc_monomial_factorial : FnScope ["exponents", "found", "exponent"] ["exponents"] (defScope s_monomial_factorial) := ⟨rfl, rfl, rfl, by decide +kernel, rfl, by decide +kernel, by decide +kernel⟩
set_option maxHeartbeats 4000000 in
theorem ok_monomial_factorial (F : FunD W.K "monomial_factorial" "monomial_factorial" (defArgs s_monomial_factorial) (defBody s_monomial_factorial) (defScope s_monomial_factorial) [] [] f fd)(g : W.mg "monomial_factorial" = some (.ref f))
    (z_len : W.mg "len" = none)
    (h_check_dimension : DefOk W "check_dimension" 1 ["dimension"] (spP S_cd (R_cd C_WrongDimension)))
    (q_factorial : W.mg "factorial" = some (.builtin "math.factorial")) : DefOk W "monomial_factorial" 3 ["exponents"] (spP S_fac (R_fac C_WrongDimension)) := by
  obtain ⟨f_check_dimension, fd_check_dimension, G_check_dimension, g_check_dimension, k_check_dimension, b_check_dimension⟩ := h_check_dimension
  refine defOk_of F g sc_monomial_factorial (spP_len (n := 1) (fun ds r h => by obtain ⟨_, rfl, _⟩ := h; rfl) (fun ds r h => by obtain ⟨_, rfl, _⟩ := h; rfl)) (fun _ _ _ _ _ _ us hl => match us, hl with | [_], _ => rfl) (fun cdv A outer s H vs Q E hr h => ⟨_, (pss_cons (ps_expr (pe_call G_check_dimension (hr.mono (by decide)) rfl g_check_dimension k_check_dimension b_check_dimension .nil (passes_call (takes_of rfl rfl rfl rfl) (fun _ _ _ _ h => h)) (pa_cons (pe_callB call_len_seq (by rfl) z_len PySem.boot_len (pa_cons (pv 0) pa_nil)) pa_nil)))
    (pss_cons (ps_set (i := 1) sc_monomial_factorial.nd rfl (Or.inl rfl) pe_int)
    (pss_cons (ps_for (passes_of rfl) rfl (pi_tup (pv 0)) (pg_name (i := 2) sc_monomial_factorial.nd rfl (Or.inl rfl)) (pss_one (ps_set (i := 1) sc_monomial_factorial.nd rfl (Or.inl rfl) (pe_op op_mulW (pv 1) (pe_callBfun cr_fac rfl q_factorial (pa_cons (pv 2) pa_nil))))))
    (pss_one (ps_ret (pv 1)))))), ?_⟩)
  refine body_P h fun F ds _ hS => ?_
  rcases hS with ⟨r, ⟨xs, rfl, hd, hx, rfl⟩, q⟩ | ⟨c, ⟨xs, rfl, hd, rfl⟩, q⟩
  rotate_left
  · refine (show OK _ [_, _, _] _ from ?_)
    exists "n"
    apply s_bot (c := .ref C_WrongDimension)
    · apply bot_call (ds := [⟨tInt, (xs.length : Int)⟩])
      · exists "d"
      · exact spP_x ⟨_, rfl, hd, rfl⟩
    · exact fun F' σ H' hh => q F' H' hh.st
  refine (show OK _ [_, _, _] _ from ?_)
  exists "n"
  apply s_drop (t := tNon) (x := ())
  · exists "d"
  exists "set"
  exists "n"
  refine s_forT (t := tInt) (xs := xs) (1 : Int) (fun a => [.val ⟨tTupl tInt, xs⟩, .val ⟨tInt, a⟩, .any]) (fun n a => a = facM (xs.take n)) ?_ rfl (Wk.refl _) ?_ ?_
  · exists "d"
  · intro Z' hZ n x a hx2 ha
    subst ha
    have hm := hx x (List.mem_of_getElem? hx2)
    have hb := facM_bd1 (xs := xs.take n) (by rw [List.length_take]; have := hd.2; omega) (fun y hy => hx y (List.mem_of_mem_take hy))
    have hf := fac_bd hm.1 hm.2
    have hw := mulw_of hb hf
    exists "n"
    apply s_set (t := tInt)
    · apply den_op
      · exists "d"
      · apply den_cb
        · exists "d"
        · exact on_fac hm.1 (by omega)
      · apply op_I
        exact hw
    exists "n"
    refine s_next (facM (xs.take (n + 1))) rfl ?_
    have e : facM (xs.take n) * ((Builtin.Math.factorialNat x.toNat : Nat) : Int) = facM (xs.take (n + 1)) := by
      rw [take_snoc hx2]
      unfold facM
      rw [List.foldl_append] <;> rfl
    rw [e]
    exact .cons (.inr rfl) (.cons (.inr rfl) (.cons (.inl rfl) .nil))
  · intro a ha
    subst ha
    rw [List.take_length]
    exists "n"
    apply s_retP ⟨rfl, rfl, rfl⟩ rfl q
    · exists "d"
    · rfl

theorem sc__law_integer : FnScope ["thing"] ["thing"] (defScope s__law_integer) := ⟨rfl, rfl, rfl, by decide +kernel, rfl, by decide +kernel, by decide +kernel⟩
set_option maxHeartbeats 4000000 in
theorem ok__law_integer (F : FunD W.K "_law_integer" "_law_integer" (defArgs s__law_integer) (defBody s__law_integer) (defScope s__law_integer) [] [] f fd)(g : W.mg "_law_integer" = some (.ref f))
    (z_int : W.mg "int" = none)
    (z_isinstance : W.mg "isinstance" = none)
    (z_bool : W.mg "bool" = none) : DefOk W "_law_integer" 3 ["thing"] (spP S_isint NoR) := by
  refine defOk_of F g sc__law_integer (spP_len (n := 1) (fun ds r h => by obtain ⟨_, rfl, _⟩ := h; rfl) (fun _ _ h => h.elim)) (fun _ _ _ _ _ _ us hl => match us, hl with | [_], _ => rfl) (fun cdv A outer s H vs Q E hr h => ⟨_, (pss_one (ps_ret (pe_and (pe_callB call_isi (by rfl) z_isinstance (by decide +kernel) (pa_cons (pv 0) (pa_cons (pe_bltn (v := .ty "int") (u := .type "int") (by rfl) z_int (by decide +kernel) rfl) pa_nil))) (pe_one (pe_not (pe_callB call_isi (by rfl) z_isinstance (by decide +kernel) (pa_cons (pv 0) (pa_cons (pe_bltn (v := .ty "bool") (u := .type "bool") (by rfl) z_bool (by decide +kernel) rfl) pa_nil)))))))), ?_⟩)
  refine body_P h fun F ds _ hS => ?_
  rcases hS with ⟨r, ⟨i, rfl, rfl⟩, q⟩ | ⟨c, hR, _⟩
  · refine (show OK _ [_] _ from ?_)
    exists "n"
    apply s_retP ⟨rfl, rfl, rfl⟩ rfl q
    · exists "d"
    · rfl
  · exact hR.elim

theorem sc__law_exponents : FnScope ["pool", "dimension", "high", "left", "found", "k", "exponent", "cut"] ["pool", "dimension", "high"] (defScope s__law_exponents) := ⟨rfl, rfl, rfl, by decide +kernel, rfl, by decide +kernel, by decide +kernel⟩
set_option maxHeartbeats 4000000 in
theorem ok__law_exponents (F : FunD W.K "_law_exponents" "_law_exponents" (defArgs s__law_exponents) (defBody s__law_exponents) (defScope s__law_exponents) [] [] f fd)(g : W.mg "_law_exponents" = some (.ref f))
    (z_range : W.mg "range" = none)
    (h__law_take : DefOk W "_law_take" 1 ["pool", "most"] (spM S_take))
    (z_tuple : W.mg "tuple" = none) : DefOk W "_law_exponents" 3 ["pool", "dimension", "high"] (spM S_exps) := by
  obtain ⟨f__law_take, fd__law_take, G__law_take, g__law_take, k__law_take, b__law_take⟩ := h__law_take
  refine defOk_of F g sc__law_exponents (spM_len (n := 2) fun ps ds ps' r ⟨_, _, _, _, e, _⟩ => by rw [e]; rfl) (fun _ _ _ _ _ _ us hl => match us, hl with | [_, _, _], _ => rfl) (fun cdv A outer s H vs Q E hr h => ⟨_, (pss_cons (ps_set (i := 3) sc__law_exponents.nd rfl (Or.inl rfl) (pv 2))
    (pss_cons (ps_set (i := 4) sc__law_exponents.nd rfl (Or.inl rfl) (pe_lst pa_nil))
    (pss_cons (ps_for (passes_of rfl) rfl (pi_range1 (by rfl) z_range (pa_cons (pv 1) pa_nil)) (pg_name (i := 5) sc__law_exponents.nd rfl (Or.inl rfl)) (pss_cons (ps_set (i := 6) sc__law_exponents.nd rfl (Or.inl rfl) (pe_call G__law_take (hr.mono (by decide)) rfl g__law_take k__law_take b__law_take .nil passL (pa_cons (pv 0) (pa_cons (pe_op op_add (pv 3) pe_int) pa_nil))))
    (pss_cons (ps_set (i := 3) sc__law_exponents.nd rfl (Or.inl rfl) (pe_op op_sub (pv 3) (pv 6)))
    (pss_one (ps_expr (pe_bm PySem.F.plainAttrs_list PySem.F.slot_list_append PySem.F.type_list_append mt_append (pv 4) (pa_cons (pv 6) pa_nil)))))))
    (pss_cons (ps_set (i := 7) sc__law_exponents.nd rfl (Or.inl rfl) (pe_call G__law_take (hr.mono (by decide)) rfl g__law_take k__law_take b__law_take .nil passL (pa_cons (pv 0) (pa_cons (pv 1) pa_nil))))
    (pss_one (ps_ret (pe_callTy call_tuple_of (by rfl) z_tuple (by decide +kernel) (pa_cons (pe_op op_cat (pe_slice sl_list (pv 4) (po_some (pv 7)) po_none) (pe_slice sl_list (pv 4) po_none (po_some (pv 7)))) pa_nil)))))))), ?_⟩)
  refine body_M h fun F a ps ds ps' r _ hS q => ?_
  obtain ⟨p, d, h, rfl, rfl, hp, hc, hd1, hd2, hh0, hh1, rfl, rfl⟩ := hS
  refine (show OK _ [_, _, _, _, _, _, _, _] _ from ?_)
  exists "set"
  exists "n"
  apply s_setN (t := tInt) (xs := [])
  · exists "d"
  exists "n"
  apply s_forR (0 : Nat) (fun n => [.own (some a) (pool3 (exL p h n).1), .val ⟨tInt, (d : Int)⟩, .val ⟨tInt, h⟩, .val ⟨tInt, (exL p h n).2.1⟩, .lst tInt (exL p h n).2.2, .any, .any, .any]) (fun k n => k = n)
  · exists "d"
  · omega
  · omega
  · rfl
  · exact Wk.refl _
  · intro k n hk hn
    subst hn
    have i := exL_ok hp hh0 k
    have i1 := i.ok
    have i2 : (exL p h k).1.ct < 1000000000 := by have := i.ct; omega
    have i3 : ((exL p h k).2.1 + 1).natAbs.log2 < 9000 := log_small (by have := i.lo; omega) (by have := i.le; omega)
    exists "set"
    exists "set"
    exists "n"
    apply s_app
    · rfl
    · exists "d"
    · rfl
    · have := i.ln
      omega
    exists "n"
    refine s_next (k + 1) rfl ?_
    exact .cons (.inr rfl) (.cons (.inr rfl) (.cons (.inr rfl) (.cons (.inr rfl) (.cons (.inr rfl) (.cons (.inl rfl) (.cons (.inl rfl) (.cons (.inl rfl) .nil)))))))
  · intro s hs
    subst hs
    have i := exL_ok hp hh0 d
    have i1 := i.ok
    have i2 : (exL p h d).1.ct < 1000000000 := by have := i.ct; omega
    have i3 : ((d : Int)).natAbs.log2 < 9000 := log_small (by omega) (by omega)
    have i4 := i.ln
    have t := take_rg (p := (exL p h d).1) (m := (d : Int))
    rw [Int.toNat_natCast]
    exists "set"
    exists "n"
    apply s_retM ⟨rfl, rfl, rfl⟩ rfl q
    · apply den_tuple
      apply dn_l
      apply dn_cat (t := tInt) (xs := (exL p h d).2.2.drop (cutE p d h).1.toNat) (ys := (exL p h d).2.2.take (cutE p d h).1.toNat)
      · apply den_n
        · apply dn_slice
          · exists "d"
          · exists "d"
          · exists "d"
        · rw [slLo t.1]
          rfl
      · apply den_n
        · apply dn_slice
          · exists "d"
          · exists "d"
          · exists "d"
        · rw [slHi t.1]
          rfl
      · rw [List.length_drop, List.length_take]
        omega
    · rfl
    · rfl

theorem sc__law_of_degree : FnScope ["pool", "dimension", "total", "found", "at"] ["pool", "dimension", "total"] (defScope s__law_of_degree) := ⟨rfl, rfl, rfl, by decide +kernel, rfl, by decide +kernel, by decide +kernel⟩
set_option maxHeartbeats 4000000 in
theorem ok__law_of_degree (F : FunD W.K "_law_of_degree" "_law_of_degree" (defArgs s__law_of_degree) (defBody s__law_of_degree) (defScope s__law_of_degree) [] [] f fd)(g : W.mg "_law_of_degree" = some (.ref f))
    (h__law_exponents : DefOk W "_law_exponents" 3 ["pool", "dimension", "high"] (spM S_exps))
    (z_list : W.mg "list" = none)
    (h__law_take : DefOk W "_law_take" 1 ["pool", "most"] (spM S_take))
    (z_sum : W.mg "sum" = none)
    (z_tuple : W.mg "tuple" = none) : DefOk W "_law_of_degree" 4 ["pool", "dimension", "total"] (spMA P_od S_mon) := by
  obtain ⟨f__law_exponents, fd__law_exponents, G__law_exponents, g__law_exponents, k__law_exponents, b__law_exponents⟩ := h__law_exponents
  obtain ⟨f__law_take, fd__law_take, G__law_take, g__law_take, k__law_take, b__law_take⟩ := h__law_take
  refine defOk_of F g sc__law_of_degree (spMA_len (n := 2) fun g ps ds ⟨_, e, _⟩ => by rw [e]; rfl) (fun _ _ _ _ _ _ us hl => match us, hl with | [_, _, _], _ => rfl) (fun cdv A outer s H vs Q E hr h => ⟨_, (pss_cons (ps_set (i := 3) sc__law_of_degree.nd rfl (Or.inl rfl) (pe_callTy call_list_of (by rfl) z_list (by decide +kernel) (pa_cons (pe_call G__law_exponents (hr.mono (by decide)) rfl g__law_exponents k__law_exponents b__law_exponents .nil passL (pa_cons (pv 0) (pa_cons (pv 1) (pa_cons (pv 2) pa_nil)))) pa_nil)))
    (pss_cons (ps_set (i := 4) sc__law_of_degree.nd rfl (Or.inl rfl) (pe_call G__law_take (hr.mono (by decide)) rfl g__law_take k__law_take b__law_take .nil passL (pa_cons (pv 0) (pa_cons (pv 1) pa_nil))))
    (pss_cons (ps_asg (pe_op op_sub (pe_op op_add (pe_ix ix_list (pv 3) (pv 4) (fun _ _ => rfl)) (pv 2)) (pe_callB (cr_sumQ rfl) (by rfl) z_sum (by decide +kernel) (pa_cons (pv 3) pa_nil))) (pg_sub (pv 3) (pv 4) set_list))
    (pss_one (ps_ret (pe_callTy call_tuple_of (by rfl) z_tuple (by decide +kernel) (pa_cons (pv 3) pa_nil))))))), ?_⟩)
  refine body_MA h fun F a ps ds g _ hS q => ?_
  obtain ⟨p, d, t⟩ := g
  obtain ⟨rfl, rfl, hp, hc, hd1, hd2, hh0, hh1⟩ := hS
  have hp : Pok p := hp
  have hc : p.ct < 800000000 := hc
  have hd1 : 1 ≤ d := hd1
  have hd2 : d ≤ 3 := hd2
  have hh0 : 0 ≤ t := hh0
  have hh1 : t ≤ 16 := hh1
  obtain ⟨e1, e2, e3⟩ := exps_ok (d := d) (h := t) hp hh0
  refine (show OK _ [_, _, _, _, _] _ from ?_)
  exists "n"
  apply s_setN (t := tInt) (xs := (exps p d t).1)
  · exists "d"
  have i2 : (exps p d t).2.ct < 1000000000 := by omega
  have i3 : ((d : Int)).natAbs.log2 < 9000 := log_small (by omega) (by omega)
  have t1 := take_rg (p := (exps p d t).2) (m := (d : Int))
  have t2 := take_ct (p := (exps p d t).2) (m := (d : Int))
  have t3 := t1.2 (by omega)
  have ok2 := take_ok (m := (d : Int)) e1
  exists "set"
  have hl := e3.ln
  obtain ⟨x, hx⟩ : ∃ x, (exps p d t).1[(take (exps p d t).2 (d : Int)).1.toNat]? = some x := ⟨_, List.getElem?_eq_getElem (by omega)⟩
  exists "n"
  apply s_setIx (t := tInt) (x := x + t - (exps p d t).1.sum)
  · exists "d"
  · rfl
  · exists "d"
  · exact t1.1
  · rw [hl]
    omega
  exists "n"
  apply s_retA (X := fun Γ' r => Γ' = [.own (some a) (pool3 (take (exps p d t).2 (d : Int)).2), .val ⟨tInt, (d : Int)⟩, .val ⟨tInt, t⟩, .lst tInt ((exps p d t).1.set (take (exps p d t).2 (d : Int)).1.toNat (x + t - (exps p d t).1.sum)), .val ⟨tInt, (take (exps p d t).2 (d : Int)).1⟩] ∧ r = ⟨tTupl tInt, (exps p d t).1.set (take (exps p d t).2 (d : Int)).1.toNat (x + t - (exps p d t).1.sum)⟩)
  · apply ma_den
    · exists "d"
    · exact ⟨rfl, rfl⟩
  · rintro Γ' r ⟨rfl, rfl⟩ F1 σ1 H1 v1 hh rv
    refine ret_MA ⟨rfl, rfl, rfl⟩ (q _ _ ⟨_, _, rfl, rfl, ok2, ?_, od_mon e3 hx hh1⟩) rfl hh rv
    show (take (exps p d t).2 (d : Int)).2.ct ≤ p.ct + 20
    omega

theorem sc__law_second : FnScope ["pool", "first", "kind", "more", "k", "exponent"] ["pool", "first"] (defScope s__law_second) := ⟨rfl, rfl, rfl, by decide +kernel, rfl, by decide +kernel, by decide +kernel⟩
set_option maxHeartbeats 4000000 in
theorem ok__law_second (F : FunD W.K "_law_second" "_law_second" (defArgs s__law_second) (defBody s__law_second) (defScope s__law_second) [] [] f fd)(g : W.mg "_law_second" = some (.ref f))
    (h__law_take : DefOk W "_law_take" 1 ["pool", "most"] (spM S_take))
    (z_len : W.mg "len" = none)
    (z_sum : W.mg "sum" = none)
    (h__law_of_degree : DefOk W "_law_of_degree" 4 ["pool", "dimension", "total"] (spMA P_od S_mon))
    (h__law_exponents : DefOk W "_law_exponents" 3 ["pool", "dimension", "high"] (spM S_exps))
    (z_range : W.mg "range" = none)
    (z_tuple : W.mg "tuple" = none)
    (z_list : W.mg "list" = none) : DefOk W "_law_second" 5 ["pool", "first"] (spMA P_sec S_mon2) := by
  obtain ⟨f__law_take, fd__law_take, G__law_take, g__law_take, k__law_take, b__law_take⟩ := h__law_take
  obtain ⟨f__law_of_degree, fd__law_of_degree, G__law_of_degree, g__law_of_degree, k__law_of_degree, b__law_of_degree⟩ := h__law_of_degree
  obtain ⟨f__law_exponents, fd__law_exponents, G__law_exponents, g__law_exponents, k__law_exponents, b__law_exponents⟩ := h__law_exponents
  refine defOk_of F g sc__law_second (spMA_len (n := 1) fun g ps ds ⟨_, e, _⟩ => by rw [e]; rfl) (fun _ _ _ _ _ _ us hl => match us, hl with | [_, _], _ => rfl) (fun cdv A outer s H vs Q E hr h => ⟨_, (pss_cons (ps_set (i := 2) sc__law_second.nd rfl (Or.inl rfl) (pe_call G__law_take (hr.mono (by decide)) rfl g__law_take k__law_take b__law_take .nil passL (pa_cons (pv 0) (pa_cons pe_int pa_nil))))
    (pss_cons (ps_if (pt_cmpR op_lt (pv 2) pe_int (nomark _)) (pss_one (ps_ret (pe_call G__law_of_degree (hr.mono (by decide)) rfl g__law_of_degree k__law_of_degree b__law_of_degree .nil passL (pa_cons (pv 0) (pa_cons (pe_callB call_len_seq (by rfl) z_len PySem.boot_len (pa_cons (pv 1) pa_nil)) (pa_cons (pe_callB (cr_sumQ rfl) (by rfl) z_sum (by decide +kernel) (pa_cons (pv 1) pa_nil)) pa_nil)))))) pss_nil)
    (pss_cons (ps_if (pt_cmpR op_lt (pv 2) pe_int (nomark _)) (pss_cons (ps_set (i := 3) sc__law_second.nd rfl (Or.inr rfl) (pe_call G__law_exponents (hr.mono (by decide)) rfl g__law_exponents k__law_exponents b__law_exponents .nil passL (pa_cons (pv 0) (pa_cons (pe_callB call_len_seq (by rfl) z_len PySem.boot_len (pa_cons (pv 1) pa_nil)) (pa_cons (pe_op op_sub pe_int (pe_callB (cr_sumQ rfl) (by rfl) z_sum (by decide +kernel) (pa_cons (pv 1) pa_nil))) pa_nil)))))
    (pss_one (ps_ret (pe_callTy call_tuple_of (by rfl) z_tuple (by decide +kernel) (pa_cons (pe_lc (own := [("k", 4)]) (g := gName 4) (tt := tYes) rfl sc__law_second.nd (pi_range1 (by rfl) z_range (pa_cons (pe_callB call_len_seq (by rfl) z_len PySem.boot_len (pa_cons (pv 1) pa_nil)) pa_nil)) (blkOk_by (N := ["pool", "first", "kind", "more", "k", "exponent"]) (sc := defScope s__law_second) (by decide +kernel)) (fun _ _ _ _ _ => pg_name (i := 4) sc__law_second.nd rfl (Or.inl rfl)) (fun _ _ _ _ _ => pts_nil) (fun _ _ _ _ _ => (pe_op op_add (pe_ix (r := rIxT W.K) ix_tup (pv 1) (pv 4) (fun _ _ => rfl)) (pe_ix (r := rIxT W.K) ix_tup (pv 3) (pv 4) (fun _ _ => rfl))))) pa_nil))))) pss_nil)
    (pss_cons (ps_if (pt_cmpR op_eq (pv 2) pe_int (nomark _)) (pss_one (ps_ret (pe_callTy call_tuple_of (by rfl) z_tuple (by decide +kernel) (pa_cons (pe_callTy call_list_of (by rfl) z_list (by decide +kernel) (pa_cons (pv 1) pa_nil)) pa_nil)))) pss_nil)
    (pss_cons (ps_if (pt_cmpR op_eq (pv 2) pe_int (nomark _)) (pss_one (ps_ret (pe_callTy call_tuple_of (by rfl) z_tuple (by decide +kernel) (pa_cons (pe_lc (own := [("exponent", 5)]) (g := gName 5) (tt := tYes) rfl sc__law_second.nd (pi_tup (pv 1)) (blkOk_by (N := ["pool", "first", "kind", "more", "k", "exponent"]) (sc := defScope s__law_second) (by decide +kernel)) (fun _ _ _ _ _ => pg_name (i := 5) sc__law_second.nd rfl (Or.inl rfl)) (fun _ _ _ _ _ => pts_nil) (fun _ _ _ _ _ => (pe_call G__law_take (hr.mono (by decide)) rfl g__law_take k__law_take b__law_take .nil passL (pa_cons (pv 0) (pa_cons (pe_op op_add (pv 5) pe_int) pa_nil))))) pa_nil)))) pss_nil)
    (pss_one (ps_ret (pe_call G__law_exponents (hr.mono (by decide)) rfl g__law_exponents k__law_exponents b__law_exponents .nil passL (pa_cons (pv 0) (pa_cons (pe_callB call_len_seq (by rfl) z_len PySem.boot_len (pa_cons (pv 1) pa_nil)) (pa_cons pe_int pa_nil))))))))))), ?_⟩)
  refine body_MA h fun F a ps ds g _ hS q => ?_
  obtain ⟨p, xs⟩ := g
  obtain ⟨rfl, rfl, hp, hc, hd1, hd2, hm⟩ := hS
  have hp : Pok p := hp
  have hc : p.ct < 700000000 := hc
  have hd1 : 1 ≤ xs.length := hd1
  have hd2 : xs.length ≤ 3 := hd2
  have hm : Mon xs.length 16 xs := hm
  have hs0 := hm.s0
  have hs1 := hm.le
  refine (show OK _ [_, _, _, _, _, _] _ from ?_)
  have t1 := take_rg (p := p) (m := 12)
  have t2 := take_ct (p := p) (m := 12)
  have o1 := take_ok (m := 12) hp
  have c0 : p.ct < 1000000000 := by omega
  exists "let"
  intro kind hk
  generalize (take p 12).2 = p1 at *
  have c1 : p1.ct < 800000000 := by omega
  have c2 : p1.ct < 900000000 := by omega
  exists "if"
  · intro _
    exists "n"
    refine s_retA (den_callMA (p1, xs.length, xs.sum) rfl ?_ ⟨rfl, rfl, o1, c1, hd1, hd2, hs0, hs1⟩) ?_
    · exists "d"
    · rintro Γ' r ⟨ps', ⟨p', ys, rfl, rfl, h1, h2, h3⟩, rfl⟩ F1 σ1 H1 v1 hh rv
      have h2 : p'.ct ≤ p1.ct + 20 := h2
      exact ret_MA ⟨rfl, rfl, rfl⟩ (q _ _ ⟨_, _, rfl, rfl, h1, by show p'.ct ≤ p.ct + 40; omega, h3⟩) rfl hh rv
  intro _
  exists "if"
  · intro _
    have hb : 0 ≤ 16 - xs.sum := by omega
    have hb2 : 16 - xs.sum ≤ 16 := by omega
    obtain ⟨e1, e2, e3⟩ := exps_ok (d := xs.length) (h := 16 - xs.sum) o1 hb
    exists "set"
    generalize exps p1 xs.length (16 - xs.sum) = ex at *
    obtain ⟨ms, p2⟩ := ex
    have e1 : Pok p2 := e1
    have e2 : p2.ct ≤ p1.ct + xs.length + 1 := e2
    have e3 : Mon xs.length (16 - xs.sum) ms := e3
    exists "n"
    apply s_retA (X := fun Γ' r => Γ' = [.own (some a) (pool3 p2), .val ⟨tTupl tInt, xs⟩, .val ⟨tInt, kind⟩, .val ⟨tTupl tInt, ms⟩, .any, .any] ∧ r = ⟨tTupl tInt, addM xs ms⟩)
    · apply ma_den
      · apply den_tuple (xs := addM xs ms)
        apply dn_l
        apply dn_lcR1 (u := tInt) (m := (xs.length : Int)) (fun k => xs.getD k 0 + ms.getD k 0)
        · exists "d"
        · rfl
        · omega
        · omega
        · intro n hn
          have hn : n < xs.length := by omega
          have hn2 : n < ms.length := by rw [e3.ln]; exact hn
          have e1 : xs[((n : Int)).toNat]? = some (xs.getD n 0) := by
            rw [Int.toNat_natCast, List.getD_eq_getElem?_getD, List.getElem?_eq_getElem hn] <;> rfl
          have e2 : ms[((n : Int)).toNat]? = some (ms.getD n 0) := by
            rw [Int.toNat_natCast, List.getD_eq_getElem?_getD, List.getElem?_eq_getElem hn2] <;> rfl
          exists "d"
      · exact ⟨rfl, rfl⟩
    · rintro Γ' r ⟨rfl, rfl⟩ F1 σ1 H1 v1 hh rv
      have hh2 := (addM_mon hm e3).mono (t := 16) (by omega)
      exact ret_MA ⟨rfl, rfl, rfl⟩ (q _ _ ⟨_, _, rfl, rfl, e1, by show p2.ct ≤ p.ct + 40; omega, hh2⟩) rfl hh rv
  intro _
  exists "if"
  · intro _
    exists "n"
    apply s_retA (X := fun Γ' r => Γ' = [.own (some a) (pool3 p1), .val ⟨tTupl tInt, xs⟩, .val ⟨tInt, kind⟩, .any, .any, .any] ∧ r = ⟨tTupl tInt, xs⟩)
    · apply ma_den
      · exists "d"
      · exact ⟨rfl, rfl⟩
    · rintro Γ' r ⟨rfl, rfl⟩ F1 σ1 H1 v1 hh rv
      exact ret_MA ⟨rfl, rfl, rfl⟩ (q _ _ ⟨_, _, rfl, rfl, o1, by show p1.ct ≤ p.ct + 40; omega, hm⟩) rfl hh rv
  intro _
  exists "if"
  · intro _
    exists "n"
    apply s_retA (X := fun Γ' r => Γ' = [.own (some a) (pool3 (drL p1 xs xs.length).1), .val ⟨tTupl tInt, xs⟩, .val ⟨tInt, kind⟩, .any, .any, .any] ∧ r = ⟨tTupl tInt, (drL p1 xs xs.length).2⟩)
    · apply ma_den
      · apply den_tuple (xs := (drL p1 xs xs.length).2)
        apply dn_l
        apply dn_lcT (t := tInt) (u := tInt) (xs := xs) (fun n => [.own (some a) (pool3 (drL p1 xs n).1), .val ⟨tTupl tInt, xs⟩, .val ⟨tInt, kind⟩, .any, .any, .any]) (fun n => (drL p1 xs n).2)
        · exact den_var rfl
        · intro n
          rfl
        · omega
        · rfl
        · intro n x hx
          have hn : n < xs.length := (List.getElem?_eq_some_iff.mp hx).1
          have ex : xs.getD n 0 = x := by
            rw [List.getD_eq_getElem?_getD, hx] <;> rfl
          obtain ⟨d1, d2, _⟩ := drL_ok o1 hm.nn n (by omega)
          have d3 : (drL p1 xs n).1.ct < 1000000000 := by omega
          have hx1 := hm.en x (List.mem_of_getElem? hx)
          have d4 : (x + 1).natAbs.log2 < 9000 := log_small (by omega) (by omega)
          refine ⟨true, _, dt_yes, fun _ => ⟨(take (drL p1 xs n).1 (x + 1)).1, ?_, ?_⟩, fun z => nomatch z⟩
          · refine den_callM (oa := some a) (ps := pool3 (drL p1 xs n).1) (ps' := pool3 (take (drL p1 xs n).1 (x + 1)).2) (ds := [⟨tInt, x + 1⟩]) rfl ?_ ⟨_, _, rfl, rfl, d1, d3, d4, rfl, rfl⟩ ?_
            · dsimp only [List.set_cons_zero, List.set_cons_succ]
              exists "d"
            · show _ = [Slot.own (some a) (pool3 (take (drL p1 xs n).1 (xs.getD n 0 + 1)).2), _, _, _, _, _]
              rw [ex]
              rfl
          · show (drL p1 xs n).2 ++ [(take (drL p1 xs n).1 (xs.getD n 0 + 1)).1] = _
            rw [ex]
      · exact ⟨rfl, rfl⟩
    · rintro Γ' r ⟨rfl, rfl⟩ F1 σ1 H1 v1 hh rv
      obtain ⟨d1, d2, d3, d4, d5⟩ := drL_ok o1 hm.nn xs.length (Nat.le_refl _)
      rw [List.take_length] at d5
      exact ret_MA ⟨rfl, rfl, rfl⟩ (q _ _ ⟨_, _, rfl, rfl, d1, by show (drL p1 xs xs.length).1.ct ≤ p.ct + 40; omega, ⟨d3, d4, by omega⟩⟩) rfl hh rv
  intro _
  obtain ⟨e1, e2, e3⟩ := exps_ok (d := xs.length) (h := 16) o1 (by decide)
  exists "n"
  apply s_retA (X := fun Γ' r => Γ' = [.own (some a) (pool3 (exps p1 xs.length 16).2), .val ⟨tTupl tInt, xs⟩, .val ⟨tInt, kind⟩, .any, .any, .any] ∧ r = ⟨tTupl tInt, (exps p1 xs.length 16).1⟩)
  · apply ma_den
    · exists "d"
    · exact ⟨rfl, rfl⟩
  · rintro Γ' r ⟨rfl, rfl⟩ F1 σ1 H1 v1 hh rv
    exact ret_MA ⟨rfl, rfl, rfl⟩ (q _ _ ⟨_, _, rfl, rfl, e1, by show (exps p1 xs.length 16).2.ct ≤ p.ct + 40; omega, e3⟩) rfl hh rv

theorem sc__law_before : FnScope ["first", "second", "k"] ["first", "second"] (defScope s__law_before) := ⟨rfl, rfl, rfl, by decide +kernel, rfl, by decide +kernel, by decide +kernel⟩
set_option maxHeartbeats 4000000 in
theorem ok__law_before (F : FunD W.K "_law_before" "_law_before" (defArgs s__law_before) (defBody s__law_before) (defScope s__law_before) [] [] f fd)(g : W.mg "_law_before" = some (.ref f))
    (z_sum : W.mg "sum" = none)
    (z_len : W.mg "len" = none)
    (z_range : W.mg "range" = none) : DefOk W "_law_before" 1 ["first", "second"] (spP (S_pairB befM) NoR) := by
  refine defOk_of F g sc__law_before (spP_len (n := 2) (fun ds r h => by obtain ⟨_, _, rfl, _⟩ := h; rfl) (fun _ _ h => h.elim)) (fun _ _ _ _ _ _ us hl => match us, hl with | [_, _], _ => rfl) (fun cdv A outer s H vs Q E hr h => ⟨_, (pss_cons (ps_if (pt_cmpR op_ne (pe_callB (cr_sumQ rfl) (by rfl) z_sum (by decide +kernel) (pa_cons (pv 0) pa_nil)) (pe_callB (cr_sumQ rfl) (by rfl) z_sum (by decide +kernel) (pa_cons (pv 1) pa_nil)) (nomark _)) (pss_one (ps_ret (pe_cmpR op_lt (pe_callB (cr_sumQ rfl) (by rfl) z_sum (by decide +kernel) (pa_cons (pv 0) pa_nil)) (pe_callB (cr_sumQ rfl) (by rfl) z_sum (by decide +kernel) (pa_cons (pv 1) pa_nil)) (nomark _)))) pss_nil)
    (pss_cons (ps_for (passes_of rfl) rfl (pi_range1 (by rfl) z_range (pa_cons (pe_callB call_len_seq (by rfl) z_len PySem.boot_len (pa_cons (pv 0) pa_nil)) pa_nil)) (pg_name (i := 2) sc__law_before.nd rfl (Or.inl rfl)) (pss_one (ps_if (pt_cmpR op_ne (pe_ix ix_tup (pv 0) (pv 2) (fun _ _ => rfl)) (pe_ix ix_tup (pv 1) (pv 2) (fun _ _ => rfl)) (nomark _)) (pss_one (ps_ret (pe_cmpR op_gt (pe_ix ix_tup (pv 0) (pv 2) (fun _ _ => rfl)) (pe_ix ix_tup (pv 1) (pv 2) (fun _ _ => rfl)) (nomark _)))) pss_nil)))
    (pss_one (ps_ret pe_bl)))), ?_⟩)
  refine body_P h fun F ds _ hS => ?_
  rcases hS with ⟨r, ⟨xs, ys, rfl, hl, hb, rfl⟩, q⟩ | ⟨c, hR, _⟩
  rotate_left
  · exact hR.elim
  refine (show OK _ [_, _, _] _ from ?_)
  exists "if"
  · intro hc
    have hc : xs.sum ≠ ys.sum := by simpa using hc
    have e : befM xs ys = decide (xs.sum < ys.sum) := if_pos hc
    rw [e] at q
    exists "n"
    apply s_retP ⟨rfl, rfl, rfl⟩ rfl q
    · exists "d"
    · rfl
  intro hc
  have hc : ¬ (xs.sum ≠ ys.sum) := by simpa using hc
  have e : befM xs ys = befL xs ys := if_neg hc
  rw [e] at q
  exists "n"
  apply s_forR () (fun _ => [.val ⟨tTupl tInt, xs⟩, .val ⟨tTupl tInt, ys⟩, .any]) (fun k _ => befL xs ys = befL (xs.drop k) (ys.drop k))
  · exists "d"
  · omega
  · omega
  · rfl
  · exact Wk.refl _
  · intro k s hk hs
    have hk : k < xs.length := by omega
    have hk2 : k < ys.length := by omega
    have e1 : xs[((k : Int)).toNat]? = some xs[k] := by rw [Int.toNat_natCast]; exact List.getElem?_eq_getElem hk
    have e2 : ys[((k : Int)).toNat]? = some ys[k] := by rw [Int.toNat_natCast]; exact List.getElem?_eq_getElem hk2
    rw [List.drop_eq_getElem_cons hk, List.drop_eq_getElem_cons hk2] at hs
    exists "if"
    · intro hc
      have hc : xs[k] ≠ ys[k] := by simpa using hc
      have e : befL xs ys = decide (xs[k] > ys[k]) := by rw [hs]; exact if_pos hc
      rw [e] at q
      exists "n"
      apply s_retP ⟨rfl, rfl, rfl⟩ rfl q
      · exists "d"
      · rfl
    · intro hc
      have hc : ¬ (xs[k] ≠ ys[k]) := by simpa using hc
      exists "n"
      refine s_next () ?_ (.cons (.inr rfl) (.cons (.inr rfl) (.cons (.inl rfl) .nil)))
      rw [hs]
      exact if_neg hc
  · intro s hs
    rw [Int.toNat_natCast, List.drop_length, List.drop_eq_nil_of_le (by omega)] at hs
    have e : befL xs ys = false := hs
    rw [e] at q
    exists "n"
    apply s_retP ⟨rfl, rfl, rfl⟩ rfl q
    · exists "d"
    · rfl

theorem sc__law_within : FnScope ["first", "second", "k"] ["first", "second"] (defScope s__law_within) := ⟨rfl, rfl, rfl, by decide +kernel, rfl, by decide +kernel, by decide +kernel⟩
set_option maxHeartbeats 4000000 in
theorem ok__law_within (F : FunD W.K "_law_within" "_law_within" (defArgs s__law_within) (defBody s__law_within) (defScope s__law_within) [] [] f fd)(g : W.mg "_law_within" = some (.ref f))
    (z_len : W.mg "len" = none)
    (z_range : W.mg "range" = none) : DefOk W "_law_within" 1 ["first", "second"] (spP (S_pairB leL) NoR) := by
  refine defOk_of F g sc__law_within (spP_len (n := 2) (fun ds r h => by obtain ⟨_, _, rfl, _⟩ := h; rfl) (fun _ _ h => h.elim)) (fun _ _ _ _ _ _ us hl => match us, hl with | [_, _], _ => rfl) (fun cdv A outer s H vs Q E hr h => ⟨_, (pss_cons (ps_for (passes_of rfl) rfl (pi_range1 (by rfl) z_range (pa_cons (pe_callB call_len_seq (by rfl) z_len PySem.boot_len (pa_cons (pv 0) pa_nil)) pa_nil)) (pg_name (i := 2) sc__law_within.nd rfl (Or.inl rfl)) (pss_one (ps_if (pt_cmpR op_gt (pe_ix ix_tup (pv 0) (pv 2) (fun _ _ => rfl)) (pe_ix ix_tup (pv 1) (pv 2) (fun _ _ => rfl)) (nomark _)) (pss_one (ps_ret pe_bl)) pss_nil)))
    (pss_one (ps_ret pe_bl))), ?_⟩)
  refine body_P h fun F ds _ hS => ?_
  rcases hS with ⟨r, ⟨xs, ys, rfl, hl, hb, rfl⟩, q⟩ | ⟨c, hR, _⟩
  rotate_left
  · exact hR.elim
  refine (show OK _ [_, _, _] _ from ?_)
  exists "n"
  apply s_forR () (fun _ => [.val ⟨tTupl tInt, xs⟩, .val ⟨tTupl tInt, ys⟩, .any]) (fun k _ => leL xs ys = leL (xs.drop k) (ys.drop k))
  · exists "d"
  · omega
  · omega
  · rfl
  · exact Wk.refl _
  · intro k s hk hs
    have hk : k < xs.length := by omega
    have hk2 : k < ys.length := by omega
    have e1 : xs[((k : Int)).toNat]? = some xs[k] := by rw [Int.toNat_natCast]; exact List.getElem?_eq_getElem hk
    have e2 : ys[((k : Int)).toNat]? = some ys[k] := by rw [Int.toNat_natCast]; exact List.getElem?_eq_getElem hk2
    rw [List.drop_eq_getElem_cons hk, List.drop_eq_getElem_cons hk2] at hs
    exists "if"
    · intro hc
      have hc : xs[k] > ys[k] := of_decide_eq_true hc
      have e : leL xs ys = false := by rw [hs]; exact if_pos hc
      rw [e] at q
      exists "n"
      apply s_retP ⟨rfl, rfl, rfl⟩ rfl q
      · exists "d"
      · rfl
    · intro hc
      have hc : ¬ (xs[k] > ys[k]) := of_decide_eq_false hc
      exists "n"
      refine s_next () ?_ (.cons (.inr rfl) (.cons (.inr rfl) (.cons (.inl rfl) .nil)))
      rw [hs]
      exact if_neg hc
  · intro s hs
    rw [Int.toNat_natCast, List.drop_length, List.drop_eq_nil_of_le (by omega)] at hs
    have e : leL xs ys = true := hs
    rw [e] at q
    exists "n"
    apply s_retP ⟨rfl, rfl, rfl⟩ rfl q
    · exists "d"
    · rfl

theorem sc__law_factors : FnScope ["exponents", "found", "exponent", "k"] ["exponents"] (defScope s__law_factors) := ⟨rfl, rfl, rfl, by decide +kernel, rfl, by decide +kernel, by decide +kernel⟩
set_option maxHeartbeats 4000000 in
theorem ok__law_factors (F : FunD W.K "_law_factors" "_law_factors" (defArgs s__law_factors) (defBody s__law_factors) (defScope s__law_factors) [] [] f fd)(g : W.mg "_law_factors" = some (.ref f))
    (z_range : W.mg "range" = none) : DefOk W "_law_factors" 1 ["exponents"] (spP S_facs NoR) := by
  refine defOk_of F g sc__law_factors (spP_len (n := 1) (fun ds r h => by obtain ⟨_, rfl, _⟩ := h; rfl) (fun _ _ h => h.elim)) (fun _ _ _ _ _ _ us hl => match us, hl with | [_], _ => rfl) (fun cdv A outer s H vs Q E hr h => ⟨_, (pss_cons (ps_set (i := 1) sc__law_factors.nd rfl (Or.inl rfl) pe_int)
    (pss_cons (ps_for (passes_of rfl) rfl (pi_tup (pv 0)) (pg_name (i := 2) sc__law_factors.nd rfl (Or.inl rfl)) (pss_one (ps_for (passes_of rfl) rfl (pi_range1 (by rfl) z_range (pa_cons (pv 2) pa_nil)) (pg_name (i := 3) sc__law_factors.nd rfl (Or.inl rfl)) (pss_one (ps_set (i := 1) sc__law_factors.nd rfl (Or.inl rfl) (pe_op op_mulW (pv 1) (pe_op op_add (pv 3) pe_int)))))))
    (pss_one (ps_ret (pv 1))))), ?_⟩)
  refine body_P h fun F ds _ hS => ?_
  rcases hS with ⟨r, ⟨xs, rfl, hl, hx, rfl⟩, q⟩ | ⟨c, hR, _⟩
  rotate_left
  · exact hR.elim
  refine (show OK _ [_, _, _, _] _ from ?_)
  exists "set"
  exists "n"
  refine s_forT (t := tInt) (xs := xs) (1 : Int) (fun a => [.val ⟨tTupl tInt, xs⟩, .val ⟨tInt, a⟩, .any, .any]) (fun n a => a = facM (xs.take n)) ?_ rfl (Wk.refl _) ?_ ?_
  · exists "d"
  · intro Z' hZ n x a hx2 ha
    subst ha
    have hm := hx x (List.mem_of_getElem? hx2)
    have hb := facM_bd (xs := xs.take n) (by rw [List.length_take]; omega) (fun y hy => hx y (List.mem_of_mem_take hy))
    have e : facM (xs.take n) * ((Builtin.Math.factorialNat x.toNat : Nat) : Int) = facM (xs.take (n + 1)) := by
      rw [take_snoc hx2]
      unfold facM
      rw [List.foldl_append] <;> rfl
    generalize facM (xs.take n) = A0 at *
    exists "n"
    apply s_forR (0 : Nat) (fun k => [.val ⟨tTupl tInt, xs⟩, .val ⟨tInt, A0 * ((Builtin.Math.factorialNat k : Nat) : Int)⟩, .val ⟨tInt, x⟩, .any]) (fun i k => i = k)
    · exists "d"
    · omega
    · omega
    · rfl
    · show Wk _ [_, .val ⟨tInt, A0 * 1⟩, _, _]
      rw [Int.mul_one]
      exact Wk.refl _
    · intro k s hk hs
      subst hs
      have hw : CMulW (A0 * ((Builtin.Math.factorialNat k : Nat) : Int)) ((k : Int) + 1) := mulw_of (facA hb (by omega)) (by
        have : ((k : Int) + 1).natAbs ≤ 17 := by omega
        exact Nat.lt_of_le_of_lt this (by decide))
      exists "n"
      apply s_set (t := tInt)
      · apply den_op
        · exists "d"
        · exists "d"
        · apply op_I
          exact hw
      exists "n"
      refine s_next (k + 1) rfl ?_
      have e : A0 * ((Builtin.Math.factorialNat k : Nat) : Int) * ((k : Int) + 1) = A0 * ((Builtin.Math.factorialNat (k + 1) : Nat) : Int) := by
        rw [PySem.W.mc_fac_succ, Int.mul_assoc]
        simp
      rw [e]
      exact .cons (.inr rfl) (.cons (.inr rfl) (.cons (.inr rfl) (.cons (.inl rfl) .nil)))
    · intro s hs
      subst hs
      exists "n"
      refine s_next (facM (xs.take (n + 1))) rfl ?_
      rw [e]
      exact .cons (.inr rfl) (.cons (.inr rfl) (.cons (.inl rfl) (.cons (.inl rfl) .nil)))
  · intro a ha
    subst ha
    rw [List.take_length]
    exists "n"
    apply s_retP ⟨rfl, rfl, rfl⟩ rfl q
    · exists "d"
    · rfl

theorem sc__law_many : FnScope ["dimension", "high"] ["dimension", "high"] (defScope s__law_many) := ⟨rfl, rfl, rfl, by decide +kernel, rfl, by decide +kernel, by decide +kernel⟩
set_option maxHeartbeats 4000000 in
theorem ok__law_many (F : FunD W.K "_law_many" "_law_many" (defArgs s__law_many) (defBody s__law_many) (defScope s__law_many) [] [] f fd)(g : W.mg "_law_many" = some (.ref f))
     : DefOk W "_law_many" 1 ["dimension", "high"] (spP S_many NoR) := by
  refine defOk_of F g sc__law_many (spP_len (n := 2) (fun ds r h => by obtain ⟨_, _, rfl, _⟩ := h; rfl) (fun _ _ h => h.elim)) (fun _ _ _ _ _ _ us hl => match us, hl with | [_, _], _ => rfl) (fun cdv A outer s H vs Q E hr h => ⟨_, (pss_cons (ps_if (pt_cmpR op_eq (pv 0) pe_int (nomark _)) (pss_one (ps_ret (pe_op op_add (pv 1) pe_int))) pss_nil)
    (pss_cons (ps_if (pt_cmpR op_eq (pv 0) pe_int (nomark _)) (pss_one (ps_ret (pe_op op_fdivX (pe_op op_mulW (pe_op op_add (pv 1) pe_int) (pe_op op_add (pv 1) pe_int)) pe_int))) pss_nil)
    (pss_one (ps_ret (pe_op op_fdivX (pe_op op_mulW (pe_op op_mulW (pe_op op_add (pv 1) pe_int) (pe_op op_add (pv 1) pe_int)) (pe_op op_add (pv 1) pe_int)) pe_int))))), ?_⟩)
  refine body_P h fun F ds _ hS => ?_
  rcases hS with ⟨r, ⟨d, h, rfl, hd1, hd2, h3, h4, rfl⟩, q⟩ | ⟨c, hR, _⟩
  rotate_left
  · exact hR.elim
  obtain ⟨b1, b2⟩ := many_bd h3 h4
  refine (show OK _ [_, _] _ from ?_)
  exists "if"
  · intro hc
    have hc := of_decide_eq_true hc
    have e : manyM d h = h + 1 := if_pos (by omega)
    rw [e] at q
    exists "n"
    apply s_retP ⟨rfl, rfl, rfl⟩ rfl q
    · exists "d"
    · rfl
  intro hc
  have hc := of_decide_eq_false hc
  exists "if"
  · intro hc2
    have hc2 := of_decide_eq_true hc2
    have e : manyM d h = ((h + 1) * (h + 2)).fdiv 2 := (if_neg (by omega)).trans (if_pos (by omega))
    rw [e] at q
    exists "n"
    apply s_retP ⟨rfl, rfl, rfl⟩ rfl q
    · exists "d"
    · rfl
  intro hc2
  have hc2 := of_decide_eq_false hc2
  have e : manyM d h = ((h + 1) * (h + 2) * (h + 3)).fdiv 6 := (if_neg (by omega)).trans (if_neg (by omega))
  rw [e] at q
  exists "n"
  apply s_retP ⟨rfl, rfl, rfl⟩ rfl q
  · exists "d"
  · rfl

theorem sc__law_listed : FnScope ["told", "dimension", "low", "high", "many", "before", "exponents", "exponent"] ["told", "dimension", "low", "high", "many"] (defScope s__law_listed) := ⟨rfl, rfl, rfl, by decide +kernel, rfl, by decide +kernel, by decide +kernel⟩
set_option maxHeartbeats 4000000 in
theorem ok__law_listed (F : FunD W.K "_law_listed" "_law_listed" (defArgs s__law_listed) (defBody s__law_listed) (defScope s__law_listed) [] [] f fd)(g : W.mg "_law_listed" = some (.ref f))
    (z_list : W.mg "list" = none)
    (z_isinstance : W.mg "isinstance" = none)
    (z_len : W.mg "len" = none)
    (z_tuple : W.mg "tuple" = none)
    (h__law_integer : DefOk W "_law_integer" 3 ["thing"] (spP S_isint NoR))
    (z_sum : W.mg "sum" = none)
    (h__law_before : DefOk W "_law_before" 1 ["first", "second"] (spP (S_pairB befM) NoR)) : DefOk W "_law_listed" 6 ["told", "dimension", "low", "high", "many"] (spP S_listed NoR) := by
  obtain ⟨f__law_integer, fd__law_integer, G__law_integer, g__law_integer, k__law_integer, b__law_integer⟩ := h__law_integer
  obtain ⟨f__law_before, fd__law_before, G__law_before, g__law_before, k__law_before, b__law_before⟩ := h__law_before
  refine defOk_of F g sc__law_listed (spP_len (n := 5) (fun ds r h => by obtain ⟨_, _, _, _, _, rfl, _⟩ := h; rfl) (fun _ _ h => h.elim)) (fun _ _ _ _ _ _ us hl => match us, hl with | [_, _, _, _, _], _ => rfl) (fun cdv A outer s H vs Q E hr h => ⟨_, (pss_cons (ps_if (PW.pt (pw_or (pt_not (pt_val (pe_callB call_isi (by rfl) z_isinstance (by decide +kernel) (pa_cons (pv 0) (pa_cons (pe_bltn (v := .ty "list") (u := .type "list") (by rfl) z_list (by decide +kernel) rfl) pa_nil))))) (pw_or1 (pt_cmpR op_ne (pe_callB call_len_seq (by rfl) z_len PySem.boot_len (pa_cons (pv 0) pa_nil)) (pv 4) (nomark _))))) (pss_one (ps_ret pe_bl)) pss_nil)
    (pss_cons (ps_set (i := 5) sc__law_listed.nd rfl (Or.inl rfl) pe_non)
    (pss_cons (ps_for (passes_of rfl) rfl (pi_list (pv 0)) (pg_name (i := 6) sc__law_listed.nd rfl (Or.inl rfl)) (pss_cons (ps_if (PW.pt (pw_or (pt_not (pt_val (pe_callB call_isi (by rfl) z_isinstance (by decide +kernel) (pa_cons (pv 6) (pa_cons (pe_bltn (v := .ty "tuple") (u := .type "tuple") (by rfl) z_tuple (by decide +kernel) rfl) pa_nil))))) (pw_or1 (pt_cmpR op_ne (pe_callB call_len_seq (by rfl) z_len PySem.boot_len (pa_cons (pv 6) pa_nil)) (pv 1) (nomark _))))) (pss_one (ps_ret pe_bl)) pss_nil)
    (pss_cons (ps_for (passes_of rfl) rfl (pi_tup (pv 6)) (pg_name (i := 7) sc__law_listed.nd rfl (Or.inl rfl)) (pss_one (ps_if (PW.pt (pw_or (pt_not (pt_val (pe_call G__law_integer (hr.mono (by decide)) rfl g__law_integer k__law_integer b__law_integer .nil passL (pa_cons (pv 7) pa_nil)))) (pw_or1 (pt_cmpR op_lt (pv 7) pe_int (nomark _))))) (pss_one (ps_ret pe_bl)) pss_nil)))
    (pss_cons (ps_if (PW.pt (pw_or (pt_cmpR op_lt (pe_callB (cr_sumQ rfl) (by rfl) z_sum (by decide +kernel) (pa_cons (pv 6) pa_nil)) (pv 2) (nomark _)) (pw_or1 (pt_cmpR op_gt (pe_callB (cr_sumQ rfl) (by rfl) z_sum (by decide +kernel) (pa_cons (pv 6) pa_nil)) (pv 3) (nomark _))))) (pss_one (ps_ret pe_bl)) pss_nil)
    (pss_cons (ps_if (PW.pt (pw_and (pt_cmp (pc_notN (pv 5)) rfl) (pw_and1 (pt_not (pt_val (pe_call G__law_before (hr.mono (by decide)) rfl g__law_before k__law_before b__law_before .nil passL (pa_cons (pv 5) (pa_cons (pv 6) pa_nil)))))))) (pss_one (ps_ret pe_bl)) pss_nil)
    (pss_one (ps_set (i := 5) sc__law_listed.nd rfl (Or.inl rfl) (pv 6))))))))
    (pss_one (ps_ret pe_bl))))), ?_⟩)
  refine body_P h fun F ds _ hS => ?_
  rcases hS with ⟨r, ⟨ts, d, lo, hi, many, rfl, hb, rfl, hl, hd, rfl⟩, q⟩ | ⟨c, hR, _⟩
  rotate_left
  · exact hR.elim
  obtain ⟨ha, hc⟩ := Bool.and_eq_true_iff.mp hb
  refine (show OK _ [_, _, _, _, _, _, _, _] _ from ?_)
  exists "if"
  · intro hc
    simp at hc
  intro _
  exists "set"
  exists "n"
  apply s_forF (t := tTupl tInt) (xs := ts) (none : Option (List Int)) (fun s => [.val ⟨tList (tTupl tInt), ts⟩, .val ⟨tInt, (d : Int)⟩, .val ⟨tInt, lo⟩, .val ⟨tInt, hi⟩, .val ⟨tInt, (ts.length : Int)⟩, befS s, .any, .any]) (fun n s => s = (match n with | 0 => none | k + 1 => ts[k]?))
  · exists "d"
  · rfl
  · exact Wk.refl _
  · intro Z' hZ n x s hx hs
    have hm := List.all_eq_true.mp ha x (List.mem_of_getElem? hx)
    obtain ⟨hm, h4⟩ := Bool.and_eq_true_iff.mp hm
    obtain ⟨hm, h3⟩ := Bool.and_eq_true_iff.mp hm
    obtain ⟨h1, h2⟩ := Bool.and_eq_true_iff.mp hm
    have h1 := of_decide_eq_true h1
    have h2 := List.all_eq_true.mp h2
    have h3 := of_decide_eq_true h3
    have h4 := of_decide_eq_true h4
    exists "if"
    · intro hc
      simp [h1] at hc
    intro _
    exists "n"
    apply s_forT (t := tInt) (xs := x) () (fun _ => [.val ⟨tList (tTupl tInt), ts⟩, .val ⟨tInt, (d : Int)⟩, .val ⟨tInt, lo⟩, .val ⟨tInt, hi⟩, .val ⟨tInt, (ts.length : Int)⟩, befS s, .val ⟨tTupl tInt, x⟩, .any]) (fun _ _ => True)
    · exists "d"
    · trivial
    · exact Wk.refl _
    · intro Z2 hZ2 i e _ he _
      have h5 := of_decide_eq_true (h2 e (List.mem_of_getElem? he))
      exists "if"
      · intro hc
        simp at hc
        omega
      intro _
      exists "n"
      refine s_next () trivial ?_
      exact .cons (.inr rfl) (.cons (.inr rfl) (.cons (.inr rfl) (.cons (.inr rfl) (.cons (.inr rfl) (.cons (.inr rfl) (.cons (.inr rfl) (.cons (.inl rfl) .nil)))))))
    · intro _ _
      exists "if"
      · intro hc
        simp at hc
        omega
      intro _
      cases n with
      | zero =>
        subst hs
        exists "n"
        apply s_if (b := false)
        · apply dt_and (a := false) (b := true)
          · apply dt_B
            apply den_notNN
            exact den_var rfl
          · intro z
            cases z
        · intro z
          cases z
        intro _
        exists "set"
        exists "n"
        refine s_next (some x) hx.symm ?_
        exact .cons (.inr rfl) (.cons (.inr rfl) (.cons (.inr rfl) (.cons (.inr rfl) (.cons (.inr rfl) (.cons (.inr rfl) (.cons (.inl rfl) (.cons (.inl rfl) .nil)))))))
      | succ k =>
        obtain ⟨y, hy⟩ : ∃ y, ts[k]? = some y := ⟨_, List.getElem?_eq_getElem (by have := (List.getElem?_eq_some_iff.mp hx).1; omega)⟩
        have hs : s = some y := hs.trans hy
        subst hs
        have hbf := chain_at hc hy hx
        have hm2 := List.all_eq_true.mp ha y (List.mem_of_getElem? hy)
        obtain ⟨hm2, _⟩ := Bool.and_eq_true_iff.mp hm2
        obtain ⟨hm2, _⟩ := Bool.and_eq_true_iff.mp hm2
        obtain ⟨g1, _⟩ := Bool.and_eq_true_iff.mp hm2
        have g1 := of_decide_eq_true g1
        have g2 : x.length = y.length := by omega
        have g3 : y.length ≤ 100 := by omega
        exists "n"
        apply s_if (b := false)
        · apply dt_is
          · apply dt_and (a := true) (b := !(befM y x))
            · apply dt_B
              apply den_notN
              · exact den_var rfl
              · exact nn_tup
            · intro _
              exists "d"
          · rw [hbf]
            rfl
        · intro z
          cases z
        intro _
        exists "set"
        exists "n"
        refine s_next (some x) hx.symm ?_
        exact .cons (.inr rfl) (.cons (.inr rfl) (.cons (.inr rfl) (.cons (.inr rfl) (.cons (.inr rfl) (.cons (.inr rfl) (.cons (.inl rfl) (.cons (.inl rfl) .nil)))))))
  · intro s hs
    exists "n"
    apply s_retP ⟨rfl, rfl, rfl⟩ rfl q
    · exists "d"
    · rfl

theorem sc__law_idle : FnScope ["dimension", "high", "idle", "e", "pair"] ["dimension", "high"] (defScope s__law_idle) := ⟨rfl, rfl, rfl, by decide +kernel, rfl, by decide +kernel, by decide +kernel⟩
set_option maxHeartbeats 4000000 in
theorem ok__law_idle (F : FunD W.K "_law_idle" "_law_idle" (defArgs s__law_idle) (defBody s__law_idle) (defScope s__law_idle) [] [] f fd)(g : W.mg "_law_idle" = some (.ref f))
    (xc_SpotError : ExcOk W "SpotError" C_SpotError)
    (h_monomials_up_to : DefG W "monomials_up_to" 6 ["dimension", "degree"] (spG S_up (R_up C_WrongDimension)))
    (z_zip : W.mg "zip" = none)
    (z_ValueError : W.mg "ValueError" = none)
    (z_isinstance : W.mg "isinstance" = none)
    (XE_ : ExcC W.K C_WrongDimension) : DefOk W "_law_idle" 10 ["dimension", "high"] (spP S_idle NoR) := by
  obtain ⟨f_monomials_up_to, fd_monomials_up_to, G_monomials_up_to, g_monomials_up_to, k_monomials_up_to, b_monomials_up_to⟩ := h_monomials_up_to
  refine defOk_of F g sc__law_idle (spP_len (n := 2) (fun ds r h => by obtain ⟨_, _, rfl, _⟩ := h; rfl) (fun _ _ h => h.elim)) (fun _ _ _ _ _ _ us hl => match us, hl with | [_, _], _ => rfl) (fun cdv A outer s H vs Q E hr h => ⟨_, (pss_cons (ps_set (i := 2) sc__law_idle.nd rfl (Or.inl rfl) pe_bl)
    (pss_cons (ps_try_as (i := 3) rfl rfl sc__law_idle.nd rfl rfl ⟨rfl, by decide, .inl xc_SpotError.g⟩ takes0 (fun W_ pn xe tk po_ => (pss_one (ps_set (i := 2) sc__law_idle.nd rfl (Or.inl rfl) (pe_cmpR (r := rEqD W.K) (op_eqD hr.units) (pe_lc (own := [("pair", 4)]) (g := gName 4) (tt := tYes) rfl sc__law_idle.nd (show PI _ _ _ (iZg W.K _ _ _ _) from pi_zg (by rfl) z_zip (pe_lst pa_nil) G_monomials_up_to (hr.mono (by decide)) (by rfl) g_monomials_up_to k_monomials_up_to b_monomials_up_to .nil (pa_cons (pv 0) (pa_cons (pv 1) pa_nil))) (blkOk_by (N := ["dimension", "high", "idle", "e", "pair"]) (sc := defScope s__law_idle) (by decide +kernel)) (fun _ _ _ _ _ => pg_name (i := 4) sc__law_idle.nd rfl (Or.inl rfl)) (fun _ _ _ _ _ => pts_nil) (fun _ _ _ _ _ => (pv 4))) (pe_lst pa_nil) (nomark _))))) (fun a oe cls d pn hz hf => pss_if (P := cls = .ref C_WrongDimension ∧ d = none) (fun hP => (pss_one (ps_set (i := 2) sc__law_idle.nd rfl (Or.inl rfl) (pe_not (pe_callB (call_isE XE_ (zc_of hP hz) hf) (by rfl) z_isinstance (by decide +kernel) (pa_cons (pv 3) (pa_cons (pe_bltn (v := .ty "ValueError") (u := .type "ValueError") (by rfl) z_ValueError (by decide +kernel) rfl) pa_nil)))))))))
    (pss_one (ps_ret (pv 2))))), ?_⟩)
  refine body_P h fun F ds _ hS => ?_
  rcases hS with ⟨r, ⟨d, h, rfl, hd, rfl⟩, q⟩ | ⟨c, hR, _⟩
  rotate_left
  · exact hR.elim
  refine (show OK _ [_, _, _, _, _] _ from ?_)
  exists "set"
  exists "n"
  apply s_set (t := tBool) (x := true)
  · apply den_eqNil
    · apply dn_lcZ
      · exact dn_lst da_nil (Nat.zero_le _)
      · exists "d"
      · exact .inr ⟨_, _, _, rfl, hd, rfl⟩
    · exact dn_lst da_nil (Nat.zero_le _)
  exists "n"
  apply s_retP ⟨rfl, rfl, rfl⟩ rfl q
  · exists "d"
  · rfl

theorem sc__law_lists : FnScope ["dimension", "high", "many", "told", "exponent"] ["dimension", "high"] (defScope s__law_lists) := ⟨rfl, rfl, rfl, by decide +kernel, rfl, by decide +kernel, by decide +kernel⟩
set_option maxHeartbeats 4000000 in
theorem ok__law_lists (F : FunD W.K "_law_lists" "_law_lists" (defArgs s__law_lists) (defBody s__law_lists) (defScope s__law_lists) [] [] f fd)(g : W.mg "_law_lists" = some (.ref f))
    (h_monomials_up_to : DefG W "monomials_up_to" 6 ["dimension", "degree"] (spG S_up (R_up C_WrongDimension)))
    (z_list : W.mg "list" = none)
    (h__law_many : DefOk W "_law_many" 1 ["dimension", "high"] (spP S_many NoR))
    (h__law_listed : DefOk W "_law_listed" 6 ["told", "dimension", "low", "high", "many"] (spP S_listed NoR))
    (h_monomials_of_degree : DefOk W "monomials_of_degree" 4 ["dimension", "degree"] (spMod C_WrongDimension 3))
    (z_tuple : W.mg "tuple" = none) : DefOk W "_law_lists" 11 ["dimension", "high"] (spP S_lists NoR) := by
  obtain ⟨f_monomials_up_to, fd_monomials_up_to, G_monomials_up_to, g_monomials_up_to, k_monomials_up_to, b_monomials_up_to⟩ := h_monomials_up_to
  obtain ⟨f__law_many, fd__law_many, G__law_many, g__law_many, k__law_many, b__law_many⟩ := h__law_many
  obtain ⟨f__law_listed, fd__law_listed, G__law_listed, g__law_listed, k__law_listed, b__law_listed⟩ := h__law_listed
  obtain ⟨f_monomials_of_degree, fd_monomials_of_degree, G_monomials_of_degree, g_monomials_of_degree, k_monomials_of_degree, b_monomials_of_degree⟩ := h_monomials_of_degree
  refine defOk_of F g sc__law_lists (spP_len (n := 2) (fun ds r h => by obtain ⟨_, _, rfl, _⟩ := h; rfl) (fun _ _ h => h.elim)) (fun _ _ _ _ _ _ us hl => match us, hl with | [_, _], _ => rfl) (fun cdv A outer s H vs Q E hr h => ⟨_, (pss_cons (ps_if (pt_not (pt_val (pe_call G__law_listed (hr.mono (by decide)) rfl g__law_listed k__law_listed b__law_listed .nil passL (pa_cons (pe_listGA (E := (fun _ _ _ _ => False)) (fun E_ => pgen_call (E := E_) G_monomials_up_to (hr.mono (by decide)) (by rfl) g_monomials_up_to k_monomials_up_to b_monomials_up_to .nil (pa_cons (pv 0) (pa_cons (pv 1) pa_nil))) (fun σ => passes_no σ) (fun σ => nostop_no σ) (hr.mono (by decide)) (by rfl) z_list (by rfl)) (pa_cons (pv 0) (pa_cons pe_int (pa_cons (pv 1) (pa_cons (pe_call G__law_many (hr.mono (by decide)) rfl g__law_many k__law_many b__law_many .nil passL (pa_cons (pv 0) (pa_cons (pv 1) pa_nil))) pa_nil)))))))) (pss_one (ps_ret pe_bl)) pss_nil)
    (pss_cons (ps_if (pt_cmpR op_lt (pv 1) pe_int (nomark _)) (pss_one (ps_ret pe_bl)) pss_nil)
    (pss_cons (ps_set (i := 2) sc__law_lists.nd rfl (Or.inl rfl) (pe_op op_sub (pe_call G__law_many (hr.mono (by decide)) rfl g__law_many k__law_many b__law_many .nil passL (pa_cons (pv 0) (pa_cons (pv 1) pa_nil))) (pe_call G__law_many (hr.mono (by decide)) rfl g__law_many k__law_many b__law_many .nil passL (pa_cons (pv 0) (pa_cons (pe_op op_sub (pv 1) pe_int) pa_nil)))))
    (pss_cons (ps_set (i := 3) sc__law_lists.nd rfl (Or.inl rfl) (pe_call G_monomials_of_degree (hr.mono (by decide)) rfl g_monomials_of_degree k_monomials_of_degree b_monomials_of_degree .nil (passes_call (takes_of rfl rfl rfl rfl) (fun _ _ _ _ h => h)) (pa_cons (pv 0) (pa_cons (pv 1) pa_nil))))
    (pss_cons (ps_if (pt_not (pt_val (pe_call G__law_listed (hr.mono (by decide)) rfl g__law_listed k__law_listed b__law_listed .nil passL (pa_cons (pv 3) (pa_cons (pv 0) (pa_cons (pv 1) (pa_cons (pv 1) (pa_cons (pv 2) pa_nil)))))))) (pss_one (ps_ret pe_bl)) pss_nil)
    (pss_cons (ps_asg (pe_callTy call_tuple_of (by rfl) z_tuple (by decide +kernel) (pa_cons (pe_lc (own := [("exponent", 4)]) (g := gName 4) (tt := tYes) rfl sc__law_lists.nd (pi_tup (pe_ix ix_list (pv 3) pe_int (fun _ _ => rfl))) (blkOk_by (N := ["dimension", "high", "many", "told", "exponent"]) (sc := defScope s__law_lists) (by decide +kernel)) (fun _ _ _ _ _ => pg_name (i := 4) sc__law_lists.nd rfl (Or.inl rfl)) (fun _ _ _ _ _ => pts_nil) (fun _ _ _ _ _ => (pe_op op_add (pv 4) pe_int))) pa_nil)) (pg_sub (pv 3) pe_int set_list))
    (pss_cons (ps_expr (pe_bm PySem.F.plainAttrs_list PySem.F.slot_list_append PySem.F.type_list_append mt_append (pv 3) (pa_cons (pe_ix ix_list (pv 3) pe_int (fun _ _ => rfl)) pa_nil)))
    (pss_one (ps_ret (pe_call G__law_listed (hr.mono (by decide)) rfl g__law_listed k__law_listed b__law_listed .nil passL (pa_cons (pe_call G_monomials_of_degree (hr.mono (by decide)) rfl g_monomials_of_degree k_monomials_of_degree b_monomials_of_degree .nil (passes_call (takes_of rfl rfl rfl rfl) (fun _ _ _ _ h => h)) (pa_cons (pv 0) (pa_cons (pv 1) pa_nil))) (pa_cons (pv 0) (pa_cons (pv 1) (pa_cons (pv 1) (pa_cons (pv 2) pa_nil))))))))))))))), ?_⟩)
  refine body_P h fun F ds _ hS => ?_
  rcases hS with ⟨r, ⟨d, h, rfl, hd1, hd2, h3, h4, rfl⟩, q⟩ | ⟨c, hR, _⟩
  rotate_left
  · exact hR.elim
  obtain ⟨u1, u2⟩ := up_all hd1 hd2 h3 h4
  have u3 := upM_len (d := d) (n := (h + 1).toNat) hd2 (by omega)
  refine (show OK _ [_, _, _, _, _] _ from ?_)
  exists "n"
  apply s_if (b := false)
  · apply dt_is
    · apply dt_not
      apply dt_test
      apply den_call (w := tBool) (z := true)
      · apply da_cons (t := tList (tTupl tInt)) (x := upM d (h + 1).toNat)
        · apply den_n
          · apply dn_listG
            · exists "d"
            · exact ⟨d, h, rfl, hd1, hd2, h3, h4, rfl⟩
          · rfl
        · exists "d"
      · exact spP_v ⟨upM d (h + 1).toNat, d, 0, h, manyM d h, rfl, u1, u2, u3, hd2, rfl⟩
    · rfl
  · intro z
    cases z
  intro _
  exists "if"
  · intro _
    exists "n"
    apply s_retP ⟨rfl, rfl, rfl⟩ rfl q
    · exists "d"
    · rfl
  intro hc
  have hc := of_decide_eq_false hc
  obtain ⟨g, rfl⟩ : ∃ g : Nat, h = (g : Int) := ⟨h.toNat, by omega⟩
  obtain ⟨v1, v2, v3⟩ := deg_all (d := d) (g := g) hd1 hd2 (by omega)
  have v4 := mons_len (d := d) (g := g) hd2 (by omega)
  have v5 : (mons d g).length ≤ 5000 := by omega
  exists "n"
  apply s_set (t := tInt) (x := manyM d (g : Int) - manyM d ((g : Int) - 1))
  · exists "d"
  exists "n"
  apply s_setN (t := tTupl tInt) (xs := mons d g)
  · apply dn_callR
    · exists "d"
    · exact ⟨d, g, rfl, hd1, hd2, hd2, by omega, rfl⟩
  exists "n"
  apply s_if (b := false)
  · apply dt_is
    · apply dt_not
      apply dt_test
      apply den_callBr (t := tTupl tInt) (xs := mons d g) (w := tBool) (z := true)
      · rfl
      · exists "d"
      · rfl
      · exact spP_v ⟨mons d g, d, _, _, _, rfl, v1, v2, v5, hd2, rfl⟩
      · exact flat_bool
    · rfl
  · intro z
    cases z
  intro _
  obtain ⟨x0, hx0⟩ : ∃ x, (mons d g)[(0 : Int).toNat]? = some x := ⟨_, List.getElem?_eq_getElem v3⟩
  have l0 := mons_dim hd2 (g := g) (by omega) x0 (List.mem_of_getElem? hx0)
  exists "n"
  apply s_setIx (t := tTupl tInt) (x := x0.map fun e => e + 1)
  · apply den_tuple
    apply dn_l
    apply dn_lcT1 (t := tInt) (u := tInt) (xs := x0) (fun e => e + 1)
    · exists "d"
    · rfl
    · omega
    · intro n x hx
      exists "d"
  · rfl
  · exists "d"
  · decide
  · exact v3
  have hx1 : ((mons d g).set (0 : Int).toNat (x0.map fun e => e + 1))[(0 : Int).toNat]? = some (x0.map fun e => e + 1) := List.getElem?_set_self v3
  exists "n"
  apply s_app
  · rfl
  · exists "d"
  · rfl
  · rw [List.length_set]
    omega
  exists "n"
  apply s_retP ⟨rfl, rfl, rfl⟩ rfl q
  · apply den_call (w := tBool) (z := true)
    · apply da_cons (t := tList (tTupl tInt)) (x := mons d g)
      · apply den_n
        · apply dn_callR
          · exists "d"
          · exact ⟨d, g, rfl, hd1, hd2, hd2, by omega, rfl⟩
        · rfl
      · exists "d"
    · exact spP_v ⟨mons d g, d, _, _, _, rfl, v1, v2, v5, hd2, rfl⟩
  · rfl

theorem sc__law_says : FnScope ["told", "due"] ["told", "due"] (defScope s__law_says) := ⟨rfl, rfl, rfl, by decide +kernel, rfl, by decide +kernel, by decide +kernel⟩
set_option maxHeartbeats 4000000 in
theorem ok__law_says (F : FunD W.K "_law_says" "_law_says" (defArgs s__law_says) (defBody s__law_says) (defScope s__law_says) [] [] f fd)(g : W.mg "_law_says" = some (.ref f))
    (z_bool : W.mg "bool" = none)
    (z_isinstance : W.mg "isinstance" = none) : DefOk W "_law_says" 3 ["told", "due"] (spP S_says NoR) := by
  refine defOk_of F g sc__law_says (spP_len (n := 2) (fun ds r h => by obtain ⟨_, _, rfl, _⟩ := h; rfl) (fun _ _ h => h.elim)) (fun _ _ _ _ _ _ us hl => match us, hl with | [_, _], _ => rfl) (fun cdv A outer s H vs Q E hr h => ⟨_, (pss_one (ps_ret (pe_and (pe_callB call_isi (by rfl) z_isinstance (by decide +kernel) (pa_cons (pv 0) (pa_cons (pe_bltn (v := .ty "bool") (u := .type "bool") (by rfl) z_bool (by decide +kernel) rfl) pa_nil))) (pe_one (pe_cmpR op_eq (pv 0) (pv 1) (nomark _)))))), ?_⟩)
  refine body_P h fun F ds _ hS => ?_
  rcases hS with ⟨r, ⟨b, c, rfl, rfl, rfl⟩, q⟩ | ⟨c, hR, _⟩
  rotate_left
  · exact hR.elim
  refine (show OK _ [_, _] _ from ?_)
  exists "n"
  apply s_retP ⟨rfl, rfl, rfl⟩ rfl q
  · exists "d"
  · simp

theorem sc__law_relations : FnScope ["first", "second", "pair", "told"] ["first", "second"] (defScope s__law_relations) := ⟨rfl, rfl, rfl, by decide +kernel, rfl, by decide +kernel, by decide +kernel⟩
set_option maxHeartbeats 4000000 in
theorem ok__law_relations (F : FunD W.K "_law_relations" "_law_relations" (defArgs s__law_relations) (defBody s__law_relations) (defScope s__law_relations) [] [] f fd)(g : W.mg "_law_relations" = some (.ref f))
    (h_comes_before : DefOk W "comes_before" 3 ["first", "second"] (spP (S_cmp ltM) (R_cmp C_WrongDimension)))
    (h__law_before : DefOk W "_law_before" 1 ["first", "second"] (spP (S_pairB befM) NoR))
    (h__law_says : DefOk W "_law_says" 3 ["told", "due"] (spP S_says NoR))
    (h_divides : DefOk W "divides" 3 ["first", "second"] (spP (S_cmp leM) (R_cmp C_WrongDimension)))
    (h__law_within : DefOk W "_law_within" 1 ["first", "second"] (spP (S_pairB leL) NoR))
    (h_monomial_factorial : DefOk W "monomial_factorial" 3 ["exponents"] (spP S_fac (R_fac C_WrongDimension)))
    (h__law_integer : DefOk W "_law_integer" 3 ["thing"] (spP S_isint NoR))
    (h__law_factors : DefOk W "_law_factors" 1 ["exponents"] (spP S_facs NoR)) : DefOk W "_law_relations" 6 ["first", "second"] (spP S_rel NoR) := by
  obtain ⟨f_comes_before, fd_comes_before, G_comes_before, g_comes_before, k_comes_before, b_comes_before⟩ := h_comes_before
  obtain ⟨f__law_before, fd__law_before, G__law_before, g__law_before, k__law_before, b__law_before⟩ := h__law_before
  obtain ⟨f__law_says, fd__law_says, G__law_says, g__law_says, k__law_says, b__law_says⟩ := h__law_says
  obtain ⟨f_divides, fd_divides, G_divides, g_divides, k_divides, b_divides⟩ := h_divides
  obtain ⟨f__law_within, fd__law_within, G__law_within, g__law_within, k__law_within, b__law_within⟩ := h__law_within
  obtain ⟨f_monomial_factorial, fd_monomial_factorial, G_monomial_factorial, g_monomial_factorial, k_monomial_factorial, b_monomial_factorial⟩ := h_monomial_factorial
  obtain ⟨f__law_integer, fd__law_integer, G__law_integer, g__law_integer, k__law_integer, b__law_integer⟩ := h__law_integer
  obtain ⟨f__law_factors, fd__law_factors, G__law_factors, g__law_factors, k__law_factors, b__law_factors⟩ := h__law_factors
  refine defOk_of F g sc__law_relations (spP_len (n := 2) (fun ds r h => by obtain ⟨_, _, _, rfl, _⟩ := h; rfl) (fun _ _ h => h.elim)) (fun _ _ _ _ _ _ us hl => match us, hl with | [_, _], _ => rfl) (fun cdv A outer s H vs Q E hr h => ⟨_, (pss_cons (ps_for (passes_of rfl) rfl (pi_list (pe_lst (pa_cons (pe_tup (pa_cons (pv 0) (pa_cons (pv 1) pa_nil))) (pa_cons (pe_tup (pa_cons (pv 1) (pa_cons (pv 0) pa_nil))) (pa_cons (pe_tup (pa_cons (pv 0) (pa_cons (pv 0) pa_nil))) (pa_cons (pe_tup (pa_cons (pv 1) (pa_cons (pv 1) pa_nil))) pa_nil)))))) (pg_name (i := 2) sc__law_relations.nd rfl (Or.inl rfl)) (pss_cons (ps_if (pt_not (pt_val (pe_call G__law_says (hr.mono (by decide)) rfl g__law_says k__law_says b__law_says .nil passL (pa_cons (pe_call G_comes_before (hr.mono (by decide)) rfl g_comes_before k_comes_before b_comes_before .nil (passes_call (takes_of rfl rfl rfl rfl) (fun _ _ _ _ h => h)) (pa_cons (pe_ix ix_tup (pv 2) pe_int (fun _ _ => rfl)) (pa_cons (pe_ix ix_tup (pv 2) pe_int (fun _ _ => rfl)) pa_nil))) (pa_cons (pe_call G__law_before (hr.mono (by decide)) rfl g__law_before k__law_before b__law_before .nil passL (pa_cons (pe_ix ix_tup (pv 2) pe_int (fun _ _ => rfl)) (pa_cons (pe_ix ix_tup (pv 2) pe_int (fun _ _ => rfl)) pa_nil))) pa_nil))))) (pss_one (ps_ret pe_bl)) pss_nil)
    (pss_cons (ps_if (pt_not (pt_val (pe_call G__law_says (hr.mono (by decide)) rfl g__law_says k__law_says b__law_says .nil passL (pa_cons (pe_call G_divides (hr.mono (by decide)) rfl g_divides k_divides b_divides .nil (passes_call (takes_of rfl rfl rfl rfl) (fun _ _ _ _ h => h)) (pa_cons (pe_ix ix_tup (pv 2) pe_int (fun _ _ => rfl)) (pa_cons (pe_ix ix_tup (pv 2) pe_int (fun _ _ => rfl)) pa_nil))) (pa_cons (pe_call G__law_within (hr.mono (by decide)) rfl g__law_within k__law_within b__law_within .nil passL (pa_cons (pe_ix ix_tup (pv 2) pe_int (fun _ _ => rfl)) (pa_cons (pe_ix ix_tup (pv 2) pe_int (fun _ _ => rfl)) pa_nil))) pa_nil))))) (pss_one (ps_ret pe_bl)) pss_nil)
    (pss_cons (ps_set (i := 3) sc__law_relations.nd rfl (Or.inl rfl) (pe_call G_monomial_factorial (hr.mono (by decide)) rfl g_monomial_factorial k_monomial_factorial b_monomial_factorial .nil (passes_call (takes_of rfl rfl rfl rfl) (fun _ _ _ _ h => h)) (pa_cons (pe_ix ix_tup (pv 2) pe_int (fun _ _ => rfl)) pa_nil)))
    (pss_one (ps_if (PW.pt (pw_or (pt_not (pt_val (pe_call G__law_integer (hr.mono (by decide)) rfl g__law_integer k__law_integer b__law_integer .nil passL (pa_cons (pv 3) pa_nil)))) (pw_or1 (pt_cmpR op_ne (pv 3) (pe_call G__law_factors (hr.mono (by decide)) rfl g__law_factors k__law_factors b__law_factors .nil passL (pa_cons (pe_ix ix_tup (pv 2) pe_int (fun _ _ => rfl)) pa_nil)) (nomark _))))) (pss_one (ps_ret pe_bl)) pss_nil))))))
    (pss_one (ps_ret pe_bl))), ?_⟩)
  refine body_P h fun F ds _ hS => ?_
  rcases hS with ⟨r, ⟨xs, ys, d, rfl, m1, m2, hd1, hd2, rfl⟩, q⟩ | ⟨c, hR, _⟩
  rotate_left
  · exact hR.elim
  refine (show OK _ [_, _, _, _] _ from ?_)
  exists "n"
  apply s_forC (t := tPair (tTupl tInt) (tTupl tInt)) (xs := [(xs, ys), (ys, xs), (xs, xs), (ys, ys)])
  · apply den_n
    · apply dn_lst4 (t := tPair (tTupl tInt) (tTupl tInt))
      · exists "d"
      · exists "d"
      · exists "d"
      · exists "d"
    · rfl
  · rfl
  · intro Z' hZ n z hz
    have hz := List.mem_of_getElem? hz
    obtain ⟨u, v⟩ := z
    have mm : Mon d 16 u ∧ Mon d 16 v := by
      simp only [List.mem_cons, Prod.mk.injEq, List.not_mem_nil, or_false] at hz
      rcases hz with ⟨rfl, rfl⟩ | ⟨rfl, rfl⟩ | ⟨rfl, rfl⟩ | ⟨rfl, rfl⟩
      · exact ⟨m1, m2⟩
      · exact ⟨m2, m1⟩
      · exact ⟨m1, m1⟩
      · exact ⟨m2, m2⟩
    obtain ⟨mu, mv⟩ := mm
    have hl : v.length = u.length := by rw [mu.ln, mv.ln]
    have lu : u.length ≤ 3 := by rw [mu.ln]; exact hd2
    have lu2 : u.length ≤ 100 := by omega
    have iu : inD (u.length : Int) := by have := mu.ln; unfold inD; omega
    have eu := mu.en
    have e1 := ltM_bef hl
    have e2 := leM_le hl
    exists "n"
    apply s_if (b := false)
    · apply dt_is
      · apply dt_not
        apply dt_test
        apply den_call (w := tBool) (z := true)
        · exists "d"
        · exact spP_v ⟨_, _, rfl, e1, rfl⟩
      · rfl
    · intro z
      cases z
    intro _
    exists "n"
    apply s_if (b := false)
    · apply dt_is
      · apply dt_not
        apply dt_test
        apply den_call (w := tBool) (z := true)
        · exists "d"
        · exact spP_v ⟨_, _, rfl, e2, rfl⟩
      · rfl
    · intro z
      cases z
    intro _
    exists "set"
    exists "if"
    · intro hc
      simp at hc
    intro _
    exists "n"
    exact s_next () trivial (.cons (.inr rfl) (.cons (.inr rfl) (.cons (.inl rfl) (.cons (.inl rfl) .nil))))
  exists "n"
  apply s_retP ⟨rfl, rfl, rfl⟩ rfl q
  · exists "d"
  · rfl

theorem sc__law_refused : FnScope ["kind", "first", "second", "dimension", "high", "flags", "e", "others"] ["kind", "first", "second", "dimension", "high"] (defScope s__law_refused) := ⟨rfl, rfl, rfl, by decide +kernel, rfl, by decide +kernel, by decide +kernel⟩
set_option maxHeartbeats 4000000 in
theorem ok__law_refused (F : FunD W.K "_law_refused" "_law_refused" (defArgs s__law_refused) (defBody s__law_refused) (defScope s__law_refused) [] [] f fd)(g : W.mg "_law_refused" = some (.ref f))
    (xc_SpotError : ExcOk W "SpotError" C_SpotError)
    (h_comes_before : DefOk W "comes_before" 3 ["first", "second"] (spP (S_cmp ltM) (R_cmp C_WrongDimension)))
    (h_divides : DefOk W "divides" 3 ["first", "second"] (spP (S_cmp leM) (R_cmp C_WrongDimension)))
    (z_max : W.mg "max" = none)
    (h_monomials_of_degree : DefOk W "monomials_of_degree" 4 ["dimension", "degree"] (spMod C_WrongDimension 3))
    (h_monomials_up_to : DefG W "monomials_up_to" 6 ["dimension", "degree"] (spG S_up (R_up C_WrongDimension)))
    (ns_WrongDimension : PySem.W.subIn W.K (.ref C_WrongDimension) (.type "StopIteration") = some false)
    (z_list : W.mg "list" = none)
    (h_monomial_factorial : DefOk W "monomial_factorial" 3 ["exponents"] (spP S_fac (R_fac C_WrongDimension)))
    (gc_BadMonomial : W.mg "BadMonomial" = some (.ref C_BadMonomial))
    (z_isinstance : W.mg "isinstance" = none)
    (gc_BadIndex : W.mg "BadIndex" = some (.ref C_BadIndex))
    (gc_WrongDimension : W.mg "WrongDimension" = some (.ref C_WrongDimension))
    (z_ValueError : W.mg "ValueError" = none)
    (em_ : PySem.W.exmOne W.K (.ref C_WrongDimension) (.ref C_SpotError) = some true)
    (XE_ : ExcC W.K C_WrongDimension)
    (kz1 : PySem.W.kitOne W.K (.ref C_WrongDimension) (.ref C_BadMonomial) = some false)
    (kz2 : PySem.W.kitOne W.K (.ref C_WrongDimension) (.ref C_BadIndex) = some false)
    (kz3 : PySem.W.kitOne W.K (.ref C_WrongDimension) (.type "ValueError") = some true) : DefOk W "_law_refused" 10 ["kind", "first", "second", "dimension", "high"] (spP S_ref NoR) := by
  obtain ⟨f_comes_before, fd_comes_before, G_comes_before, g_comes_before, k_comes_before, b_comes_before⟩ := h_comes_before
  obtain ⟨f_divides, fd_divides, G_divides, g_divides, k_divides, b_divides⟩ := h_divides
  obtain ⟨f_monomials_of_degree, fd_monomials_of_degree, G_monomials_of_degree, g_monomials_of_degree, k_monomials_of_degree, b_monomials_of_degree⟩ := h_monomials_of_degree
  obtain ⟨f_monomials_up_to, fd_monomials_up_to, G_monomials_up_to, g_monomials_up_to, k_monomials_up_to, b_monomials_up_to⟩ := h_monomials_up_to
  obtain ⟨f_monomial_factorial, fd_monomial_factorial, G_monomial_factorial, g_monomial_factorial, k_monomial_factorial, b_monomial_factorial⟩ := h_monomial_factorial
  refine defOk_of F g sc__law_refused (spP_len (n := 5) (fun ds r h => by obtain ⟨_, _, _, _, _, rfl, _⟩ := h; rfl) (fun _ _ h => h.elim)) (fun _ _ _ _ _ _ us hl => match us, hl with | [_, _, _, _, _], _ => rfl) (fun cdv A outer s H vs Q E hr h => ⟨_, (pss_cons (ps_set (i := 5) sc__law_refused.nd rfl (Or.inl rfl) (pe_lst pa_nil))
    (pss_cons (ps_try_as (i := 6) rfl rfl sc__law_refused.nd rfl rfl ⟨rfl, by decide, .inl xc_SpotError.g⟩ takes0 (fun W_ pn xe tk po_ => (pss_cons (ps_if (pt_cmpR op_eq (pv 0) pe_int (nomark _)) (pss_one (ps_expr (pe_callS G_comes_before (hr.mono (by decide)) rfl g_comes_before k_comes_before b_comes_before (fun σ => passAt tk σ) (pa_cons (pv 1) (pa_cons (pv 2) pa_nil))))) pss_nil)
    (pss_cons (ps_if (pt_cmpR op_eq (pv 0) pe_int (nomark _)) (pss_one (ps_expr (pe_callS G_divides (hr.mono (by decide)) rfl g_divides k_divides b_divides (fun σ => passAt tk σ) (pa_cons (pv 1) (pa_cons (pv 2) pa_nil))))) pss_nil)
    (pss_cons (ps_if (pt_cmpR op_eq (pv 0) pe_int (nomark _)) (pss_one (ps_expr (pe_callS G_monomials_of_degree (hr.mono (by decide)) rfl g_monomials_of_degree k_monomials_of_degree b_monomials_of_degree (fun σ => passAt tk σ) (pa_cons (pv 3) (pa_cons (pe_callB (call_max2 rfl) (by rfl) z_max (by decide +kernel) (pa_cons pe_int (pa_cons (pv 4) pa_nil))) pa_nil))))) pss_nil)
    (pss_cons (ps_if (pt_cmpR op_eq (pv 0) pe_int (nomark _)) (pss_one (ps_expr (pe_listGA (E := (XOnly (.ref C_WrongDimension) (WE W_))) (fun E_ => pgen_call (E := E_) G_monomials_up_to (hr.mono (by decide)) (by rfl) g_monomials_up_to k_monomials_up_to b_monomials_up_to .nil (pa_cons (pv 3) (pa_cons (pv 4) pa_nil))) (fun σ => passes_only (fun σ => passAt tk σ) σ) (fun σ => nostop_only ns_WrongDimension σ) (hr.mono (by decide)) (by rfl) z_list (by rfl)))) pss_nil)
    (pss_one (ps_if (pt_cmpR op_eq (pv 0) pe_int (nomark _)) (pss_one (ps_expr (pe_callS G_monomial_factorial (hr.mono (by decide)) rfl g_monomial_factorial k_monomial_factorial b_monomial_factorial (fun σ => passAt tk σ) (pa_cons (pv 1) pa_nil)))) pss_nil))))))) (fun a oe cls d pn hz hf => pss_if (P := cls = .ref C_WrongDimension ∧ d = none) (fun hP => (pss_cons (ps_set (i := 7) sc__law_refused.nd rfl (Or.inl rfl) (pe_or (pe_callB (call_isE XE_ (zc_of hP hz) hf) (by rfl) z_isinstance (by decide +kernel) (pa_cons (pv 6) (pa_cons (pe_glob (v := .ref C_BadMonomial) rfl gc_BadMonomial rfl) pa_nil))) (pe_one (pe_callB (call_isE XE_ (zc_of hP hz) hf) (by rfl) z_isinstance (by decide +kernel) (pa_cons (pv 6) (pa_cons (pe_glob (v := .ref C_BadIndex) rfl gc_BadIndex rfl) pa_nil))))))
    (pss_one (ps_set (i := 5) sc__law_refused.nd rfl (Or.inl rfl) (pe_lst (pa_cons (pe_callB (call_isE XE_ (zc_of hP hz) hf) (by rfl) z_isinstance (by decide +kernel) (pa_cons (pv 6) (pa_cons (pe_glob (v := .ref C_WrongDimension) rfl gc_WrongDimension rfl) pa_nil))) (pa_cons (pe_callB (call_isE XE_ (zc_of hP hz) hf) (by rfl) z_isinstance (by decide +kernel) (pa_cons (pv 6) (pa_cons (pe_bltn (v := .ty "ValueError") (u := .type "ValueError") (by rfl) z_ValueError (by decide +kernel) rfl) pa_nil))) (pa_cons (pv 7) pa_nil))))))))))
    (pss_one (ps_ret (pe_cmpR (op_eqD hr.units) (pv 5) (pe_lst (pa_cons pe_bl (pa_cons pe_bl (pa_cons pe_bl pa_nil)))) (nomark _)))))), ?_⟩)
  refine body_P h fun F ds _ hS => ?_
  rcases hS with ⟨r, ⟨k, xs, ys, d, h, rfl, hb, rfl⟩, q⟩ | ⟨c, hR, _⟩
  rotate_left
  · exact hR.elim
  refine (show OK _ [_, _, _, _, _, _, _, _] _ from ?_)
  exists "n"
  apply s_setN (t := tBool) (xs := [])
  · exists "d"
  exists "n"
  exists "if"
  · intro hk
    have hk := of_decide_eq_true hk
    subst hk
    exists "n"
    apply s_botS (c := .ref C_WrongDimension)
    · apply bots_callV (ds := [⟨tTupl tInt, xs⟩, ⟨tTupl tInt, ys⟩])
      · exists "d"
      · exact spP_x ⟨xs, ys, rfl, bad01 (.inl rfl) hb, rfl⟩
    · apply s_caught em_
      intro ex
      dsimp only [List.set_cons_zero, List.set_cons_succ]
      apply s_prop ⟨rfl, rfl⟩
      exists "set"
      exists "n"
      apply s_setN (t := tBool) (xs := [true, true, false])
      · exists "d"
      exists "n"
      apply s_back
      exists "n"
      apply s_retP ⟨rfl, rfl, rfl⟩ rfl q
      · apply den_eqBL
        · rfl
        · exists "d"
        · rfl
        · decide +kernel
        · decide +kernel
        · rfl
      · rfl
  intro k0
  have k0 := of_decide_eq_false k0
  exists "if"
  · intro hk
    have hk := of_decide_eq_true hk
    subst hk
    exists "n"
    apply s_botS (c := .ref C_WrongDimension)
    · apply bots_callV (ds := [⟨tTupl tInt, xs⟩, ⟨tTupl tInt, ys⟩])
      · exists "d"
      · exact spP_x ⟨xs, ys, rfl, bad01 (.inr rfl) hb, rfl⟩
    · apply s_caught em_
      intro ex
      dsimp only [List.set_cons_zero, List.set_cons_succ]
      apply s_prop ⟨rfl, rfl⟩
      exists "set"
      exists "n"
      apply s_setN (t := tBool) (xs := [true, true, false])
      · exists "d"
      exists "n"
      apply s_back
      exists "n"
      apply s_retP ⟨rfl, rfl, rfl⟩ rfl q
      · apply den_eqBL
        · rfl
        · exists "d"
        · rfl
        · decide +kernel
        · decide +kernel
        · rfl
      · rfl
  intro k1
  have k1 := of_decide_eq_false k1
  exists "if"
  · intro hk
    have hk := of_decide_eq_true hk
    subst hk
    exists "n"
    apply s_botS (c := .ref C_WrongDimension)
    · apply bots_callV (ds := [⟨tInt, d⟩, ⟨tInt, imax 0 h⟩])
      · exists "d"
      · exact spNR_x ⟨d, _, rfl, by decide, bad23 (.inl rfl) hb, rfl⟩
    · apply s_caught em_
      intro ex
      dsimp only [List.set_cons_zero, List.set_cons_succ]
      apply s_prop ⟨rfl, rfl⟩
      exists "set"
      exists "n"
      apply s_setN (t := tBool) (xs := [true, true, false])
      · exists "d"
      exists "n"
      apply s_back
      exists "n"
      apply s_retP ⟨rfl, rfl, rfl⟩ rfl q
      · apply den_eqBL
        · rfl
        · exists "d"
        · rfl
        · decide +kernel
        · decide +kernel
        · rfl
      · rfl
  intro k2
  have k2 := of_decide_eq_false k2
  exists "if"
  · intro hk
    have hk := of_decide_eq_true hk
    subst hk
    exists "n"
    apply s_botS (c := .ref C_WrongDimension)
    · apply bots_listG (ds := [⟨tInt, d⟩, ⟨tInt, h⟩])
      · exists "d"
      · exact ⟨d, _, rfl, bad23 (.inr rfl) hb, rfl⟩
    · apply s_caught em_
      intro ex
      dsimp only [List.set_cons_zero, List.set_cons_succ]
      apply s_prop ⟨rfl, rfl⟩
      exists "set"
      exists "n"
      apply s_setN (t := tBool) (xs := [true, true, false])
      · exists "d"
      exists "n"
      apply s_back
      exists "n"
      apply s_retP ⟨rfl, rfl, rfl⟩ rfl q
      · apply den_eqBL
        · rfl
        · exists "d"
        · rfl
        · decide +kernel
        · decide +kernel
        · rfl
      · rfl
  intro k3
  have k3 := of_decide_eq_false k3
  exists "if"
  · intro hk
    have hk := of_decide_eq_true hk
    subst hk
    exists "n"
    apply s_botS (c := .ref C_WrongDimension)
    · apply bots_callV (ds := [⟨tTupl tInt, xs⟩])
      · exists "d"
      · exact spP_x ⟨xs, rfl, bad4 hb, rfl⟩
    · apply s_caught em_
      intro ex
      dsimp only [List.set_cons_zero, List.set_cons_succ]
      apply s_prop ⟨rfl, rfl⟩
      exists "set"
      exists "n"
      apply s_setN (t := tBool) (xs := [true, true, false])
      · exists "d"
      exists "n"
      apply s_back
      exists "n"
      apply s_retP ⟨rfl, rfl, rfl⟩ rfl q
      · apply den_eqBL
        · rfl
        · exists "d"
        · rfl
        · decide +kernel
        · decide +kernel
        · rfl
      · rfl
  intro k4
  have k4 := of_decide_eq_false k4
  
  exfalso
  rcases hb with ⟨h1 | h1, _⟩ | ⟨h1 | h1, _⟩ | ⟨h1, _⟩
  · exact k0 h1
  · exact k1 h1
  · exact k2 h1
  · exact k3 h1
  · exact k4 h1

theorem sc_law : FnScope ["script", "pool", "dimension", "high", "first", "second", "other", "wrong", "kind", "odd"] ["script"] (defScope s_law) := ⟨rfl, rfl, rfl, by decide +kernel, rfl, by decide +kernel, by decide +kernel⟩
set_option maxHeartbeats 4000000 in
theorem ok_law (F : FunD W.K "law" "law" (defArgs s_law) (defBody s_law) (defScope s_law) [] [] f fd)
    (h__law_pool : DefOk W "_law_pool" 1 ["script"] (spN (S_pool W.K)))
    (h__law_take : DefOk W "_law_take" 1 ["pool", "most"] (spM S_take))
    (h__law_exponents : DefOk W "_law_exponents" 3 ["pool", "dimension", "high"] (spM S_exps))
    (h__law_second : DefOk W "_law_second" 5 ["pool", "first"] (spMA P_sec S_mon2))
    (h__law_lists : DefOk W "_law_lists" 11 ["dimension", "high"] (spP S_lists NoR))
    (h__law_relations : DefOk W "_law_relations" 6 ["first", "second"] (spP S_rel NoR))
    (z_range : W.mg "range" = none)
    (h__law_refused : DefOk W "_law_refused" 10 ["kind", "first", "second", "dimension", "high"] (spP S_ref NoR))
    (h__law_idle : DefOk W "_law_idle" 10 ["dimension", "high"] (spP S_idle NoR)) : FnOk W.P W.w W.K W.mg W.base (L2.CX W.P W.w) 13 f fd ["script"] (spP (S_law W.K) NoR) := by
  obtain ⟨f__law_pool, fd__law_pool, G__law_pool, g__law_pool, k__law_pool, b__law_pool⟩ := h__law_pool
  obtain ⟨f__law_take, fd__law_take, G__law_take, g__law_take, k__law_take, b__law_take⟩ := h__law_take
  obtain ⟨f__law_exponents, fd__law_exponents, G__law_exponents, g__law_exponents, k__law_exponents, b__law_exponents⟩ := h__law_exponents
  obtain ⟨f__law_second, fd__law_second, G__law_second, g__law_second, k__law_second, b__law_second⟩ := h__law_second
  obtain ⟨f__law_lists, fd__law_lists, G__law_lists, g__law_lists, k__law_lists, b__law_lists⟩ := h__law_lists
  obtain ⟨f__law_relations, fd__law_relations, G__law_relations, g__law_relations, k__law_relations, b__law_relations⟩ := h__law_relations
  obtain ⟨f__law_refused, fd__law_refused, G__law_refused, g__law_refused, k__law_refused, b__law_refused⟩ := h__law_refused
  obtain ⟨f__law_idle, fd__law_idle, G__law_idle, g__law_idle, k__law_idle, b__law_idle⟩ := h__law_idle
  refine lawFn_of (W := W) (k := 12) (sp := (spP (S_law W.K) NoR)) F sc_law (spP_len (n := 1) (fun ds r h => by obtain ⟨_, rfl, _⟩ := h; rfl) (fun _ _ h => h.elim)) (fun cdv A outer s H vs Q E hr h => ⟨_, (pss_cons (ps_set (i := 1) sc_law.nd rfl (Or.inl rfl) (pe_call G__law_pool (hr.mono (by decide)) rfl g__law_pool k__law_pool b__law_pool .nil passL (pa_cons (pv 0) pa_nil)))
    (pss_cons (ps_set (i := 2) sc_law.nd rfl (Or.inl rfl) (pe_op op_add pe_int (pe_call G__law_take (hr.mono (by decide)) rfl g__law_take k__law_take b__law_take .nil passL (pa_cons (pv 1) (pa_cons pe_int pa_nil)))))
    (pss_cons (ps_set (i := 3) sc_law.nd rfl (Or.inl rfl) (pe_op op_sub (pe_call G__law_take (hr.mono (by decide)) rfl g__law_take k__law_take b__law_take .nil passL (pa_cons (pv 1) (pa_cons pe_int pa_nil))) pe_int))
    (pss_cons (ps_if (pt_cmpR op_eq (pe_call G__law_take (hr.mono (by decide)) rfl g__law_take k__law_take b__law_take .nil passL (pa_cons (pv 1) (pa_cons pe_int pa_nil))) pe_int (nomark _)) (pss_one (ps_set (i := 3) sc_law.nd rfl (Or.inl rfl) (pe_op op_sub (pe_call G__law_take (hr.mono (by decide)) rfl g__law_take k__law_take b__law_take .nil passL (pa_cons (pv 1) (pa_cons pe_int pa_nil))) pe_int))) pss_nil)
    (pss_cons (ps_set (i := 4) sc_law.nd rfl (Or.inl rfl) (pe_call G__law_exponents (hr.mono (by decide)) rfl g__law_exponents k__law_exponents b__law_exponents .nil passL (pa_cons (pv 1) (pa_cons (pv 2) (pa_cons (pe_ix ix_list (pe_lst (pa_cons pe_int (pa_cons pe_int (pa_cons pe_int pa_nil)))) (pe_call G__law_take (hr.mono (by decide)) rfl g__law_take k__law_take b__law_take .nil passL (pa_cons (pv 1) (pa_cons pe_int pa_nil))) (fun _ _ => rfl)) pa_nil)))))
    (pss_cons (ps_set (i := 5) sc_law.nd rfl (Or.inl rfl) (pe_call G__law_second (hr.mono (by decide)) rfl g__law_second k__law_second b__law_second .nil passL (pa_cons (pv 1) (pa_cons (pv 4) pa_nil))))
    (pss_cons (ps_if (PW.pt (pw_or (pt_cmpR op_eq (pv 2) pe_int (nomark _)) (pw_or1 (PW.pt (pw_and (pt_cmpR op_eq (pv 2) pe_int (nomark _)) (pw_and1 (pt_cmpR op_eq (pe_call G__law_take (hr.mono (by decide)) rfl g__law_take k__law_take b__law_take .nil passL (pa_cons (pv 1) (pa_cons pe_int pa_nil))) pe_int (nomark _)))))))) (pss_one (ps_set (i := 6) sc_law.nd rfl (Or.inl rfl) (pe_slice sl_tup (pv 5) (po_some pe_int) po_none))) (pss_one (ps_set (i := 6) sc_law.nd rfl (Or.inl rfl) (pe_op op_catT (pv 5) (pe_tup (pa_cons (pe_call G__law_take (hr.mono (by decide)) rfl g__law_take k__law_take b__law_take .nil passL (pa_cons (pv 1) (pa_cons pe_int pa_nil))) pa_nil))))))
    (pss_cons (ps_set (i := 7) sc_law.nd rfl (Or.inl rfl) (pe_ix ix_list (pe_lst (pa_cons pe_int (pa_cons pe_int (pa_cons (pe_un un_neg pe_int) (pa_cons pe_int pa_nil))))) (pe_call G__law_take (hr.mono (by decide)) rfl g__law_take k__law_take b__law_take .nil passL (pa_cons (pv 1) (pa_cons pe_int pa_nil))) (fun _ _ => rfl)))
    (pss_cons (ps_if (PW.pt (pw_or (pt_not (pt_val (pe_call G__law_lists (hr.mono (by decide)) rfl g__law_lists k__law_lists b__law_lists .nil passL (pa_cons (pv 2) (pa_cons (pv 3) pa_nil))))) (pw_or1 (pt_not (pt_val (pe_call G__law_relations (hr.mono (by decide)) rfl g__law_relations k__law_relations b__law_relations .nil passL (pa_cons (pv 4) (pa_cons (pv 5) pa_nil)))))))) (pss_one (ps_ret pe_bl)) pss_nil)
    (pss_cons (ps_for (passes_of rfl) rfl (pi_range1 (by rfl) z_range (pa_cons pe_int pa_nil)) (pg_name (i := 8) sc_law.nd rfl (Or.inl rfl)) (pss_one (ps_if (PW.pt (pw_or (pt_not (pt_val (pe_call G__law_refused (hr.mono (by decide)) rfl g__law_refused k__law_refused b__law_refused .nil passL (pa_cons (pv 8) (pa_cons (pv 4) (pa_cons (pv 6) (pa_cons (pv 7) (pa_cons (pv 3) pa_nil)))))))) (pw_or1 (pt_not (pt_val (pe_call G__law_refused (hr.mono (by decide)) rfl g__law_refused k__law_refused b__law_refused .nil passL (pa_cons (pv 8) (pa_cons (pv 6) (pa_cons (pv 4) (pa_cons (pv 7) (pa_cons (pv 3) pa_nil))))))))))) (pss_one (ps_ret pe_bl)) pss_nil)))
    (pss_cons (ps_if (pt_not (pt_val (pe_call G__law_idle (hr.mono (by decide)) rfl g__law_idle k__law_idle b__law_idle .nil passL (pa_cons (pv 7) (pa_cons (pv 3) pa_nil))))) (pss_one (ps_ret pe_bl)) pss_nil)
    (pss_cons (ps_for (passes_of rfl) rfl (pi_list (pe_lst (pa_cons (pe_tup pa_nil) (pa_cons (pe_tup (pa_cons pe_int (pa_cons pe_int (pa_cons pe_int (pa_cons pe_int pa_nil))))) pa_nil)))) (pg_name (i := 9) sc_law.nd rfl (Or.inl rfl)) (pss_one (ps_for (passes_of rfl) rfl (pi_list (pe_lst (pa_cons pe_int (pa_cons pe_int (pa_cons pe_int pa_nil))))) (pg_name (i := 8) sc_law.nd rfl (Or.inl rfl)) (pss_one (ps_if (pt_not (pt_val (pe_call G__law_refused (hr.mono (by decide)) rfl g__law_refused k__law_refused b__law_refused .nil passL (pa_cons (pv 8) (pa_cons (pv 9) (pa_cons (pv 9) (pa_cons (pv 7) (pa_cons (pv 3) pa_nil)))))))) (pss_one (ps_ret pe_bl)) pss_nil)))))
    (pss_one (ps_ret (pe_and (pe_call G__law_lists (hr.mono (by decide)) rfl g__law_lists k__law_lists b__law_lists .nil passL (pa_cons (pv 2) (pa_cons (pv 3) pa_nil))) (pe_one (pe_call G__law_relations (hr.mono (by decide)) rfl g__law_relations k__law_relations b__law_relations .nil passL (pa_cons (pv 4) (pa_cons (pv 5) pa_nil))))))))))))))))))), ?_⟩)
  refine body_P h fun F ds _ hS => ?_
  rcases hS with ⟨r, ⟨ns, rfl, hl, rfl⟩, q⟩ | ⟨c, hR, _⟩
  rotate_left
  · exact hR.elim
  refine (show OK _ [_, _, _, _, _, _, _, _, _, _] _ from ?_)
  obtain ⟨o0, c0⟩ := pool_ok hl
  exists "n"
  apply s_setH (ds := pool3 (pool ns))
  · apply dn_call
    · exists "d"
    · exact ⟨ns, rfl, hl, rfl⟩
  generalize pool ns = p1 at *
  have o1 := take_ok (m := 3) o0
  have c1 := take_ct (p := p1) (m := 3)
  have t1 := take_lt (p := p1) (m := 3) (by decide)
  have k0 : p1.ct < 1000000000 := by omega
  exists "let"
  intro d hd
  obtain ⟨d, rfl⟩ : ∃ d' : Nat, d = (d' : Int) := ⟨d.toNat, by omega⟩
  have hd1 : 1 ≤ d := by omega
  have hd2 : d ≤ 3 := by omega
  generalize (take p1 3).2 = p2 at *
  have o2 := take_ok (m := 8) o1
  have c2 := take_ct (p := p2) (m := 8)
  have t2 := take_lt (p := p2) (m := 8) (by decide)
  have k1 : p2.ct < 1000000000 := by omega
  exists "let"
  intro h0 hh
  generalize (take p2 8).2 = p3 at *
  have o3 := take_ok (m := 12) o2
  have c3 := take_ct (p := p3) (m := 12)
  have k2 : p3.ct < 1000000000 := by omega
  generalize e4 : (take p3 12).2 = p4 at *
  have k3 : p4.ct < 1000000000 := by omega
  exists "n"
  refine s_ifJ1 (t := tInt) (X := fun Γ' => ∃ p5 h, Γ' = [.val ⟨tScr W.K, ns⟩, .own none (pool3 p5), .val ⟨tInt, (d : Int)⟩, .val ⟨tInt, h⟩, .any, .any, .any, .any, .any, .any] ∧ Pok p5 ∧ p5.ct ≤ 10 ∧ -1 ≤ h ∧ h ≤ 16) ⟨decide ((take p3 12).1 = 0), [.val ⟨tScr W.K, ns⟩, .own none (pool3 p4), .val ⟨tInt, (d : Int)⟩, .val ⟨tInt, h0⟩, .any, .any, .any, .any, .any, .any], ?_, fun _ => ⟨(take p4 18).1 - 1, [.val ⟨tScr W.K, ns⟩, .own none (pool3 (take p4 18).2), .val ⟨tInt, (d : Int)⟩, .val ⟨tInt, h0⟩, .any, .any, .any, .any, .any, .any], ?_, ?_⟩, fun _ => ⟨p4, h0, rfl, o3, by omega, by omega, by omega⟩⟩ ?_
  · rw [← e4]
    apply dt_to
    · exists "d"
    · rfl
  · apply den_to
    · exists "d"
    · rfl
  · have t5 := take_lt (p := p4) (m := 18) (by decide)
    have c5 := take_ct (p := p4) (m := 18)
    exact ⟨_, _, rfl, take_ok o3, by omega, by omega, by omega⟩
  rintro Γ' ⟨p5, h, rfl, o5, c5, hh1, hh2⟩
  clear hh c3 c2 c1 e4
  have o6 := take_ok (m := 3) o5
  have c6 := take_ct (p := p5) (m := 3)
  have t6 := take_lt (p := p5) (m := 3) (by decide)
  have k5 : p5.ct < 1000000000 := by omega
  obtain ⟨b, hb, hb0, hb1⟩ : ∃ b : Int, ([4, 9, 16] : List Int)[((take p5 3).1).toNat]? = some b ∧ 0 ≤ b ∧ b ≤ 16 := by
    have e : (take p5 3).1 = 0 ∨ (take p5 3).1 = 1 ∨ (take p5 3).1 = 2 := by omega
    rcases e with e | e | e <;> rw [e]
    · exact ⟨4, rfl, by decide, by decide⟩
    · exact ⟨9, rfl, by decide, by decide⟩
    · exact ⟨16, rfl, by decide, by decide⟩
  obtain ⟨e1, e2, e3⟩ := exps_ok (p := (take p5 3).2) (d := d) (h := b) o6 hb0
  have m1 := e3.mono hb1
  exists "n"
  apply s_set (t := tTupl tInt) (x := (exps (take p5 3).2 d b).1)
  · refine den_callM2 (oa := none) (ob := none) (ps0 := pool3 p5) (ps := pool3 (take p5 3).2) (ds := [⟨tInt, (d : Int)⟩, ⟨tInt, b⟩]) rfl (Γ0 := [.val ⟨tScr W.K, ns⟩, .own none (pool3 (take p5 3).2), .val ⟨tInt, (d : Int)⟩, .val ⟨tInt, h⟩, .any, .any, .any, .any, .any, .any]) ?_ rfl ⟨_, _, _, rfl, rfl, o6, by omega, hd1, hd2, hb0, hb1, rfl, rfl⟩ rfl
    apply da_to
    · apply da_cons
      · exists "d"
      · apply da_cons
        · apply den_ixLM
          · exists "d"
          · exists "d"
          · exact t6.1
          · exact hb
        · exists "d"
    · rfl
  generalize exps (take p5 3).2 d b = ex at *
  obtain ⟨xs, p6⟩ := ex
  have m1 : Mon d 16 xs := m1
  have e1 : Pok p6 := e1
  have e2 : p6.ct ≤ (take p5 3).2.ct + d + 1 := e2
  have lx := m1.ln
  have m1' : Mon xs.length 16 xs := by rw [lx]; exact m1
  exists "n"
  refine s_setA (den_callMA (p6, xs) rfl ?_ ⟨rfl, rfl, e1, by show p6.ct < 700000000; omega, by show 1 ≤ xs.length; omega, by show xs.length ≤ 3; omega, m1'⟩) ?_
  · exists "d"
  rintro Γ' r ⟨ps', ⟨p7, ys, rfl, rfl, o7, c7, m2⟩, rfl⟩
  have c7 : p7.ct ≤ p6.ct + 40 := c7
  have m2 : Mon d 16 ys := by rw [← lx]; exact m2
  have ly := m2.ln
  have k7 : p7.ct < 1000000000 := by omega
  exists "n"
  refine s_ifJ2 (t := tTupl tInt) (X := fun Γ' => ∃ p5 zs, Γ' = [.val ⟨tScr W.K, ns⟩, .own none (pool3 p5), .val ⟨tInt, (d : Int)⟩, .val ⟨tInt, h⟩, .val ⟨tTupl tInt, xs⟩, .val ⟨tTupl tInt, ys⟩, .val ⟨tTupl tInt, zs⟩, .any, .any, .any] ∧ Pok p5 ∧ p5.ct ≤ 1000 ∧ zs.length ≠ d) ?_ ?_
  · have cut : ∀ (p9 : Pl), ∃ x, Den (tSl (rSlT W.K) (tVar 5) (tPart (tC (.int 1))) tNoPart) [.val ⟨tScr W.K, ns⟩, .own none (pool3 p9), .val ⟨tInt, (d : Int)⟩, .val ⟨tInt, h⟩, .val ⟨tTupl tInt, xs⟩, .val ⟨tTupl tInt, ys⟩, .any, .any, .any, .any] (tTupl tInt) x [.val ⟨tScr W.K, ns⟩, .own none (pool3 p9), .val ⟨tInt, (d : Int)⟩, .val ⟨tInt, h⟩, .val ⟨tTupl tInt, xs⟩, .val ⟨tTupl tInt, ys⟩, .any, .any, .any, .any] ∧ x.length ≠ d := fun p9 => by
      refine ⟨ys.drop 1, ?_, by rw [List.length_drop]; omega⟩
      have e := slLo (xs := ys) (c := 1) (by decide)
      have h2 : ¬ (HT.sIx ys.length 0 (some 1) = 0 ∧ HT.sIx ys.length ys.length none = ys.length) := fun z => by
        have z1 := z.1
        have : HT.sIx ys.length 0 (some ((1 : Nat) : Int)) = 0 := z1
        rw [HT.sIx_nat] at this
        omega
      have k := den_slT (K := W.K) (t := tInt) (ta := tVar 5) (xs := ys) (Γ := [.val ⟨tScr W.K, ns⟩, .own none (pool3 p9), .val ⟨tInt, (d : Int)⟩, .val ⟨tInt, h⟩, .val ⟨tTupl tInt, xs⟩, .val ⟨tTupl tInt, ys⟩, .any, .any, .any, .any]) (den_var rfl) (po_part pu_int) po_no h2
      rw [e] at k
      exact k
    have o8 := take_ok (m := 2) o7
    have c8 := take_ct (p := p7) (m := 2)
    have app : ∀ (p9 : Pl), Pok p9 → p9.ct < 900 → ∃ x, Den (tOp (rCatT W.K) (tVar 5) (tTup (tCons (tCall (spM S_take) [] E (tCons (tVar 1) (tCons (tC (.int 5)) tNil))) tNil))) [.val ⟨tScr W.K, ns⟩, .own none (pool3 p9), .val ⟨tInt, (d : Int)⟩, .val ⟨tInt, h⟩, .val ⟨tTupl tInt, xs⟩, .val ⟨tTupl tInt, ys⟩, .any, .any, .any, .any] (tTupl tInt) x [.val ⟨tScr W.K, ns⟩, .own none (pool3 (take p9 5).2), .val ⟨tInt, (d : Int)⟩, .val ⟨tInt, h⟩, .val ⟨tTupl tInt, xs⟩, .val ⟨tTupl tInt, ys⟩, .any, .any, .any, .any] ∧ x.length ≠ d := fun p9 q9 r9 => by
      have r9 : p9.ct < 1000000000 := by omega
      refine ⟨ys ++ [(take p9 5).1], ?_, by rw [List.length_append]; simp; omega⟩
      apply den_op
      · exists "d"
      · apply den_to
        · exists "d"
        · rfl
      · apply op_catTT
        · intro z
          rw [z] at ly
          simp at ly
          omega
        · simp
          omega
    have dd : d = 3 ∨ d = 2 ∨ d = 1 := by omega
    rcases dd with rfl | rfl | rfl
    · refine ⟨true, _, dt_is (dt_orM (a := true) (b := false) (Γ1 := [.val ⟨tScr W.K, ns⟩, .own none (pool3 p7), .val ⟨tInt, ((3 : Nat) : Int)⟩, .val ⟨tInt, h⟩, .val ⟨tTupl tInt, xs⟩, .val ⟨tTupl tInt, ys⟩, .any, .any, .any, .any]) (Γ2 := [.val ⟨tScr W.K, ns⟩, .own none (pool3 p7), .val ⟨tInt, ((3 : Nat) : Int)⟩, .val ⟨tInt, h⟩, .val ⟨tTupl tInt, xs⟩, .val ⟨tTupl tInt, ys⟩, .any, .any, .any, .any]) ?_ fun z => nomatch z) rfl, fun _ => ?_, fun z => nomatch z⟩
      · apply dt_is
        · exists "d"
        · rfl
      · obtain ⟨x, hx, lx⟩ := cut p7
        exact ⟨x, _, hx, _, _, rfl, o7, by omega, lx⟩
    · refine ⟨decide ((take p7 2).1 = 0), _, dt_is (dt_orM (a := false) (b := true && decide ((take p7 2).1 = 0)) (Γ1 := [.val ⟨tScr W.K, ns⟩, .own none (pool3 p7), .val ⟨tInt, ((2 : Nat) : Int)⟩, .val ⟨tInt, h⟩, .val ⟨tTupl tInt, xs⟩, .val ⟨tTupl tInt, ys⟩, .any, .any, .any, .any]) (Γ2 := [.val ⟨tScr W.K, ns⟩, .own none (pool3 (take p7 2).2), .val ⟨tInt, ((2 : Nat) : Int)⟩, .val ⟨tInt, h⟩, .val ⟨tTupl tInt, xs⟩, .val ⟨tTupl tInt, ys⟩, .any, .any, .any, .any]) ?_ fun _ => dt_andM (a := true) (Γ1 := [.val ⟨tScr W.K, ns⟩, .own none (pool3 p7), .val ⟨tInt, ((2 : Nat) : Int)⟩, .val ⟨tInt, h⟩, .val ⟨tTupl tInt, xs⟩, .val ⟨tTupl tInt, ys⟩, .any, .any, .any, .any]) ?_ fun _ => ?_) (by simp), fun _ => ?_, fun _ => ?_⟩
      · apply dt_is
        · exists "d"
        · rfl
      · apply dt_is
        · exists "d"
        · rfl
      · apply dt_to
        · exists "d"
        · rfl
      · obtain ⟨x, hx, lx⟩ := cut (take p7 2).2
        exact ⟨x, _, hx, _, _, rfl, o8, by omega, lx⟩
      · obtain ⟨x, hx, lx⟩ := app (take p7 2).2 o8 (by omega)
        have c9 := take_ct (p := (take p7 2).2) (m := 5)
        exact ⟨x, _, hx, _, _, rfl, take_ok o8, by omega, lx⟩
    · refine ⟨false, _, dt_is (dt_orM (a := false) (b := false && true) (Γ1 := [.val ⟨tScr W.K, ns⟩, .own none (pool3 p7), .val ⟨tInt, ((1 : Nat) : Int)⟩, .val ⟨tInt, h⟩, .val ⟨tTupl tInt, xs⟩, .val ⟨tTupl tInt, ys⟩, .any, .any, .any, .any]) (Γ2 := [.val ⟨tScr W.K, ns⟩, .own none (pool3 p7), .val ⟨tInt, ((1 : Nat) : Int)⟩, .val ⟨tInt, h⟩, .val ⟨tTupl tInt, xs⟩, .val ⟨tTupl tInt, ys⟩, .any, .any, .any, .any]) ?_ fun _ => dt_andM (a := false) (b := true) (Γ1 := [.val ⟨tScr W.K, ns⟩, .own none (pool3 p7), .val ⟨tInt, ((1 : Nat) : Int)⟩, .val ⟨tInt, h⟩, .val ⟨tTupl tInt, xs⟩, .val ⟨tTupl tInt, ys⟩, .any, .any, .any, .any]) (Γ2 := []) ?_ fun z => nomatch z) rfl, (fun z => nomatch z), fun _ => ?_⟩
      · apply dt_is
        · exists "d"
        · rfl
      · apply dt_is
        · exists "d"
        · rfl
      · obtain ⟨x, hx, lx⟩ := app p7 o7 (by omega)
        have c9 := take_ct (p := p7) (m := 5)
        exact ⟨x, _, hx, _, _, rfl, take_ok o7, by omega, lx⟩
  rintro Γ' ⟨p5, zs, rfl, o5, c5, lz⟩
  have t5 := take_lt (p := p5) (m := 4) (by decide)
  have k9 : p5.ct < 1000000000 := by omega
  obtain ⟨w, hw, hw1⟩ : ∃ b : Int, ([0, 4, -1, 7] : List Int)[((take p5 4).1).toNat]? = some b ∧ ¬ inD b := by
    have e : (take p5 4).1 = 0 ∨ (take p5 4).1 = 1 ∨ (take p5 4).1 = 2 ∨ (take p5 4).1 = 3 := by omega
    rcases e with e | e | e | e <;> rw [e]
    · exact ⟨0, rfl, by unfold inD; omega⟩
    · exact ⟨4, rfl, by unfold inD; omega⟩
    · exact ⟨-1, rfl, by unfold inD; omega⟩
    · exact ⟨7, rfl, by unfold inD; omega⟩
  exists "n"
  apply s_set (t := tInt) (x := w)
  · apply den_ixLM
    · apply den_n
      · apply dn_lst4 (t := tInt)
        · exists "d"
        · exists "d"
        · exists "d"
        · exists "d"
      · rfl
    · exists "d"
    · exact t5.1
    · exact hw
  generalize (take p5 4).2 = p5 at *
  exists "n"
  apply s_if (b := false)
  · apply dt_is
    · apply dt_or (a := false) (b := false)
      · apply dt_is
        · apply dt_not
          apply dt_test
          apply den_call (w := tBool) (z := true)
          · exists "d"
          · exact spP_v ⟨d, h, rfl, hd1, hd2, hh1, hh2, rfl⟩
        · rfl
      · intro _
        apply dt_is
        · apply dt_not
          apply dt_test
          apply den_call (w := tBool) (z := true)
          · exists "d"
          · exact spP_v ⟨xs, ys, d, rfl, m1, m2, hd1, hd2, rfl⟩
        · rfl
    · rfl
  · intro z
    cases z
  intro _
  have ix : inD (xs.length : Int) := by unfold inD; omega
  exists "n"
  apply s_forR () (fun _ => [.val ⟨tScr W.K, ns⟩, .own none (pool3 p5), .val ⟨tInt, (d : Int)⟩, .val ⟨tInt, h⟩, .val ⟨tTupl tInt, xs⟩, .val ⟨tTupl tInt, ys⟩, .val ⟨tTupl tInt, zs⟩, .val ⟨tInt, w⟩, .any, .any]) (fun _ _ => True)
  · exists "d"
  · decide
  · decide
  · trivial
  · exact Wk.refl _
  · intro k s0 hk _
    have b1 : BadK (k : Int) xs zs w := by
      have : k = 0 ∨ k = 1 ∨ k = 2 ∨ k = 3 := by omega
      rcases this with rfl | rfl | rfl | rfl
      · exact .inl ⟨.inl rfl, .inr ⟨ix, by omega⟩⟩
      · exact .inl ⟨.inr rfl, .inr ⟨ix, by omega⟩⟩
      · exact .inr (.inl ⟨.inl rfl, hw1⟩)
      · exact .inr (.inl ⟨.inr rfl, hw1⟩)
    have b2 : BadK (k : Int) zs xs w := by
      have iz : ¬ inD (zs.length : Int) ∨ (inD (zs.length : Int) ∧ xs.length ≠ zs.length) := by
        by_cases e : inD (zs.length : Int)
        · exact .inr ⟨e, by omega⟩
        · exact .inl e
      have : k = 0 ∨ k = 1 ∨ k = 2 ∨ k = 3 := by omega
      rcases this with rfl | rfl | rfl | rfl
      · exact .inl ⟨.inl rfl, iz⟩
      · exact .inl ⟨.inr rfl, iz⟩
      · exact .inr (.inl ⟨.inl rfl, hw1⟩)
      · exact .inr (.inl ⟨.inr rfl, hw1⟩)
    exists "n"
    apply s_if (b := false)
    · apply dt_is
      · apply dt_or (a := false) (b := false)
        · apply dt_is
          · apply dt_not
            apply dt_test
            apply den_call (w := tBool) (z := true)
            · exists "d"
            · exact spP_v ⟨_, _, _, _, _, rfl, b1, rfl⟩
          · rfl
        · intro _
          apply dt_is
          · apply dt_not
            apply dt_test
            apply den_call (w := tBool) (z := true)
            · exists "d"
            · exact spP_v ⟨_, _, _, _, _, rfl, b2, rfl⟩
          · rfl
      · rfl
    · intro z
      cases z
    intro _
    exists "n"
    exact s_next () trivial (.cons (.inr rfl) (.cons (.inr rfl) (.cons (.inr rfl) (.cons (.inr rfl) (.cons (.inr rfl) (.cons (.inr rfl) (.cons (.inr rfl) (.cons (.inr rfl) (.cons (.inl rfl) (.cons (.inl rfl) .nil))))))))))
  intro s0 _
  exists "n"
  apply s_if (b := false)
  · apply dt_is
    · apply dt_not
      apply dt_test
      apply den_call (w := tBool) (z := true)
      · exists "d"
      · exact spP_v ⟨_, _, rfl, hw1, rfl⟩
    · rfl
  · intro z
    cases z
  intro _
  
  exists "n"
  apply s_forC (t := tTupl tInt) (xs := [[], [1, 1, 1, 1]])
  · apply den_n
    · apply dn_lst2 (t := tTupl tInt)
      · exists "d"
      · apply den_tuplN (xs := [1, 1, 1, 1])
        · exists "d"
        · rfl
        · decide
    · rfl
  · rfl
  · intro Z' hZ n o ho
    have ho := List.mem_of_getElem? ho
    have io : ¬ inD (o.length : Int) := by
      simp only [List.mem_cons, List.not_mem_nil, or_false] at ho
      rcases ho with rfl | rfl
      · unfold inD
        simp
      · unfold inD
        simp
    exists "n"
    apply s_forF (t := tInt) (xs := [0, 1, 4]) () (fun _ => [.val ⟨tScr W.K, ns⟩, .own none (pool3 p5), .val ⟨tInt, (d : Int)⟩, .val ⟨tInt, h⟩, .val ⟨tTupl tInt, xs⟩, .val ⟨tTupl tInt, ys⟩, .val ⟨tTupl tInt, zs⟩, .val ⟨tInt, w⟩, .any, .val ⟨tTupl tInt, o⟩]) (fun _ _ => True)
    · apply den_n
      · apply dn_lst3 (t := tInt)
        · exists "d"
        · exists "d"
        · exists "d"
      · rfl
    · trivial
    · exact Wk.refl _
    · intro Z2 hZ2 i k _ hk _
      have hk := List.mem_of_getElem? hk
      have b1 : BadK k o o w := by
        simp only [List.mem_cons, List.not_mem_nil, or_false] at hk
        rcases hk with rfl | rfl | rfl
        · exact .inl ⟨.inl rfl, .inl io⟩
        · exact .inl ⟨.inr rfl, .inl io⟩
        · exact .inr (.inr ⟨rfl, io⟩)
      exists "n"
      apply s_if (b := false)
      · apply dt_is
        · apply dt_not
          apply dt_test
          apply den_call (w := tBool) (z := true)
          · exists "d"
          · exact spP_v ⟨_, _, _, _, _, rfl, b1, rfl⟩
        · rfl
      · intro z
        cases z
      intro _
      exists "n"
      exact s_next () trivial (.cons (.inr rfl) (.cons (.inr rfl) (.cons (.inr rfl) (.cons (.inr rfl) (.cons (.inr rfl) (.cons (.inr rfl) (.cons (.inr rfl) (.cons (.inr rfl) (.cons (.inl rfl) (.cons (.inr rfl) .nil))))))))))
    · intro _ _
      exists "n"
      exact s_next () trivial (.cons (.inr rfl) (.cons (.inr rfl) (.cons (.inr rfl) (.cons (.inr rfl) (.cons (.inr rfl) (.cons (.inr rfl) (.cons (.inr rfl) (.cons (.inr rfl) (.cons (.inl rfl) (.cons (.inl rfl) .nil))))))))))
  exists "n"
  apply s_retP ⟨rfl, rfl, rfl⟩ rfl q
  · apply den_andV (a := true) (b := true)
    · apply den_call (w := tBool) (z := true)
      · exists "d"
      · exact spP_v ⟨d, h, rfl, hd1, hd2, hh1, hh2, rfl⟩
    · intro _
      apply den_call (w := tBool) (z := true)
      · exists "d"
      · exact spP_v ⟨xs, ys, d, rfl, m1, m2, hd1, hd2, rfl⟩
  · rfl

end

/-! ### the head -/

def q_rat (K : PySem.W.Frag) (x : Str) : Bool := He.eqO (PySem.W.findIn K (.ref (He.ga K x)) "__class__") (some (some (.builtin "object.__class__"))) && (He.eqO (PySem.W.specialIn K (.builtin "object.__class__") "__get__") (some (some (.builtin "getset_descriptor.__get__"))) && (decide (PySem.W.takesIn K (.builtin "object.__class__") = some true) && (decide (PySem.W.mroIn K (He.ga K x) (.type "object") = some true) && decide (PySem.W.kitOne K (.type "int") (.ref (He.ga K x)) = some false))))
def q_own (K : PySem.W.Frag) (x m : Str) : Bool := He.eqO (PySem.W.findIn K (.ref (He.ga K x)) m) (some (some (.ref (He.ma K (He.ga K x) m)))) && PySem.W.isFn K (.ref (He.ma K (He.ga K x) m))
def q_int (K : PySem.W.Frag) (x : Str) (nm : String) : Bool := (PySem.W.findIn K (.type "int") (dunder nm)).isSome && ((PySem.W.findIn K (.type "int") (dunderR nm)).isSome && (decide (PySem.W.subIn K (.type "int") (.ref (He.ga K x)) = some false) && decide (PySem.W.subIn K (.ref (He.ga K x)) (.type "int") = some false)))
def q_exc (K : PySem.W.Frag) (x : Str) : Bool := He.eqO (PySem.W.findIn K (.ref (He.ga K x)) "__getattribute__") (some (some (.builtin "BaseException.__getattribute__"))) && (He.eqO (PySem.W.findIn K (.ref (He.ga K x)) "__getattr__") (some none) && (decide (PySem.W.subIn K (.ref (He.ga K x)) (.type "BaseException") = some true) && (PySem.W.hasDictIn K (He.ga K x) && (He.eqO (PySem.W.findIn K (.ref (He.ga K x)) "__class__") (some (some (.builtin "object.__class__"))) && (He.eqO (PySem.W.specialIn K (.builtin "object.__class__") "__get__") (some (some (.builtin "getset_descriptor.__get__"))) && (decide (PySem.W.takesIn K (.builtin "object.__class__") = some true) && decide (PySem.W.mroIn K (He.ga K x) (.type "object") = some true)))))))
def q_kit (K : PySem.W.Frag) (x y : Str) (b : Bool) : Bool := decide (PySem.W.kitOne K (.ref (He.ga K x)) (.ref (He.ga K y)) = some b)
def q_kitT (K : PySem.W.Frag) (x : Str) (T : String) (b : Bool) : Bool := decide (PySem.W.kitOne K (.ref (He.ga K x)) (.type T) = some b)
def q_bi (K : PySem.W.Frag) (x : Str) (id : String) : Bool := He.eqO (PySem.W.nsIn K mainGlobals x) (some (some (.builtin id)))
section
variable {K : PySem.W.Frag} {x m m' : Str} {nm : String}
theorem and2 {a b : Bool} (h : (a && b) = true) : a = true ∧ b = true := Bool.and_eq_true_iff.mp h
theorem rat_ok (c : Cls K (He.ga K x)) (n1 : NoAttr K (He.ga K x) "top") (n2 : NoAttr K (He.ga K x) "bottom") (h : q_rat K x = true) : RatW K (He.ga K x) := by
  obtain ⟨h1, h⟩ := and2 h
  obtain ⟨h2, h⟩ := and2 h
  obtain ⟨h3, h⟩ := and2 h
  obtain ⟨h4, h5⟩ := and2 h
  exact ⟨c, n1, n2, He.eqO_ok h1, He.eqO_ok h2, of_decide_eq_true h3, of_decide_eq_true h4, of_decide_eq_true h5⟩
theorem own_ok (h : q_own K x m = true) : OwnM K (He.ga K x) m (He.ma K (He.ga K x) m) := by
  obtain ⟨h1, h2⟩ := and2 h
  exact ⟨He.eqO_ok h1, h2⟩
theorem ownB_ok (e1 : dunder nm = m) (e2 : dunderR nm = m') (h1 : q_own K x m = true) (h2 : q_own K x m' = true) (h3 : PySem.W.selfFirst K (He.ga K x) = true) : OwnB K (He.ga K x) nm (He.ma K (He.ga K x) m) (He.ma K (He.ga K x) m') := by
  subst e1 e2
  exact ⟨own_ok h1, own_ok h2, h3⟩
theorem ownI_ok (h : q_int K x nm = true) : OwnInt K (He.ga K x) nm := by
  obtain ⟨h1, h⟩ := and2 h
  obtain ⟨h2, h⟩ := and2 h
  obtain ⟨h3, h4⟩ := and2 h
  exact ⟨Option.isSome_iff_exists.mp h1, Option.isSome_iff_exists.mp h2, of_decide_eq_true h3, of_decide_eq_true h4⟩
theorem excC_ok (h : q_exc K x = true) : ExcC K (He.ga K x) := by
  obtain ⟨h1, h⟩ := and2 h
  obtain ⟨h2, h⟩ := and2 h
  obtain ⟨h3, h⟩ := and2 h
  obtain ⟨h4, h⟩ := and2 h
  obtain ⟨h5, h⟩ := and2 h
  obtain ⟨h6, h⟩ := and2 h
  obtain ⟨h7, h8⟩ := and2 h
  exact ⟨He.eqO_ok h1, He.eqO_ok h2, of_decide_eq_true h3, h4, He.eqO_ok h5, He.eqO_ok h6, of_decide_eq_true h7, of_decide_eq_true h8⟩
theorem bi_ok {h : Heap} {mg : Str → Option Value} {id : String} (X : K.In h) (G : h.Ns mainGlobals mg) (q : q_bi K x id = true) : mg x = some (.builtin id) := PySem.W.mg_of X G (He.eqO_ok q)
end

def d__law_pool : He.DefD := ⟨("_law_pool", none), "_law_pool", "_law_pool", defArgs s__law_pool, defBody s__law_pool, defScope s__law_pool, [], []⟩
def d__law_take : He.DefD := ⟨("_law_take", none), "_law_take", "_law_take", defArgs s__law_take, defBody s__law_take, defScope s__law_take, [], []⟩
def d_check_dimension : He.DefD := ⟨("check_dimension", none), "check_dimension", "check_dimension", defArgs s_check_dimension, defBody s_check_dimension, defScope s_check_dimension, [], []⟩
def d_check_length : He.DefD := ⟨("check_length", none), "check_length", "check_length", defArgs s_check_length, defBody s_check_length, defScope s_check_length, [], []⟩
def d_standard_key : He.DefD := ⟨("standard_key", none), "standard_key", "standard_key", defArgs s_standard_key, defBody s_standard_key, defScope s_standard_key, [], []⟩
def d_monomials_of_degree : He.DefD := ⟨("monomials_of_degree", none), "monomials_of_degree", "monomials_of_degree", defArgs s_monomials_of_degree, defBody s_monomials_of_degree, defScope s_monomials_of_degree, [], []⟩
def d_monomials_up_to : He.DefD := ⟨("monomials_up_to", none), "monomials_up_to", "monomials_up_to", defArgs s_monomials_up_to, defBody s_monomials_up_to, defScope s_monomials_up_to, [], []⟩
def d_comes_before : He.DefD := ⟨("comes_before", none), "comes_before", "comes_before", defArgs s_comes_before, defBody s_comes_before, defScope s_comes_before, [], []⟩
def d_divides : He.DefD := ⟨("divides", none), "divides", "divides", defArgs s_divides, defBody s_divides, defScope s_divides, [], []⟩
def d_monomial_factorial : He.DefD := ⟨("monomial_factorial", none), "monomial_factorial", "monomial_factorial", defArgs s_monomial_factorial, defBody s_monomial_factorial, defScope s_monomial_factorial, [], []⟩
def d__law_integer : He.DefD := ⟨("_law_integer", none), "_law_integer", "_law_integer", defArgs s__law_integer, defBody s__law_integer, defScope s__law_integer, [], []⟩
def d__law_exponents : He.DefD := ⟨("_law_exponents", none), "_law_exponents", "_law_exponents", defArgs s__law_exponents, defBody s__law_exponents, defScope s__law_exponents, [], []⟩
def d__law_of_degree : He.DefD := ⟨("_law_of_degree", none), "_law_of_degree", "_law_of_degree", defArgs s__law_of_degree, defBody s__law_of_degree, defScope s__law_of_degree, [], []⟩
def d__law_second : He.DefD := ⟨("_law_second", none), "_law_second", "_law_second", defArgs s__law_second, defBody s__law_second, defScope s__law_second, [], []⟩
def d__law_before : He.DefD := ⟨("_law_before", none), "_law_before", "_law_before", defArgs s__law_before, defBody s__law_before, defScope s__law_before, [], []⟩
def d__law_within : He.DefD := ⟨("_law_within", none), "_law_within", "_law_within", defArgs s__law_within, defBody s__law_within, defScope s__law_within, [], []⟩
def d__law_factors : He.DefD := ⟨("_law_factors", none), "_law_factors", "_law_factors", defArgs s__law_factors, defBody s__law_factors, defScope s__law_factors, [], []⟩
def d__law_many : He.DefD := ⟨("_law_many", none), "_law_many", "_law_many", defArgs s__law_many, defBody s__law_many, defScope s__law_many, [], []⟩
def d__law_listed : He.DefD := ⟨("_law_listed", none), "_law_listed", "_law_listed", defArgs s__law_listed, defBody s__law_listed, defScope s__law_listed, [], []⟩
def d__law_idle : He.DefD := ⟨("_law_idle", none), "_law_idle", "_law_idle", defArgs s__law_idle, defBody s__law_idle, defScope s__law_idle, [], []⟩
def d__law_lists : He.DefD := ⟨("_law_lists", none), "_law_lists", "_law_lists", defArgs s__law_lists, defBody s__law_lists, defScope s__law_lists, [], []⟩
def d__law_says : He.DefD := ⟨("_law_says", none), "_law_says", "_law_says", defArgs s__law_says, defBody s__law_says, defScope s__law_says, [], []⟩
def d__law_relations : He.DefD := ⟨("_law_relations", none), "_law_relations", "_law_relations", defArgs s__law_relations, defBody s__law_relations, defScope s__law_relations, [], []⟩
def d__law_refused : He.DefD := ⟨("_law_refused", none), "_law_refused", "_law_refused", defArgs s__law_refused, defBody s__law_refused, defScope s__law_refused, [], []⟩
def d_law : He.DefD := ⟨("law", none), "law", "law", defArgs s_law, defBody s_law, defScope s_law, [], []⟩
def fn : List He.DefD := [d__law_pool, d__law_take, d_check_dimension, d_check_length, d_standard_key, d_monomials_of_degree, d_monomials_up_to, d_comes_before, d_divides, d_monomial_factorial, d__law_integer, d__law_exponents, d__law_of_degree, d__law_second, d__law_before, d__law_within, d__law_factors, d__law_many, d__law_listed, d__law_idle, d__law_lists, d__law_says, d__law_relations, d__law_refused, d_law]
def fa : List He.Fa := [.glo "SpotError", .glo "WrongDimension", .glo "BadMonomial", .glo "BadIndex", .glo "_law_pool", .glo "_law_take", .glo "check_dimension", .glo "check_length", .glo "standard_key", .glo "monomials_of_degree", .glo "monomials_up_to", .glo "comes_before", .glo "divides", .glo "monomial_factorial", .glo "_law_integer", .glo "_law_exponents", .glo "_law_of_degree", .glo "_law_second", .glo "_law_before", .glo "_law_within", .glo "_law_factors", .glo "_law_many", .glo "_law_listed", .glo "_law_idle", .glo "_law_lists", .glo "_law_says", .glo "_law_relations", .glo "_law_refused", .glo "law", .free "int", .free "abs", .free "len", .free "list", .exc "WrongDimension", .free "sum", .free "range", .free "all", .free "isinstance", .free "bool", .free "tuple", .exc "SpotError", .free "zip", .free "ValueError", .free "max", .exm "WrongDimension" "SpotError" true]
def qs (K : PySem.W.Frag) : List Bool := [q_bi K "factorial" "math.factorial",
  q_exc K "WrongDimension",
  q_kit K "WrongDimension" "BadMonomial" false,
  q_kit K "WrongDimension" "BadIndex" false,
  q_kitT K "WrongDimension" "ValueError" true,
  decide (PySem.W.subIn K (.ref (He.ga K "WrongDimension")) (.type "StopIteration") = some false)]

abbrev R0 : PySem.W.OpenRow := PySem.W.OpenLaw.row PySem.Challenge.rw_spotheights_k02_monomials_in_order
def obsQ (K : PySem.W.Frag) : He.AlD := ((qs K).all id && (He.obsD fa fn K).1, (He.obsD fa fn K).2)
theorem obsQ_ok {K : PySem.W.Frag} (h : obsQ K = He.valD fn) : He.SaysD fa fn K ∧ (qs K).all id = true := by
  have h1 : ((qs K).all id && (He.obsD fa fn K).1) = true := congrArg (fun z : He.AlD => z.1) h
  have h2 : (He.obsD fa fn K).2 = fn.map He.DefD.val := congrArg (fun z : He.AlD => z.2) h
  obtain ⟨h3, h4⟩ := Bool.and_eq_true_iff.mp h1
  exact ⟨Prod.ext h4 h2, h3⟩
theorem q_at {K : PySem.W.Frag} {b : Bool} (c : (qs K).all id = true) (i : Nat) (h : (qs K)[i]? = some b := by rfl) : b = true := List.all_eq_true.mp c b (List.mem_of_getElem? h)
def partOf (g : Addr → Option Obj) : PySem.W.Frag := He.frG g (He.asD g 5)
def hq : PySem.W.Hook where
  α := He.AlD
  obs := fun t => obsQ (partOf t.heap.get?)
  val := fun _ => He.valD fn
  says := fun _ h => ∃ K : PySem.W.Frag, K.In h ∧ obsQ K = He.valD fn
  of := fun _ _ e => ⟨_, He.frG_in, e⟩
  keeps := fun _ _ _ w k => by
    obtain ⟨K, a, b⟩ := w
    exact ⟨K, PySem.W.Frag.In.keeps a k, b⟩
def obT (t : PySem.W.SharedT) : He.AlD := obsQ (partOf (HandSHeadRun.getT t))
theorem obT_eq (t : PySem.W.SharedT) : obT t = hq.obs t.abs := by
  have e : HandSHeadRun.getT t = t.abs.heap.get? := funext (HandSHeadRun.getT_eq t)
  show obsQ (partOf (HandSHeadRun.getT t)) = obsQ (partOf t.abs.heap.get?)
  rw [e]
theorem run0 (w : World) : HandSHeadRun.RunEqI R0 (PySem.W.view R0.prog [0, 32]) hq obT 3000 ((["SpotError", "WrongDimension", "BadMonomial", "BadIndex", "check_dimension", "check_length", "standard_key", "monomials_of_degree", "monomials_up_to", "comes_before", "divides", "monomial_factorial", "_law_pool", "_law_take", "_law_integer", "_law_exponents", "_law_of_degree", "_law_second", "_law_before", "_law_within", "_law_factors", "_law_many", "_law_listed", "_law_idle", "_law_lists", "_law_says", "_law_relations", "_law_refused"] : List PySem.Str)) w := by
  unfold HandSHeadRun.RunEqI
  kernel_rfl
theorem calm {P : Program} {w : World} {K : PySem.W.Frag} {mg : Str → Option Value} {base : Heap} {k : Nat} {f : Addr} {fd : FuncData} {ps : List Str} {sp : Sp} (F : FnOk P w K mg base (L2.CX P w) k f fd ps sp) : FnOk P w K mg base CX0 k f fd ps (fun vs H Q _ => sp vs H Q E0) :=
  ⟨fun _ _ _ _ z => F.len _ _ _ _ z, fun A outer s H args us vs Q E hr e b v z => codeAny_mono (F.run A outer s H args us vs Q E0 hr e b v z) fun r s' y => by
    cases r with
    | error u =>
      obtain ⟨_, _, _, _, _, _, _, _, _, _, _, _, n⟩ := (show L2.CX P w outer H s E0 u s' from y)
      exact n.elim
    | ok fl => cases fl <;> exact y⟩
def spLaw (K : PySem.W.Frag) : Sp := fun vs H Q _ => spP (S_law K) NoR vs H Q E0
theorem spLaw_ok {K : PySem.W.Frag} {H : Hp} {a : Addr} {ns : List Int} (hl : ns.length ≤ 63) (hS : SqL K H a (ns.map V.int)) : spLaw K [.ref a] H (fun v _ => v = .bl true) fun _ _ _ => False :=
  ⟨H, [⟨tScr K, ns⟩], fun _ _ z => z, .cons ⟨a, rfl, hS⟩ .nil, .inl ⟨⟨tBool, true⟩, ⟨ns, rfl, hl, rfl⟩, fun _ _ _ _ r => r⟩⟩
set_option maxHeartbeats 4000000 in
theorem facts {P : Program} {w : World} {K : PySem.W.Frag} {h : Heap} {mg : Str → Option Value} {f : Addr} (X : K.In h) (G : h.Ns mainGlobals mg) (hfa : mg ("law" : Str) = some (.ref f)) (c0 : obsQ K = He.valD fn) :
    ∃ fd : FuncData, (∀ (s : Shared) (v : Value), BindsTo s fd ⟨[v], []⟩ [("script", v)]) ∧ ∀ base : Heap, K.In base → base.Ns mainGlobals mg → FnOk P w K mg base CX0 13 f fd ["script"] (spLaw K) := by
  obtain ⟨c, cq⟩ := obsQ_ok c0
  have cd := c
  obtain ⟨fd_0, F_0⟩ := cd.def_ 0 (d := d__law_pool) rfl
  obtain ⟨fd_1, F_1⟩ := cd.def_ 1 (d := d__law_take) rfl
  obtain ⟨fd_2, F_2⟩ := cd.def_ 2 (d := d_check_dimension) rfl
  obtain ⟨fd_3, F_3⟩ := cd.def_ 3 (d := d_check_length) rfl
  obtain ⟨fd_4, F_4⟩ := cd.def_ 4 (d := d_standard_key) rfl
  obtain ⟨fd_5, F_5⟩ := cd.def_ 5 (d := d_monomials_of_degree) rfl
  obtain ⟨fd_6, F_6⟩ := cd.def_ 6 (d := d_monomials_up_to) rfl
  obtain ⟨fd_7, F_7⟩ := cd.def_ 7 (d := d_comes_before) rfl
  obtain ⟨fd_8, F_8⟩ := cd.def_ 8 (d := d_divides) rfl
  obtain ⟨fd_9, F_9⟩ := cd.def_ 9 (d := d_monomial_factorial) rfl
  obtain ⟨fd_10, F_10⟩ := cd.def_ 10 (d := d__law_integer) rfl
  obtain ⟨fd_11, F_11⟩ := cd.def_ 11 (d := d__law_exponents) rfl
  obtain ⟨fd_12, F_12⟩ := cd.def_ 12 (d := d__law_of_degree) rfl
  obtain ⟨fd_13, F_13⟩ := cd.def_ 13 (d := d__law_second) rfl
  obtain ⟨fd_14, F_14⟩ := cd.def_ 14 (d := d__law_before) rfl
  obtain ⟨fd_15, F_15⟩ := cd.def_ 15 (d := d__law_within) rfl
  obtain ⟨fd_16, F_16⟩ := cd.def_ 16 (d := d__law_factors) rfl
  obtain ⟨fd_17, F_17⟩ := cd.def_ 17 (d := d__law_many) rfl
  obtain ⟨fd_18, F_18⟩ := cd.def_ 18 (d := d__law_listed) rfl
  obtain ⟨fd_19, F_19⟩ := cd.def_ 19 (d := d__law_idle) rfl
  obtain ⟨fd_20, F_20⟩ := cd.def_ 20 (d := d__law_lists) rfl
  obtain ⟨fd_21, F_21⟩ := cd.def_ 21 (d := d__law_says) rfl
  obtain ⟨fd_22, F_22⟩ := cd.def_ 22 (d := d__law_relations) rfl
  obtain ⟨fd_23, F_23⟩ := cd.def_ 23 (d := d__law_refused) rfl
  obtain ⟨fd_24, F_24⟩ := cd.def_ 24 (d := d_law) rfl
  have e := hfa.symm.trans (He.glo_ok X G (c.fact 28 (f := .glo "law") rfl))
  cases e
  have bL := FunD.bindsA (ps := ["script"]) F_24 fun _ _ _ _ _ _ us hl => match us, hl with | [_], _ => rfl
  refine ⟨fd_24, fun s v => bL s [v] rfl, fun base _ _ => ?_⟩
  have h__law_pool := ok__law_pool (W := ⟨P, w, K, mg, base⟩)  (F := F_0) (g := He.glo_ok X G (c.fact 4 (f := .glo "_law_pool") rfl)) (z_int := (He.free_ok X G (c.fact 29 (f := .free "int") rfl))) (z_abs := (He.free_ok X G (c.fact 30 (f := .free "abs") rfl))) (z_len := (He.free_ok X G (c.fact 31 (f := .free "len") rfl)))
  have h__law_take := ok__law_take (W := ⟨P, w, K, mg, base⟩)  (F := F_1) (g := He.glo_ok X G (c.fact 5 (f := .glo "_law_take") rfl)) (z_len := (He.free_ok X G (c.fact 31 (f := .free "len") rfl))) (z_list := (He.free_ok X G (c.fact 32 (f := .free "list") rfl))) (z_int := (He.free_ok X G (c.fact 29 (f := .free "int") rfl)))
  have h_check_dimension := ok_check_dimension (W := ⟨P, w, K, mg, base⟩) (C_WrongDimension := (He.ga K "WrongDimension")) (F := F_2) (g := He.glo_ok X G (c.fact 6 (f := .glo "check_dimension") rfl)) (xc_WrongDimension := ⟨He.glo_ok X G (c.fact 1 (f := .glo "WrongDimension") rfl), (He.exc_ok (c.fact 33 (f := .exc "WrongDimension") rfl)).1, (He.exc_ok (c.fact 33 (f := .exc "WrongDimension") rfl)).2.1, (He.exc_ok (c.fact 33 (f := .exc "WrongDimension") rfl)).2.2.1, (He.exc_ok (c.fact 33 (f := .exc "WrongDimension") rfl)).2.2.2⟩)
  have h_check_length := ok_check_length (W := ⟨P, w, K, mg, base⟩) (C_WrongDimension := (He.ga K "WrongDimension")) (F := F_3) (g := He.glo_ok X G (c.fact 7 (f := .glo "check_length") rfl)) (z_len := (He.free_ok X G (c.fact 31 (f := .free "len") rfl))) (xc_WrongDimension := ⟨He.glo_ok X G (c.fact 1 (f := .glo "WrongDimension") rfl), (He.exc_ok (c.fact 33 (f := .exc "WrongDimension") rfl)).1, (He.exc_ok (c.fact 33 (f := .exc "WrongDimension") rfl)).2.1, (He.exc_ok (c.fact 33 (f := .exc "WrongDimension") rfl)).2.2.1, (He.exc_ok (c.fact 33 (f := .exc "WrongDimension") rfl)).2.2.2⟩)
  have h_standard_key := ok_standard_key (W := ⟨P, w, K, mg, base⟩)  (F := F_4) (g := He.glo_ok X G (c.fact 8 (f := .glo "standard_key") rfl)) (z_sum := (He.free_ok X G (c.fact 34 (f := .free "sum") rfl)))
  have h_monomials_of_degree_0 := defOk_no (W := ⟨P, w, K, mg, base⟩) (k := 0) (sp := (spMod (He.ga K "WrongDimension") 0)) F_5 (g := He.glo_ok X G (c.fact 9 (f := .glo "monomials_of_degree") rfl)) sc_monomials_of_degree (fun _ _ _ _ _ _ us hl => match us, hl with | [_, _], _ => rfl) spMod_no
  have h_monomials_of_degree_1 := ok_monomials_of_degree (W := ⟨P, w, K, mg, base⟩) (C_WrongDimension := (He.ga K "WrongDimension")) (m_ := 0) (F := F_5) (g := He.glo_ok X G (c.fact 9 (f := .glo "monomials_of_degree") rfl)) (h_check_dimension := h_check_dimension) (z_range := (He.free_ok X G (c.fact 35 (f := .free "range") rfl))) (h_monomials_of_degree := h_monomials_of_degree_0)
  have h_monomials_of_degree_2 := ok_monomials_of_degree (W := ⟨P, w, K, mg, base⟩) (C_WrongDimension := (He.ga K "WrongDimension")) (m_ := 1) (F := F_5) (g := He.glo_ok X G (c.fact 9 (f := .glo "monomials_of_degree") rfl)) (h_check_dimension := h_check_dimension) (z_range := (He.free_ok X G (c.fact 35 (f := .free "range") rfl))) (h_monomials_of_degree := h_monomials_of_degree_1)
  have h_monomials_of_degree := ok_monomials_of_degree (W := ⟨P, w, K, mg, base⟩) (C_WrongDimension := (He.ga K "WrongDimension")) (m_ := 2) (F := F_5) (g := He.glo_ok X G (c.fact 9 (f := .glo "monomials_of_degree") rfl)) (h_check_dimension := h_check_dimension) (z_range := (He.free_ok X G (c.fact 35 (f := .free "range") rfl))) (h_monomials_of_degree := h_monomials_of_degree_2)
  have h_monomials_up_to := ok_monomials_up_to (W := ⟨P, w, K, mg, base⟩) (C_WrongDimension := (He.ga K "WrongDimension")) (F := F_6) (g := He.glo_ok X G (c.fact 10 (f := .glo "monomials_up_to") rfl)) (z_range := (He.free_ok X G (c.fact 35 (f := .free "range") rfl))) (h_monomials_of_degree := h_monomials_of_degree) (h_check_dimension := h_check_dimension)
  have h_comes_before := ok_comes_before (W := ⟨P, w, K, mg, base⟩) (C_WrongDimension := (He.ga K "WrongDimension")) (F := F_7) (g := He.glo_ok X G (c.fact 11 (f := .glo "comes_before") rfl)) (z_len := (He.free_ok X G (c.fact 31 (f := .free "len") rfl))) (h_check_dimension := h_check_dimension) (h_check_length := h_check_length) (h_standard_key := h_standard_key)
  have h_divides := ok_divides (W := ⟨P, w, K, mg, base⟩) (C_WrongDimension := (He.ga K "WrongDimension")) (F := F_8) (g := He.glo_ok X G (c.fact 12 (f := .glo "divides") rfl)) (z_len := (He.free_ok X G (c.fact 31 (f := .free "len") rfl))) (h_check_dimension := h_check_dimension) (h_check_length := h_check_length) (z_range := (He.free_ok X G (c.fact 35 (f := .free "range") rfl))) (z_all := (He.free_ok X G (c.fact 36 (f := .free "all") rfl)))
  have h_monomial_factorial := ok_monomial_factorial (W := ⟨P, w, K, mg, base⟩) (C_WrongDimension := (He.ga K "WrongDimension")) (F := F_9) (g := He.glo_ok X G (c.fact 13 (f := .glo "monomial_factorial") rfl)) (z_len := (He.free_ok X G (c.fact 31 (f := .free "len") rfl))) (h_check_dimension := h_check_dimension) (q_factorial := (bi_ok X G (q_at cq (b := q_bi K "factorial" "math.factorial") 0)))
  have h__law_integer := ok__law_integer (W := ⟨P, w, K, mg, base⟩)  (F := F_10) (g := He.glo_ok X G (c.fact 14 (f := .glo "_law_integer") rfl)) (z_int := (He.free_ok X G (c.fact 29 (f := .free "int") rfl))) (z_isinstance := (He.free_ok X G (c.fact 37 (f := .free "isinstance") rfl))) (z_bool := (He.free_ok X G (c.fact 38 (f := .free "bool") rfl)))
  have h__law_exponents := ok__law_exponents (W := ⟨P, w, K, mg, base⟩)  (F := F_11) (g := He.glo_ok X G (c.fact 15 (f := .glo "_law_exponents") rfl)) (z_range := (He.free_ok X G (c.fact 35 (f := .free "range") rfl))) (h__law_take := h__law_take) (z_tuple := (He.free_ok X G (c.fact 39 (f := .free "tuple") rfl)))
  have h__law_of_degree := ok__law_of_degree (W := ⟨P, w, K, mg, base⟩)  (F := F_12) (g := He.glo_ok X G (c.fact 16 (f := .glo "_law_of_degree") rfl)) (h__law_exponents := h__law_exponents) (z_list := (He.free_ok X G (c.fact 32 (f := .free "list") rfl))) (h__law_take := h__law_take) (z_sum := (He.free_ok X G (c.fact 34 (f := .free "sum") rfl))) (z_tuple := (He.free_ok X G (c.fact 39 (f := .free "tuple") rfl)))
  have h__law_second := ok__law_second (W := ⟨P, w, K, mg, base⟩)  (F := F_13) (g := He.glo_ok X G (c.fact 17 (f := .glo "_law_second") rfl)) (h__law_take := h__law_take) (z_len := (He.free_ok X G (c.fact 31 (f := .free "len") rfl))) (z_sum := (He.free_ok X G (c.fact 34 (f := .free "sum") rfl))) (h__law_of_degree := h__law_of_degree) (h__law_exponents := h__law_exponents) (z_range := (He.free_ok X G (c.fact 35 (f := .free "range") rfl))) (z_tuple := (He.free_ok X G (c.fact 39 (f := .free "tuple") rfl))) (z_list := (He.free_ok X G (c.fact 32 (f := .free "list") rfl)))
  have h__law_before := ok__law_before (W := ⟨P, w, K, mg, base⟩)  (F := F_14) (g := He.glo_ok X G (c.fact 18 (f := .glo "_law_before") rfl)) (z_sum := (He.free_ok X G (c.fact 34 (f := .free "sum") rfl))) (z_len := (He.free_ok X G (c.fact 31 (f := .free "len") rfl))) (z_range := (He.free_ok X G (c.fact 35 (f := .free "range") rfl)))
  have h__law_within := ok__law_within (W := ⟨P, w, K, mg, base⟩)  (F := F_15) (g := He.glo_ok X G (c.fact 19 (f := .glo "_law_within") rfl)) (z_len := (He.free_ok X G (c.fact 31 (f := .free "len") rfl))) (z_range := (He.free_ok X G (c.fact 35 (f := .free "range") rfl)))
  have h__law_factors := ok__law_factors (W := ⟨P, w, K, mg, base⟩)  (F := F_16) (g := He.glo_ok X G (c.fact 20 (f := .glo "_law_factors") rfl)) (z_range := (He.free_ok X G (c.fact 35 (f := .free "range") rfl)))
  have h__law_many := ok__law_many (W := ⟨P, w, K, mg, base⟩)  (F := F_17) (g := He.glo_ok X G (c.fact 21 (f := .glo "_law_many") rfl)) 
  have h__law_listed := ok__law_listed (W := ⟨P, w, K, mg, base⟩)  (F := F_18) (g := He.glo_ok X G (c.fact 22 (f := .glo "_law_listed") rfl)) (z_list := (He.free_ok X G (c.fact 32 (f := .free "list") rfl))) (z_isinstance := (He.free_ok X G (c.fact 37 (f := .free "isinstance") rfl))) (z_len := (He.free_ok X G (c.fact 31 (f := .free "len") rfl))) (z_tuple := (He.free_ok X G (c.fact 39 (f := .free "tuple") rfl))) (h__law_integer := h__law_integer) (z_sum := (He.free_ok X G (c.fact 34 (f := .free "sum") rfl))) (h__law_before := h__law_before)
  have h__law_idle := ok__law_idle (W := ⟨P, w, K, mg, base⟩) (C_WrongDimension := (He.ga K "WrongDimension")) (C_SpotError := (He.ga K "SpotError")) (F := F_19) (g := He.glo_ok X G (c.fact 23 (f := .glo "_law_idle") rfl)) (xc_SpotError := ⟨He.glo_ok X G (c.fact 0 (f := .glo "SpotError") rfl), (He.exc_ok (c.fact 40 (f := .exc "SpotError") rfl)).1, (He.exc_ok (c.fact 40 (f := .exc "SpotError") rfl)).2.1, (He.exc_ok (c.fact 40 (f := .exc "SpotError") rfl)).2.2.1, (He.exc_ok (c.fact 40 (f := .exc "SpotError") rfl)).2.2.2⟩) (h_monomials_up_to := h_monomials_up_to) (z_zip := (He.free_ok X G (c.fact 41 (f := .free "zip") rfl))) (z_ValueError := (He.free_ok X G (c.fact 42 (f := .free "ValueError") rfl))) (z_isinstance := (He.free_ok X G (c.fact 37 (f := .free "isinstance") rfl))) (XE_ := (excC_ok (q_at cq (b := q_exc K "WrongDimension") 1)))
  have h__law_lists := ok__law_lists (W := ⟨P, w, K, mg, base⟩) (C_WrongDimension := (He.ga K "WrongDimension")) (F := F_20) (g := He.glo_ok X G (c.fact 24 (f := .glo "_law_lists") rfl)) (h_monomials_up_to := h_monomials_up_to) (z_list := (He.free_ok X G (c.fact 32 (f := .free "list") rfl))) (h__law_many := h__law_many) (h__law_listed := h__law_listed) (h_monomials_of_degree := h_monomials_of_degree) (z_tuple := (He.free_ok X G (c.fact 39 (f := .free "tuple") rfl)))
  have h__law_says := ok__law_says (W := ⟨P, w, K, mg, base⟩)  (F := F_21) (g := He.glo_ok X G (c.fact 25 (f := .glo "_law_says") rfl)) (z_bool := (He.free_ok X G (c.fact 38 (f := .free "bool") rfl))) (z_isinstance := (He.free_ok X G (c.fact 37 (f := .free "isinstance") rfl)))
  have h__law_relations := ok__law_relations (W := ⟨P, w, K, mg, base⟩) (C_WrongDimension := (He.ga K "WrongDimension")) (F := F_22) (g := He.glo_ok X G (c.fact 26 (f := .glo "_law_relations") rfl)) (h_comes_before := h_comes_before) (h__law_before := h__law_before) (h__law_says := h__law_says) (h_divides := h_divides) (h__law_within := h__law_within) (h_monomial_factorial := h_monomial_factorial) (h__law_integer := h__law_integer) (h__law_factors := h__law_factors)
  have h__law_refused := ok__law_refused (W := ⟨P, w, K, mg, base⟩) (C_WrongDimension := (He.ga K "WrongDimension")) (C_SpotError := (He.ga K "SpotError")) (C_BadMonomial := (He.ga K "BadMonomial")) (C_BadIndex := (He.ga K "BadIndex")) (F := F_23) (g := He.glo_ok X G (c.fact 27 (f := .glo "_law_refused") rfl)) (xc_SpotError := ⟨He.glo_ok X G (c.fact 0 (f := .glo "SpotError") rfl), (He.exc_ok (c.fact 40 (f := .exc "SpotError") rfl)).1, (He.exc_ok (c.fact 40 (f := .exc "SpotError") rfl)).2.1, (He.exc_ok (c.fact 40 (f := .exc "SpotError") rfl)).2.2.1, (He.exc_ok (c.fact 40 (f := .exc "SpotError") rfl)).2.2.2⟩) (h_comes_before := h_comes_before) (h_divides := h_divides) (z_max := (He.free_ok X G (c.fact 43 (f := .free "max") rfl))) (h_monomials_of_degree := h_monomials_of_degree) (h_monomials_up_to := h_monomials_up_to) (ns_WrongDimension := (of_decide_eq_true (q_at cq (b := decide (PySem.W.subIn K (.ref (He.ga K "WrongDimension")) (.type "StopIteration") = some false)) 5))) (z_list := (He.free_ok X G (c.fact 32 (f := .free "list") rfl))) (h_monomial_factorial := h_monomial_factorial) (gc_BadMonomial := (He.glo_ok X G (c.fact 2 (f := .glo "BadMonomial") rfl))) (z_isinstance := (He.free_ok X G (c.fact 37 (f := .free "isinstance") rfl))) (gc_BadIndex := (He.glo_ok X G (c.fact 3 (f := .glo "BadIndex") rfl))) (gc_WrongDimension := (He.glo_ok X G (c.fact 1 (f := .glo "WrongDimension") rfl))) (z_ValueError := (He.free_ok X G (c.fact 42 (f := .free "ValueError") rfl))) (em_ := (He.exm_ok (c.fact 44 (f := .exm "WrongDimension" "SpotError" true) rfl))) (XE_ := (excC_ok (q_at cq (b := q_exc K "WrongDimension") 1))) (kz1 := (of_decide_eq_true (q_at cq (b := q_kit K "WrongDimension" "BadMonomial" false) 2))) (kz2 := (of_decide_eq_true (q_at cq (b := q_kit K "WrongDimension" "BadIndex" false) 3))) (kz3 := (of_decide_eq_true (q_at cq (b := q_kitT K "WrongDimension" "ValueError" true) 4)))
  have h_law := ok_law (W := ⟨P, w, K, mg, base⟩)  (F := F_24)  (h__law_pool := h__law_pool) (h__law_take := h__law_take) (h__law_exponents := h__law_exponents) (h__law_second := h__law_second) (h__law_lists := h__law_lists) (h__law_relations := h__law_relations) (z_range := (He.free_ok X G (c.fact 35 (f := .free "range") rfl))) (h__law_refused := h__law_refused) (h__law_idle := h__law_idle)
  exact calm h_law

end LW

open PySem PySem.W PySem.Calls PyProof.Rows
theorem PySem.Challenge.cw_spotheights_k02_monomials_in_order_holds : PySem.Challenge.rw_spotheights_k02_monomials_in_order.Holds := by
  w_on; o_law
  refine HandSHeadRun.head_imp (r := OpenLaw.row PySem.Challenge.rw_spotheights_k02_monomials_in_order) (q := view (OpenLaw.row PySem.Challenge.rw_spotheights_k02_monomials_in_order).prog [0, 32]) (H := LW.hq) (ob := LW.obT) (M := 3000) (loose := (["SpotError", "WrongDimension", "BadMonomial", "BadIndex", "check_dimension", "check_length", "standard_key", "monomials_of_degree", "monomials_up_to", "comes_before", "divides", "monomial_factorial", "_law_pool", "_law_take", "_law_integer", "_law_exponents", "_law_of_degree", "_law_second", "_law_before", "_law_within", "_law_factors", "_law_many", "_law_listed", "_law_idle", "_law_lists", "_law_says", "_law_relations", "_law_refused"] : List PySem.Str)) (d := HandSHeadRun.topDef (OpenLaw.row PySem.Challenge.rw_spotheights_k02_monomials_in_order).prog 32) (kwd := []) LW.obT_eq LW.run0 (by kernel_rfl) (by kernel_rfl) (by kernel_rfl) (by rfl) (by first | assumption | decide +kernel) (by decide +kernel) ⟨rfl, rfl, rfl, rfl, rfl, by decide +kernel⟩ ?hw ?hc
  case hw => w_witness2
  case hc =>
    refine L2.walk_ofE (l := PySem.Challenge.rw_spotheights_k02_monomials_in_order) (n := 63) (k := 13) (x := "script") (CX := L2.CX0) rfl (by decide) (by kernel_rfl) ⟨rfl, by decide, by decide⟩ ?F (fun _ _ _ _ z => z)
    intro w mg fa h Y G hmg0
    obtain ⟨K, KX, c⟩ := Y
    have hmg : mg ("law" : PySem.Str) = some (.ref fa) := by
      have e : (HandSHeadRun.topDef (OpenLaw.row PySem.Challenge.rw_spotheights_k02_monomials_in_order).prog 32).name = ("law" : PySem.Str) := by kernel_rfl
      rw [← e]
      exact hmg0
    obtain ⟨fd, hb, hF⟩ := LW.facts (P := (PySem.Challenge.rw_spotheights_k02_monomials_in_order).prog) (w := w) KX G hmg c
    exact ⟨K, fd, LW.spLaw K, KX, hb, fun H a ns hl _ hS => LW.spLaw_ok hl hS, hF⟩

