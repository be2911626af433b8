import PyProof.Rows.All
import HandS.ForMost
import HandS.Evl
import HandS.Exc
import HandS.TryOnly
import HandS.ExcOwn
import HandS.WordsExc
import HandS.Wide
import HandS.WideBits
import HandS.Gcd
import HandS.IsInst
import HandS.OwnEq
import HandS.Codes
import KE.KOpsOwn
import KE.KCallOwn
import PyProof.Conv_bool
import PyProof.Rows.RuleN_abs
import PyProof.TwoTypes
import HandS.Defaults
import HandS.ExcIs
import HandS.ClsMeth
import HandS.RaiseMore
import HandS.Text
import HandS.StrMore
import HandS.Steps
import HandS.Rev
import HandS.Walk
import KE.LtSeq
import KE.KSortKey
import HandS.SortOrd
import HandS.SortRule
import HandS.SortKw
import HandS.NamedTupSort
import HandS.Dict
import HandS.Conv
import HandS.GenList
import HandS.IterNext
import HandS.Zip
import KE.KTurns
import KE.KMathGC
import KE.KTupSum
import HandS.ExcInit
import HandS.Nested
import KE.KExcSuper
import KE.KxIndex
import HandS.Style
import HandS.ExcField
import HandS.HeadNt
import HandS.Head0
import HandS.Head1
import HandS.Head2
import HandS.Head3
import HandS.HeadEnd
import HandS.HeadHook1
import HandS.HeadHook2
import KE.KStateDown
import PySem.Challenge.RW_spotheights_k01_number_texts
set_option Elab.async false
set_option linter.all false
set_option maxRecDepth 100000
set_option maxRecDepth 100000
/-! DL: the ghost layer. A reading of the hand layer is shown over typed data: each slot of a def holds a datum of plain Lean (frozen), or an owned object. -/
namespace DL
open PySem L2 Evl

/-- two lists, place by place -/
inductive Al.{u, v} {α : Type u} {β : Type v} (R : α → β → Prop) : List α → List β → Prop
  | nil : Al R [] []
  | cons {a b l₁ l₂} : R a b → Al R l₁ l₂ → Al R (a :: l₁) (b :: l₂)
section
universe u v
variable {α : Type u} {β : Type v} {R S : α → β → Prop}
theorem Al.map : ∀ {l₁ : List α} {l₂ : List β}, Al R l₁ l₂ → (∀ a b, R a b → S a b) → Al S l₁ l₂
  | _, _, .nil, _ => .nil
  | _, _, .cons r t, f => .cons (f _ _ r) (Al.map t f)
theorem Al.len : ∀ {l₁ : List α} {l₂ : List β}, Al R l₁ l₂ → l₁.length = l₂.length
  | _, _, .nil => rfl
  | _, _, .cons _ t => congrArg (· + 1) (Al.len t)
theorem Al.app : ∀ {l₁ m₁ : List α} {l₂ m₂ : List β}, Al R l₁ l₂ → Al R m₁ m₂ → Al R (l₁ ++ m₁) (l₂ ++ m₂)
  | _, _, _, _, .nil, s => s
  | _, _, _, _, .cons r t, s => .cons r (Al.app t s)
theorem Al.set {x : α} {y : β} (r : R x y) : ∀ {xs : List α} {ys : List β} (i : Nat), Al R xs ys → Al R (xs.set i x) (ys.set i y)
  | _, _, _, .nil => .nil
  | _, _, 0, .cons _ tl => .cons r tl
  | _, _, i + 1, .cons q tl => .cons q (Al.set r i tl)
theorem Al.set' {x : α} {y : β} {xs : List α} {ys : List β} (h : Al R xs ys) (i : Nat) (r : R x y) : Al R (xs.set i x) (ys.set i y) := Al.set r i h
theorem Al.get : ∀ {xs : List α} {ys : List β} {i : Nat} {x : α}, Al R xs ys → xs[i]? = some x → ∃ y, ys[i]? = some y ∧ R x y
  | _, _, _, _, .nil, hx => by simp at hx
  | _, _, 0, _, .cons r _, hx => by simp at hx; subst hx; exact ⟨_, rfl, r⟩
  | _, _, i + 1, x, .cons _ tl, hx => by
    obtain ⟨y, h1, h2⟩ := Al.get (i := i) tl (by simpa using hx)
    exact ⟨y, by simpa using h1, h2⟩
theorem Al.getR : ∀ {xs : List α} {ys : List β} {i : Nat} {y : β}, Al R xs ys → ys[i]? = some y → ∃ x, xs[i]? = some x ∧ R x y
  | _, _, _, _, .nil, hx => by simp at hx
  | _, _, 0, _, .cons r _, hx => by simp at hx; subst hx; exact ⟨_, rfl, r⟩
  | _, _, i + 1, x, .cons _ tl, hx => by
    obtain ⟨y, h1, h2⟩ := Al.getR (i := i) tl (by simpa using hx)
    exact ⟨y, by simpa using h1, h2⟩
theorem Al.take : ∀ {xs : List α} {ys : List β} (n : Nat), Al R xs ys → Al R (xs.take n) (ys.take n)
  | _, _, 0, _ => .nil
  | _, _, _ + 1, .nil => .nil
  | _, _, n + 1, .cons r t => .cons r (Al.take n t)
theorem Al.drop : ∀ {xs : List α} {ys : List β} (n : Nat), Al R xs ys → Al R (xs.drop n) (ys.drop n)
  | _, _, 0, r => r
  | _, _, _ + 1, .nil => .nil
  | _, _, n + 1, .cons _ t => Al.drop n t
theorem Al.rev : ∀ {l₁ : List α} {l₂ : List β}, Al R l₁ l₂ → Al R l₁.reverse l₂.reverse
  | _, _, .nil => .nil
  | _, _, .cons r t => by
    simp only [List.reverse_cons]
    exact (Al.rev t).app (.cons r .nil)
/-- by places -/
theorem Al.of : ∀ {xs : List α} {ys : List β}, xs.length = ys.length → (∀ (i : Nat) x y, xs[i]? = some x → ys[i]? = some y → R x y) → Al R xs ys
  | [], [], _, _ => .nil
  | [], _ :: _, e, _ => by simp at e
  | _ :: _, [], e, _ => by simp at e
  | x :: xs, y :: ys, e, h => .cons (h 0 x y rfl rfl) (Al.of (by simpa using e) fun i a b p q => h (i + 1) a b (by simpa using p) (by simpa using q))
end

/-- a type of data: how a value stands for it in the frozen heap -/
structure Ty (α : Type) where
  rep : Hp → V → α → Prop
  mono : ∀ {F F' : Hp} {v : V} {x : α}, Ex F F' → rep F v x → rep F' v x
structure Dv where
  {α : Type}
  t : Ty α
  x : α
def Dv.rep (F : Hp) (d : Dv) (v : V) : Prop := d.t.rep F v d.x
theorem Dv.mono {F F' : Hp} {d : Dv} {v : V} (e : Ex F F') (h : d.rep F v) : d.rep F' v := d.t.mono e h
abbrev Reps (F : Hp) (ds : List Dv) (vs : List V) : Prop := Al (fun (d : Dv) v => d.rep F v) ds vs
theorem Reps.mono {F F' : Hp} {ds : List Dv} {vs : List V} (e : Ex F F') (h : Reps F ds vs) : Reps F' ds vs := Al.map h fun _ _ r => Dv.mono e r
abbrev RepF (F : Hp) (ds : List (Str × Dv)) (vs : List (Str × V)) : Prop := Al (fun (d : Str × Dv) v => d.1 = v.1 ∧ d.2.rep F v.2) ds vs
theorem RepF.mono {F F' : Hp} {ds : List (Str × Dv)} {vs : List (Str × V)} (e : Ex F F') (h : RepF F ds vs) : RepF F' ds vs := Al.map h fun _ _ r => ⟨r.1, Dv.mono e r.2⟩

/-- a dict's entries, keys tuples of ints -/
abbrev RepK {α : Type} (F : Hp) (t : Ty α) (kvs : List (List Int × α)) (ws : List (List Key × V)) : Prop := Al (fun (p : List Int × α) (w : List Key × V) => w.1 = p.1.map Sum.inl ∧ t.rep F w.2 p.2) kvs ws
inductive Slot where
  | any
  | val (d : Dv)
  | own (oa : Option Addr) (ds : List Dv)
  | lst {α : Type} (t : Ty α) (xs : List α)
  | obj (oa : Option Addr) (C : Addr) (fs : List (Str × Dv))
  | dct {α : Type} (t : Ty α) (kvs : List (List Int × α))
def Slot.isOwn : Slot → Bool
  | .any => false
  | .val _ => false
  | _ => true
/-- what an owned address holds -/
def OwnOk (F H : Hp) (a : Addr) : Slot → Prop
  | .own oa ds => F a = none ∧ (∀ b, oa = some b → a = b) ∧ ∃ vs, H a = some (.lst vs) ∧ Reps F ds vs
  | .lst t xs => F a = none ∧ ∃ vs, H a = some (.lst vs) ∧ Al (fun x v => t.rep F v x) xs vs
  | .obj oa C fs => F a = none ∧ (∀ b, oa = some b → a = b) ∧ ∃ dx vs, F dx = some (.own a) ∧ H a = some (.ins C dx vs) ∧ RepF F fs vs
  | .dct t kvs => F a = none ∧ ∃ ws, H a = some (.dT ws) ∧ RepK F t kvs ws
  | _ => False
def SlotOk (F H : Hp) (s : Slot) (o : Option V) : Prop := match s with
  | .any => True
  | .val d => ∃ v, o = some v ∧ d.rep F v
  | s => ∃ a, o = some (.ref a) ∧ OwnOk F H a s
theorem OwnOk.no {F H : Hp} {a : Addr} {s : Slot} (h : OwnOk F H a s) : F a = none := by
  cases s with
  | any => exact h.elim
  | val d => exact h.elim
  | own oa ds => exact h.1
  | lst t xs => exact h.1
  | obj oa C fs => exact h.1
  | dct t kvs => exact h.1
theorem OwnOk.so {F H : Hp} {a : Addr} {s : Slot} (h : OwnOk F H a s) : ∃ o, H a = some o := by
  cases s with
  | any => exact h.elim
  | val d => exact h.elim
  | own oa ds => obtain ⟨_, _, vs, e, _⟩ := h; exact ⟨_, e⟩
  | lst t xs => obtain ⟨_, vs, e, _⟩ := h; exact ⟨_, e⟩
  | obj oa C fs => obtain ⟨_, _, dx, vs, _, e, _⟩ := h; exact ⟨_, e⟩
  | dct t kvs => obtain ⟨_, vs, e, _⟩ := h; exact ⟨_, e⟩
theorem OwnOk.nt {F H : Hp} {a : Addr} {s : Slot} (h : OwnOk F H a s) (vs : List V) : H a ≠ some (.tup vs) := fun z => by
  cases s with
  | any => exact h.elim
  | val d => exact h.elim
  | own oa ds => obtain ⟨_, _, us, e, _⟩ := h; rw [z] at e; cases e
  | lst t xs => obtain ⟨_, us, e, _⟩ := h; rw [z] at e; cases e
  | obj oa C fs => obtain ⟨_, _, dx, us, _, e, _⟩ := h; rw [z] at e; cases e
  | dct t kvs => obtain ⟨_, us, e, _⟩ := h; rw [z] at e; cases e
theorem OwnOk.own {F H : Hp} {a : Addr} {s : Slot} (h : OwnOk F H a s) : s.isOwn = true := by
  cases s <;> first | exact h.elim | rfl
theorem OwnOk.mono {F H F' H' : Hp} {a : Addr} {s : Slot} (h : OwnOk F H a s) (e : Ex F F') (n : F' a = none) (k : H' a = H a) : OwnOk F' H' a s := by
  cases s with
  | any => exact h.elim
  | val d => exact h.elim
  | own oa ds => obtain ⟨_, ad, vs, q, r⟩ := h; exact ⟨n, ad, vs, by rw [k]; exact q, r.mono e⟩
  | lst t xs => obtain ⟨_, vs, q, r⟩ := h; exact ⟨n, vs, by rw [k]; exact q, r.map fun _ _ z => t.mono e z⟩
  | obj oa C fs => obtain ⟨_, ad, dx, vs, f, q, r⟩ := h; exact ⟨n, ad, dx, vs, e _ _ f, by rw [k]; exact q, r.mono e⟩
  | dct t kvs => obtain ⟨_, vs, q, r⟩ := h; exact ⟨n, vs, by rw [k]; exact q, r.map fun _ _ z => ⟨z.1, t.mono e z.2⟩⟩
theorem SlotOk.ownAt {F H : Hp} {s : Slot} {o : Option V} (h : SlotOk F H s o) (i : s.isOwn = true) : ∃ a, o = some (.ref a) ∧ OwnOk F H a s := by
  cases s <;> first | exact h | cases i
theorem SlotOk.of_own {F H : Hp} {s : Slot} {a : Addr} (h : OwnOk F H a s) : SlotOk F H s (some (.ref a)) := by
  cases s <;> first | exact h.elim | exact ⟨a, rfl, h⟩

/-- from the entry's frozen and whole heap to those at hand; O: what the caller lets change -/
structure Step (O : Addr → Prop) (F0 H0 F H : Hp) : Prop where
  ff : Ex F0 F
  fh : Ex F H
  keep : ∀ b o, H0 b = some o → F0 b = none → (F b = none ∨ ∃ vs, F b = some (.tup vs)) ∧ (∃ o', H b = some o') ∧ (¬ O b → H b = some o)
abbrev NoO : Addr → Prop := fun _ => False
theorem Step.refl {O : Addr → Prop} {F H : Hp} (e : Ex F H) : Step O F H F H := ⟨Ex.refl F, e, fun b o h n => ⟨.inl n, ⟨o, h⟩, fun _ => h⟩⟩
theorem Step.trans {O : Addr → Prop} {F0 H0 F1 H1 F2 H2 : Hp} (a : Step O F0 H0 F1 H1) (b : Step NoO F1 H1 F2 H2) : Step O F0 H0 F2 H2 :=
  ⟨a.ff.trans b.ff, b.fh, fun c o h n => by
    obtain ⟨n1, ⟨o1, h1⟩, k1⟩ := a.keep c o h n
    rcases n1 with n1 | ⟨vs, n1⟩
    · obtain ⟨n2, ⟨o2, h2⟩, k2⟩ := b.keep c o1 h1 n1
      refine ⟨n2, ⟨o2, h2⟩, fun no => ?_⟩
      rw [k2 (fun z => z), ← h1, k1 no]
    · have e1 := a.fh c _ n1
      have e2 := b.fh c _ (b.ff c _ n1)
      refine ⟨.inr ⟨vs, b.ff c _ n1⟩, ⟨_, e2⟩, fun no => ?_⟩
      rw [e2, ← e1, k1 no]⟩
theorem Step.hh {F0 H0 F H : Hp} (e : Ex F0 H0) (a : Step NoO F0 H0 F H) : Ex H0 H := fun b o h => by
  cases q : F0 b with
  | none => exact (a.keep b o h q).2.2 (fun z => z)
  | some u =>
    have h1 := e b u q
    rw [h] at h1
    cases h1
    exact a.fh b _ (a.ff b _ q)
/-- what is no tuple stays open -/
theorem Step.no {F H F' H' : Hp} {b : Addr} {o : HO} (k : Step NoO F H F' H') (h : H b = some o) (n : F b = none) (nt : ∀ vs, o ≠ .tup vs) : F' b = none ∧ H' b = some o := by
  obtain ⟨n1, _, kk⟩ := k.keep b o h n
  have e := kk fun z => z
  refine ⟨n1.elim id fun ⟨vs, q⟩ => ?_, e⟩
  have e2 := k.fh b _ q
  rw [e] at e2
  cases e2
  exact absurd rfl (nt vs)
theorem ex_none {F H : Hp} {p : Addr} (e : Ex F H) (h : H p = none) : F p = none := fresh_back e h
/-- a new object that stays open -/
theorem Step.open {F H : Hp} {p : Addr} {o : HO} (e : Ex F H) (h : H p = none) : Step NoO F H F (upd H p o) :=
  ⟨Ex.refl F, e.trans (Ex.new h), fun b u q n => ⟨.inl n, ⟨u, by rw [upd_ne (ne_of_none q h)]; exact q⟩, fun _ => by rw [upd_ne (ne_of_none q h)]; exact q⟩⟩
/-- a new object, frozen -/
theorem Step.new {F H : Hp} {p : Addr} {o : HO} (e : Ex F H) (h : H p = none) : Step NoO F H (upd F p o) (upd H p o) :=
  ⟨Ex.new (ex_none e h), fun b u q => by
    by_cases z : b = p
    · rw [z, upd_same] at q
      rw [z, upd_same]
      exact q
    · rw [upd_ne z] at q
      rw [upd_ne z]
      exact e b u q, fun b u q n => by
    have z := ne_of_none q h
    rw [upd_ne z, upd_ne z]
    exact ⟨.inl n, ⟨u, q⟩, fun _ => q⟩⟩
theorem new_at {F H F' H' : Hp} {p : Addr} {o : HO} (k : Step NoO (upd F p o) H F' H') : F' p = some o := k.ff p o upd_same

/-- what stands at the entry -/
structure En where
  O : Addr → Prop
  F : Hp
  H : Hp
  P : Hp → Prop := fun _ => True
  pm : ∀ {F F' : Hp}, Ex F F' → P F → P F' := by exact fun _ h => h
/-- a lasting fact more -/
def En.more (Z : En) (P : Hp → Prop) (pm : ∀ {F F' : Hp}, Ex F F' → P F → P F') : En := ⟨Z.O, Z.F, Z.H, fun F => Z.P F ∧ P F, fun e h => ⟨Z.pm e h.1, pm e h.2⟩⟩
def OwnAt (Γ : List Slot) (σ : L2.St) (i : Nat) (a : Addr) : Prop := (∃ s, Γ[i]? = some s ∧ s.isOwn = true) ∧ σ[i]? = some (some (.ref a))
structure Holds (Z : En) (Γ : List Slot) (F : Hp) (σ : L2.St) (H : Hp) : Prop where
  st : Step Z.O Z.F Z.H F H
  sl : Al (SlotOk F H) Γ σ
  ow : ∀ i a, OwnAt Γ σ i a → Z.O a ∨ Z.H a = none
  di : ∀ i j a, OwnAt Γ σ i a → OwnAt Γ σ j a → i = j
  pp : Z.P F
section
variable {Z : En} {Γ Γ' Γ1 Γ2 : List Slot} {F F' H H' F1 H1 F2 H2 : Hp} {σ : L2.St} {i j : Nat} {a p : Addr} {v : V} {d : Dv}
theorem Holds.fh (h : Holds Z Γ F σ H) : Ex F H := h.st.fh
theorem Holds.val (h : Holds Z Γ F σ H) (e : Γ[i]? = some (.val d)) : ∃ v, σ[i]? = some (some v) ∧ d.rep F v := by
  obtain ⟨y, h1, h2⟩ := h.sl.get e
  obtain ⟨v, rfl, r⟩ := h2
  exact ⟨v, h1, r⟩
theorem Holds.owned {s : Slot} (h : Holds Z Γ F σ H) (e : Γ[i]? = some s) (o : s.isOwn = true) : ∃ a, σ[i]? = some (some (.ref a)) ∧ OwnOk F H a s ∧ OwnAt Γ σ i a := by
  obtain ⟨y, h1, h2⟩ := h.sl.get e
  obtain ⟨a, rfl, r⟩ := h2.ownAt o
  exact ⟨a, h1, r, ⟨s, e, o⟩, h1⟩
theorem Holds.at_ (h : Holds Z Γ F σ H) (o : OwnAt Γ σ i a) : ∃ s, Γ[i]? = some s ∧ OwnOk F H a s := by
  obtain ⟨⟨s, e, w⟩, e2⟩ := o
  obtain ⟨y, h1, h2⟩ := h.sl.get e
  rw [e2] at h1
  cases h1
  obtain ⟨b, e3, r⟩ := h2.ownAt w
  cases e3
  exact ⟨s, e, r⟩
theorem Holds.step (h : Holds Z Γ F σ H) (k : Step NoO F H F' H') : Holds Z Γ F' σ H' := by
  refine ⟨h.st.trans k, h.sl.map fun s o r => ?_, h.ow, h.di, Z.pm k.ff h.pp⟩
  cases q : s.isOwn with
  | true =>
    obtain ⟨a, rfl, w⟩ := r.ownAt q
    obtain ⟨u, hu⟩ := w.so
    obtain ⟨n, _, kk⟩ := k.keep a u hu w.no
    have n : F' a = none := n.elim id fun ⟨vs, e⟩ => absurd ((hu.trans (kk (fun z => z)).symm).trans (k.fh a _ e)) (w.nt vs)
    exact SlotOk.of_own (w.mono k.ff n (by rw [kk (fun z => z), hu]))
  | false =>
    cases s with
    | any => trivial
    | val d => obtain ⟨v, e, r⟩ := r; exact ⟨v, e, d.mono k.ff r⟩
    | own _ _ => cases q
    | lst _ _ => cases q
    | obj _ _ _ => cases q
    | dct _ _ => cases q
/-- the entry's heap does not know a new address -/
theorem Holds.fresh (h : Holds Z Γ F σ H) (n : H p = none) : Z.H p = none := by
  cases q : Z.H p with
  | none => rfl
  | some o =>
    cases q2 : Z.F p with
    | none =>
      obtain ⟨_, ⟨o', e⟩, _⟩ := h.st.keep p o q q2
      rw [n] at e
      cases e
    | some u =>
      have e := h.st.fh p u (h.st.ff p u q2)
      rw [n] at e
      cases e
theorem ownAt_set {s : Slot} {o : Option V} (w : OwnAt (Γ.set i s) (σ.set i o) j a) (hl : Γ.length = σ.length) : (j = i ∧ s.isOwn = true ∧ o = some (.ref a)) ∨ (j ≠ i ∧ OwnAt Γ σ j a) := by
  obtain ⟨⟨u, e, w⟩, e2⟩ := w
  by_cases z : i = j
  · subst z
    by_cases lt : i < Γ.length
    · rw [List.getElem?_set_self lt] at e
      cases e
      rw [List.getElem?_set_self (by omega)] at e2
      cases e2
      exact .inl ⟨rfl, w, rfl⟩
    · rw [List.getElem?_eq_none (by rw [List.length_set]; omega)] at e
      cases e
  · rw [List.getElem?_set_ne z] at e e2
    exact .inr ⟨fun q => z q.symm, ⟨u, e, w⟩, e2⟩
theorem Holds.len (h : Holds Z Γ F σ H) : Γ.length = σ.length := h.sl.len
theorem Holds.set (h : Holds Z Γ F σ H) (i : Nat) (r : d.rep F v) : Holds Z (Γ.set i (.val d)) F (σ.set i (some v)) H := by
  refine ⟨h.st, h.sl.set ⟨v, rfl, r⟩ i, fun j a w => ?_, fun j k a w w' => ?_, h.pp⟩
  · rcases ownAt_set w h.len with ⟨_, q, _⟩ | ⟨_, w⟩
    · cases q
    · exact h.ow j a w
  · rcases ownAt_set w h.len with ⟨_, q, _⟩ | ⟨_, w⟩
    · cases q
    · rcases ownAt_set w' h.len with ⟨_, q, _⟩ | ⟨_, w'⟩
      · cases q
      · exact h.di j k a w w'
/-- a slot gets a new owned object -/
theorem Holds.setNew {s : Slot} {o : HO} (h : Holds Z Γ F σ H) (i : Nat) (n : H p = none) (r : OwnOk F (upd H p o) p s) : Holds Z (Γ.set i s) F (σ.set i (some (.ref p))) (upd H p o) := by
  have h1 := h.step (Step.open (o := o) h.fh n)
  have np : ∀ j a, OwnAt Γ σ j a → a ≠ p := fun j a w z => by
    obtain ⟨s, _, r⟩ := h.at_ w
    obtain ⟨u, e⟩ := r.so
    rw [z, n] at e
    cases e
  refine ⟨h1.st, h1.sl.set (SlotOk.of_own r) i, fun j a w => ?_, fun j k a w w' => ?_, h.pp⟩
  · rcases ownAt_set w h.len with ⟨_, _, q⟩ | ⟨_, w⟩
    · cases q
      exact .inr (h.fresh n)
    · exact h.ow j a w
  · rcases ownAt_set w h.len with ⟨e1, _, q⟩ | ⟨_, w⟩
    · rcases ownAt_set w' h.len with ⟨e2, _, q'⟩ | ⟨_, w'⟩
      · rw [e1, e2]
      · cases q
        exact absurd rfl (np _ _ w')
    · rcases ownAt_set w' h.len with ⟨e2, _, q'⟩ | ⟨_, w'⟩
      · cases q'
        exact absurd rfl (np _ _ w)
      · exact h.di j k a w w'
/-- an owned object is changed -/
theorem Holds.mut {s : Slot} {o : HO} (h : Holds Z Γ F σ H) (w : OwnAt Γ σ i a) (r : OwnOk F (upd H a o) a s) : Holds Z (Γ.set i s) F σ (upd H a o) := by
  obtain ⟨s0, e0, r0⟩ := h.at_ w
  have hσ : σ[i]? = some (some (.ref a)) := w.2
  have hset : σ.set i (some (.ref a)) = σ := by
    apply List.ext_getElem?
    intro j
    by_cases z : i = j
    · subst z
      have lt := (List.getElem?_eq_some_iff.mp hσ).1
      rw [List.getElem?_set_self lt, hσ]
    · rw [List.getElem?_set_ne z]
  have st : Step Z.O Z.F Z.H F (upd H a o) := by
    refine ⟨h.st.ff, fun b u q => ?_, fun b u q n => ?_⟩
    · have z : b ≠ a := fun z => by
        rw [z, r0.no] at q
        cases q
      rw [upd_ne z]
      exact h.st.fh b u q
    · obtain ⟨n1, ⟨o', e⟩, k⟩ := h.st.keep b u q n
      by_cases z : b = a
      · subst z
        refine ⟨n1, ⟨o, upd_same⟩, fun no => ?_⟩
        rcases h.ow i b w with y | y
        · exact absurd y no
        · rw [q] at y
          cases y
      · rw [upd_ne z]
        exact ⟨n1, ⟨o', e⟩, k⟩
  have key : Al (SlotOk F (upd H a o)) (Γ.set i s) (σ.set i (some (.ref a))) := by
    refine Al.of (by rw [List.length_set, List.length_set, h.len]) fun j x y hx hy => ?_
    by_cases z : i = j
    · subst z
      have l1 := (List.getElem?_eq_some_iff.mp e0).1
      rw [List.getElem?_set_self l1] at hx
      rw [List.getElem?_set_self (by rw [← h.len]; exact l1)] at hy
      cases hx
      cases hy
      exact SlotOk.of_own r
    · rw [List.getElem?_set_ne z] at hx hy
      obtain ⟨y', e', rr⟩ := h.sl.get hx
      rw [hy] at e'
      cases e'
      cases q : x.isOwn with
      | true =>
        obtain ⟨b, rfl, w2⟩ := rr.ownAt q
        have nb : b ≠ a := fun e => by
          subst e
          exact z (h.di i j b w ⟨⟨x, hx, q⟩, hy⟩)
        exact SlotOk.of_own (w2.mono (Ex.refl F) w2.no (upd_ne nb))
      | false =>
        cases x with
        | any => trivial
        | val d => exact rr
        | own _ _ => cases q
        | lst _ _ => cases q
        | obj _ _ _ => cases q
        | dct _ _ => cases q
  refine ⟨st, by rw [hset] at key; exact key, fun j b w' => ?_, fun j k b w' w'' => ?_, h.pp⟩
  · have w2 : OwnAt (Γ.set i s) (σ.set i (some (.ref a))) j b := by rw [hset]; exact w'
    rcases ownAt_set w2 h.len with ⟨e1, _, q⟩ | ⟨_, w3⟩
    · cases q
      exact h.ow i _ w
    · exact h.ow j b w3
  · have w2 : OwnAt (Γ.set i s) (σ.set i (some (.ref a))) j b := by rw [hset]; exact w'
    have w3 : OwnAt (Γ.set i s) (σ.set i (some (.ref a))) k b := by rw [hset]; exact w''
    rcases ownAt_set w2 h.len with ⟨e1, _, q⟩ | ⟨n1, w4⟩
    · cases q
      rcases ownAt_set w3 h.len with ⟨e2, _, _⟩ | ⟨n2, w5⟩
      · rw [e1, e2]
      · exact absurd (h.di k i _ w5 w) n2
    · rcases ownAt_set w3 h.len with ⟨e2, _, q⟩ | ⟨n2, w5⟩
      · cases q
        exact absurd (h.di j i _ w4 w) n1
      · exact h.di j k b w4 w5
/-- slots are forgotten -/
def Wk (Γ Γ' : List Slot) : Prop := Al (fun s s' : Slot => s' = .any ∨ s' = s) Γ Γ'
theorem Wk.own (w : Wk Γ Γ') (h : OwnAt Γ' σ i a) : OwnAt Γ σ i a := by
  obtain ⟨⟨s, e, o⟩, e2⟩ := h
  obtain ⟨s0, e0, r⟩ := w.getR e
  rcases r with r | r
  · rw [r] at o
    cases o
  · exact ⟨⟨s0, e0, by rw [← r]; exact o⟩, e2⟩
theorem Holds.weak (h : Holds Z Γ F σ H) (w : Wk Γ Γ') : Holds Z Γ' F σ H := by
  refine ⟨h.st, Al.of (by rw [← w.len, h.len]) fun j x y hx hy => ?_, fun j a q => h.ow j a (w.own q), fun j k a q q' => h.di j k a (w.own q) (w.own q'), h.pp⟩
  obtain ⟨s0, e0, r⟩ := w.getR hx
  rcases r with r | r
  · rw [r]
    trivial
  · obtain ⟨y', e', rr⟩ := h.sl.get e0
    rw [hy] at e'
    cases e'
    rw [r]
    exact rr
theorem Wk.refl : ∀ Γ : List Slot, Wk Γ Γ
  | [] => .nil
  | _ :: r => .cons (.inr rfl) (Wk.refl r)
/-- an owned object of ours is frozen -/
theorem Holds.freeze {o : HO} (h : Holds Z Γ F σ H) (w : OwnAt Γ σ i a) (no : ¬ Z.O a) (e : H a = some o) (hd : d.rep (upd F a o) (.ref a)) : Holds Z (Γ.set i (.val d)) (upd F a o) σ H ∧ Ex F (upd F a o) := by
  obtain ⟨s0, e0, r0⟩ := h.at_ w
  have ff : Ex F (upd F a o) := Ex.new r0.no
  have hσ : σ[i]? = some (some (.ref a)) := w.2
  have hset : σ.set i (some (.ref a)) = σ := by
    apply List.ext_getElem?
    intro j
    by_cases z : i = j
    · subst z
      have lt := (List.getElem?_eq_some_iff.mp hσ).1
      rw [List.getElem?_set_self lt, hσ]
    · rw [List.getElem?_set_ne z]
  refine ⟨⟨⟨h.st.ff.trans ff, fun b u q => ?_, fun b u q n => ?_⟩, ?_, fun j b w' => ?_, fun j k b w' w'' => ?_, Z.pm ff h.pp⟩, ff⟩
  · by_cases z : b = a
    · subst z
      rw [upd_same] at q
      cases q
      exact e
    · rw [upd_ne z] at q
      exact h.st.fh b u q
  · obtain ⟨n1, k1, k2⟩ := h.st.keep b u q n
    have z : b ≠ a := fun z => by
      subst z
      rcases h.ow i b w with y | y
      · exact no y
      · rw [q] at y
        cases y
    rw [upd_ne z]
    exact ⟨n1, k1, k2⟩
  · have key : Al (SlotOk (upd F a o) H) (Γ.set i (.val d)) (σ.set i (some (.ref a))) := by
      refine Al.of (by rw [List.length_set, List.length_set, h.len]) fun j x y hx hy => ?_
      by_cases z : i = j
      · subst z
        have l1 := (List.getElem?_eq_some_iff.mp e0).1
        rw [List.getElem?_set_self l1] at hx
        rw [List.getElem?_set_self (by rw [← h.len]; exact l1)] at hy
        cases hx
        cases hy
        exact ⟨_, rfl, hd⟩
      · rw [List.getElem?_set_ne z] at hx hy
        obtain ⟨y', e', rr⟩ := h.sl.get hx
        rw [hy] at e'
        cases e'
        cases q : x.isOwn with
        | true =>
          obtain ⟨b, rfl, w2⟩ := rr.ownAt q
          have nb : b ≠ a := fun e => by
            subst e
            exact z (h.di i j b w ⟨⟨x, hx, q⟩, hy⟩)
          exact SlotOk.of_own (w2.mono ff (by rw [upd_ne nb]; exact w2.no) rfl)
        | false =>
          cases x with
          | any => trivial
          | val d => obtain ⟨v, q1, q2⟩ := rr; exact ⟨v, q1, d.mono ff q2⟩
          | own _ _ => cases q
          | lst _ _ => cases q
          | obj _ _ _ => cases q
          | dct _ _ => cases q
    rw [hset] at key
    exact key
  · have w2 : OwnAt (Γ.set i (.val d)) (σ.set i (some (.ref a))) j b := by rw [hset]; exact w'
    rcases ownAt_set w2 h.len with ⟨e1, q, _⟩ | ⟨_, w3⟩
    · cases q
    · exact h.ow j b w3
  · have w2 : OwnAt (Γ.set i (.val d)) (σ.set i (some (.ref a))) j b := by rw [hset]; exact w'
    have w3 : OwnAt (Γ.set i (.val d)) (σ.set i (some (.ref a))) k b := by rw [hset]; exact w''
    rcases ownAt_set w2 h.len with ⟨e1, q, _⟩ | ⟨_, w4⟩
    · cases q
    · rcases ownAt_set w3 h.len with ⟨e2, q, _⟩ | ⟨_, w5⟩
      · cases q
      · exact h.di j k b w4 w5
theorem Holds.more {P : Hp → Prop} {pm : ∀ {F F' : Hp}, Ex F F' → P F → P F'} (h : Holds Z Γ F σ H) (p : P F) : Holds (Z.more P pm) Γ F σ H := ⟨h.st, h.sl, h.ow, h.di, h.pp, p⟩
theorem Holds.less {P : Hp → Prop} {pm : ∀ {F F' : Hp}, Ex F F' → P F → P F'} (h : Holds (Z.more P pm) Γ F σ H) : Holds Z Γ F σ H := ⟨h.st, h.sl, h.ow, h.di, h.pp.1⟩
/-- a new open object becomes a slot's own -/
theorem Holds.setOwn {s : Slot} (h : Holds Z Γ F σ H) (i : Nat) (n : Z.H p = none) (no : ∀ j, ¬ OwnAt Γ σ j p) (r : OwnOk F H p s) : Holds Z (Γ.set i s) F (σ.set i (some (.ref p))) H := by
  refine ⟨h.st, h.sl.set (SlotOk.of_own r) i, fun j a w => ?_, fun j k a w w' => ?_, h.pp⟩
  · rcases ownAt_set w h.len with ⟨_, _, q⟩ | ⟨_, w⟩
    · cases q
      exact .inr n
    · exact h.ow j a w
  · rcases ownAt_set w h.len with ⟨e1, _, q⟩ | ⟨_, w⟩
    · rcases ownAt_set w' h.len with ⟨e2, _, q'⟩ | ⟨_, w'⟩
      · rw [e1, e2]
      · cases q
        exact absurd w' (no _)
    · rcases ownAt_set w' h.len with ⟨e2, _, q'⟩ | ⟨_, w'⟩
      · cases q'
        exact absurd w (no _)
      · exact h.di j k a w w'
/-- a new open object is frozen -/
theorem Holds.freezeP {o : HO} (h : Holds Z Γ F σ H) (n : Z.H p = none) (no : ∀ j, ¬ OwnAt Γ σ j p) (f : F p = none) (e : H p = some o) : Holds Z Γ (upd F p o) σ H := by
  have ff : Ex F (upd F p o) := Ex.new f
  refine ⟨⟨h.st.ff.trans ff, fun b u q => ?_, fun b u q n' => ?_⟩, ?_, h.ow, h.di, Z.pm ff h.pp⟩
  · by_cases z : b = p
    · subst z
      rw [upd_same] at q
      cases q
      exact e
    · rw [upd_ne z] at q
      exact h.st.fh b u q
  · obtain ⟨n1, k1, k2⟩ := h.st.keep b u q n'
    have z : b ≠ p := fun z => by
      subst z
      rw [q] at n
      cases n
    rw [upd_ne z]
    exact ⟨n1, k1, k2⟩
  · refine Al.of h.len fun j x y hx hy => ?_
    obtain ⟨y', e', rr⟩ := h.sl.get hx
    rw [hy] at e'
    cases e'
    cases q : x.isOwn with
    | true =>
      obtain ⟨b, rfl, w2⟩ := rr.ownAt q
      have nb : b ≠ p := fun e => by
        subst e
        exact no j ⟨⟨x, hx, q⟩, hy⟩
      exact SlotOk.of_own (w2.mono ff (by rw [upd_ne nb]; exact w2.no) rfl)
    | false =>
      cases x with
      | any => trivial
      | val d => obtain ⟨v, q1, q2⟩ := rr; exact ⟨v, q1, d.mono ff q2⟩
      | own _ _ => cases q
      | lst _ _ => cases q
      | obj _ _ _ => cases q
      | dct _ _ => cases q
/-- an open object that is no slot's changes -/
theorem Holds.poke {o : HO} (h : Holds Z Γ F σ H) (n : Z.H p = none) (no : ∀ j, ¬ OwnAt Γ σ j p) (f : F p = none) : Holds Z Γ F σ (upd H p o) := by
  refine ⟨⟨h.st.ff, fun b u q => ?_, fun b u q n' => ?_⟩, ?_, h.ow, h.di, h.pp⟩
  · have z : b ≠ p := fun z => by
      rw [z, f] at q
      cases q
    rw [upd_ne z]
    exact h.st.fh b u q
  · have z : b ≠ p := fun z => by
      rw [z, n] at q
      cases q
    rw [upd_ne z]
    exact h.st.keep b u q n'
  · refine Al.of h.len fun j x y hx hy => ?_
    obtain ⟨y', e', rr⟩ := h.sl.get hx
    rw [hy] at e'
    cases e'
    cases q : x.isOwn with
    | true =>
      obtain ⟨b, rfl, w2⟩ := rr.ownAt q
      have nb : b ≠ p := fun e => by
        subst e
        exact no j ⟨⟨x, hx, q⟩, hy⟩
      exact SlotOk.of_own (w2.mono (Ex.refl F) w2.no (upd_ne nb))
    | false =>
      cases x with
      | any => trivial
      | val d => exact rr
      | own _ _ => cases q
      | lst _ _ => cases q
      | obj _ _ _ => cases q
      | dct _ _ => cases q
/-- slots and their values at other places -/
theorem Holds.other {σ' : L2.St} (h : Holds Z Γ F σ H) (hl : Γ'.length = σ'.length) (k : ∀ (i : Nat) (s : Slot), Γ'[i]? = some s → s = Slot.any ∨ (Γ[i]? = some s ∧ σ'[i]? = σ[i]?)) : Holds Z Γ' F σ' H := by
  have ow : ∀ i a, OwnAt Γ' σ' i a → OwnAt Γ σ i a := fun i a ⟨⟨s, e, o⟩, e2⟩ => by
    rcases k i s e with z | ⟨z1, z2⟩
    · rw [z] at o
      cases o
    · exact ⟨⟨s, z1, o⟩, by rw [← z2]; exact e2⟩
  refine ⟨h.st, Al.of hl fun j x y hx hy => ?_, fun i a w => h.ow i a (ow i a w), fun i j a w w' => h.di i j a (ow i a w) (ow j a w'), h.pp⟩
  rcases k j x hx with z | ⟨z1, z2⟩
  · rw [z]
    trivial
  · obtain ⟨y', e', rr⟩ := h.sl.get z1
    rw [← z2, hy] at e'
    cases e'
    exact rr
end
end DL

set_option maxRecDepth 100000
/-! DE: expressions over typed data. -/
namespace DL
open PySem L2 Evl

/-- what an expression leaves: frozen things, and all that no slot owns -/
structure Pres (Γ Γ' : List Slot) (σ : L2.St) (F H F' H' : Hp) : Prop where
  ff : Ex F F'
  keep : ∀ b o, H b = some o → F b = none → (∀ vs, o ≠ .tup vs) → (∀ i, ¬ OwnAt Γ σ i b) → F' b = none ∧ H' b = some o
  ow : ∀ i b, OwnAt Γ' σ i b → OwnAt Γ σ i b
  th : ∀ b o, H b = some o → ∃ o', H' b = some o'
section
variable {Z : En} {Γ Γ' Γ1 Γ2 : List Slot} {F F' H H' F1 H1 F2 H2 : Hp} {σ : L2.St} {i j : Nat} {a p : Addr} {v : V} {d : Dv}
theorem Pres.refl : Pres Γ Γ σ F H F H := ⟨Ex.refl F, fun _ _ h n _ _ => ⟨n, h⟩, fun _ _ w => w, fun _ o h => ⟨o, h⟩⟩
theorem Pres.trans (a : Pres Γ Γ1 σ F H F1 H1) (b : Pres Γ1 Γ2 σ F1 H1 F2 H2) : Pres Γ Γ2 σ F H F2 H2 :=
  ⟨a.ff.trans b.ff, fun c o h n nt no => by
    obtain ⟨n1, h1⟩ := a.keep c o h n nt no
    exact b.keep c o h1 n1 nt fun i w => no i (a.ow i c w), fun i c w => a.ow i c (b.ow i c w), fun c o h => by
    obtain ⟨o1, h1⟩ := a.th c o h
    exact b.th c o1 h1⟩
theorem Step.th (k : Step NoO F H F' H') (b : Addr) (o : HO) (h : H b = some o) : ∃ o', H' b = some o' := by
  cases q : F b with
  | none => exact (k.keep b o h q).2.1
  | some u => exact ⟨u, k.fh b u (k.ff b u q)⟩
theorem Pres.step (k : Step NoO F H F' H') : Pres Γ Γ σ F H F' H' := ⟨k.ff, fun b o h n nt _ => k.no h n nt, fun _ _ w => w, k.th⟩
/-- what is new behind was new ahead -/
theorem Pres.new (k : Pres Γ Γ' σ F H F' H') (h : H' p = none) : H p = none := by
  cases q : H p with
  | none => rfl
  | some o =>
    obtain ⟨o', e⟩ := k.th p o q
    rw [h] at e
    cases e
theorem Holds.notOwn (h : Holds Z Γ F σ H) (n : H p = none) (j : Nat) : ¬ OwnAt Γ σ j p := fun w => by
  obtain ⟨s, _, r⟩ := h.at_ w
  obtain ⟨o, e⟩ := r.so
  rw [n] at e
  cases e
end

/-- an expression gives x | a test gives b | arguments give ds | a list to be read | a new list, still open | a new tuple -/
def Den {α : Type} (te : TE) (Γ : List Slot) (t : Ty α) (x : α) (Γ' : List Slot) : Prop := ∀ (Z : En) F σ H, Holds Z Γ F σ H → ∀ Q : VK, (∀ v F' H', Holds Z Γ' F' σ H' → Pres Γ Γ' σ F H F' H' → t.rep F' v x → Q v H') → te σ H Q
def DenT (tt : TT) (Γ : List Slot) (b : Bool) (Γ' : List Slot) : Prop := ∀ (Z : En) F σ H, Holds Z Γ F σ H → ∀ Q : Bool → Hp → Prop, (∀ F' H', Holds Z Γ' F' σ H' → Pres Γ Γ' σ F H F' H' → Q b H') → tt σ H Q
def DenA (ta : TA) (Γ : List Slot) (ds : List Dv) (Γ' : List Slot) : Prop := ∀ (Z : En) F σ H, Holds Z Γ F σ H → ∀ Q : List V → Hp → Prop, (∀ vs F' H', Holds Z Γ' F' σ H' → Pres Γ Γ' σ F H F' H' → Reps F' ds vs → Q vs H') → ta σ H Q
def DenL {α : Type} (te : TE) (Γ : List Slot) (t : Ty α) (xs : List α) (Γ' : List Slot) : Prop := ∀ (Z : En) F σ H, Holds Z Γ F σ H → ∀ Q : VK, (∀ a vs F' H', Holds Z Γ' F' σ H' → Pres Γ Γ' σ F H F' H' → H' a = some (.lst vs) → Al (fun x v => t.rep F' v x) xs vs → Q (.ref a) H') → te σ H Q
def DenN (te : TE) (Γ : List Slot) (ds : List Dv) (Γ' : List Slot) : Prop := ∀ (Z : En) F σ H, Holds Z Γ F σ H → ∀ Q : VK, (∀ p vs F' H', Holds Z Γ' F' σ H' → Pres Γ Γ' σ F H F' H' → H p = none → F' p = none → H' p = some (.lst vs) → Reps F' ds vs → Q (.ref p) H') → te σ H Q
def DenO (to : TO) (Γ : List Slot) (o : Option Int) (Γ' : List Slot) : Prop := ∀ (Z : En) F σ H, Holds Z Γ F σ H → ∀ Q : Option Int → Hp → Prop, (∀ F' H', Holds Z Γ' F' σ H' → Pres Γ Γ' σ F H F' H' → Q o H') → to σ H Q

/-! ### types of data -/
def tInt : Ty Int := ⟨fun _ v i => v = .int i, fun _ h => h⟩
def tBool : Ty Bool := ⟨fun _ v i => v = .bl i, fun _ h => h⟩
def tStr : Ty Str := ⟨fun _ v i => v = .str i, fun _ h => h⟩
def tNon : Ty Unit := ⟨fun _ v _ => v = .non, fun _ h => h⟩
/-- a value told as it is -/
def tRaw : Ty V := ⟨fun _ v x => v = x, fun _ h => h⟩
def tOpt {α : Type} (t : Ty α) : Ty (Option α) := ⟨fun F v o => match o with
  | none => v = .non
  | some x => t.rep F v x, fun e h => by
    rename_i o
    cases o with
    | none => exact h
    | some x => exact t.mono e h⟩
/-- a frozen list, a tuple, all items of one type -/
def tList {α : Type} (t : Ty α) : Ty (List α) := ⟨fun F v xs => ∃ a vs, v = .ref a ∧ F a = some (.lst vs) ∧ Al (fun x v => t.rep F v x) xs vs,
  fun e ⟨a, vs, h1, h2, h3⟩ => ⟨a, vs, h1, e _ _ h2, h3.map fun _ _ z => t.mono e z⟩⟩
def tTupl {α : Type} (t : Ty α) : Ty (List α) := ⟨fun F v xs => ∃ a vs, v = .ref a ∧ F a = some (.tup vs) ∧ Al (fun x v => t.rep F v x) xs vs,
  fun e ⟨a, vs, h1, h2, h3⟩ => ⟨a, vs, h1, e _ _ h2, h3.map fun _ _ z => t.mono e z⟩⟩
/-- items of unlike types -/
structure Row where
  ds : List Dv
def RowT (ds : List Dv) : Ty Unit := ⟨fun F v _ => ∃ a vs, v = .ref a ∧ F a = some (.tup vs) ∧ Reps F ds vs, fun e ⟨a, vs, h1, h2, h3⟩ => ⟨a, vs, h1, e _ _ h2, h3.mono e⟩⟩
def tPair {α β : Type} (t : Ty α) (u : Ty β) : Ty (α × β) := ⟨fun F v x => ∃ a v1 v2, v = .ref a ∧ F a = some (.tup [v1, v2]) ∧ t.rep F v1 x.1 ∧ u.rep F v2 x.2,
  fun e ⟨a, v1, v2, h1, h2, h3, h4⟩ => ⟨a, v1, v2, h1, e _ _ h2, t.mono e h3, u.mono e h4⟩⟩
def tTri {α β γ : Type} (t : Ty α) (u : Ty β) (w : Ty γ) : Ty (α × β × γ) := ⟨fun F v x => ∃ a v1 v2 v3, v = .ref a ∧ F a = some (.tup [v1, v2, v3]) ∧ t.rep F v1 x.1 ∧ u.rep F v2 x.2.1 ∧ w.rep F v3 x.2.2,
  fun e ⟨a, v1, v2, v3, h1, h2, h3, h4, h5⟩ => ⟨a, v1, v2, v3, h1, e _ _ h2, t.mono e h3, u.mono e h4, w.mono e h5⟩⟩

section
variable {α β γ : Type} {t : Ty α} {u : Ty β} {w : Ty γ} {x : α} {y : β} {z : γ} {Γ Γ' Γ1 Γ2 Γ3 : List Slot} {ta tb tc te : TE} {tt uu : TT} {r : R2} {ds : List Dv}
/-! ### between the judgements -/
theorem den_l {xs : List α} (h : Den te Γ (tList t) xs Γ') : DenL te Γ t xs Γ' := fun Z F σ H hh Q q => h Z F σ H hh Q fun v F' H' h' p r => by
  obtain ⟨a, vs, rfl, e, rr⟩ := r
  exact q a vs F' H' h' p (h'.fh _ _ e) rr
theorem dl_var {xs : List α} {i : Nat} (e : Γ[i]? = some (.lst t xs)) : DenL (tVar i) Γ t xs Γ := fun Z F σ H hh Q q => by
  obtain ⟨a, h1, ⟨_, vs, h2, h3⟩, _⟩ := hh.owned e rfl
  exact ⟨_, h1, q a vs F H hh Pres.refl h2 h3⟩
/-! ### names, constants -/
theorem den_var {i : Nat} (e : Γ[i]? = some (.val ⟨t, x⟩)) : Den (tVar i) Γ t x Γ := fun Z F σ H hh Q q => by
  obtain ⟨v, h1, h2⟩ := hh.val e
  exact ⟨v, h1, q v F H hh Pres.refl h2⟩
theorem den_int {i : Int} : Den (tC (.int i)) Γ tInt i Γ := fun Z F σ H hh Q q => q _ F H hh Pres.refl rfl
theorem den_bl {i : Bool} : Den (tC (.bl i)) Γ tBool i Γ := fun Z F σ H hh Q q => q _ F H hh Pres.refl rfl
theorem den_str {i : Str} : Den (tC (.str i)) Γ tStr i Γ := fun Z F σ H hh Q q => q _ F H hh Pres.refl rfl
theorem den_non : Den (tC .non) Γ tNon () Γ := fun Z F σ H hh Q q => q _ F H hh Pres.refl rfl
theorem den_raw {v : V} : Den (tC v) Γ tRaw v Γ := fun Z F σ H hh Q q => q _ F H hh Pres.refl rfl
/-- another type for the same value -/
theorem den_as {y : β} (h : Den te Γ t x Γ') (e : ∀ F v, t.rep F v x → u.rep F v y) : Den te Γ u y Γ' := fun Z F σ H hh Q q => h Z F σ H hh Q fun v F' H' h' p r => q v F' H' h' p (e _ _ r)
theorem den_eq {x' : α} (h : Den te Γ t x Γ') (e : x = x') : Den te Γ t x' Γ' := e ▸ h
/-! ### operators on values -/
def Op2 (r : R2) (t : Ty α) (x : α) (u : Ty β) (y : β) (w : Ty γ) (z : γ) : Prop := ∀ F H v1 v2, Ex F H → t.rep F v1 x → u.rep F v2 y → ∀ Q : VK, (∀ v F' H', Step NoO F H F' H' → w.rep F' v z → Q v H') → r v1 v2 H Q
def Op1 (r : V → Hp → VK → Prop) (t : Ty α) (x : α) (w : Ty γ) (z : γ) : Prop := ∀ F H v1, Ex F H → t.rep F v1 x → ∀ Q : VK, (∀ v F' H', Step NoO F H F' H' → w.rep F' v z → Q v H') → r v1 H Q
def OpN (r : List V → Hp → VK → Prop) (ds : List Dv) (w : Ty γ) (z : γ) : Prop := ∀ F H vs, Ex F H → Reps F ds vs → ∀ Q : VK, (∀ v F' H', Step NoO F H F' H' → w.rep F' v z → Q v H') → r vs H Q
theorem den_op (ha : Den ta Γ t x Γ1) (hb : Den tb Γ1 u y Γ2) (hr : Op2 r t x u y w z) : Den (tOp r ta tb) Γ w z Γ2 := fun Z F σ H hh Q q =>
  ha Z F σ H hh _ fun v1 F1 H1 h1 p1 r1 => hb Z F1 σ H1 h1 _ fun v2 F2 H2 h2 p2 r2 => hr F2 H2 v1 v2 h2.fh (t.mono p2.ff r1) r2 Q fun v F3 H3 k r3 => q v F3 H3 (h2.step k) ((p1.trans p2).trans (Pres.step k)) r3
theorem den_un {r : V → Hp → VK → Prop} (ha : Den ta Γ t x Γ1) (hr : Op1 r t x w z) : Den (tUn r ta) Γ w z Γ1 := fun Z F σ H hh Q q =>
  ha Z F σ H hh _ fun v1 F1 H1 h1 p1 r1 => hr F1 H1 v1 h1.fh r1 Q fun v F3 H3 k r3 => q v F3 H3 (h1.step k) (p1.trans (Pres.step k)) r3
theorem op_I0 {g : Int → Int → Int} {i j : Int} : Op2 (rI0 fun i j => .int (g i j)) tInt i tInt j tInt (g i j) := fun F H v1 v2 e r1 r2 Q q => ⟨i, j, r1, r2, q _ F H (Step.refl e) rfl⟩
theorem op_I0b {g : Int → Int → Bool} {i j : Int} : Op2 (rI0 fun i j => .bl (g i j)) tInt i tInt j tBool (g i j) := fun F H v1 v2 e r1 r2 Q q => ⟨i, j, r1, r2, q _ F H (Step.refl e) rfl⟩
theorem op_I {C : Int → Int → Prop} {g : Int → Int → Int} {i j : Int} (c : C i j) : Op2 (rI C fun i j => .int (g i j)) tInt i tInt j tInt (g i j) := fun F H v1 v2 e r1 r2 Q q => ⟨i, j, r1, r2, c, q _ F H (Step.refl e) rfl⟩
theorem op_eqI {i j : Int} : Op2 rEq tInt i tInt j tBool (decide (i = j)) := fun F H v1 v2 e r1 r2 Q q => by
  cases r1
  cases r2
  refine ⟨rfl, ?_⟩
  have ee : decide (V.int i = V.int j) = decide (i = j) := by simp
  rw [ee]
  exact q _ F H (Step.refl e) rfl
theorem op_neI {i j : Int} : Op2 rNe tInt i tInt j tBool (!decide (i = j)) := fun F H v1 v2 e r1 r2 Q q => by
  cases r1
  cases r2
  refine ⟨rfl, ?_⟩
  have ee : decide (V.int i = V.int j) = decide (i = j) := by simp
  rw [ee]
  exact q _ F H (Step.refl e) rfl
theorem op_eqB {i j : Bool} : Op2 rEq tBool i tBool j tBool (decide (i = j)) := fun F H v1 v2 e r1 r2 Q q => by
  cases r1
  cases r2
  refine ⟨rfl, ?_⟩
  have ee : decide (V.bl i = V.bl j) = decide (i = j) := by simp
  rw [ee]
  exact q _ F H (Step.refl e) rfl
theorem op_neB {i j : Bool} : Op2 rNe tBool i tBool j tBool (!decide (i = j)) := fun F H v1 v2 e r1 r2 Q q => by
  cases r1
  cases r2
  refine ⟨rfl, ?_⟩
  have ee : decide (V.bl i = V.bl j) = decide (i = j) := by simp
  rw [ee]
  exact q _ F H (Step.refl e) rfl
theorem op_eqS {i j : Str} : Op2 rEq tStr i tStr j tBool (decide (i = j)) := fun F H v1 v2 e r1 r2 Q q => by
  cases r1
  cases r2
  refine ⟨rfl, ?_⟩
  have ee : decide (V.str i = V.str j) = decide (i = j) := by simp
  rw [ee]
  exact q _ F H (Step.refl e) rfl
theorem op_neS {i j : Str} : Op2 rNe tStr i tStr j tBool (!decide (i = j)) := fun F H v1 v2 e r1 r2 Q q => by
  cases r1
  cases r2
  refine ⟨rfl, ?_⟩
  have ee : decide (V.str i = V.str j) = decide (i = j) := by simp
  rw [ee]
  exact q _ F H (Step.refl e) rfl
theorem un_neg {i : Int} : Op1 (rU fun i => .int (-i)) tInt i tInt (-i) := fun F H v1 e r1 Q q => ⟨i, r1, q _ F H (Step.refl e) rfl⟩
theorem den_add {i j : Int} (ha : Den ta Γ tInt i Γ1) (hb : Den tb Γ1 tInt j Γ2) : Den (tAdd ta tb) Γ tInt (i + j) Γ2 := fun Z F σ H hh Q q =>
  ha Z F σ H hh _ fun v1 F1 H1 h1 p1 r1 => hb Z F1 σ H1 h1 _ fun v2 F2 H2 h2 p2 r2 => ⟨i, j, r1, r2, q _ F2 H2 h2 (p1.trans p2) rfl⟩
/-! ### tests -/
theorem dt_test {b : Bool} (h : Den te Γ tBool b Γ') : DenT (tTest te) Γ b Γ' := fun Z F σ H hh Q q => h Z F σ H hh _ fun v F' H' h' p r => ⟨b, r, q F' H' h' p⟩
theorem dt_B {b : Bool} (h : Den te Γ tBool b Γ') : DenT (tB te) Γ b Γ' := fun Z F σ H hh Q q => h Z F σ H hh _ fun v F' H' h' p r => ⟨b, r, q F' H' h' p⟩
theorem dt_not {b : Bool} (h : DenT tt Γ b Γ') : DenT (tNot tt) Γ (!b) Γ' := fun Z F σ H hh Q q => h Z F σ H hh _ fun F' H' h' p => q F' H' h' p
theorem dt_and {a b : Bool} (h1 : DenT tt Γ a Γ) (h2 : a = true → DenT uu Γ b Γ) : DenT (tAnd tt uu) Γ (a && b) Γ := fun Z F σ H hh Q q => h1 Z F σ H hh _ fun F' H' h' p => by
  cases a with
  | true =>
    show uu σ H' Q
    exact h2 rfl Z F' σ H' h' Q fun F2 H2 h3 p2 => q F2 H2 h3 (p.trans p2)
  | false =>
    show Q false H'
    exact q F' H' h' p
theorem dt_or {a b : Bool} (h1 : DenT tt Γ a Γ) (h2 : a = false → DenT uu Γ b Γ) : DenT (tOr tt uu) Γ (a || b) Γ := fun Z F σ H hh Q q => h1 Z F σ H hh _ fun F' H' h' p => by
  cases a with
  | true =>
    show Q true H'
    exact q F' H' h' p
  | false =>
    show uu σ H' Q
    exact h2 rfl Z F' σ H' h' Q fun F2 H2 h3 p2 => q F2 H2 h3 (p.trans p2)
/-- the second part changes owned things -/
theorem dt_andM {a b : Bool} (h1 : DenT tt Γ a Γ1) (h2 : a = true → DenT uu Γ1 b Γ2) : DenT (tAnd tt uu) Γ (a && b) (if a = true then Γ2 else Γ1) := fun Z F σ H hh Q q => h1 Z F σ H hh _ fun F' H' h' p => by
  cases a with
  | true =>
    show uu σ H' Q
    exact h2 rfl Z F' σ H' h' Q fun F2 H2 h3 p2 => q F2 H2 h3 (p.trans p2)
  | false =>
    show Q false H'
    exact q F' H' h' p
theorem dt_orM {a b : Bool} (h1 : DenT tt Γ a Γ1) (h2 : a = false → DenT uu Γ1 b Γ2) : DenT (tOr tt uu) Γ (a || b) (if a = true then Γ1 else Γ2) := fun Z F σ H hh Q q => h1 Z F σ H hh _ fun F' H' h' p => by
  cases a with
  | true =>
    show Q true H'
    exact q F' H' h' p
  | false =>
    show uu σ H' Q
    exact h2 rfl Z F' σ H' h' Q fun F2 H2 h3 p2 => q F2 H2 h3 (p.trans p2)
theorem dt_is {a b : Bool} (h : DenT tt Γ a Γ') (e : a = b) : DenT tt Γ b Γ' := e ▸ h
theorem den_andV {a b : Bool} (h1 : Den ta Γ tBool a Γ) (h2 : a = true → Den tb Γ tBool b Γ) : Den (tAndV ta tb) Γ tBool (a && b) Γ := fun Z F σ H hh Q q => h1 Z F σ H hh _ fun v F' H' h' p r => ⟨a, r, by
  cases a with
  | true =>
    show tb σ H' Q
    exact h2 rfl Z F' σ H' h' Q fun v F2 H2 h3 p2 r2 => q v F2 H2 h3 (p.trans p2) r2
  | false =>
    show Q (.bl false) H'
    exact q _ F' H' h' p rfl⟩
theorem den_orV {a b : Bool} (h1 : Den ta Γ tBool a Γ) (h2 : a = false → Den tb Γ tBool b Γ) : Den (tOrV ta tb) Γ tBool (a || b) Γ := fun Z F σ H hh Q q => h1 Z F σ H hh _ fun v F' H' h' p r => ⟨a, r, by
  cases a with
  | true =>
    show Q (.bl true) H'
    exact q _ F' H' h' p rfl
  | false =>
    show tb σ H' Q
    exact h2 rfl Z F' σ H' h' Q fun v F2 H2 h3 p2 r2 => q v F2 H2 h3 (p.trans p2) r2⟩
theorem den_notV {a : Bool} (h1 : Den ta Γ tBool a Γ') : Den (tNotV ta) Γ tBool (!a) Γ' := fun Z F σ H hh Q q => h1 Z F σ H hh _ fun v F' H' h' p r => ⟨a, r, q _ F' H' h' p rfl⟩
/-- 0 < x as a truth -/
theorem dt_trI {K : PySem.W.Frag} {i : Int} (h : Den te Γ tInt i Γ') : DenT (fun σ H Q => te σ H fun x H' => ∃ k, TruV K x H' k ∧ Q k H') Γ (i != 0) Γ' := fun Z F σ H hh Q q => h Z F σ H hh _ fun v F' H' h' p r => by
  cases r
  exact ⟨_, rfl, q F' H' h' p⟩
/-! ### arguments -/
theorem da_nil : DenA tNil Γ [] Γ := fun Z F σ H hh Q q => q [] F H hh Pres.refl .nil
theorem da_cons {tr : TA} (h : Den te Γ t x Γ1) (hr : DenA tr Γ1 ds Γ2) : DenA (tCons te tr) Γ (⟨t, x⟩ :: ds) Γ2 := fun Z F σ H hh Q q =>
  h Z F σ H hh _ fun v F1 H1 h1 p1 r1 => hr Z F1 σ H1 h1 _ fun vs F2 H2 h2 p2 r2 => q _ F2 H2 h2 (p1.trans p2) (.cons (t.mono p2.ff r1) r2)
theorem den_cb {r : List V → Hp → VK → Prop} {tr : TA} (h : DenA tr Γ ds Γ1) (hr : OpN r ds w z) : Den (tCB r tr) Γ w z Γ1 := fun Z F σ H hh Q q =>
  h Z F σ H hh _ fun vs F1 H1 h1 p1 r1 => hr F1 H1 vs h1.fh r1 Q fun v F3 H3 k r3 => q v F3 H3 (h1.step k) (p1.trans (Pres.step k)) r3
/-! ### displays -/
/-- a list that was just laid -/
theorem new_q {Z : En} {F H F' H' : Hp} {σ : L2.St} {Q : VK} (q : ∀ p vs F' H', Holds Z Γ' F' σ H' → Pres Γ Γ' σ F H F' H' → H p = none → F' p = none → H' p = some (.lst vs) → Reps F' ds vs → Q (.ref p) H')
    (h' : Holds Z Γ' F' σ H') (k : Pres Γ Γ' σ F H F' H') {p : Addr} {vs : List V} (np : H' p = none) (r : Reps F' ds vs) : Q (.ref p) (upd H' p (.lst vs)) :=
  have st := Step.open (o := .lst vs) h'.fh np
  q p vs F' _ (h'.step st) (k.trans (Pres.step st)) (k.new np) (ex_none h'.fh np) upd_same r
theorem dn_lst {tr : TA} (h : DenA tr Γ ds Γ1) (hl : ds.length ≤ 100000) : DenN (tLst tr) Γ ds Γ1 := fun Z F σ H hh Q q =>
  h Z F σ H hh _ fun vs F1 H1 h1 p1 r1 => ⟨sz_of (by rw [← r1.len]; exact hl), fun p np => new_q q h1 p1 np r1⟩
theorem den_row {tr : TA} (h : DenA tr Γ ds Γ1) (hl : ds.length ≤ 100000) : Den (tTup tr) Γ (RowT ds) () Γ1 := fun Z F σ H hh Q q =>
  h Z F σ H hh _ fun vs F1 H1 h1 p1 r1 => ⟨sz_of (by rw [← r1.len]; exact hl), fun p np => by
    have k : Step NoO F1 H1 (upd F1 p (.tup vs)) (upd H1 p (.tup vs)) := Step.new h1.fh np
    exact q _ _ _ (h1.step k) (p1.trans (Pres.step k)) ⟨p, vs, rfl, upd_same, r1.mono k.ff⟩⟩
theorem al_map {F : Hp} {xs : List α} : ∀ {vs : List V}, Reps F (xs.map fun x => (⟨t, x⟩ : Dv)) vs → Al (fun x v => t.rep F v x) xs vs := by
  induction xs with
  | nil => intro vs h; cases h; exact .nil
  | cons x xs ih => intro vs h; cases h with
    | cons p q => exact .cons p (ih q)
theorem al_unmap {F : Hp} : ∀ {xs : List α} {vs : List V}, Al (fun x v => t.rep F v x) xs vs → Reps F (xs.map fun x => (⟨t, x⟩ : Dv)) vs
  | _, _, .nil => .nil
  | _, _, .cons r h => .cons r (al_unmap h)
theorem al_int {F : Hp} : ∀ {xs : List Int} {vs : List V}, Al (fun x v => tInt.rep F v x) xs vs → vs = xs.map V.int
  | _, _, .nil => rfl
  | _, _, .cons r h => by
    rw [List.map_cons, ← al_int h]
    cases r
    rfl
theorem row_tup {xs : List α} : ∀ F v, (RowT (xs.map fun x => (⟨t, x⟩ : Dv))).rep F v () → (tTupl t).rep F v xs := fun F v ⟨a, vs, h1, h2, h3⟩ => ⟨a, vs, h1, h2, al_map h3⟩
theorem row_pair : ∀ F v, (RowT [⟨t, x⟩, ⟨u, y⟩]).rep F v () → (tPair t u).rep F v (x, y) := fun F v ⟨a, vs, h1, h2, h3⟩ => by
  cases h3 with
  | cons p q => cases q with
    | cons p' q' =>
      cases q'
      exact ⟨a, _, _, h1, h2, p, p'⟩
theorem row_tri : ∀ F v, (RowT [⟨t, x⟩, ⟨u, y⟩, ⟨w, z⟩]).rep F v () → (tTri t u w).rep F v (x, y, z) := fun F v ⟨a, vs, h1, h2, h3⟩ => by
  cases h3 with
  | cons p q => cases q with
    | cons p' q' => cases q' with
      | cons p2 q2 =>
        cases q2
        exact ⟨a, _, _, _, h1, h2, p, p', p2⟩
theorem den_n {ds : List Dv} {xs : List α} (h : DenN te Γ ds Γ') (e : ds = xs.map fun x => ⟨t, x⟩) : Den te Γ (tList t) xs Γ' := fun Z F σ H hh Q q => h Z F σ H hh Q fun p vs F' H' h' pr np fp hp rr => by
  rw [e] at rr
  have ff : Ex F' (upd F' p (.lst vs)) := Ex.new fp
  have no : ∀ j, ¬ OwnAt Γ' σ j p := fun j w => hh.notOwn np j (pr.ow j p w)
  refine q _ _ _ (h'.freezeP (hh.fresh np) no fp hp) ⟨pr.ff.trans ff, fun b o hb n nt nn => ?_, pr.ow, pr.th⟩ ⟨p, vs, rfl, upd_same, (al_map rr).map fun _ _ z => t.mono ff z⟩
  obtain ⟨n1, k1⟩ := pr.keep b o hb n nt nn
  have zz : b ≠ p := ne_of_none hb np
  rw [upd_ne zz]
  exact ⟨n1, k1⟩
/-! ### without any change of owned things -/
def Pu {α : Type} (te : TE) (Γ : List Slot) (t : Ty α) (x : α) : Prop := ∀ (Z : En) F σ H, Holds Z Γ F σ H → ∀ Q : VK, (∀ v F' H', Step NoO F H F' H' → t.rep F' v x → Q v H') → te σ H Q
theorem Pu.den (h : Pu te Γ t x) : Den te Γ t x Γ := fun Z F σ H hh Q q => h Z F σ H hh Q fun v F' H' k r => q v F' H' (hh.step k) (Pres.step k) r
theorem pu_var {i : Nat} (e : Γ[i]? = some (.val ⟨t, x⟩)) : Pu (tVar i) Γ t x := fun Z F σ H hh Q q => by
  obtain ⟨v, h1, h2⟩ := hh.val e
  exact ⟨v, h1, q v F H (Step.refl hh.fh) h2⟩
theorem pu_int {i : Int} : Pu (tC (.int i)) Γ tInt i := fun Z F σ H hh Q q => q _ F H (Step.refl hh.fh) rfl
theorem pu_op (ha : Pu ta Γ t x) (hb : Pu tb Γ u y) (hr : Op2 r t x u y w z) : Pu (tOp r ta tb) Γ w z := fun Z F σ H hh Q q =>
  ha Z F σ H hh _ fun v1 F1 H1 k1 r1 => hb Z F1 σ H1 (hh.step k1) _ fun v2 F2 H2 k2 r2 => hr F2 H2 v1 v2 ((hh.step k1).step k2).fh (t.mono k2.ff r1) r2 Q fun v F3 H3 k r3 => q v F3 H3 ((k1.trans k2).trans k) r3
theorem pu_un {r : V → Hp → VK → Prop} (ha : Pu ta Γ t x) (hr : Op1 r t x w z) : Pu (tUn r ta) Γ w z := fun Z F σ H hh Q q =>
  ha Z F σ H hh _ fun v1 F1 H1 k1 r1 => hr F1 H1 v1 (hh.step k1).fh r1 Q fun v F3 H3 k r3 => q v F3 H3 (k1.trans k) r3
/-- a list or a tuple to be read -/
def DenQ {α : Type} (te : TE) (Γ : List Slot) (t : Ty α) (xs : List α) (Γ' : List Slot) : Prop := ∀ (Z : En) F σ H, Holds Z Γ F σ H → ∀ Q : VK, (∀ a vs F' H', Holds Z Γ' F' σ H' → Pres Γ Γ' σ F H F' H' → (H' a = some (.lst vs) ∨ H' a = some (.tup vs)) → Al (fun x v => t.rep F' v x) xs vs → Q (.ref a) H') → te σ H Q
def DenU {α : Type} (te : TE) (Γ : List Slot) (t : Ty α) (xs : List α) (Γ' : List Slot) : Prop := ∀ (Z : En) F σ H, Holds Z Γ F σ H → ∀ Q : VK, (∀ a vs F' H', Holds Z Γ' F' σ H' → Pres Γ Γ' σ F H F' H' → H' a = some (.tup vs) → Al (fun x v => t.rep F' v x) xs vs → Q (.ref a) H') → te σ H Q
theorem DenL.q {xs : List α} (h : DenL te Γ t xs Γ') : DenQ te Γ t xs Γ' := fun Z F σ H hh Q q => h Z F σ H hh Q fun a vs F' H' h' p e r => q a vs F' H' h' p (.inl e) r
theorem DenU.q {xs : List α} (h : DenU te Γ t xs Γ') : DenQ te Γ t xs Γ' := fun Z F σ H hh Q q => h Z F σ H hh Q fun a vs F' H' h' p e r => q a vs F' H' h' p (.inr e) r
theorem den_u {xs : List α} (h : Den te Γ (tTupl t) xs Γ') : DenU te Γ t xs Γ' := fun Z F σ H hh Q q => h Z F σ H hh Q fun v F' H' h' p r => by
  obtain ⟨a, vs, rfl, e, rr⟩ := r
  exact q a vs F' H' h' p (h'.fh _ _ e) rr
theorem sq_or {K : PySem.W.Frag} {H : Hp} {a : Addr} {vs : List V} (h : H a = some (.lst vs) ∨ H a = some (.tup vs)) : SqL K H a vs ∨ SqT K H a vs := h.elim (fun h => .inl (sq_of h)) fun h => .inr (st_of h)
def rLenQ (K : PySem.W.Frag) : List V → Hp → VK → Prop := fun xs H Q => ∃ p ys, xs = [.ref p] ∧ (SqL K H p ys ∨ SqT K H p ys) ∧ Q (.int ys.length) H
theorem den_len {K : PySem.W.Frag} {xs : List α} (h : DenQ ta Γ t xs Γ1) : Den (tCB (fun xs H Q => ∃ p ys, xs = [.ref p] ∧ (SqL K H p ys ∨ SqT K H p ys) ∧ Q (.int ys.length) H) (tCons ta tNil)) Γ tInt (xs.length : Int) Γ1 := fun Z F σ H hh Q q =>
  h Z F σ H hh _ fun a vs F' H' h' p e r => ⟨a, vs, rfl, sq_or e, q _ F' H' h' p (by rw [r.len]; rfl)⟩
theorem den_sum {K : PySem.W.Frag} {xs : List Int} (h : DenQ ta Γ tInt xs Γ1) : Den (tCB (fun vs H Q => ∃ (a : Addr) (ns : List Int), vs = [V.ref a] ∧ (SqL K H a (ns.map V.int) ∨ SqT K H a (ns.map V.int)) ∧ Q (.int ns.sum) H) (tCons ta tNil)) Γ tInt xs.sum Γ1 := fun Z F σ H hh Q q =>
  h Z F σ H hh _ fun a vs F' H' h' p e r => by
    have ev : vs = xs.map V.int := al_int r
    subst ev
    exact ⟨a, xs, rfl, sq_or e, q _ F' H' h' p rfl⟩
/-! ### subscripts -/
theorem atI_get {α : Type _} {xs : List α} {i : Int} (h0 : 0 ≤ i) {x : α} (hx : xs[i.toNat]? = some x) : atI xs i = some x := by
  have hl := (List.getElem?_eq_some_iff.mp hx).1
  unfold atI ixN
  rw [if_pos h0, if_pos (by omega)]
  exact hx
theorem den_ixL {K : PySem.W.Frag} {xs : List α} {i : Int} (ha : DenL ta Γ t xs Γ1) (hb : Pu tb Γ1 tInt i) (h0 : 0 ≤ i) (hx : xs[i.toNat]? = some x) : Den (tOp (rIxL K) ta tb) Γ t x Γ1 := fun Z F σ H hh Q q =>
  ha Z F σ H hh _ fun a vs F1 H1 h1 p e r => hb Z F1 σ H1 h1 _ fun v2 F2 H2 k r2 => by
    cases r2
    obtain ⟨v, hv, rv⟩ := r.get hx
    exact ⟨a, vs, i, v, rfl, rfl, sq_of (k.hh h1.fh a _ e), atI_get h0 hv, q v F2 H2 (h1.step k) (p.trans (Pres.step k)) (t.mono k.ff rv)⟩
theorem den_ixT {K : PySem.W.Frag} {xs : List α} {i : Int} (ha : DenU ta Γ t xs Γ1) (hb : Pu tb Γ1 tInt i) (h0 : 0 ≤ i) (hx : xs[i.toNat]? = some x) : Den (tOp (rIxT K) ta tb) Γ t x Γ1 := fun Z F σ H hh Q q =>
  ha Z F σ H hh _ fun a vs F1 H1 h1 p e r => hb Z F1 σ H1 h1 _ fun v2 F2 H2 k r2 => by
    cases r2
    obtain ⟨v, hv, rv⟩ := r.get hx
    exact ⟨a, vs, i, v, rfl, rfl, st_of (k.hh h1.fh a _ e), atI_get h0 hv, q v F2 H2 (h1.step k) (p.trans (Pres.step k)) (t.mono k.ff rv)⟩
/-- a frozen list, an index that may change owned things -/
theorem den_ixLM {K : PySem.W.Frag} {xs : List α} {i : Int} (ha : Den ta Γ (tList t) xs Γ1) (hb : Den tb Γ1 tInt i Γ2) (h0 : 0 ≤ i) (hx : xs[i.toNat]? = some x) : Den (tOp (rIxL K) ta tb) Γ t x Γ2 := fun Z F σ H hh Q q =>
  ha Z F σ H hh _ fun v1 F1 H1 h1 p r => hb Z F1 σ H1 h1 _ fun v2 F2 H2 h2 p2 r2 => by
    obtain ⟨a, vs, rfl, e, rr⟩ := (tList t).mono p2.ff r
    cases r2
    obtain ⟨v, hv, rv⟩ := rr.get hx
    exact ⟨a, vs, i, v, rfl, rfl, sq_of (h2.fh _ _ e), atI_get h0 hv, q v F2 H2 h2 (p.trans p2) rv⟩
/-- an owned list of unlike items -/
theorem den_ixH {K : PySem.W.Frag} {i : Nat} {k : Int} {oa : Option Addr} (e : Γ[i]? = some (.own oa ds)) (hx : ds[k.toNat]? = some ⟨t, x⟩) (h0 : 0 ≤ k := by decide) : Den (tOp (rIxL K) (tVar i) (tC (.int k))) Γ t x Γ := fun Z F σ H hh Q q => by
  obtain ⟨a, h1, ⟨_, _, vs, h2, h3⟩, _⟩ := hh.owned e rfl
  obtain ⟨v, hv, rv⟩ := h3.get hx
  exact ⟨_, h1, a, vs, k, v, rfl, rfl, sq_of h2, atI_get h0 hv, q v F H hh Pres.refl rv⟩
theorem den_fst {K : PySem.W.Frag} {z : α × β} (ha : Den ta Γ (tPair t u) z Γ1) : Den (tOp (rIxT K) ta (tC (.int 0))) Γ t z.1 Γ1 := fun Z F σ H hh Q q =>
  ha Z F σ H hh _ fun v1 F1 H1 h1 p r => by
    obtain ⟨a, v1, v2, rfl, e, r1, r2⟩ := r
    exact ⟨a, _, 0, v1, rfl, rfl, st_of (h1.fh _ _ e), rfl, q _ F1 H1 h1 p r1⟩
theorem den_snd {K : PySem.W.Frag} {z : α × β} (ha : Den ta Γ (tPair t u) z Γ1) : Den (tOp (rIxT K) ta (tC (.int 1))) Γ u z.2 Γ1 := fun Z F σ H hh Q q =>
  ha Z F σ H hh _ fun v1 F1 H1 h1 p r => by
    obtain ⟨a, v1, v2, rfl, e, r1, r2⟩ := r
    exact ⟨a, _, 1, v2, rfl, rfl, st_of (h1.fh _ _ e), rfl, q _ F1 H1 h1 p r2⟩
/-! ### new lists, tuples out of elder ones -/
theorem den_list {K : PySem.W.Frag} {xs : List α} (h : DenQ ta Γ t xs Γ1) : DenN (tCB (fun xs H Q => ∃ p ys, xs = [.ref p] ∧ (SqL K H p ys ∨ SqT K H p ys) ∧ ∀ l, H l = none → Q (.ref l) (upd H l (.lst ys))) (tCons ta tNil)) Γ (xs.map fun x => ⟨t, x⟩) Γ1 := fun Z F σ H hh Q q =>
  h Z F σ H hh _ fun a vs F' H' h' p e r => ⟨a, vs, rfl, sq_or e, fun l nl => new_q q h' p nl (al_unmap r)⟩
theorem dn_l {xs : List α} (h : DenN te Γ (xs.map fun x => (⟨t, x⟩ : Dv)) Γ') : DenL te Γ t xs Γ' := den_l (den_n h rfl)
theorem den_tuple {K : PySem.W.Frag} {xs : List α} (h : DenL ta Γ t xs Γ1) : Den (tCB (fun xs H Q => ∃ p ys, xs = [.ref p] ∧ ((SqL K H p ys ∧ ∀ l, H l = none → Q (.ref l) (upd H l (.tup ys))) ∨ (SqT K H p ys ∧ Q (.ref p) H))) (tCons ta tNil)) Γ (tTupl t) xs Γ1 := fun Z F σ H hh Q q =>
  h Z F σ H hh _ fun a vs F' H' h' p e r => ⟨a, vs, rfl, .inl ⟨sq_of e, fun l nl => by
    have k : Step NoO F' H' (upd F' l (.tup vs)) (upd H' l (.tup vs)) := Step.new h'.fh nl
    exact q _ _ _ (h'.step k) (p.trans (Pres.step k)) ⟨l, vs, rfl, upd_same, r.map fun _ _ z => t.mono k.ff z⟩⟩⟩
def PuO (to : TO) (Γ : List Slot) (o : Option Int) : Prop := ∀ (Z : En) F σ H, Holds Z Γ F σ H → ∀ Q : Option Int → Hp → Prop, (∀ F' H', Step NoO F H F' H' → Q o H') → to σ H Q
theorem po_no : PuO tNoPart Γ none := fun Z F σ H hh Q q => q F H (Step.refl hh.fh)
theorem po_part {i : Int} (h : Pu te Γ tInt i) : PuO (tPart te) Γ (some i) := fun Z F σ H hh Q q => h Z F σ H hh _ fun v F' H' k r => ⟨i, r, q F' H' k⟩
theorem dn_slice {K : PySem.W.Frag} {xs : List α} {lo hi : Option Int} {tl th : TO} (ha : DenL ta Γ t xs Γ1) (hl : PuO tl Γ1 lo) (hh' : PuO th Γ1 hi) :
    DenN (tSl (rSlL K) ta tl th) Γ (((xs.drop (HT.sIx xs.length 0 lo)).take (HT.sIx xs.length xs.length hi - HT.sIx xs.length 0 lo)).map fun x => ⟨t, x⟩) Γ1 := fun Z F σ H hh Q q =>
  ha Z F σ H hh _ fun a vs F1 H1 h1 p e r => hl Z F1 σ H1 h1 _ fun F2 H2 k2 => hh' Z F2 σ H2 (h1.step k2) _ fun F3 H3 k3 => by
    have k := k2.trans k3
    refine ⟨a, vs, rfl, sq_of (k.hh h1.fh a _ e), fun l nl => ?_⟩
    refine new_q q (h1.step k) (p.trans (Pres.step k)) nl ?_
    have r3 : Al (fun x v => t.rep F3 v x) xs vs := r.map fun _ _ z => t.mono k.ff z
    have r4 := (r3.drop (HT.sIx xs.length 0 lo)).take (HT.sIx xs.length xs.length hi - HT.sIx xs.length 0 lo)
    have e1 : cutV vs lo hi = (vs.drop (HT.sIx xs.length 0 lo)).take (HT.sIx xs.length xs.length hi - HT.sIx xs.length 0 lo) := by
      unfold cutV
      rw [← r.len]
    rw [e1]
    exact al_unmap r4
/-- xs + ys: both frozen | the left one new -/
theorem dn_cat {xs ys : List α} (ha : Den ta Γ (tList t) xs Γ1) (hb : Den tb Γ1 (tList t) ys Γ2) (hl : xs.length + ys.length ≤ 100000) : DenN (tOp rCat ta tb) Γ ((xs ++ ys).map fun x => ⟨t, x⟩) Γ2 := fun Z F σ H hh Q q =>
  ha Z F σ H hh _ fun v1 F1 H1 h1 p r => hb Z F1 σ H1 h1 _ fun v2 F2 H2 h2 p2 r2 => by
    obtain ⟨a, vs, rfl, e, rr⟩ := (tList t).mono p2.ff r
    obtain ⟨b, us, rfl, e2, rr2⟩ := r2
    refine ⟨a, b, vs, us, rfl, rfl, h2.fh _ _ e, h2.fh _ _ e2, sz_of (by rw [← rr.len, ← rr2.len]; exact hl), fun l nl => new_q q h2 (p.trans p2) nl (al_unmap (rr.app rr2))⟩
end
end DL

set_option maxRecDepth 100000
/-! DS: calls, instances, statements, loops, comprehensions over typed data. -/
namespace DL
open PySem L2 Evl
section
variable {α β γ : Type} {t : Ty α} {u : Ty β} {w : Ty γ} {x : α} {y : β} {z : γ} {Γ Γ' Γ1 Γ2 Γ3 : List Slot} {ta tb tc te : TE} {tt uu : TT} {r : R2} {ds es : List Dv} {K : PySem.W.Frag}
/-! ### promises -/
/-- S: what is given back; R: what is raised -/
def spP (S : List Dv → Dv → Prop) (R : List Dv → Value → Prop) : Sp := fun vs H Q E => ∃ F ds, Ex F H ∧ Reps F ds vs ∧
  ((∃ r, S ds r ∧ ∀ v F' H', Step NoO F H F' H' → r.rep F' v → Q v H') ∨ (∃ c, R ds c ∧ ∀ F' H', Step NoO F H F' H' → E c none H'))
abbrev NoR : List Dv → Value → Prop := fun _ _ => False
/-- a new open list is given back -/
def spN (S : List Dv → List Dv → Prop) : Sp := fun vs H Q E => ∃ F ds, Ex F H ∧ Reps F ds vs ∧ ∃ r, S ds r ∧ ∀ p us F' H', Step NoO F H F' H' → H p = none → F' p = none → H' p = some (.lst us) → Reps F' r us → Q (.ref p) H'
/-- the first argument is an owned list, which changes -/
def spM (S : List Dv → List Dv → List Dv → Dv → Prop) : Sp := fun vs H Q E => ∃ F a us args ps ds, vs = .ref a :: args ∧ Ex F H ∧ F a = none ∧ H a = some (.lst us) ∧ Reps F ps us ∧ Reps F ds args ∧
  ∃ ps' r, S ps ds ps' r ∧ ∀ v F' H' us', Step (fun b => b = a) F H F' H' → F' a = none → H' a = some (.lst us') → Reps F' ps' us' → r.rep F' v → Q v H'
/-- __init__: S gives the fields -/
def spI (C : Addr) (S : List Dv → List (Str × Dv) → Prop) (R : List Dv → Value → Prop) : Sp := fun vs H Q E => ∃ F x dx args ds, vs = .ref x :: args ∧ Ex F H ∧ F x = none ∧ F dx = some (.own x) ∧ H x = some (.ins C dx []) ∧ Reps F ds args ∧
  ((∃ fs, S ds fs ∧ ∀ F' H' dx' us, Step (fun b => b = x) F H F' H' → F' x = none → F' dx' = some (.own x) → H' x = some (.ins C dx' us) → RepF F' fs us → Q .non H') ∨ (∃ c, R ds c ∧ ∀ F' H', Step (fun b => b = x) F H F' H' → E c none H'))

def SpV (sp : Sp) (ds : List Dv) (w : Ty γ) (z : γ) : Prop := ∀ F H vs, Ex F H → Reps F ds vs → ∀ (Q : VK) (E : XK), (∀ v F' H', Step NoO F H F' H' → w.rep F' v z → Q v H') → sp vs H Q E
def SpX (sp : Sp) (ds : List Dv) (c : Value) : Prop := ∀ F H vs, Ex F H → Reps F ds vs → ∀ (Q : VK) (E : XK), (∀ F' H', Step NoO F H F' H' → E c none H') → sp vs H Q E
theorem spP_v {S : List Dv → Dv → Prop} {R : List Dv → Value → Prop} (h : S ds ⟨w, z⟩) : SpV (spP S R) ds w z := fun F H vs e r Q E q => ⟨F, ds, e, r, .inl ⟨⟨w, z⟩, h, q⟩⟩
theorem spP_x {S : List Dv → Dv → Prop} {R : List Dv → Value → Prop} {c : Value} (h : R ds c) : SpX (spP S R) ds c := fun F H vs e r Q E q => ⟨F, ds, e, r, .inr ⟨c, h, q⟩⟩
/-! ### calls -/
theorem den_call {sp : Sp} {E : XK} {tr : TA} (h : DenA tr Γ ds Γ1) (hs : SpV sp ds w z) : Den (tCall sp [] E tr) Γ w z Γ1 := fun Z F σ H hh Q q =>
  h Z F σ H hh _ fun vs F1 H1 h1 p1 r1 => by
    rw [List.append_nil]
    exact hs F1 H1 vs h1.fh r1 Q E fun v F3 H3 k r3 => q v F3 H3 (h1.step k) (p1.trans (Pres.step k)) r3
/-- with defaults -/
theorem den_callD {sp : Sp} {E : XK} {tr : TA} {dvs : List V} (h : DenA tr Γ ds Γ1) (hd : ∀ F, Reps F es dvs) (hs : SpV sp (ds ++ es) w z) : Den (tCall sp dvs E tr) Γ w z Γ1 := fun Z F σ H hh Q q =>
  h Z F σ H hh _ fun vs F1 H1 h1 p1 r1 => hs F1 H1 (vs ++ dvs) h1.fh (r1.app (hd F1)) Q E fun v F3 H3 k r3 => q v F3 H3 (h1.step k) (p1.trans (Pres.step k)) r3
theorem pu_call {sp : Sp} {E : XK} {tr : TA} (h : ∀ (Z : En) F σ H, Holds Z Γ F σ H → ∀ Q : List V → Hp → Prop, (∀ vs F' H', Step NoO F H F' H' → Reps F' ds vs → Q vs H') → tr σ H Q) (hs : SpV sp ds w z) : Pu (tCall sp [] E tr) Γ w z := fun Z F σ H hh Q q =>
  h Z F σ H hh _ fun vs F1 H1 k1 r1 => by
    rw [List.append_nil]
    exact hs F1 H1 vs (hh.step k1).fh r1 Q E fun v F3 H3 k r3 => q v F3 H3 (k1.trans k) r3
theorem dn_call {S : List Dv → List Dv → Prop} {E : XK} {tr : TA} (h : DenA tr Γ ds Γ1) (hs : S ds es) : DenN (tCall (spN S) [] E tr) Γ es Γ1 := fun Z F σ H hh Q q =>
  h Z F σ H hh _ fun vs F1 H1 h1 p1 r1 => by
    rw [List.append_nil]
    exact ⟨F1, ds, h1.fh, r1, es, hs, fun p us F' H' k np fp hp rr => q p us F' H' (h1.step k) (p1.trans (Pres.step k)) (p1.new np) fp hp rr⟩
/-- the owned list of slot i goes in and is changed -/
theorem den_callM {S : List Dv → List Dv → List Dv → Dv → Prop} {E : XK} {tr : TA} {i : Nat} {ps ps' : List Dv} {oa : Option Addr} (e : Γ[i]? = some (.own oa ps)) (h : DenA tr Γ ds Γ) (hs : S ps ds ps' ⟨w, z⟩) (e' : Γ.set i (.own oa ps') = Γ1) :
    Den (tCall (spM S) [] E (tCons (tVar i) tr)) Γ w z Γ1 := fun Z F σ H hh Q q => by
  obtain ⟨a, h1, _, o1⟩ := hh.owned e rfl
  refine ⟨_, h1, ?_⟩
  refine h Z F σ H hh _ fun vs F1 H1 h2 p1 r1 => ?_
  obtain ⟨a', h1', ⟨n1, ad, us, hu, ru⟩, o2⟩ := h2.owned e rfl
  rw [h1] at h1'
  cases h1'
  rw [List.append_nil]
  refine ⟨F1, a, us, vs, ps, ds, rfl, h2.fh, n1, hu, ru, r1, ps', ⟨w, z⟩, hs, fun v F' H' us' k n' hu' ru' rv => ?_⟩
  -- the heap as it was at a
  have k0 : Step NoO F1 H1 F' (upd H' a (.lst us)) := by
    refine ⟨k.ff, fun b o q => ?_, fun b o q n => ?_⟩
    · have : b ≠ a := fun z => by rw [z, n'] at q; cases q
      rw [upd_ne this]
      exact k.fh b o q
    · obtain ⟨n2, hn2, kk⟩ := k.keep b o q n
      by_cases zz : b = a
      · subst zz
        rw [hu] at q
        cases q
        exact ⟨n2, ⟨_, upd_same⟩, fun _ => upd_same⟩
      · rw [upd_ne zz]
        exact ⟨n2, hn2, fun _ => kk zz⟩
  have h3 := h2.step k0
  have o3 : OwnAt Γ σ i a := o2
  have h4 := h3.mut (s := .own oa ps') (o := .lst us') o3 ⟨n', ad, us', upd_same, ru'⟩
  have ee : upd (upd H' a (.lst us)) a (.lst us') = H' := by
    rw [upd_upd]
    funext b
    unfold upd
    split
    · rename_i zz
      rw [zz, hu']
    · rfl
  rw [ee, e'] at h4
  have ow : ∀ j b, OwnAt Γ1 σ j b → OwnAt Γ σ j b := fun j b wo => by
    subst e'
    by_cases zz : i = j
    · subst zz
      exact ⟨⟨_, e, rfl⟩, wo.2⟩
    · obtain ⟨⟨s, e1, e2⟩, e3⟩ := wo
      rw [List.getElem?_set_ne zz] at e1
      exact ⟨⟨s, e1, e2⟩, e3⟩
  have pp : Pres Γ Γ1 σ F1 H1 F' H' := ⟨k.ff, fun b o q n nt no => by
    obtain ⟨n2, _, kk⟩ := k.keep b o q n
    have e2 := kk fun zz => no i (zz ▸ o2)
    refine ⟨n2.elim id fun ⟨vs, z⟩ => ?_, e2⟩
    have e3 := k.fh b _ z
    rw [e2] at e3
    cases e3
    exact absurd rfl (nt vs), ow, fun b o q => by
    cases qf : F1 b with
    | none => exact (k.keep b o q qf).2.1
    | some o' => exact ⟨o', k.fh b o' (k.ff b o' qf)⟩⟩
  exact q v F' H' h4 (p1.trans pp) rv
/-! ### instances -/
/-- x of type t is an instance with the field f, which is y -/
def FldOf (K : PySem.W.Frag) (t : Ty α) (x : α) (f : Str) (u : Ty β) (y : β) : Prop := ∀ F v, t.rep F v x → ∃ a C dx fs b, v = .ref a ∧ F a = some (.ins C dx fs) ∧ Cls K C ∧ NoAttr K C f ∧ fs.lookup f = some b ∧ u.rep F b y
def InsOf (t : Ty α) (x : α) (C : Addr) (m : Str) : Prop := ∀ F v, t.rep F v x → ∃ a dx fs, v = .ref a ∧ F a = some (.ins C dx fs) ∧ fs.lookup m = none
theorem den_fld {f : Str} (ha : Den ta Γ t x Γ1) (hf : FldOf K t x f u y) : Den (tFld K ta f) Γ u y Γ1 := fun Z F σ H hh Q q =>
  ha Z F σ H hh _ fun v F1 H1 h1 p r => by
    obtain ⟨a, C, dx, fs, b, rfl, e, c, n, l, rb⟩ := hf F1 v r
    exact ⟨a, C, dx, fs, b, rfl, h1.fh _ _ e, c, n, l, q b F1 H1 h1 p rb⟩
theorem pu_fld {f : Str} (ha : Pu ta Γ t x) (hf : FldOf K t x f u y) : Pu (tFld K ta f) Γ u y := fun Z F σ H hh Q q =>
  ha Z F σ H hh _ fun v F1 H1 k r => by
    obtain ⟨a, C, dx, fs, b, rfl, e, c, n, l, rb⟩ := hf F1 v r
    exact ⟨a, C, dx, fs, b, rfl, (hh.step k).fh _ _ e, c, n, l, q b F1 H1 k rb⟩
theorem repf_lookup {F : Hp} {f : Str} {d : Dv} : ∀ {fs : List (Str × Dv)} {us : List (Str × V)}, RepF F fs us → fs.lookup f = some d → ∃ b, us.lookup f = some b ∧ d.rep F b
  | _, _, .nil, e => nomatch e
  | (g, d') :: fs, (g', b) :: us, .cons r h, e => by
    obtain ⟨r1, r2⟩ := r
    simp only at r1 r2
    subst r1
    rw [List.lookup_cons] at e ⊢
    cases q : (f == g) with
    | true =>
      rw [q] at e
      cases e
      exact ⟨b, rfl, r2⟩
    | false =>
      rw [q] at e
      exact repf_lookup h e
theorem den_fldO {f : Str} {i : Nat} {C : Addr} {oa : Option Addr} {fs : List (Str × Dv)} (e : Γ[i]? = some (.obj oa C fs)) (hl : fs.lookup f = some ⟨u, y⟩) (c : Cls K C) (n : NoAttr K C f) : Den (tFld K (tVar i) f) Γ u y Γ := fun Z F σ H hh Q q => by
  obtain ⟨a, h1, ⟨_, _, dx, us, _, h2, h3⟩, _⟩ := hh.owned e rfl
  obtain ⟨b, hb, rb⟩ := repf_lookup h3 hl
  exact ⟨_, h1, a, C, dx, us, b, rfl, h2, c, n, hb, q b F H hh Pres.refl rb⟩
theorem den_meth {sp : Sp} {E : XK} {tr : TA} {C : Addr} {m : Str} (ha : Den ta Γ t x Γ1) (hi : InsOf t x C m) (h : DenA tr Γ1 ds Γ2) (hs : SpV sp (⟨t, x⟩ :: ds) w z) : Den (tMeth C m sp [] E ta tr) Γ w z Γ2 := fun Z F σ H hh Q q =>
  ha Z F σ H hh _ fun v F1 H1 h1 p1 r1 => by
    obtain ⟨a, dx, fs, rfl, e, l⟩ := hi F1 v r1
    refine ⟨a, dx, fs, rfl, h1.fh _ _ e, l, ?_⟩
    refine h Z F1 σ H1 h1 _ fun vs F2 H2 h2 p2 r2 => ?_
    rw [List.append_nil]
    exact hs F2 H2 _ h2.fh (.cons (t.mono p2.ff r1) r2) Q E fun v F3 H3 k r3 => q v F3 H3 (h2.step k) ((p1.trans p2).trans (Pres.step k)) r3
/-- the data type of an instance whose fields are fs -/
def MkOf (C : Addr) (fs : List (Str × Dv)) (w : Ty γ) (z : γ) : Prop := ∀ F a dx us, F a = some (.ins C dx us) → F dx = some (.own a) → RepF F fs us → w.rep F (.ref a) z
theorem make_v {S : List Dv → List (Str × Dv) → Prop} {R : List Dv → Value → Prop} {C : Addr} {fs : List (Str × Dv)} {E : XK} {F H : Hp} {vs : List V} (hs : S ds fs) (hm : MkOf C fs w z) (e : Ex F H) (r : Reps F ds vs) (Q : VK) (q : ∀ v F' H', Step NoO F H F' H' → w.rep F' v z → Q v H') :
    ∀ x dx, H x = none → H dx = none → dx ≠ x → spI C S R (.ref x :: vs) (upd (upd H dx (.own x)) x (.ins C dx [])) (fun v H2 => v = .non ∧ Q (.ref x) H2) E := fun x dx nx nd ne => by
  have k1 : Step NoO F H (upd F dx (.own x)) (upd H dx (.own x)) := Step.new e nd
  have nx1 : upd H dx (.own x) x = none := by rw [upd_ne ne.symm]; exact nx
  have k2 : Step NoO F H (upd F dx (.own x)) (upd (upd H dx (.own x)) x (.ins C dx [])) := k1.trans (Step.open k1.fh nx1)
  have fx : upd F dx (.own x) x = none := ex_none k1.fh nx1
  refine ⟨upd F dx (.own x), x, dx, vs, ds, rfl, k2.fh, fx, upd_same, upd_same, r.mono k1.ff, .inl ⟨fs, hs, fun F' H' dx' us k n' ed e' rf => ⟨rfl, ?_⟩⟩⟩
  have k3 : Step NoO F H (upd F' x (.ins C dx' us)) H' := by
    refine ⟨(k1.ff.trans k.ff).trans (Ex.new n'), fun b o g => ?_, fun b o g n => ?_⟩
    · by_cases zz : b = x
      · rw [zz, upd_same] at g
        cases g
        rw [zz]
        exact e'
      · rw [upd_ne zz] at g
        exact k.fh b o g
    · have zz : b ≠ x := ne_of_none g nx
      obtain ⟨n2, h2, k2'⟩ := k2.keep b o g n
      rw [upd_ne zz]
      rcases n2 with n2 | ⟨vs, n2⟩
      · obtain ⟨n3, h3, k3'⟩ := k.keep b o (k2' fun z => z) n2
        exact ⟨n3, h3, fun _ => k3' zz⟩
      · have e1 := k2.fh b _ n2
        rw [k2' fun z => z] at e1
        cases e1
        have e2 := k.fh b _ (k.ff b _ n2)
        exact ⟨.inr ⟨vs, k.ff b _ n2⟩, ⟨_, e2⟩, fun _ => e2⟩
  exact q (.ref x) _ H' k3 (hm _ x dx' us upd_same (Ex.new n' _ _ ed) (rf.mono (Ex.new n')))
theorem make_x {S : List Dv → List (Str × Dv) → Prop} {R : List Dv → Value → Prop} {C : Addr} {c : Value} {E : XK} {F H : Hp} {vs : List V} (hs : R ds c) (e : Ex F H) (r : Reps F ds vs) (Q : VK) (q : ∀ F' H', Step NoO F H F' H' → E c none H') :
    ∀ x dx, H x = none → H dx = none → dx ≠ x → spI C S R (.ref x :: vs) (upd (upd H dx (.own x)) x (.ins C dx [])) (fun v H2 => v = .non ∧ Q (.ref x) H2) E := fun x dx nx nd ne => by
  have k1 : Step NoO F H (upd F dx (.own x)) (upd H dx (.own x)) := Step.new e nd
  have nx1 : upd H dx (.own x) x = none := by rw [upd_ne ne.symm]; exact nx
  have k2 : Step NoO F H (upd F dx (.own x)) (upd (upd H dx (.own x)) x (.ins C dx [])) := k1.trans (Step.open k1.fh nx1)
  have fx : upd F dx (.own x) x = none := ex_none k1.fh nx1
  refine ⟨upd F dx (.own x), x, dx, vs, ds, rfl, k2.fh, fx, upd_same, upd_same, r.mono k1.ff, .inr ⟨c, hs, fun F' H' k => q F' H' ?_⟩⟩
  refine ⟨k1.ff.trans k.ff, k.fh, fun b o g n => ?_⟩
  have zz : b ≠ x := ne_of_none g nx
  obtain ⟨n2, h2, k2'⟩ := k2.keep b o g n
  rcases n2 with n2 | ⟨vs, n2⟩
  · obtain ⟨n3, h3, k3'⟩ := k.keep b o (k2' fun z => z) n2
    exact ⟨n3, h3, fun _ => k3' zz⟩
  · have e1 := k2.fh b _ n2
    rw [k2' fun z => z] at e1
    cases e1
    have e2 := k.fh b _ (k.ff b _ n2)
    exact ⟨.inr ⟨vs, k.ff b _ n2⟩, ⟨_, e2⟩, fun _ => e2⟩
theorem den_make {S : List Dv → List (Str × Dv) → Prop} {R : List Dv → Value → Prop} {E : XK} {tr : TA} {C : Addr} {fs : List (Str × Dv)} {dvs : List V} (h : DenA tr Γ ds Γ1) (hd : ∀ F, Reps F es dvs) (hs : S (ds ++ es) fs) (hm : MkOf C fs w z) : Den (tMake C (spI C S R) dvs E tr) Γ w z Γ1 := fun Z F σ H hh Q q =>
  h Z F σ H hh _ fun vs F1 H1 h1 p1 r1 => make_v hs hm h1.fh (r1.app (hd F1)) Q fun v F' H' k rv => q v F' H' (h1.step k) (p1.trans (Pres.step k)) rv
theorem reps_nil {F : Hp} : Reps F [] [] := .nil
theorem den_make0 {S : List Dv → List (Str × Dv) → Prop} {R : List Dv → Value → Prop} {E : XK} {tr : TA} {C : Addr} {fs : List (Str × Dv)} (h : DenA tr Γ ds Γ1) (hs : S ds fs) (hm : MkOf C fs w z) : Den (tMake C (spI C S R) [] E tr) Γ w z Γ1 :=
  den_make (es := []) h (fun _ => .nil) (by rw [List.append_nil]; exact hs) hm
/-! ### what raises -/
/-- an expression that raises c: whatever is wanted behind it -/
def Bot (te : TE) (Γ : List Slot) (Γ' : List Slot) (E : XK) (c : Value) : Prop := ∀ (Z : En) F σ H, Holds Z Γ F σ H → (∀ F' H', Holds Z Γ' F' σ H' → E c none H') → ∀ Q : VK, te σ H Q
theorem bot_call {sp : Sp} {E : XK} {tr : TA} {c : Value} (h : DenA tr Γ ds Γ1) (hs : SpX sp ds c) : Bot (tCall sp [] E tr) Γ Γ1 E c := fun Z F σ H hh e Q =>
  h Z F σ H hh _ fun vs F1 H1 h1 p1 r1 => by
    rw [List.append_nil]
    exact hs F1 H1 vs h1.fh r1 Q E fun F3 H3 k => e F3 H3 (h1.step k)
theorem bot_make {S : List Dv → List (Str × Dv) → Prop} {R : List Dv → Value → Prop} {E : XK} {tr : TA} {C : Addr} {c : Value} {dvs : List V} (h : DenA tr Γ ds Γ1) (hd : ∀ F, Reps F es dvs) (hs : R (ds ++ es) c) : Bot (tMake C (spI C S R) dvs E tr) Γ Γ1 E c := fun Z F σ H hh e Q =>
  h Z F σ H hh _ fun vs F1 H1 h1 p1 r1 => make_x hs h1.fh (r1.app (hd F1)) Q fun F' H' k => e F' H' (h1.step k)
theorem bot_meth {sp : Sp} {E : XK} {tr : TA} {C : Addr} {m : Str} {c : Value} (ha : Den ta Γ t x Γ1) (hi : InsOf t x C m) (h : DenA tr Γ1 ds Γ2) (hs : SpX sp (⟨t, x⟩ :: ds) c) : Bot (tMeth C m sp [] E ta tr) Γ Γ2 E c := fun Z F σ H hh e Q =>
  ha Z F σ H hh _ fun v F1 H1 h1 p1 r1 => by
    obtain ⟨a, dx, fs, rfl, e1, l⟩ := hi F1 v r1
    refine ⟨a, dx, fs, rfl, h1.fh _ _ e1, l, ?_⟩
    refine h Z F1 σ H1 h1 _ fun vs F2 H2 h2 p2 r2 => ?_
    rw [List.append_nil]
    exact hs F2 H2 _ h2.fh (.cons (t.mono p2.ff r1) r2) Q E fun F3 H3 k => e F3 H3 (h2.step k)
end
end DL

set_option maxRecDepth 100000
/-! DT: statements, loops, comprehensions over typed data. -/
namespace DL
open PySem L2 Evl
/-- under the data Γ what is wanted holds -/
def OK (Z : En) (Γ : List Slot) (P : L2.St → Hp → Prop) : Prop := ∀ F σ H, Holds Z Γ F σ H → P σ H
section
variable {α β γ : Type} {t : Ty α} {u : Ty β} {w : Ty γ} {x : α} {y : β} {z : γ} {Z : En} {Γ Γ' Γ1 Γ2 Γ3 : List Slot} {ta tb tc te : TE} {tt uu : TT} {r : R2} {ds es : List Dv} {K : PySem.W.Frag} {D : Ends} {s1 s2 : TS} {i j : Nat}
theorem s_seq (h : OK Z Γ (s1 { D with nx := s2 D })) : OK Z Γ (tSeq s1 s2 D) := h
theorem s_nx (h : OK Z Γ D.nx) : OK Z Γ (tNext D) := h
theorem s_brk (h : OK Z Γ D.bk) : OK Z Γ (tBreak D) := h
theorem s_cont (h : OK Z Γ D.ct) : OK Z Γ (tCont D) := h
theorem s_weak {P : L2.St → Hp → Prop} (h : OK Z Γ' P) (k : Wk Γ Γ') : OK Z Γ P := fun F σ H hh => h F σ H (hh.weak k)
theorem s_set (h : Den te Γ t x Γ1) (k : OK Z (Γ1.set i (.val ⟨t, x⟩)) D.nx) : OK Z Γ (tAsg te (gName i) D) := fun F σ H hh =>
  h Z F σ H hh _ fun v F' H' h' p r => k F' _ H' (h'.set i r)
/-- the same, the datum a letter -/
theorem s_let (h : Den te Γ t x Γ1) (k : ∀ x', x' = x → OK Z (Γ1.set i (.val ⟨t, x'⟩)) D.nx) : OK Z Γ (tAsg te (gName i) D) := s_set h (k x rfl)
/-- a new list, owned | a list of unlike items -/
theorem s_setN {xs : List α} (h : DenN te Γ (xs.map fun x => ⟨t, x⟩) Γ1) (k : OK Z (Γ1.set i (.lst t xs)) D.nx) : OK Z Γ (tAsg te (gName i) D) := fun F σ H hh =>
  h Z F σ H hh _ fun p vs F' H' h' pr np fp hp rr => k F' _ _ (h'.setOwn i (hh.fresh np) (fun j w => hh.notOwn np j (pr.ow j p w)) ⟨fp, vs, hp, al_map rr⟩)
theorem s_setH (h : DenN te Γ ds Γ1) (k : OK Z (Γ1.set i (.own none ds)) D.nx) : OK Z Γ (tAsg te (gName i) D) := fun F σ H hh =>
  h Z F σ H hh _ fun p vs F' H' h' pr np fp hp rr => k F' _ _ (h'.setOwn i (hh.fresh np) (fun j w => hh.notOwn np j (pr.ow j p w)) ⟨fp, fun _ z => (nomatch z), vs, hp, rr⟩)
theorem s_drop (h : Den te Γ t x Γ1) (k : OK Z Γ1 D.nx) : OK Z Γ (tDrop te D) := fun F σ H hh => h Z F σ H hh _ fun v F' H' h' p r => k F' _ H' h'
theorem s_if {b : Bool} (h : DenT tt Γ b Γ1) (h1 : b = true → OK Z Γ1 (s1 D)) (h2 : b = false → OK Z Γ1 (s2 D)) : OK Z Γ (tIfS tt s1 s2 D) := fun F σ H hh => h Z F σ H hh _ fun F' H' h' p => by
  cases b with
  | true => exact h1 rfl F' σ H' h'
  | false => exact h2 rfl F' σ H' h'
/-- the value given back -/
theorem s_ret (h : Den te Γ t x Γ1) (k : ∀ F σ H v, Holds Z Γ1 F σ H → t.rep F v x → D.rt v H) : OK Z Γ (tRet te D) := fun F σ H hh => h Z F σ H hh _ fun v F' H' h' p r => k F' σ H' v h' r
theorem s_retN (h : DenN te Γ ds Γ1) (k : ∀ F σ H p vs, Holds Z Γ1 F σ H → Z.H p = none → F p = none → H p = some (.lst vs) → Reps F ds vs → D.rt (.ref p) H) : OK Z Γ (tRet te D) := fun F σ H hh => h Z F σ H hh _ fun p vs F' H' h' pr np fp hp rr => k F' σ H' p vs h' (hh.fresh np) fp hp rr
/-- an owned list of ours is given back, open -/
theorem s_retO {xs : List α} (e : Γ[i]? = some (.lst t xs)) (k : ∀ F σ H p vs, Holds Z Γ F σ H → (Z.O p ∨ Z.H p = none) → F p = none → H p = some (.lst vs) → Al (fun x v => t.rep F v x) xs vs → D.rt (.ref p) H) : OK Z Γ (tRet (tVar i) D) := fun F σ H hh => by
  obtain ⟨a, h1, ⟨n1, us, hu, ru⟩, o1⟩ := hh.owned e rfl
  exact ⟨_, h1, k F σ H a us hh (hh.ow i a o1) n1 hu ru⟩
theorem s_retNon (k : ∀ F σ H, Holds Z Γ F σ H → D.rt .non H) : OK Z Γ (tRetN D) := fun F σ H hh => k F σ H hh
/-- a raise -/
theorem s_bot {E : XK} {c : Value} (h : Bot te Γ Γ1 E c) (e : ∀ F σ H, Holds Z Γ1 F σ H → E c none H) : OK Z Γ (tDrop te D) := fun F σ H hh => h Z F σ H hh (fun F' H' h' => e F' σ H' h') _
theorem s_botA {E : XK} {c : Value} {g : TG} (h : Bot te Γ Γ1 E c) (e : ∀ F σ H, Holds Z Γ1 F σ H → E c none H) : OK Z Γ (tAsg te g D) := fun F σ H hh => h Z F σ H hh (fun F' H' h' => e F' σ H' h') _
theorem s_botR {E : XK} {c : Value} (h : Bot te Γ Γ1 E c) (e : ∀ F σ H, Holds Z Γ1 F σ H → E c none H) : OK Z Γ (tRet te D) := fun F σ H hh => h Z F σ H hh (fun F' H' h' => e F' σ H' h') _
/-- a += -/
theorem s_aug {f : Int → Int → Int} {a b : Int} (hx : Γ[i]? = some (.val ⟨tInt, a⟩)) (h : Den te Γ tInt b Γ1) (k : OK Z (Γ1.set i (.val ⟨tInt, f a b⟩)) D.nx) : OK Z Γ (tAug i te (ipI f) D) := fun F σ H hh => by
  obtain ⟨v, e, r⟩ := hh.val hx
  cases r
  exact ⟨_, e, h Z F σ H hh _ fun v F' H' h' p r' => ⟨a, b, rfl, r', k F' _ H' (h'.set i rfl)⟩⟩
/-! ### owned lists change -/
theorem s_app {xs : List α} (e : Γ[i]? = some (.lst t xs)) (h : Den te Γ t x Γ1) (e1 : Γ1[i]? = some (.lst t xs)) (hl : xs.length < 100000) (k : OK Z (Γ1.set i (.lst t (xs ++ [x]))) D.nx) : OK Z Γ (tDrop (tBM K "list" rAppend (tVar i) (tCons te tNil)) D) := fun F σ H hh => by
  obtain ⟨a, h1, ⟨_, vs, h2, h3⟩, _⟩ := hh.owned e rfl
  refine ⟨_, h1, .inl ⟨rfl, vs, sq_of h2⟩, ?_⟩
  refine h Z F σ H hh _ fun v F' H' h' p r => ?_
  obtain ⟨a', h1', ⟨n1, us, hu, ru⟩, o1⟩ := h'.owned e1 rfl
  rw [h1] at h1'
  cases h1'
  exact ⟨a, us, v, rfl, rfl, hu, sz_lt (by rw [← ru.len]; exact hl), k F' _ _ (h'.mut (s := .lst t (xs ++ [x])) o1 ⟨n1, _, upd_same, ru.app (.cons r .nil)⟩)⟩
theorem ixN_nat' {n : Nat} {k : Int} (h0 : 0 ≤ k) (h : k.toNat < n) : ixN n k = some k.toNat := by
  unfold ixN
  rw [if_pos h0, if_pos (by omega)]
theorem s_setIx {xs : List α} {k : Int} (h : Den te Γ t x Γ1) (e1 : Γ1[i]? = some (.lst t xs)) (hi : Pu tb Γ1 tInt k) (h0 : 0 ≤ k) (hk : k.toNat < xs.length) (kk : OK Z (Γ1.set i (.lst t (xs.set k.toNat x))) D.nx) : OK Z Γ (tAsg te (gSub (tVar i) tb rSetL) D) := fun F σ H hh => by
  refine h Z F σ H hh _ fun v F1 H1 h1 p r => ?_
  obtain ⟨a', h1', _, _⟩ := h1.owned e1 rfl
  refine ⟨_, h1', ?_⟩
  refine hi Z F1 σ H1 h1 _ fun v2 F2 H2 k2 r2 => ?_
  cases r2
  have h2 := h1.step k2
  obtain ⟨a, h1'', ⟨n1, us, hu, ru⟩, o1⟩ := h2.owned e1 rfl
  rw [h1'] at h1''
  cases h1''
  exact ⟨_, us, k, k.toNat, rfl, rfl, hu, ixN_nat' h0 (by rw [← ru.len]; exact hk), kk F2 _ _ (h2.mut (s := .lst t (xs.set k.toNat x)) o1 ⟨n1, _, upd_same, ru.set' _ (t.mono k2.ff r)⟩)⟩
theorem s_setIxH {k : Int} {oa : Option Addr} (h : Den te Γ t x Γ1) (e1 : Γ1[i]? = some (.own oa ds)) (h0 : 0 ≤ k) (hk : k.toNat < ds.length) (kk : OK Z (Γ1.set i (.own oa (ds.set k.toNat ⟨t, x⟩))) D.nx) : OK Z Γ (tAsg te (gSub (tVar i) (tC (.int k)) rSetL) D) := fun F σ H hh => by
  refine h Z F σ H hh _ fun v F1 H1 h1 p r => ?_
  obtain ⟨a, h1', ⟨n1, ad, us, hu, ru⟩, o1⟩ := h1.owned e1 rfl
  exact ⟨_, h1', _, us, k, k.toNat, rfl, rfl, hu, ixN_nat' h0 (by rw [← ru.len]; exact hk), kk F1 _ _ (h1.mut (s := .own oa (ds.set k.toNat ⟨t, x⟩)) o1 ⟨n1, ad, _, upd_same, ru.set' (y := v) _ r⟩)⟩
/-- an owned list of ours is frozen -/
theorem s_freeze {P : L2.St → Hp → Prop} {xs : List α} (e : Γ[i]? = some (.lst t xs)) (no : ∀ a σ, OwnAt Γ σ i a → (∀ j b, OwnAt Γ σ j b → OwnAt Γ σ i b → j = i) → ¬ Z.O a) (k : OK Z (Γ.set i (.val ⟨tList t, xs⟩)) P) : OK Z Γ P := fun F σ H hh => by
  obtain ⟨a, h1, ⟨n1, us, hu, ru⟩, o1⟩ := hh.owned e rfl
  obtain ⟨h', ff⟩ := hh.freeze (d := ⟨tList t, xs⟩) o1 (no a σ o1 fun j b w w' => hh.di j i b w w') hu ⟨a, us, rfl, upd_same, ru.map fun _ _ z => t.mono (Ex.new n1) z⟩
  exact k _ σ H h'
/-- a field of an owned instance -/
theorem al_lookup_none {F : Hp} {f : Str} : ∀ {fs : List (Str × Dv)} {us : List (Str × V)}, RepF F fs us → fs.lookup f = none → us.lookup f = none
  | _, _, .nil, _ => rfl
  | (g, d') :: fs, (g', b) :: us, .cons r h, e => by
    obtain ⟨r1, r2⟩ := r
    simp only at r1
    subst r1
    rw [List.lookup_cons] at e ⊢
    cases q : (f == g) with
    | true =>
      rw [q] at e
      cases e
    | false =>
      rw [q] at e
      exact al_lookup_none h e
def putD (f : Str) (d : Dv) : List (Str × Dv) → List (Str × Dv)
  | [] => [(f, d)]
  | (g, e) :: r => if g = f then (g, d) :: r else (g, e) :: putD f d r
theorem putD_rep {F : Hp} {f : Str} {d : Dv} {v : V} (r : d.rep F v) : ∀ {fs : List (Str × Dv)} {us : List (Str × V)}, RepF F fs us → RepF F (putD f d fs) (putF f v us)
  | _, _, .nil => .cons ⟨rfl, r⟩ .nil
  | (g, d') :: fs, (g', b) :: us, .cons r' h => by
    obtain ⟨r1, r2⟩ := r'
    simp only at r1 r2
    subst r1
    unfold putD putF
    by_cases q : g = f
    · rw [if_pos q, if_pos q]
      exact .cons ⟨rfl, r⟩ h
    · rw [if_neg q, if_neg q]
      exact .cons ⟨rfl, r2⟩ (putD_rep r h)
theorem s_fld {f : Str} {C : Addr} {oa : Option Addr} {fs : List (Str × Dv)} (h : Den te Γ t x Γ1) (e1 : Γ1[i]? = some (.obj oa C fs)) (c : Cls K C) (n : NoAttr K C f) (hl : fs.length < 1000) (k : OK Z (Γ1.set i (.obj oa C (putD f ⟨t, x⟩ fs))) D.nx) : OK Z Γ (sFld K (tVar i) te f D) := fun F σ H hh => by
  refine h Z F σ H hh _ fun v F1 H1 h1 p r => ?_
  obtain ⟨a, h1', ⟨n1, ad, dx, us, hd, hu, ru⟩, o1⟩ := h1.owned e1 rfl
  exact ⟨_, h1', a, C, dx, us, rfl, hu, c, n, by rw [← ru.len]; exact hl, k F1 _ _ (h1.mut (s := .obj oa C (putD f ⟨t, x⟩ fs)) o1 ⟨n1, ad, dx, _, hd, upd_same, putD_rep (d := ⟨t, x⟩) r ru⟩)⟩
/-! ### loops: G gives the data by the state, I what holds of the turn and the state -/
def LoopAt {S : Type} (Z : En) (G : S → List Slot) (I : Nat → S → Prop) (i : Nat) : L2.St → Hp → Prop := fun σ H => ∃ s F, I i s ∧ Holds Z (G s) F σ H
theorem s_next {S : Type} {G : S → List Slot} {I : Nat → S → Prop} {n : Nat} (s : S) (hi : I n s) (e : Wk Γ (G s)) : OK Z Γ (LoopAt Z G I n) := fun F σ H hh => ⟨s, F, hi, hh.weak e⟩
/-- over a frozen list; the body is shown under any lasting fact more -/
theorem s_forF {S : Type} {wl : TE} {xs : List α} (s0 : S) (G : S → List Slot) (I : Nat → S → Prop) (h : Den wl Γ (tList t) xs Γ1) (h0 : I 0 s0) (e0 : Wk Γ1 (G s0))
    (hs : ∀ Z' : En, (∀ {Γ F σ H}, Holds Z' Γ F σ H → Holds Z Γ F σ H) → ∀ n x s, xs[n]? = some x → I n s → OK Z' ((G s).set j (.val ⟨t, x⟩)) (s1 { D with nx := LoopAt Z' G I (n + 1), ct := LoopAt Z' G I (n + 1), bk := D.nx }))
    (hd : ∀ s, I xs.length s → OK Z (G s) D.nx) : OK Z Γ (tFor (iList K wl) (gName j) s1 D) := fun F σ H hh => by
  refine h Z F σ H hh _ fun v F1 H1 h1 p r => ?_
  obtain ⟨a, vs, rfl, e, rr⟩ := r
  have pm : ∀ {F F' : Hp}, Ex F F' → (F a = some (.lst vs) ∧ Al (fun x v => t.rep F v x) xs vs) → (F' a = some (.lst vs) ∧ Al (fun x v => t.rep F' v x) xs vs) := fun e h => ⟨e _ _ h.1, h.2.map fun _ _ z => t.mono e z⟩
  refine ⟨a, rfl, ⟨vs, sq_of (h1.fh _ _ e)⟩, for_list (K := K) (a := a) (xs := vs) (LoopAt (Z.more _ pm) G I) ⟨s0, F1, h0, (h1.weak e0).more ⟨e, rr⟩⟩ ?_ ?_ ?_⟩
  · rintro n σ' H' _ ⟨s, F', _, hs'⟩
    exact sq_of (hs'.fh _ _ hs'.pp.2.1)
  · rintro n x σ' H' hx ⟨s, F', hi, hs'⟩
    obtain ⟨y, hy, ry⟩ := hs'.pp.2.2.getR hx
    exact hs (Z.more _ pm) (fun h => h.less) n y s hy hi F' _ H' (hs'.set j ry)
  · rintro σ' H' ⟨s, F', hi, hs'⟩
    rw [← rr.len] at hi
    exact hd s hi F' σ' H' hs'.less
theorem s_forT {S : Type} {wl : TE} {xs : List α} (s0 : S) (G : S → List Slot) (I : Nat → S → Prop) (h : Den wl Γ (tTupl t) xs Γ1) (h0 : I 0 s0) (e0 : Wk Γ1 (G s0))
    (hs : ∀ Z' : En, (∀ {Γ F σ H}, Holds Z' Γ F σ H → Holds Z Γ F σ H) → ∀ n x s, xs[n]? = some x → I n s → OK Z' ((G s).set j (.val ⟨t, x⟩)) (s1 { D with nx := LoopAt Z' G I (n + 1), ct := LoopAt Z' G I (n + 1), bk := D.nx }))
    (hd : ∀ s, I xs.length s → OK Z (G s) D.nx) : OK Z Γ (tFor (iTup K wl) (gName j) s1 D) := fun F σ H hh => by
  refine h Z F σ H hh _ fun v F1 H1 h1 p r => ?_
  obtain ⟨a, vs, rfl, e, rr⟩ := r
  have pm : ∀ {F F' : Hp}, Ex F F' → (F a = some (.tup vs) ∧ Al (fun x v => t.rep F v x) xs vs) → (F' a = some (.tup vs) ∧ Al (fun x v => t.rep F' v x) xs vs) := fun e h => ⟨e _ _ h.1, h.2.map fun _ _ z => t.mono e z⟩
  refine ⟨a, rfl, ⟨vs, st_of (h1.fh _ _ e)⟩, for_tup (K := K) (a := a) (xs := vs) (LoopAt (Z.more _ pm) G I) ⟨s0, F1, h0, (h1.weak e0).more ⟨e, rr⟩⟩ ?_ ?_ ?_⟩
  · rintro n σ' H' _ ⟨s, F', _, hs'⟩
    exact st_of (hs'.fh _ _ hs'.pp.2.1)
  · rintro n x σ' H' hx ⟨s, F', hi, hs'⟩
    obtain ⟨y, hy, ry⟩ := hs'.pp.2.2.getR hx
    exact hs (Z.more _ pm) (fun h => h.less) n y s hy hi F' _ H' (hs'.set j ry)
  · rintro σ' H' ⟨s, F', hi, hs'⟩
    rw [← rr.len] at hi
    exact hd s hi F' σ' H' hs'.less
/-- over range(n), range(lo, n) -/
theorem s_forR {S : Type} {ta : TA} {n : Int} (s0 : S) (G : S → List Slot) (I : Nat → S → Prop) (h : DenA ta Γ [⟨tInt, n⟩] Γ1) (hn : n ≤ 1000000) (hm : -1000000 ≤ n) (h0 : I 0 s0) (e0 : Wk Γ1 (G s0))
    (hs : ∀ (k : Nat) s, (k : Int) < n → I k s → OK Z ((G s).set j (.val ⟨tInt, (k : Int)⟩)) (s1 { D with nx := LoopAt Z G I (k + 1), ct := LoopAt Z G I (k + 1), bk := D.nx }))
    (hd : ∀ s, I n.toNat s → OK Z (G s) D.nx) : OK Z Γ (tFor (iRng1 ta) (gName j) s1 D) := fun F σ H hh => by
  refine h Z F σ H hh _ fun vs F1 H1 h1 p r => ?_
  cases r with
  | cons r r' =>
    cases r'
    cases r
    refine ⟨n, rfl, by omega, by omega, for_range (lo := 0) (n := n.toNat) (LoopAt Z G I) ⟨s0, F1, h0, h1.weak e0⟩ ?_ ?_⟩
    · rintro k σ' H' hk ⟨s, F', hi, hs'⟩
      have e0 : (0 : Int) + (k : Int) = (k : Int) := Int.zero_add _
      rw [e0]
      exact hs k s (by omega) hi F' _ H' (hs'.set j rfl)
    · rintro σ' H' ⟨s, F', hi, hs'⟩
      exact hd s hi F' σ' H' hs'
theorem s_forR2 {S : Type} {ta : TA} {lo n : Int} (s0 : S) (G : S → List Slot) (I : Nat → S → Prop) (h : DenA ta Γ [⟨tInt, lo⟩, ⟨tInt, n⟩] Γ1) (hn : n ≤ 1000000) (hm : -1000000 ≤ n) (hn1 : lo ≤ 1000000) (hm1 : -1000000 ≤ lo) (h0 : I 0 s0) (e0 : Wk Γ1 (G s0))
    (hs : ∀ (k : Nat) s, lo + (k : Int) < n → I k s → OK Z ((G s).set j (.val ⟨tInt, lo + (k : Int)⟩)) (s1 { D with nx := LoopAt Z G I (k + 1), ct := LoopAt Z G I (k + 1), bk := D.nx }))
    (hd : ∀ s, I (n - lo).toNat s → OK Z (G s) D.nx) : OK Z Γ (tFor (iRng2 ta) (gName j) s1 D) := fun F σ H hh => by
  refine h Z F σ H hh _ fun vs F1 H1 h1 p r => ?_
  cases r with
  | cons r r' =>
    cases r' with
    | cons r2 r3 =>
      cases r3
      cases r
      cases r2
      refine ⟨lo, n, rfl, ⟨by omega, by omega, by omega, by omega⟩, for_range (lo := lo) (n := (n - lo).toNat) (LoopAt Z G I) ⟨s0, F1, h0, h1.weak e0⟩ ?_ ?_⟩
      · rintro k σ' H' hk ⟨s, F', hi, hs'⟩
        exact hs k s (by omega) hi F' _ H' (hs'.set j rfl)
      · rintro σ' H' ⟨s, F', hi, hs'⟩
        exact hd s hi F' σ' H' hs'
/-- while, m falls -/
theorem s_while {S : Type} (s0 : S) (G : S → List Slot) (I : S → Prop) (m : S → Nat) (h0 : I s0) (e0 : Wk Γ (G s0))
    (hs : ∀ s, I s → ∃ b Γ2, DenT tt (G s) b Γ2 ∧ (b = true → OK Z Γ2 (s1 { D with nx := fun σ H => ∃ s' F, I s' ∧ m s' < m s ∧ Holds Z (G s') F σ H, ct := fun σ H => ∃ s' F, I s' ∧ m s' < m s ∧ Holds Z (G s') F σ H, bk := D.nx })) ∧ (b = false → OK Z Γ2 D.nx)) : OK Z Γ (tWhile tt s1 D) := fun F σ H hh => by
  refine ⟨fun k σ' H' => ∃ s F', k = m s ∧ I s ∧ Holds Z (G s) F' σ' H', ⟨m s0, s0, F, rfl, h0, hh.weak e0⟩, ?_⟩
  rintro k σ' H' ⟨s, F', rfl, hi, h1⟩
  obtain ⟨b, Γ2, hb, ht, hf⟩ := hs s hi
  refine hb Z F' σ' H' h1 _ fun F2 H2 h2 p2 => ?_
  cases b with
  | true => exact ⟨_, fun σ3 H3 ⟨s', F3, i3, l3, h3⟩ => ⟨m s', l3, s', F3, rfl, i3, h3⟩, ht rfl F2 σ' H2 h2⟩
  | false => exact hf rfl F2 σ' H2 h2
/-! ### comprehensions: G gives the data by the turn, A the list so far -/
theorem wipe1 (σ : L2.St) (j : Nat) (x : V) : wipe ((wipe σ [j]).set j (some x)) [j] = wipe σ [j] := by
  show ((σ.set j none).set j (some x)).set j none = σ.set j none
  rw [List.set_set, List.set_set]
theorem set_get_ne {δ : Type _} {xs : List δ} {i j : Nat} {a : δ} (h : i ≠ j) : (xs.set j a)[i]? = xs[i]? := List.getElem?_set_ne fun e => h e.symm
theorem Holds.inC {Z : En} {Γ : List Slot} {F H : Hp} {σ : L2.St} {v : V} {d : Dv} (h : Holds Z Γ F σ H) (e : Γ[j]? = some .any) (r : d.rep F v) : Holds Z (Γ.set j (.val d)) F ((wipe σ [j]).set j (some v)) H := by
  have h1 : Holds Z Γ F (wipe σ [j]) H := h.other (by rw [wipe_length, h.len]) fun i s q => by
    by_cases z : i = j
    · subst z
      rw [e] at q
      cases q
      exact .inl rfl
    · exact .inr ⟨q, set_get_ne z⟩
  exact h1.set j r
theorem Holds.outC {Z : En} {Γ : List Slot} {F H : Hp} {σ : L2.St} {v : V} {d : Dv} (h : Holds Z (Γ.set j (.val d)) F ((wipe σ [j]).set j (some v)) H) (e : Γ[j]? = some .any) : Holds Z Γ F σ H :=
  h.other (by have := h.len; rw [List.length_set, List.length_set, wipe_length] at this; exact this) fun i s q => by
    by_cases z : i = j
    · subst z
      rw [e] at q
      cases q
      exact .inl rfl
    · refine .inr ⟨?_, ?_⟩
      · rw [set_get_ne z]
        exact q
      · rw [set_get_ne z]
        exact (set_get_ne z).symm
theorem ownC {Γ : List Slot} {σ : L2.St} {v : V} {d : Dv} {i : Nat} {a : Addr} (w : OwnAt (Γ.set j (.val d)) ((wipe σ [j]).set j (some v)) i a) : OwnAt Γ σ i a := by
  obtain ⟨⟨s, e, o⟩, e2⟩ := w
  by_cases z : i = j
  · subst z
    by_cases lt : i < Γ.length
    · rw [List.getElem?_set_self lt] at e
      cases e
      cases o
    · rw [List.getElem?_eq_none (by rw [List.length_set]; omega)] at e
      cases e
  · rw [set_get_ne z] at e e2
    have e3 : (wipe σ [j])[i]? = σ[i]? := set_get_ne z
    rw [e3] at e2
    exact ⟨⟨s, e, o⟩, e2⟩
theorem ownC' {Γ : List Slot} {σ : L2.St} {v : V} {d : Dv} {i : Nat} {a : Addr} (e0 : Γ[j]? = some .any) (w : OwnAt Γ σ i a) : OwnAt (Γ.set j (.val d)) ((wipe σ [j]).set j (some v)) i a := by
  obtain ⟨⟨s, e, o⟩, e2⟩ := w
  by_cases z : i = j
  · subst z
    rw [e0] at e
    cases e
    cases o
  · have e3 : (wipe σ [j])[i]? = σ[i]? := set_get_ne z
    refine ⟨⟨s, ?_, o⟩, ?_⟩
    · rw [set_get_ne z]
      exact e
    · rw [set_get_ne z, e3]
      exact e2
/-- what a turn of a comprehension keeps -/
structure LcI {β : Type} (Z : En) (u : Ty β) (Γ0 Γ : List Slot) (A : List β) (σ : L2.St) (F0 H0 : Hp) (D : Addr) (n : Nat) (H' : Hp) : Prop where
  ex : ∃ F' acc, Holds Z Γ F' σ H' ∧ Pres Γ0 Γ σ F0 H0 F' H' ∧ F' D = none ∧ H' D = some (.lst acc) ∧ Al (fun y v => u.rep F' v y) A acc
  le : A.length ≤ n
theorem LcI.start {β : Type} {u : Ty β} {σ : L2.St} {F H : Hp} {p : Addr} (h : Holds Z Γ F σ H) (n : H p = none) : LcI Z u Γ Γ ([] : List β) σ F H p 0 (upd H p (.lst [])) :=
  have st := Step.open (o := .lst []) h.fh n
  ⟨⟨F, [], h.step st, Pres.step st, ex_none h.fh n, upd_same, .nil⟩, Nat.le_refl _⟩
theorem LcI.turn {β : Type} {u : Ty β} {σ : L2.St} {F0 H0 H' : Hp} {p : Addr} {n : Nat} {A A' : List β} {d : Dv} {v : V} {Z0 : En} (h00 : Holds Z0 Γ F0 σ H0) (np : H0 p = none) (nz : Z.H p = none) (c : LcI Z u Γ Γ1 A σ F0 H0 p n H') (hn : n < 50000) (e1 : Γ1[j]? = some .any) (e3 : Γ3[j]? = some .any)
    (r : ∀ F', Z.P F' → d.rep F' v)
    (hs : ∃ b, DenT tt (Γ1.set j (.val d)) b Γ2 ∧ (b = true → ∃ y, Den te Γ2 u y (Γ3.set j (.val d)) ∧ A' = A ++ [y]) ∧ (b = false → Γ2 = Γ3.set j (.val d) ∧ A' = A)) :
    tt ((wipe σ [j]).set j (some v)) H' fun b H3 => if b = true then te ((wipe σ [j]).set j (some v)) H3 fun y H4 => ∃ acc, H4 p = some (.lst acc) ∧ acc.length < sizeLine ∧ LcI Z u Γ Γ3 A' σ F0 H0 p (n + 1) (upd H4 p (.lst (acc ++ [y]))) else LcI Z u Γ Γ3 A' σ F0 H0 p (n + 1) H3 := by
  obtain ⟨⟨F', acc, h, pr, fp, hp, al⟩, le⟩ := c
  obtain ⟨b, ht, hy, hf⟩ := hs
  have hc := h.inC e1 (r F' h.pp)
  have no1 : ∀ i, ¬ OwnAt (Γ1.set j (.val d)) ((wipe σ [j]).set j (some v)) i p := fun i w => h00.notOwn np i (pr.ow i p (ownC w))
  have conv : ∀ {Γa Γb : List Slot} {Fa Ha Fb Hb : Hp}, Pres (Γa.set j (.val d)) (Γb.set j (.val d)) ((wipe σ [j]).set j (some v)) Fa Ha Fb Hb → Γa[j]? = some .any → Γb[j]? = some .any → Pres Γa Γb σ Fa Ha Fb Hb := fun k ea eb =>
    ⟨k.ff, fun b o hb n nt no => k.keep b o hb n nt fun i w => no i (ownC w), fun i b w => ownC (k.ow i b (ownC' eb w)), k.th⟩
  refine ht Z F' _ H' hc _ fun F3 H3 h3 p3 => ?_
  obtain ⟨fp3, hp3⟩ := p3.keep p _ hp fp (fun _ z => nomatch z) no1
  cases b with
  | true =>
    obtain ⟨y, hden, eA⟩ := hy rfl
    show te ((wipe σ [j]).set j (some v)) H3 fun y H4 => ∃ acc, H4 p = some (.lst acc) ∧ acc.length < sizeLine ∧ LcI Z u Γ Γ3 A' σ F0 H0 p (n + 1) (upd H4 p (.lst (acc ++ [y])))
    refine hden Z F3 _ H3 h3 _ fun vy F4 H4 h4 p4 ry => ?_
    have no3 : ∀ i, ¬ OwnAt Γ2 ((wipe σ [j]).set j (some v)) i p := fun i w => no1 i (p3.ow i p w)
    obtain ⟨fp4, hp4⟩ := p4.keep p _ hp3 fp3 (fun _ z => nomatch z) no3
    have hout : Holds Z Γ3 F4 σ H4 := h4.outC e3
    have pt : Pres Γ Γ3 σ F0 H0 F4 H4 := pr.trans (conv (p3.trans p4) e1 e3)
    have no4 : ∀ i, ¬ OwnAt Γ3 σ i p := fun i w => h00.notOwn np i (pt.ow i p w)
    refine ⟨acc, hp4, sz_lt (by rw [← al.len]; omega), ⟨⟨F4, acc ++ [vy], hout.poke nz no4 fp4, ⟨pt.ff, fun b o hb n nt no => ?_, pt.ow, fun b o hb => ?_⟩, fp4, upd_same, ?_⟩, ?_⟩⟩
    · have zz : b ≠ p := ne_of_none hb np
      rw [upd_ne zz]
      exact pt.keep b o hb n nt no
    · have zz : b ≠ p := ne_of_none hb np
      rw [upd_ne zz]
      exact pt.th b o hb
    · rw [eA]
      exact (al.map fun _ _ z => u.mono (p3.ff.trans p4.ff) z).app (.cons ry .nil)
    · rw [eA, List.length_append, List.length_singleton]
      omega
  | false =>
    obtain ⟨eG, eA⟩ := hf rfl
    show LcI Z u Γ Γ3 A' σ F0 H0 p (n + 1) H3
    subst eG
    exact ⟨⟨F3, acc, h3.outC e3, pr.trans (conv p3 e1 e3), fp3, hp3, by rw [eA]; exact al.map fun _ _ z => u.mono p3.ff z⟩, by rw [eA]; omega⟩
/-- [e for x in xs if t], xs frozen -/
theorem dn_lcL {β : Type} {u : Ty β} {tl : TE} {xs : List α} (G : Nat → List Slot) (A : Nat → List β) (h : Den tl Γ (tList t) xs (G 0)) (hf : ∀ n, (G n)[j]? = some .any) (hl : xs.length < 50000) (h0 : A 0 = [])
    (hs : ∀ n x, xs[n]? = some x → ∃ b Γ2, DenT tt ((G n).set j (.val ⟨t, x⟩)) b Γ2 ∧ (b = true → ∃ y, Den te Γ2 u y ((G (n + 1)).set j (.val ⟨t, x⟩)) ∧ A (n + 1) = A n ++ [y]) ∧ (b = false → Γ2 = (G (n + 1)).set j (.val ⟨t, x⟩) ∧ A (n + 1) = A n)) :
    DenN (tLc (iList K tl) (gName j) tt te [j]) Γ ((A xs.length).map fun y => ⟨u, y⟩) (G xs.length) := fun Z F σ H hh Q q => by
  refine h Z F σ H hh _ fun v F1 H1 h1 p1 r => ?_
  obtain ⟨a, vs, rfl, e, rr⟩ := r
  have pm : ∀ {F F' : Hp}, Ex F F' → (F a = some (.lst vs) ∧ Al (fun x v => t.rep F v x) xs vs) → (F' a = some (.lst vs) ∧ Al (fun x v => t.rep F' v x) xs vs) := fun e h => ⟨e _ _ h.1, h.2.map fun _ _ z => t.mono e z⟩
  refine ⟨a, rfl, ⟨vs, sq_of (h1.fh _ _ e)⟩, fun p np => lc_list (K := K) (a := a) (xs := vs) (fun n H' => LcI (Z.more _ pm) u (G 0) (G n) (A n) σ F1 H1 p n H') ?_ ?_ ?_ ?_⟩
  · rw [h0]
    exact LcI.start (h1.more ⟨e, rr⟩) np
  · rintro n H' _ ⟨⟨F', acc, hs', _⟩, _⟩
    exact sq_of (hs'.fh _ _ hs'.pp.2.1)
  · intro n x H' hx c
    obtain ⟨y, hy, ry⟩ := rr.getR hx
    have hn : n < 50000 := by
      have := (List.getElem?_eq_some_iff.mp hy).1
      omega
    obtain ⟨b, Γ2, hb⟩ := hs n y hy
    refine ⟨wipe1 σ j x, LcI.turn (d := ⟨t, y⟩) h1 np (h1.fresh np) c hn (hf n) (hf (n + 1)) (fun F' pp => ?_) ⟨b, hb⟩⟩
    obtain ⟨v', hv', rv'⟩ := pp.2.2.get hy
    rw [hx] at hv'
    cases hv'
    exact rv'
  · rintro H' c
    rw [← rr.len] at c
    obtain ⟨⟨F', acc, hs', pr, fp, hp, al⟩, _⟩ := c
    exact q p acc F' H' hs'.less (p1.trans pr) (p1.new np) fp hp (al_unmap al)
theorem dn_lcT {β : Type} {u : Ty β} {tl : TE} {xs : List α} (G : Nat → List Slot) (A : Nat → List β) (h : Den tl Γ (tTupl t) xs (G 0)) (hf : ∀ n, (G n)[j]? = some .any) (hl : xs.length < 50000) (h0 : A 0 = [])
    (hs : ∀ n x, xs[n]? = some x → ∃ b Γ2, DenT tt ((G n).set j (.val ⟨t, x⟩)) b Γ2 ∧ (b = true → ∃ y, Den te Γ2 u y ((G (n + 1)).set j (.val ⟨t, x⟩)) ∧ A (n + 1) = A n ++ [y]) ∧ (b = false → Γ2 = (G (n + 1)).set j (.val ⟨t, x⟩) ∧ A (n + 1) = A n)) :
    DenN (tLc (iTup K tl) (gName j) tt te [j]) Γ ((A xs.length).map fun y => ⟨u, y⟩) (G xs.length) := fun Z F σ H hh Q q => by
  refine h Z F σ H hh _ fun v F1 H1 h1 p1 r => ?_
  obtain ⟨a, vs, rfl, e, rr⟩ := r
  have pm : ∀ {F F' : Hp}, Ex F F' → (F a = some (.tup vs) ∧ Al (fun x v => t.rep F v x) xs vs) → (F' a = some (.tup vs) ∧ Al (fun x v => t.rep F' v x) xs vs) := fun e h => ⟨e _ _ h.1, h.2.map fun _ _ z => t.mono e z⟩
  refine ⟨a, rfl, ⟨vs, st_of (h1.fh _ _ e)⟩, fun p np => lc_tup (K := K) (a := a) (xs := vs) (fun n H' => LcI (Z.more _ pm) u (G 0) (G n) (A n) σ F1 H1 p n H') ?_ ?_ ?_ ?_⟩
  · rw [h0]
    exact LcI.start (h1.more ⟨e, rr⟩) np
  · rintro n H' _ ⟨⟨F', acc, hs', _⟩, _⟩
    exact st_of (hs'.fh _ _ hs'.pp.2.1)
  · intro n x H' hx c
    obtain ⟨y, hy, ry⟩ := rr.getR hx
    have hn : n < 50000 := by
      have := (List.getElem?_eq_some_iff.mp hy).1
      omega
    obtain ⟨b, Γ2, hb⟩ := hs n y hy
    refine ⟨wipe1 σ j x, LcI.turn (d := ⟨t, y⟩) h1 np (h1.fresh np) c hn (hf n) (hf (n + 1)) (fun F' pp => ?_) ⟨b, hb⟩⟩
    obtain ⟨v', hv', rv'⟩ := pp.2.2.get hy
    rw [hx] at hv'
    cases hv'
    exact rv'
  · rintro H' c
    rw [← rr.len] at c
    obtain ⟨⟨F', acc, hs', pr, fp, hp, al⟩, _⟩ := c
    exact q p acc F' H' hs'.less (p1.trans pr) (p1.new np) fp hp (al_unmap al)
theorem dn_lcR {β : Type} {u : Ty β} {ta : TA} {m : Int} (G : Nat → List Slot) (A : Nat → List β) (h : DenA ta Γ [⟨tInt, m⟩] (G 0)) (hf : ∀ n, (G n)[j]? = some .any) (hl : m < 50000) (hm : -50000 ≤ m) (h0 : A 0 = [])
    (hs : ∀ (n : Nat), (n : Int) < m → ∃ b Γ2, DenT tt ((G n).set j (.val ⟨tInt, (n : Int)⟩)) b Γ2 ∧ (b = true → ∃ y, Den te Γ2 u y ((G (n + 1)).set j (.val ⟨tInt, (n : Int)⟩)) ∧ A (n + 1) = A n ++ [y]) ∧ (b = false → Γ2 = (G (n + 1)).set j (.val ⟨tInt, (n : Int)⟩) ∧ A (n + 1) = A n)) :
    DenN (tLc (iRng1 ta) (gName j) tt te [j]) Γ ((A m.toNat).map fun y => ⟨u, y⟩) (G m.toNat) := fun Z F σ H hh Q q => by
  refine h Z F σ H hh _ fun vs F1 H1 h1 p1 r => ?_
  cases r with
  | cons r r' =>
    cases r'
    cases r
    refine ⟨m, rfl, by omega, by omega, fun p np => lc_range (lo := 0) (n := m.toNat) (fun n H' => LcI Z u (G 0) (G n) (A n) σ F1 H1 p n H') ?_ ?_ ?_⟩
    · rw [h0]
      exact LcI.start h1 np
    · intro n H' hn c
      have e0 : (0 : Int) + (n : Int) = (n : Int) := Int.zero_add _
      rw [e0]
      obtain ⟨b, Γ2, hb⟩ := hs n (by omega)
      exact ⟨wipe1 σ j _, LcI.turn (d := ⟨tInt, (n : Int)⟩) h1 np (h1.fresh np) c (by omega) (hf n) (hf (n + 1)) (fun F' _ => rfl) ⟨b, hb⟩⟩
    · rintro H' ⟨⟨F', acc, hs', pr, fp, hp, al⟩, _⟩
      exact q p acc F' H' hs' (p1.trans pr) (p1.new np) fp hp (al_unmap al)
/-! ### what is given back, by the promise's kind -/
theorem s_retP {F0 H0 : Hp} {Q : VK} {d : Dv} (hZ : Z.F = F0 ∧ Z.H = H0 ∧ Z.O = NoO) (hD : D.rt = Q) (q : ∀ v F' H', Step NoO F0 H0 F' H' → d.rep F' v → Q v H') (h : Den te Γ t x Γ1) (e : d = ⟨t, x⟩) : OK Z Γ (tRet te D) :=
  s_ret h fun F σ H v hh r => by
    obtain ⟨z1, z2, z3⟩ := hZ
    rw [hD]
    refine q v F H ?_ (by rw [e]; exact r)
    rw [← z1, ← z2, ← z3]
    exact hh.st
theorem s_retM {F0 H0 : Hp} {Q : VK} {d : Dv} {a : Addr} {ps' : List Dv} (hZ : Z.F = F0 ∧ Z.H = H0 ∧ Z.O = fun b => b = a) (hD : D.rt = Q)
    (q : ∀ v F' H' us', Step (fun b => b = a) F0 H0 F' H' → F' a = none → H' a = some (.lst us') → Reps F' ps' us' → d.rep F' v → Q v H') (h : Den te Γ t x Γ1) (e0 : Γ1[0]? = some (.own (some a) ps')) (e : d = ⟨t, x⟩) : OK Z Γ (tRet te D) :=
  s_ret h fun F σ H v hh r => by
    obtain ⟨z1, z2, z3⟩ := hZ
    obtain ⟨b, h1, ⟨n1, ad, us, hu, ru⟩, _⟩ := hh.owned e0 rfl
    cases ad a rfl
    rw [hD]
    refine q v F H us ?_ n1 hu ru (by rw [e]; exact r)
    rw [← z1, ← z2, ← z3]
    exact hh.st
theorem s_retNP {F0 H0 : Hp} {Q : VK} {r : List Dv} (hZ : Z.F = F0 ∧ Z.H = H0 ∧ Z.O = NoO) (hD : D.rt = Q) (q : ∀ p us F' H', Step NoO F0 H0 F' H' → H0 p = none → F' p = none → H' p = some (.lst us) → Reps F' r us → Q (.ref p) H') (h : DenN te Γ ds Γ1) (e : r = ds) : OK Z Γ (tRet te D) :=
  s_retN h fun F σ H p vs hh np fp hp rr => by
    obtain ⟨z1, z2, z3⟩ := hZ
    rw [hD]
    refine q p vs F H ?_ (by rw [← z2]; exact np) fp hp (by rw [e]; exact rr)
    rw [← z1, ← z2, ← z3]
    exact hh.st
/-- the end of an __init__ -/
theorem s_endI {P : L2.St → Hp → Prop} {F0 H0 : Hp} {Q : VK} {a C : Addr} {fs : List (Str × Dv)} (hZ : Z.F = F0 ∧ Z.H = H0 ∧ Z.O = fun b => b = a) (hP : ∀ σ H, Q .non H → P σ H)
    (q : ∀ F' H' dx' us, Step (fun b => b = a) F0 H0 F' H' → F' a = none → F' dx' = some (.own a) → H' a = some (.ins C dx' us) → RepF F' fs us → Q .non H') (e0 : Γ[0]? = some (.obj (some a) C fs)) : OK Z Γ P := fun F σ H hh => by
  obtain ⟨z1, z2, z3⟩ := hZ
  obtain ⟨b, h1, ⟨n1, ad, dx', us, hd, hu, ru⟩, _⟩ := hh.owned e0 rfl
  cases ad a rfl
  refine hP σ H (q F H dx' us ?_ n1 hd hu ru)
  rw [← z1, ← z2, ← z3]
  exact hh.st
end
end DL
namespace DL
open PySem L2 Evl
section
variable {α β γ : Type} {t : Ty α} {u : Ty β} {w : Ty γ} {x y z : α} {Z : En} {Γ Γ' Γ1 Γ2 Γ3 : List Slot} {ta tb tc te : TE} {ds es : List Dv} {K : PySem.W.Frag}
/-! ### some built-ins -/
theorem on_int {i : Int} : OpN (fun xs H Q => (∃ i, xs = [.int i] ∧ Q (.int i) H) ∨ ∃ k, xs = [.bl k] ∧ Q (.int (if k then 1 else 0)) H) [⟨tInt, i⟩] tInt i := fun F H vs e r Q q => by
  cases r with
  | cons r r' =>
    cases r'
    cases r
    exact .inl ⟨i, rfl, q _ F H (Step.refl e) rfl⟩
def iabs (i : Int) : Int := if i < 0 then -i else i
theorem on_abs {i : Int} : OpN (fun xs H Q => ∃ i, xs = [.int i] ∧ Q (.int (if i < 0 then -i else i)) H) [⟨tInt, i⟩] tInt (iabs i) := fun F H vs e r Q q => by
  cases r with
  | cons r r' =>
    cases r'
    cases r
    exact ⟨i, rfl, q _ F H (Step.refl e) rfl⟩
theorem on_bool {i : Int} : OpN (fun xs H Q => (∃ i, xs = [.int i] ∧ Q (.bl (i != 0)) H) ∨ ∃ k, xs = [.bl k] ∧ Q (.bl k) H) [⟨tInt, i⟩] tBool (i != 0) := fun F H vs e r Q q => by
  cases r with
  | cons r r' =>
    cases r'
    cases r
    exact .inl ⟨i, rfl, q _ F H (Step.refl e) rfl⟩
def imax (i j : Int) : Int := if j > i then j else i
def imin (i j : Int) : Int := if j < i then j else i
theorem on_max {i j : Int} : OpN (fun xs H Q => ∃ i j, xs = [.int i, .int j] ∧ Q (.int (if j > i then j else i)) H) [⟨tInt, i⟩, ⟨tInt, j⟩] tInt (imax i j) := fun F H vs e r Q q => by
  cases r with
  | cons r r' =>
    cases r' with
    | cons r2 r3 =>
      cases r3
      cases r
      cases r2
      exact ⟨i, j, rfl, q _ F H (Step.refl e) rfl⟩
theorem on_min {i j : Int} : OpN (fun xs H Q => ∃ i j, xs = [.int i, .int j] ∧ Q (.int (if j < i then j else i)) H) [⟨tInt, i⟩, ⟨tInt, j⟩] tInt (imin i j) := fun F H vs e r Q q => by
  cases r with
  | cons r r' =>
    cases r' with
    | cons r2 r3 =>
      cases r3
      cases r
      cases r2
      exact ⟨i, j, rfl, q _ F H (Step.refl e) rfl⟩
theorem den_bits {i : Int} (h : Den ta Γ tInt i Γ1) : Den (tBits ta) Γ tInt ((Builtin.Int.intBits i : Nat) : Int) Γ1 := fun Z F σ H hh Q q => h Z F σ H hh _ fun v F' H' h' p r => ⟨i, r, q _ F' H' h' p rfl⟩
/-! ### short lists -/
theorem dn_lst0 : DenN (tLst tNil) Γ (([] : List α).map fun x => ⟨t, x⟩) Γ := dn_lst da_nil (Nat.zero_le _)
theorem dn_lst1 (h : Den ta Γ t x Γ1) : DenN (tLst (tCons ta tNil)) Γ ([x].map fun x => ⟨t, x⟩) Γ1 := dn_lst (da_cons h da_nil) (by show 1 ≤ 100000; decide)
theorem dn_lst2 (h : Den ta Γ t x Γ1) (h2 : Den tb Γ1 t y Γ2) : DenN (tLst (tCons ta (tCons tb tNil))) Γ ([x, y].map fun x => ⟨t, x⟩) Γ2 := dn_lst (da_cons h (da_cons h2 da_nil)) (by show 2 ≤ 100000; decide)
theorem dn_lst3 (h : Den ta Γ t x Γ1) (h2 : Den tb Γ1 t y Γ2) (h3 : Den tc Γ2 t z Γ3) : DenN (tLst (tCons ta (tCons tb (tCons tc tNil)))) Γ ([x, y, z].map fun x => ⟨t, x⟩) Γ3 := dn_lst (da_cons h (da_cons h2 (da_cons h3 da_nil))) (by show 3 ≤ 100000; decide)
/-! ### the script -/
def tScr (K : PySem.W.Frag) : Ty (List Int) := ⟨fun F v xs => ∃ a, v = .ref a ∧ SqL K F a (xs.map V.int), fun e ⟨a, h1, h2⟩ => ⟨a, h1, ex_l e h2⟩⟩
theorem s_forScr {S : Type} {wl : TE} {xs : List Int} {s1 : TS} {D : Ends} {j : Nat} (s0 : S) (G : S → List Slot) (I : Nat → S → Prop) (h : Den wl Γ (tScr K) xs Γ1) (h0 : I 0 s0) (e0 : Wk Γ1 (G s0))
    (hs : ∀ Z' : En, (∀ {Γ F σ H}, Holds Z' Γ F σ H → Holds Z Γ F σ H) → ∀ n x s, xs[n]? = some x → I n s → OK Z' ((G s).set j (.val ⟨tInt, x⟩)) (s1 { D with nx := LoopAt Z' G I (n + 1), ct := LoopAt Z' G I (n + 1), bk := D.nx }))
    (hd : ∀ s, I xs.length s → OK Z (G s) D.nx) : OK Z Γ (tFor (iList K wl) (gName j) s1 D) := fun F σ H hh => by
  refine h Z F σ H hh _ fun v F1 H1 h1 p r => ?_
  obtain ⟨a, rfl, e⟩ := r
  have pm : ∀ {F F' : Hp}, Ex F F' → SqL K F a (xs.map V.int) → SqL K F' a (xs.map V.int) := fun e h => ex_l e h
  refine ⟨a, rfl, ⟨_, ex_l h1.fh e⟩, for_list (K := K) (a := a) (xs := xs.map V.int) (LoopAt (Z.more _ pm) G I) ⟨s0, F1, h0, (h1.weak e0).more e⟩ ?_ ?_ ?_⟩
  · rintro n σ' H' _ ⟨s, F', _, hs'⟩
    exact ex_l hs'.fh hs'.pp.2
  · rintro n x σ' H' hx ⟨s, F', hi, hs'⟩
    rw [List.getElem?_map] at hx
    cases q : xs[n]? with
    | none =>
      rw [q] at hx
      cases hx
    | some y =>
      rw [q] at hx
      cases hx
      exact hs (Z.more _ pm) (fun h => h.less) n y s q hi F' _ H' (hs'.set j rfl)
  · rintro σ' H' ⟨s, F', hi, hs'⟩
    rw [List.length_map] at hi
    exact hd s hi F' σ' H' hs'.less
end
end DL

set_option maxRecDepth 100000
/-! Own: operators, truth, abs, == of instances by their classes' own methods. -/
namespace L2
open PySem PySem.Spec PyProof.Rows
section
variable {X : Cx} {CX : CXT} {k : Nat} {f C : Addr} {fd : FuncData} {ps : List Str} {sp : Sp} {E : XK}
/-- the callee runs below, within the same frames -/
theorem run_at {A : Around} {pins : List (Addr × Obj)} {σ : St} {H : Hp} {s : Shared} {Q : VK} {us : List Value} {vs : List V} (hr : Room k A) (hfr : A.frames = X.A.frames) (F : FnOk X.prog X.w X.K X.mg X.base CX k f fd ps sp) (hb : Binds X.K fd ps []) (hx : Passes CX X E)
    (I : Inv X pins σ H s) (r : Vals vs us) (h : sp vs H Q E) : wpAny (model X.prog X.w) A (call (.ref f) us) (EP X pins σ Q) X.xe s := by
  have en : Env0 X.prog X.w X.K X.mg X.base A X.stack s H := by
    have e := I.env0
    exact ⟨by rw [hfr]; exact e.frames, e.mod, e.bs, e.bsz, e.funs, e.frf, e.hok, e.bare⟩
  have hl := F.len _ _ _ _ h
  have hb' := hb s us I.kIn (by rw [List.append_nil, ← r.length]; exact hl)
  rw [List.append_nil] at hb'
  refine wpAny_call (codeAny_mono (F.run A X.stack s H ⟨us, []⟩ us vs Q E hr en hb' r h) fun q s' hq => ?_)
  cases q with
  | error x => exact hx pins σ H s x s' I hq
  | ok fl =>
    cases fl with
    | ret u => exact I.after hq
    | next => exact False.elim hq
    | brk => exact False.elim hq
    | cont => exact False.elim hq
/-- the class C has the method nm at f -/
structure OwnM (K : PySem.W.Frag) (C : Addr) (nm : Str) (f : Addr) : Prop where
  at_ : PySem.W.findIn K (.ref C) nm = some (some (.ref f))
  fn : PySem.W.isFn K (Value.ref f) = true
/-- a binary operator's two slots -/
structure OwnB (K : PySem.W.Frag) (C : Addr) (nm : String) (f g : Addr) : Prop where
  l : OwnM K C (dunder nm) f
  r : OwnM K C (dunderR nm) g
  self : PySem.W.selfFirst K C = true
/-- how int and C stand to each other -/
structure OwnInt (K : PySem.W.Frag) (C : Addr) (nm : String) : Prop where
  l : ∃ fo, PySem.W.findIn K (.type "int") (dunder nm) = some fo
  r : ∃ ro, PySem.W.findIn K (.type "int") (dunderR nm) = some ro
  s1 : PySem.W.subIn K (.type "int") (.ref C) = some false
  s2 : PySem.W.subIn K (.ref C) (.type "int") = some false
theorem back_of {pins : List (Addr × Obj)} {σ : St} {Q : VK} {u : Value} {s : Shared} (h : EP X pins σ Q u s) : PySem.W.CmpBack (EP X pins σ Q) u s := by
  obtain ⟨v, H', I, r, q⟩ := h
  cases v with
  | non => cases (show u = Value.none from r); exact ⟨.non, H', I, rfl, q⟩
  | bl b => cases (show u = Value.bool b from r); exact ⟨.bl b, H', I, rfl, q⟩
  | int i => obtain ⟨t, e⟩ := (show ∃ t, u = Value.int i t from r); cases e; exact ⟨.int i, H', I, ⟨t, rfl⟩, q⟩
  | str i => obtain ⟨t, e⟩ := (show ∃ t, u = Value.str i t from r); cases e; exact ⟨.str i, H', I, ⟨t, rfl⟩, q⟩
  | byt i => obtain ⟨t, e⟩ := (show ∃ t, u = Value.bytes i t from r); cases e; exact ⟨.byt i, H', I, ⟨t, rfl⟩, q⟩
  | flt i => obtain ⟨t, e⟩ := (show ∃ t, u = Value.float i t from r); cases e; exact ⟨.flt i, H', I, ⟨t, rfl⟩, q⟩
  | ref a => cases (show u = Value.ref a from r); exact ⟨.ref a, H', I, rfl, q⟩
  | ty n => cases (show u = Value.type n from r); exact ⟨.ty n, H', I, rfl, q⟩
/-- x op y, both of the class C -/
def rOwn2 (C : Addr) (sp : Sp) (E : XK) : R2 := fun x y H Q => ∃ a b dx dy fs gs, x = .ref a ∧ y = .ref b ∧ H a = some (.ins C dx fs) ∧ H b = some (.ins C dy gs) ∧ sp [x, y] H Q E
theorem op_own2 {op : Operator} {g : Addr} (O : OwnB X.K C op.info.2 f g) (F : FnOk X.prog X.w X.K X.mg X.base CX k f fd ps sp) (hb : Binds X.K fd ps []) (hx : Passes CX X E) (hr : Room k X.A) : OpR X (binaryOp op) (rOwn2 C sp E) := by
  rintro pins s σ H x y v u Q I rx ry ⟨a, b, dx, dy, fs, gs, rfl, rfl, ha, hb', h⟩
  cases rx
  cases ry
  obtain ⟨mm, J, _⟩ := ins_get I.hok ha
  obtain ⟨mm', J', _⟩ := ins_get I.hok hb'
  obtain ⟨od, J, _⟩ := J.look
  obtain ⟨od2, J', _⟩ := J'.look
  obtain ⟨m, hF⟩ := I.fr
  exact PySem.W.binop_K hF I.ok.mod.kin J J'.type O.self O.l.at_ O.l.fn (thn (run_at hr rfl F hb hx I (show Vals [V.ref a, V.ref b] [Value.ref a, Value.ref b] from .cons rfl (.cons rfl .nil)) h) fun _ _ q => back_of q)
/-- x op i, i an int -/
def rOwnI (C : Addr) (sp : Sp) (E : XK) : R2 := fun x y H Q => ∃ a dx fs i, x = .ref a ∧ y = .int i ∧ H a = some (.ins C dx fs) ∧ sp [x, y] H Q E
theorem op_ownI {op : Operator} {g : Addr} (O : OwnB X.K C op.info.2 f g) (OI : OwnInt X.K C op.info.2) (F : FnOk X.prog X.w X.K X.mg X.base CX k f fd ps sp) (hb : Binds X.K fd ps []) (hx : Passes CX X E) (hr : Room k X.A) : OpR X (binaryOp op) (rOwnI C sp E) := by
  rintro pins s σ H x y v u Q I rx ry ⟨a, dx, fs, i, rfl, rfl, ha, h⟩
  cases rx
  obtain ⟨t, rfl⟩ := (show ∃ tk, u = Value.int i tk from ry)
  obtain ⟨mm, J, _⟩ := ins_get I.hok ha
  obtain ⟨od, J, _⟩ := J.look
  obtain ⟨m, hF⟩ := I.fr
  obtain ⟨fo, h1⟩ := OI.l
  obtain ⟨ro, h2⟩ := OI.r
  exact PySem.W.ksp_binT (T := "int") hF I.ok.mod.kin J rfl O.self O.l.at_ O.l.fn O.r.at_ (.inr ⟨_, rfl⟩) h1 h2 OI.s1 (thn (run_at hr rfl F hb hx I (show Vals [V.ref a, V.int i] [Value.ref a, Value.int i t] from .cons rfl (.cons ⟨t, rfl⟩ .nil)) h) fun _ _ q => back_of q)
/-- i op x, i an int: its own slot declines -/
def rOwnR (C : Addr) (sp : Sp) (E : XK) : R2 := fun x y H Q => ∃ a dx fs i, x = .int i ∧ y = .ref a ∧ H a = some (.ins C dx fs) ∧ sp [y, x] H Q E
/-- int's slot nm, which declines an instance -/
structure IntDecl (nm : String) (id : String) (B : Builtin) : Prop where
  fills : fillsNumberSlot (.type "int") nm = pure true
  slot : Slot "int" (dunder nm) id
  entry : entryFor table id = some B
  args : ∀ a b : Value, argsOk id ⟨[a, b], []⟩
  no : ∀ (P : Program) (w : World) (A : Around) (E : Value → Shared → Prop) (s : Shared) (i : Int) (t : Tok) (a : Addr) (o : Obj) (Q : Value → Shared → Prop), s.heap.get? a = some o → o.data = .plain → (∀ tk, Q .notImplemented { s with toks := tk }) →
    wpAny (model P w) A (B ⟨[.int i t, .ref a], []⟩) (fun fin s' => ∃ v, fin = .done (.ret v) ∧ Q v s') E s
end
theorem decl_bin {name : String} {f : Int → Int → Sem Fin} (P : Program) (w : World) (A : Around) (E : Value → Shared → Prop) (s : Shared) (i : Int) (t : Tok) (a : Addr) (o : Obj) (Q : Value → Shared → Prop) (h : s.heap.get? a = some o) (hd : o.data = .plain) (hq : ∀ tk, Q .notImplemented { s with toks := tk }) :
    wpAny (model P w) A (Builtin.Int.intBinary name f false ⟨[.int i t, .ref a], []⟩) (fun fin s' => ∃ v, fin = .done (.ret v) ∧ Q v s') E s := by
  obtain ⟨hp, gl, dr, tk, os⟩ := s
  have h' : hp.get? a = some o := h
  unfold Builtin.Int.intBinary
  wp_walk using wpAny_load' h'
  rw [hd]
  wp_walk
  exact ⟨_, rfl, hq tk⟩
theorem int_add_decl : IntDecl "add" "int.__add__" Builtin.«int.__add__» := ⟨PySem.F.fills_int_add, PySem.F.slot_int_add, PySem.F.entry_int_add, fun a b => PySem.F.args_int_add_2 a b, decl_bin⟩
theorem int_sub_decl : IntDecl "sub" "int.__sub__" Builtin.«int.__sub__» := ⟨PySem.F.fills_int_sub, PySem.F.slot_int_sub, PySem.F.entry_int_sub, fun a b => PySem.F.args_int_sub_2 a b, decl_bin⟩
theorem int_mul_decl : IntDecl "mul" "int.__mul__" Builtin.«int.__mul__» := ⟨PySem.F.fills_int_mul, PySem.F.slot_int_mul, PySem.F.entry_int_mul, fun a b => PySem.F.args_int_mul_2 a b, decl_bin⟩
section
variable {X : Cx} {CX : CXT} {k : Nat} {f C : Addr} {fd : FuncData} {ps : List Str} {sp : Sp} {E : XK}
theorem binop_refl {P : Program} {w : World} {A : Around} {E : Value → Shared → Prop} {s : Shared} {K : PySem.W.Frag} {C x g gl : Addr} {ox : Obj} {od : Option Obj} {op : Operator} {id : String} {B : Builtin} {i : Int} {t : Tok} {Q : Value → Shared → Prop}
    (X : K.In s.heap) (I : PySem.W.InstAt s.heap x ox C od) (hd : ox.data = .plain) (D : IntDecl op.info.2 id B) (O : OwnB K C op.info.2 gl g) (h2 : PySem.W.subIn K (.ref C) (.type "int") = some false)
    (h : ∀ tk, wpAny (model P w) A (call (.ref g) [.ref x, .int i t]) (PySem.W.CmpBack Q) E { s with toks := tk }) : wpAny (model P w) A (binaryOp op (.int i t) (.ref x)) Q E s := by
  obtain ⟨cd, rest, hcd, hm⟩ := PySem.W.ksp_first O.self
  rcases hi : op.info with ⟨sg, nm⟩
  rw [hi] at D O
  dsimp only at D O
  have hne : (Value.type "int" == Value.ref C) = false := Bool.eq_false_iff.mpr fun q => by cases beq_iff_eq.mp q
  simp only [binaryOp, hi]
  apply wpAny_holding
  apply wpAny_bind
  unfold binaryOp1
  refine wpAny_bind (wpAny_typeOf (typeIs_int s i t) (wpAny_bind (I.type.here (wpAny_bind (wpAny_of_eq D.fills ?_)))))
  simp only [if_false, Bool.false_eq_true, hne]
  refine wpAny_bind ((PySem.W.fills_K X hcd hm O.l.at_).here ?_)
  simp only [Bool.and_self, ↓reduceIte]
  refine wpAny_bind ((PySem.W.looks_subIn X h2).here ?_)
  have hpy : numberSlotInPython (.type "int") nm = pure false := rfl
  simp only [hpy, Bool.and_self, Bool.not_false, Bool.false_eq_true, pure_bind, if_true, if_false]
  refine wpAny_bind (wpAny_tryMethod_declines (typeIs_int s i t) D.slot (wpAny_call_entry D.slot (typeIs_int s i t) D.entry (D.no P w A.in1 E s i t x ox _ I.at_ hd fun tk => ⟨rfl, ?_⟩) (D.args _ _)))
  have X' : K.In ({ s with toks := tk } : Shared).heap := X
  have I' : PySem.W.InstAt ({ s with toks := tk } : Shared).heap x ox C od := I
  have one := PySem.W.ksp_try (M := model P w) (A := A) (E := E) (Q := Q) (s := { s with toks := tk }) X' I' O.r.at_ O.r.fn (h tk)
  refine wpAny_bind (wpAny_mono one (fun r s' hr' => ?_) fun _ _ e => e)
  obtain ⟨v, rfl, hq⟩ := hr'
  exact wpAny_bind (wpAny_rule (wpAny_pure (wpAny_pure hq)))
theorem op_ownR {op : Operator} {gl g : Addr} {id : String} {B : Builtin} (D : IntDecl op.info.2 id B) (O : OwnB X.K C op.info.2 gl g) (OI : OwnInt X.K C op.info.2) (F : FnOk X.prog X.w X.K X.mg X.base CX k g fd ps sp) (hb : Binds X.K fd ps []) (hx : Passes CX X E) (hr : Room k X.A) : OpR X (binaryOp op) (rOwnR C sp E) := by
  rintro pins s σ H x y v u Q I rx ry ⟨a, dx, fs, i, rfl, rfl, ha, h⟩
  cases ry
  obtain ⟨t, rfl⟩ := (show ∃ t, v = Value.int i t from rx)
  obtain ⟨mm, J, _⟩ := ins_get I.hok ha
  obtain ⟨od, J, _⟩ := J.look
  refine binop_refl I.kIn J rfl D O OI.s2 fun tk => ?_
  exact thn (run_at hr rfl F hb hx (I.tok tk) (show Vals [V.ref a, V.int i] [Value.ref a, Value.int i t] from .cons rfl (.cons ⟨t, rfl⟩ .nil)) h) fun _ _ q => back_of q
/-- -x -/
def rOwn1 (C : Addr) (sp : Sp) (E : XK) : V → Hp → VK → Prop := fun x H Q => ∃ a dx fs, x = .ref a ∧ H a = some (.ins C dx fs) ∧ sp [x] H Q E
theorem un_ownNeg (O : OwnM X.K C "__neg__" f) (F : FnOk X.prog X.w X.K X.mg X.base CX k f fd ps sp) (hb : Binds X.K fd ps []) (hx : Passes CX X E) (hr : Room k X.A) : UnR X (unaryOp .USub) (rOwn1 C sp E) := by
  rintro pins s σ H x v Q I rx ⟨a, dx, fs, rfl, ha, h⟩
  cases rx
  obtain ⟨mm, J, _⟩ := ins_get I.hok ha
  obtain ⟨od, J, _⟩ := J.look
  obtain ⟨m, hF⟩ := I.fr
  exact PySem.W.ksp_neg hF I.ok.mod.kin J O.at_ O.fn (run_at hr rfl F hb hx I (show Vals [V.ref a] [Value.ref a] from .cons rfl .nil) h)
/-- abs(x) -/
theorem call_ownAbs (O : OwnM X.K C "__abs__" f) (F : FnOk X.prog X.w X.K X.mg X.base CX k f fd ps sp) (hb : Binds X.K fd ps []) (hx : Passes CX X E) (hr : Room (k + 1) X.A) : CallR X (.builtin "abs") (fun xs H Q => ∃ x, xs = [x] ∧ rOwn1 C sp E x H Q) := by
  rintro pins s σ H xs us Q I rx ⟨x, rfl, a, dx, fs, rfl, ha, h⟩
  obtain rfl := Vals.ref1 rx
  obtain ⟨mm, J, _⟩ := ins_get I.hok ha
  obtain ⟨od, J, _⟩ := J.look
  refine PySem.Calls.call_function_entry kind_abs plain_abs entry_abs (args_abs _) ?_
  unfold Builtin.«abs»
  refine wpAny_bind (m := oneArg "abs" _) ?_
  refine wpAny_pure ?_
  refine wpAny_bind (m := callSpecial? (.ref a) (Str.ofString "__abs__")) (PySem.W.special_fn I.kIn J O.at_ (beq_iff_eq.mp O.fn) ?_)
  exact thn (run_at hr.in1 rfl F hb hx I (show Vals [V.ref a] [Value.ref a] from .cons rfl .nil) h) fun u s' q => wpAny_pure ⟨_, rfl, q⟩
/-- bool(x), the truth of x -/
def rOwnB (C : Addr) (sp : Sp) (E : XK) : V → Hp → (Bool → Hp → Prop) → Prop := fun x H Q => ∃ a dx fs, x = .ref a ∧ H a = some (.ins C dx fs) ∧ sp [x] H (fun v H' => ∃ b, v = .bl b ∧ Q b H') E
theorem truthy_own {A : Around} {pins : List (Addr × Obj)} {σ : St} {H : Hp} {s : Shared} {x : V} {v : Value} {Q : Bool → Hp → Prop} (O : OwnM X.K C "__bool__" f) (F : FnOk X.prog X.w X.K X.mg X.base CX k f fd ps sp) (hb : Binds X.K fd ps []) (hx : Passes CX X E) (hr : Room k A) (hfr : A.frames = X.A.frames)
    (I : Inv X pins σ H s) (rx : RelV x v) (h : rOwnB C sp E x H Q) : wpAny (model X.prog X.w) A (truthy v) (TP X pins σ Q) X.xe s := by
  obtain ⟨a, dx, fs, rfl, ha, h⟩ := h
  cases rx
  obtain ⟨mm, J, _⟩ := ins_get I.hok ha
  obtain ⟨od, J, _⟩ := J.look
  obtain ⟨m, hF⟩ := I.fr
  refine PySem.W.truthy_K hF I.ok.mod.kin J O.at_ O.fn (thn (run_at hr hfr F hb hx I (show Vals [V.ref a] [Value.ref a] from .cons rfl .nil) h) fun u s' q => ?_)
  obtain ⟨v, H', I', r, b, rfl, q⟩ := q
  cases (show u = Value.bool b from r)
  exact ⟨H', I', q⟩
theorem tru_own (O : OwnM X.K C "__bool__" f) (F : FnOk X.prog X.w X.K X.mg X.base CX k f fd ps sp) (hb : Binds X.K fd ps []) (hx : Passes CX X E) (hr : Room k X.A) : TruR X (rOwnB C sp E) :=
  fun pins s σ H x v Q I rx h => truthy_own O F hb hx hr rfl I rx h
/-- x == y by the own __eq__ -/
def rOwnEq (C : Addr) (sp : Sp) (E : XK) : R2 := fun x y H Q => ∃ a dx fs, x = .ref a ∧ H a = some (.ins C dx fs) ∧ ((∃ b dy gs, y = .ref b ∧ H b = some (.ins C dy gs)) ∨ ∃ i, y = .int i) ∧ sp [x, y] H Q E
theorem op_ownEq (O : OwnM X.K C "__eq__" f) (s1 : PySem.W.subIn X.K (.type "int") (.ref C) = some false) (F : FnOk X.prog X.w X.K X.mg X.base CX k f fd ps sp) (hb : Binds X.K fd ps []) (hx : Passes CX X E) (hr : Room k X.A) : OpR X (compareOp .Eq) (rOwnEq C sp E) := by
  rintro pins s σ H x y v u Q I rx ry ⟨a, dx, fs, rfl, ha, hy, h⟩
  cases rx
  obtain ⟨mm, J, _⟩ := ins_get I.hok ha
  obtain ⟨od, J, _⟩ := J.look
  obtain ⟨m, hF⟩ := I.fr
  show wpAny (model X.prog X.w) X.A (richCompare .Eq (.ref a) u) (EP X pins σ Q) X.xe s
  have r2 : Vals [V.ref a, y] [Value.ref a, u] := .cons rfl (.cons ry .nil)
  have hc := thn (run_at hr rfl F hb hx I r2 h) fun _ _ q => back_of q
  rcases hy with ⟨b, dy, gs, rfl, hb'⟩ | ⟨i, rfl⟩
  · cases ry
    obtain ⟨mm', J', _⟩ := ins_get I.hok hb'
    obtain ⟨od2, J', _⟩ := J'.look
    exact PySem.W.cmp_K (op := .Eq) (tb := .ref C) hr.units0 hF I.ok.mod.kin J J'.type (by simp [PySem.W.notFirst]) O.at_ O.fn hc
  · obtain ⟨t, rfl⟩ := (show ∃ t, u = Value.int i t from ry)
    exact PySem.W.cmp_K (op := .Eq) (tb := .type "int") hr.units0 hF I.ok.mod.kin J (PySem.W.Looks.of_pure rfl) (by simp [PySem.W.notFirst, s1]) O.at_ O.fn hc
/-- i == x: int's own declines -/
theorem eq_refl_own {P : Program} {w : World} {A : Around} {E : Value → Shared → Prop} {s : Shared} {K : PySem.W.Frag} {C x g : Addr} {ox : Obj} {od : Option Obj} {i : Int} {t : Tok} {Q : Value → Shared → Prop} (hu : A.units < cLine)
    (X : K.In s.heap) (I : PySem.W.InstAt s.heap x ox C od) (hd : ox.data = .plain) (O : OwnM K C "__eq__" g) (h2 : PySem.W.subIn K (.ref C) (.type "int") = some false)
    (h : ∀ tk, wpAny (model P w) A (call (.ref g) [.ref x, .int i t]) (PySem.W.CmpBack Q) E { s with toks := tk }) : wpAny (model P w) A (richCompare .Eq (.int i t) (.ref x)) Q E s := by
  have hne : (Value.type "int" != Value.ref C) = true := by simp
  unfold richCompare
  have one : oneThing? .Eq (.int i t) (.ref x) = none := rfl
  simp only [one]
  apply wpAny_holding
  apply wpAny_bind
  apply wpAny_cRoomFor hu
  refine wpAny_bind (wpAny_typeOf (typeIs_int s i t) (wpAny_bind (I.type.here ?_)))
  simp only [hne, if_true]
  refine wpAny_bind ((PySem.W.looks_subIn X h2).here ?_)
  simp only [if_false, Bool.false_eq_true]
  refine wpAny_bind (m := tryCompare (.int i t) _ (.ref x)) ?_
  unfold tryCompare
  refine wpAny_bind (wpAny_callSpecialIfBound?_slot (typeIs_int s i t) PySem.F.slot_int_eq (wpAny_call_entry PySem.F.slot_int_eq (typeIs_int s i t) PySem.F.entry_int_eq (decl_bin P w A.in1 E s i t x ox _ I.at_ hd fun tk => ?_) (PySem.F.args_int_eq_2 _ _)))
  refine wpAny_pure ?_
  simp only [if_true, Bool.not_false]
  have X' : K.In ({ s with toks := tk } : Shared).heap := X
  have I' : PySem.W.InstAt ({ s with toks := tk } : Shared).heap x ox C od := I
  refine wpAny_bind (m := tryCompare (.ref x) _ (.int i t)) ?_
  unfold tryCompare
  refine wpAny_bind (PySem.W.ifBound_K (s := { s with toks := tk }) X' I' O.at_ O.fn (wpAny_mono (h tk) (fun v s' hv => ?_) fun _ _ e => e))
  cases v <;> first | exact hv.elim | exact wpAny_pure (wpAny_pure hv)
theorem op_ownEqR (O : OwnM X.K C "__eq__" f) (s2 : PySem.W.subIn X.K (.ref C) (.type "int") = some false) (F : FnOk X.prog X.w X.K X.mg X.base CX k f fd ps sp) (hb : Binds X.K fd ps []) (hx : Passes CX X E) (hr : Room k X.A) : OpR X (compareOp .Eq) (rOwnR C sp E) := by
  rintro pins s σ H x y v u Q I rx ry ⟨a, dx, fs, i, rfl, rfl, ha, h⟩
  cases ry
  obtain ⟨t, rfl⟩ := (show ∃ t, v = Value.int i t from rx)
  obtain ⟨mm, J, _⟩ := ins_get I.hok ha
  obtain ⟨od, J, _⟩ := J.look
  refine eq_refl_own hr.units0 I.kIn J rfl O s2 fun tk => ?_
  exact thn (run_at hr rfl F hb hx (I.tok tk) (show Vals [V.ref a, V.int i] [Value.ref a, Value.int i t] from .cons rfl (.cons ⟨t, rfl⟩ .nil)) h) fun _ _ q => back_of q
/-- bool(x) -/
theorem call_ownBool (O : OwnM X.K C "__bool__" f) (F : FnOk X.prog X.w X.K X.mg X.base CX k f fd ps sp) (hb : Binds X.K fd ps []) (hx : Passes CX X E) (hr : Room (k + 2) X.A) : CallR X (.type "bool") (fun xs H Q => ∃ x, xs = [x] ∧ rOwnB C sp E x H fun b H' => Q (.bl b) H') := by
  rintro pins s σ H xs us Q I rx ⟨x, rfl, h⟩
  cases rx with
  | cons rx rx' =>
  cases rx'
  rename_i u
  refine callType_codes (T := "bool") (Bi := Builtin.«object.__init__») (Q₁ := fun r s₁ => ∃ b, r = .bool b ∧ EP X pins σ Q (.bool b) s₁) PySem.F.called_bool (PySem.F.typeCall_bool_1 _) PySem.F.entry_object_init ?_ ?_
  · refine codeAny_of_tree ?_
    refine wpAny_bind (wpAny_of_eq (PySem.F.newCall_bool_1 _) (wpAny_pure ⟨plainId_quiet (by decide +kernel) _, codeAny_builtin PySem.F.entry_bool_new ?_⟩))
    rw [(Around.under_plainId (by decide +kernel) _)]
    have f1 := PySem.F.conv_sub_bool
    have htr : wpAny (model X.prog X.w) X.A.in1.in1 (truthy u) (TP X pins σ fun b H' => Q (.bl b) H') X.xe s := truthy_own O F hb hx hr.in1.in1 rfl I rx h
    repeat (any_goals (first | assumption | (with_reducible refine wpAny_mono htr ?_ ?_) | wp_step))
    · rintro b s' ⟨H', I', q⟩
      exact wpAny_pure ⟨b, rfl, .bl b, H', I', rfl, q⟩
    · exact fun e s' he => he
  · rintro obj s₁ ⟨b, rfl, hq⟩
    exact ⟨PySem.typeIs_bool _ _, PySem.F.args_object_init_2 _ _, object_init_meets PySem.F.called_bool.init.lookup PySem.F.called_bool.made (by decide) _ _ _ _ s₁ ⟨PySem.typeIs_bool _ _, rfl, hq⟩⟩
end
end L2
namespace L2
open PySem PySem.Spec PyProof.Rows
/-- // by any divisor but 0, below 2 ^ 9000 in size -/
def CDivX (_ j : Int) : Prop := j ≠ 0 ∧ j.natAbs.log2 < 9000
theorem op_fdivX {X : Cx} : OpR X (binaryOp .FloorDiv) (rI CDivX fun i j => .int (i.fdiv j)) := opI fun i j _ _ _ _ _ hc q => floordiv_int hc.1 q (.inl (PyProof.noPylong_of_log2 hc.2))
end L2
namespace DL
open PySem L2 Evl
theorem mulw_small {i j : Int} (hi : i.natAbs < 18446744073709551616) (hj : j.natAbs < 18446744073709551616) : CMulW i j := wide_mul (a := 64) (b := 64) (by simpa using hi) (by simpa using hj) (by decide) (by decide) (by decide)
theorem divx_small {i j : Int} (h : j ≠ 0) (hj : j.natAbs < 18446744073709551616) : CDivX i j := ⟨h, Nat.lt_of_lt_of_le (PySem.Flt.log2_lt_of (show 0 < 64 by decide) (show j.natAbs < 2 ^ 64 by simpa using hj)) (by decide)⟩
theorem divx_of {i j : Int} (h : j ≠ 0) (hj : j.natAbs.log2 < 9000) : CDivX i j := ⟨h, hj⟩
theorem cpow_small {i j : Int} (h0 : 0 ≤ j) (h1 : j ≤ 1000000) (h2 : i.natAbs < 18446744073709551616) : CPow i j := ⟨h0, h1, by simpa using h2⟩
theorem sIx_none (n d : Nat) : HT.sIx n d none = d := rfl
theorem sIx_nat (n d : Nat) {k : Int} (h : 0 ≤ k) (hk : k ≤ n) : HT.sIx n d (some k) = k.toNat := by
  unfold HT.sIx
  simp only
  first
    | omega
    | (split <;> omega)
    | (split <;> split <;> omega)
end DL

set_option maxRecDepth 100000
/-! Df: defs of a law's text by their promises; calls within a try; how a body begins. -/
namespace DL
open PySem PySem.Spec PyProof.Rows L2 Evl
/-- the world of a law's text -/
structure Wd where
  P : Program
  w : World
  K : PySem.W.Frag
  mg : Str → Option Value
  base : Heap
/-- the name x stands for a def that keeps sp -/
def DefOk (W : Wd) (x : Str) (k : Nat) (ps : List Str) (sp : Sp) : Prop := ∃ f fd, FnOk W.P W.w W.K W.mg W.base (L2.CX W.P W.w) k f fd ps sp ∧ W.mg x = some (.ref f) ∧ PySem.W.keepIn W.K (.ref f) = true ∧ Binds W.K fd ps []
/-- the class at C has a method that keeps sp -/
def MethOk (W : Wd) (C : Addr) (m : Str) (k : Nat) (ps : List Str) (sp : Sp) : Prop := ∃ f fd, FnOk W.P W.w W.K W.mg W.base (L2.CX W.P W.w) k f fd ps sp ∧ Meth W.K C m f ∧ Binds W.K fd ps []
section
variable {W : Wd} {x qual : Str} {params : Arguments} {body : List Stmt} {scope : Scope} {dvs : List V} {kws : List (Str × V)} {f : Addr} {fd : FuncData} {N ps : List Str} {k : Nat} {sp : Sp}
theorem defOk_of (F : FunD W.K x qual params body scope [] [] f fd) (g : W.mg x = some (.ref f)) (S : FnScope N ps scope) (len : ∀ vs H Q E, sp vs H Q E → vs.length = ps.length)
    (hbind : ∀ (kV doc pm : Value) (an : Option Addr) (cdv ct : Value) (us : List Value), us.length = ps.length → bindArgs (PySem.W.fnOf x qual params body scope .none kV doc pm an cdv ct) ⟨us, []⟩ = pure (ps.zip us))
    (hbody : ∀ (cv : Value) (B : Around) (up : List Env) (s : Shared) (H : Hp) (vs : List V) (Q : VK) (E : XK), Room k (B.deeper (envOfC qual scope s.heap.objs.size f cv)) → sp vs H Q E →
      ∃ t, PSs (cxOf (L2.CX W.P W.w) W.P W.w W.K W.mg W.base N qual scope f cv B up s H E) body t ∧ t { nx := fun _ H' => Q .non H', rt := Q } (L2.start N vs) H) : DefOk W x (k + 1) ps sp :=
  ⟨f, fd, F.ok S len hbody, g, F.kp, F.bindsN hbind⟩
theorem methOk_of {C : Addr} (F : FunD W.K x qual params body scope [] [] f fd) (g : Meth W.K C x f) (S : FnScope N ps scope) (len : ∀ vs H Q E, sp vs H Q E → vs.length = ps.length)
    (hbind : ∀ (kV doc pm : Value) (an : Option Addr) (cdv ct : Value) (us : List Value), us.length = ps.length → bindArgs (PySem.W.fnOf x qual params body scope .none kV doc pm an cdv ct) ⟨us, []⟩ = pure (ps.zip us))
    (hbody : ∀ (cv : Value) (B : Around) (up : List Env) (s : Shared) (H : Hp) (vs : List V) (Q : VK) (E : XK), Room k (B.deeper (envOfC qual scope s.heap.objs.size f cv)) → sp vs H Q E →
      ∃ t, PSs (cxOf (L2.CX W.P W.w) W.P W.w W.K W.mg W.base N qual scope f cv B up s H E) body t ∧ t { nx := fun _ H' => Q .non H', rt := Q } (L2.start N vs) H) : MethOk W C x (k + 1) ps sp :=
  ⟨f, fd, F.ok S len hbody, g, F.bindsN hbind⟩
end
/-! ### lengths -/
theorem spP_len {S : List Dv → Dv → Prop} {R : List Dv → Value → Prop} {n : Nat} (h1 : ∀ ds r, S ds r → ds.length = n) (h2 : ∀ ds c, R ds c → ds.length = n) : ∀ vs H Q E, spP S R vs H Q E → vs.length = n := fun vs H Q E ⟨F, ds, _, r, h⟩ => by
  rw [← r.len]
  rcases h with ⟨r, h, _⟩ | ⟨c, h, _⟩
  · exact h1 _ _ h
  · exact h2 _ _ h
theorem spN_len {S : List Dv → List Dv → Prop} {n : Nat} (h1 : ∀ ds r, S ds r → ds.length = n) : ∀ vs H Q E, spN S vs H Q E → vs.length = n := fun vs H Q E ⟨F, ds, _, r, r', h, _⟩ => by
  rw [← r.len]
  exact h1 _ _ h
theorem spM_len {S : List Dv → List Dv → List Dv → Dv → Prop} {n : Nat} (h1 : ∀ ps ds ps' r, S ps ds ps' r → ds.length = n) : ∀ vs H Q E, spM S vs H Q E → vs.length = n + 1 := fun vs H Q E ⟨F, a, us, args, ps, ds, e, _, _, _, _, r, ps', r', h, _⟩ => by
  rw [e, List.length_cons, ← r.len, h1 _ _ _ _ h]
theorem spI_len {C : Addr} {S : List Dv → List (Str × Dv) → Prop} {R : List Dv → Value → Prop} {n : Nat} (h1 : ∀ ds r, S ds r → ds.length = n) (h2 : ∀ ds c, R ds c → ds.length = n) : ∀ vs H Q E, spI C S R vs H Q E → vs.length = n + 1 := fun vs H Q E ⟨F, x, dx, args, ds, e, _, _, _, _, r, h⟩ => by
  rw [e, List.length_cons, ← r.len]
  rcases h with ⟨r, h, _⟩ | ⟨c, h, _⟩
  · rw [h1 _ _ h]
  · rw [h2 _ _ h]
/-! ### how a body begins -/
theorem own_vals {Γ : List Slot} {σ : L2.St} {i : Nat} {a : Addr} (h : ∀ (i : Nat) (s : Slot), Γ[i]? = some s → s.isOwn = false) : ¬ OwnAt Γ σ i a := fun ⟨⟨s, e, o⟩, _⟩ => by
  rw [h i s e] at o
  cases o
def vals (ds : List Dv) : List Slot := ds.map Slot.val
def anys (n : Nat) : List Slot := List.replicate n .any
theorem anys_get {n i : Nat} {s : Slot} (e : (anys n)[i]? = some s) : s = .any := by
  unfold anys at e
  rw [List.getElem?_replicate] at e
  split at e
  · exact (Option.some.inj e).symm
  · cases e
theorem vals_no {ds : List Dv} {n : Nat} : ∀ (i : Nat) s, (vals ds ++ anys n)[i]? = some s → s.isOwn = false := fun i s e => by
  rw [List.getElem?_append] at e
  split at e
  · unfold vals at e
    rw [List.getElem?_map] at e
    cases q : ds[i]? with
    | none =>
      rw [q] at e
      cases e
    | some d => rw [q] at e; cases e; rfl
  · rw [anys_get e]
    rfl
theorem al_vals {F H : Hp} : ∀ {ds : List Dv} {vs : List V}, Reps F ds vs → Al (SlotOk F H) (vals ds) (vs.map some)
  | _, _, .nil => .nil
  | _, _, .cons r h => .cons ⟨_, rfl, r⟩ (al_vals h)
theorem al_anys {F H : Hp} : ∀ (n : Nat), Al (SlotOk F H) (anys n) (List.replicate n none)
  | 0 => .nil
  | n + 1 => .cons trivial (al_anys n)
/-- a def whose arguments are all frozen -/
theorem start_P {F H : Hp} {ds : List Dv} {vs : List V} {N : List Str} (e : Ex F H) (r : Reps F ds vs) : Holds ⟨NoO, F, H, fun _ => True, fun _ h => h⟩ (vals ds ++ anys (N.length - ds.length)) F (L2.start N vs) H := by
  refine ⟨Step.refl e, ?_, fun i a w => absurd w (own_vals vals_no), fun i j a w => absurd w (own_vals vals_no), trivial⟩
  unfold L2.start
  rw [← r.len]
  exact (al_vals r).app (al_anys _)
/-- a def whose first argument is an owned list -/
theorem start_M {F H : Hp} {a : Addr} {us : List V} {ps ds : List Dv} {vs : List V} {N : List Str} (e : Ex F H) (n : F a = none) (h : H a = some (.lst us)) (rp : Reps F ps us) (r : Reps F ds vs) :
    Holds ⟨fun b => b = a, F, H, fun _ => True, fun _ h => h⟩ (.own (some a) ps :: (vals ds ++ anys (N.length - (ds.length + 1)))) F (L2.start N (.ref a :: vs)) H := by
  have only : ∀ i b, OwnAt (.own (some a) ps :: (vals ds ++ anys (N.length - (ds.length + 1)))) (L2.start N (.ref a :: vs)) i b → i = 0 ∧ b = a := fun i b w => by
    cases i with
    | zero =>
      obtain ⟨_, e2⟩ := w
      cases e2
      exact ⟨rfl, rfl⟩
    | succ i =>
      obtain ⟨⟨s, e1, o⟩, _⟩ := w
      rw [List.getElem?_cons_succ] at e1
      rw [vals_no i s e1] at o
      cases o
  refine ⟨Step.refl e, ?_, fun i b w => .inl (only i b w).2, fun i j b w w' => by rw [(only i b w).1, (only j b w').1], trivial⟩
  have ee : start N (.ref a :: vs) = some (.ref a) :: (vs.map some ++ List.replicate (N.length - (ds.length + 1)) none) := by
    unfold L2.start
    rw [r.len] <;> rfl
  rw [ee]
  exact .cons ⟨a, rfl, n, fun b z => Option.some.inj z, us, h, rp⟩ ((al_vals r).app (al_anys _))
/-- an __init__ -/
theorem start_I {F H : Hp} {x dx C : Addr} {ds : List Dv} {vs : List V} {N : List Str} (e : Ex F H) (n : F x = none) (hd : F dx = some (.own x)) (h : H x = some (.ins C dx [])) (r : Reps F ds vs) :
    Holds ⟨fun b => b = x, F, H, fun _ => True, fun _ h => h⟩ (.obj (some x) C [] :: (vals ds ++ anys (N.length - (ds.length + 1)))) F (L2.start N (.ref x :: vs)) H := by
  have only : ∀ i b, OwnAt (.obj (some x) C [] :: (vals ds ++ anys (N.length - (ds.length + 1)))) (L2.start N (.ref x :: vs)) i b → i = 0 ∧ b = x := fun i b w => by
    cases i with
    | zero =>
      obtain ⟨_, e2⟩ := w
      cases e2
      exact ⟨rfl, rfl⟩
    | succ i =>
      obtain ⟨⟨s, e1, o⟩, _⟩ := w
      rw [List.getElem?_cons_succ] at e1
      rw [vals_no i s e1] at o
      cases o
  refine ⟨Step.refl e, ?_, fun i b w => .inl (only i b w).2, fun i j b w w' => by rw [(only i b w).1, (only j b w').1], trivial⟩
  have ee : start N (.ref x :: vs) = some (.ref x) :: (vs.map some ++ List.replicate (N.length - (ds.length + 1)) none) := by
    unfold L2.start
    rw [r.len] <;> rfl
  rw [ee]
  exact .cons ⟨x, rfl, n, fun b z => Option.some.inj z, dx, [], hd, h, .nil⟩ ((al_vals r).app (al_anys _))
/-- the bodies, from the data -/
theorem body_P {S : List Dv → Dv → Prop} {R : List Dv → Value → Prop} {t : TS} {N : List Str} {vs : List V} {H : Hp} {Q : VK} {E : XK} (h : spP S R vs H Q E)
    (k : ∀ F ds, ds.length = vs.length → ((∃ r, S ds r ∧ ∀ v F' H', Step NoO F H F' H' → r.rep F' v → Q v H') ∨ (∃ c, R ds c ∧ ∀ F' H', Step NoO F H F' H' → E c none H')) →
      OK ⟨NoO, F, H, fun _ => True, fun _ h => h⟩ (vals ds ++ anys (N.length - ds.length)) (t { nx := fun _ H' => Q .non H', rt := Q })) : t { nx := fun _ H' => Q .non H', rt := Q } (L2.start N vs) H := by
  obtain ⟨F, ds, e, r, h⟩ := h
  exact k F ds r.len h F _ H (start_P e r)
theorem body_N {S : List Dv → List Dv → Prop} {t : TS} {N : List Str} {vs : List V} {H : Hp} {Q : VK} {E : XK} (h : spN S vs H Q E)
    (k : ∀ F ds r, ds.length = vs.length → S ds r → (∀ p us F' H', Step NoO F H F' H' → H p = none → F' p = none → H' p = some (.lst us) → Reps F' r us → Q (.ref p) H') →
      OK ⟨NoO, F, H, fun _ => True, fun _ h => h⟩ (vals ds ++ anys (N.length - ds.length)) (t { nx := fun _ H' => Q .non H', rt := Q })) : t { nx := fun _ H' => Q .non H', rt := Q } (L2.start N vs) H := by
  obtain ⟨F, ds, e, r, r', h, q⟩ := h
  exact k F ds r' r.len h q F _ H (start_P e r)
theorem body_M {S : List Dv → List Dv → List Dv → Dv → Prop} {t : TS} {N : List Str} {vs : List V} {H : Hp} {Q : VK} {E : XK} (h : spM S vs H Q E)
    (k : ∀ F a ps ds ps' r, ds.length + 1 = vs.length → S ps ds ps' r → (∀ v F' H' us', Step (fun b => b = a) F H F' H' → F' a = none → H' a = some (.lst us') → Reps F' ps' us' → r.rep F' v → Q v H') →
      OK ⟨fun b => b = a, F, H, fun _ => True, fun _ h => h⟩ (.own (some a) ps :: (vals ds ++ anys (N.length - (ds.length + 1)))) (t { nx := fun _ H' => Q .non H', rt := Q })) : t { nx := fun _ H' => Q .non H', rt := Q } (L2.start N vs) H := by
  obtain ⟨F, a, us, args, ps, ds, rfl, e, n, hu, rp, r, ps', r', h, q⟩ := h
  exact k F a ps ds ps' r' (by rw [List.length_cons, r.len]) h q F _ H (start_M e n hu rp r)
theorem body_I {C : Addr} {S : List Dv → List (Str × Dv) → Prop} {R : List Dv → Value → Prop} {t : TS} {N : List Str} {vs : List V} {H : Hp} {Q : VK} {E : XK} (h : spI C S R vs H Q E)
    (k : ∀ F x ds, ds.length + 1 = vs.length → ((∃ fs, S ds fs ∧ ∀ F' H' dx' us, Step (fun b => b = x) F H F' H' → F' x = none → F' dx' = some (.own x) → H' x = some (.ins C dx' us) → RepF F' fs us → Q .non H') ∨ (∃ c, R ds c ∧ ∀ F' H', Step (fun b => b = x) F H F' H' → E c none H')) →
      OK ⟨fun b => b = x, F, H, fun _ => True, fun _ h => h⟩ (.obj (some x) C [] :: (vals ds ++ anys (N.length - (ds.length + 1)))) (t { nx := fun _ H' => Q .non H', rt := Q })) : t { nx := fun _ H' => Q .non H', rt := Q } (L2.start N vs) H := by
  obtain ⟨F, x, dx, args, ds, rfl, e, n, hd, hx, r, h⟩ := h
  exact k F x ds (by rw [List.length_cons, r.len]) h F _ H (start_I e n hd hx r)
/-! ### defs at addresses, own exceptions, __init__ with defaults -/
def FnAt (W : Wd) (f : Addr) (k : Nat) (ps : List Str) (sp : Sp) : Prop := ∃ fd, FnOk W.P W.w W.K W.mg W.base (L2.CX W.P W.w) k f fd ps sp ∧ Binds W.K fd ps []
structure ExcOk (W : Wd) (nm : Str) (C : Addr) : Prop where
  g : W.mg nm = some (.ref C)
  x : PySem.W.excIn W.K C [.type "ValueError", .type "Exception", .type "BaseException", .type "object"] "ValueError.__new__" = true
  k : PySem.W.keepIn W.K (.ref C) = true
  b : PySem.W.subIn W.K (.ref C) (.type "BaseException") = some true
  t : PySem.W.typeIn W.K (.ref C) = some (.type "type")
/-- C(..): __init__ keeps sp; nd written values, the others by default -/
def InitOk (W : Wd) (C : Addr) (k : Nat) (ps : List Str) (sp : Sp) : Prop := ∃ f fd, FnOk W.P W.w W.K W.mg W.base (L2.CX W.P W.w) k f fd ps sp ∧ Mk W.K C f ∧ Binds W.K fd ps []
def InitOkD (W : Wd) (C : Addr) (k : Nat) (ps : List Str) (sp : Sp) (dvs : List V) : Prop := ∃ f fd ds, FnOk W.P W.w W.K W.mg W.base (L2.CX W.P W.w) k f fd ps sp ∧ Mk W.K C f ∧ Binds W.K fd ps [] ∧ Binds W.K fd ps ds ∧ Vals dvs ds
section
variable {W : Wd} {x qual : Str} {params : Arguments} {body : List Stmt} {scope : Scope} {dvs : List V} {kws : List (Str × V)} {f : Addr} {fd : FuncData} {N ps : List Str} {k : Nat} {sp : Sp}
theorem fnAt_of (F : FunD W.K x qual params body scope [] [] f fd) (S : FnScope N ps scope) (len : ∀ vs H Q E, sp vs H Q E → vs.length = ps.length)
    (hbind : ∀ (kV doc pm : Value) (an : Option Addr) (cdv ct : Value) (us : List Value), us.length = ps.length → bindArgs (PySem.W.fnOf x qual params body scope .none kV doc pm an cdv ct) ⟨us, []⟩ = pure (ps.zip us))
    (hbody : ∀ (cv : Value) (B : Around) (up : List Env) (s : Shared) (H : Hp) (vs : List V) (Q : VK) (E : XK), Room k (B.deeper (envOfC qual scope s.heap.objs.size f cv)) → sp vs H Q E →
      ∃ t, PSs (cxOf (L2.CX W.P W.w) W.P W.w W.K W.mg W.base N qual scope f cv B up s H E) body t ∧ t { nx := fun _ H' => Q .non H', rt := Q } (start N vs) H) : FnAt W f (k + 1) ps sp :=
  ⟨fd, F.ok S len hbody, F.bindsN hbind⟩
theorem initOk_of {C : Addr} (F : FunD W.K x qual params body scope [] [] f fd) (g : Mk W.K C f) (S : FnScope N ps scope) (len : ∀ vs H Q E, sp vs H Q E → vs.length = ps.length)
    (hbind : ∀ (kV doc pm : Value) (an : Option Addr) (cdv ct : Value) (us : List Value), us.length = ps.length → bindArgs (PySem.W.fnOf x qual params body scope .none kV doc pm an cdv ct) ⟨us, []⟩ = pure (ps.zip us))
    (hbody : ∀ (cv : Value) (B : Around) (up : List Env) (s : Shared) (H : Hp) (vs : List V) (Q : VK) (E : XK), Room k (B.deeper (envOfC qual scope s.heap.objs.size f cv)) → sp vs H Q E →
      ∃ t, PSs (cxOf (L2.CX W.P W.w) W.P W.w W.K W.mg W.base N qual scope f cv B up s H E) body t ∧ t { nx := fun _ H' => Q .non H', rt := Q } (start N vs) H) : InitOk W C (k + 1) ps sp :=
  ⟨f, fd, F.ok S len hbody, g, F.bindsN hbind⟩
/-- one default -/
theorem initOkD_of {C : Addr} {d : V} (F : FunD W.K x qual params body scope [d] [] f fd) (g : Mk W.K C f) (S : FnScope N ps scope) (len : ∀ vs H Q E, sp vs H Q E → vs.length = ps.length)
    (hp : 1 ≤ ps.length)
    (hbind : ∀ (T : Addr) (kV doc pm : Value) (an : Option Addr) (cdv ct : Value) (us its : List Value), us.length = ps.length → its.length = 1 →
      ∃ k, bindArgs (PySem.W.fnOf x qual params body scope (.ref T) kV doc pm an cdv ct) ⟨us, []⟩ = seqItems? (.ref T) >>= k ∧ k (some its.toArray) = pure (ps.zip (us ++ its.drop 1)))
    (hbind2 : ∀ (T : Addr) (kV doc pm : Value) (an : Option Addr) (cdv ct : Value) (us its : List Value), us.length = ps.length - 1 → its.length = 1 →
      ∃ k, bindArgs (PySem.W.fnOf x qual params body scope (.ref T) kV doc pm an cdv ct) ⟨us, []⟩ = seqItems? (.ref T) >>= k ∧ k (some its.toArray) = pure (ps.zip (us ++ its.drop 0)))
    (hbody : ∀ (cv : Value) (B : Around) (up : List Env) (s : Shared) (H : Hp) (vs : List V) (Q : VK) (E : XK), Room k (B.deeper (envOfC qual scope s.heap.objs.size f cv)) → sp vs H Q E →
      ∃ t, PSs (cxOf (L2.CX W.P W.w) W.P W.w W.K W.mg W.base N qual scope f cv B up s H E) body t ∧ t { nx := fun _ H' => Q .non H', rt := Q } (start N vs) H) : InitOkD W C (k + 1) ps sp [d] := by
  obtain ⟨ds, v1, b1⟩ := F.binds1 ps.length 1 (by simp) (by simp) hbind
  obtain ⟨ds2, v2, b2⟩ := F.binds1 (ps.length - 1) 0 (by simp) (by simp; omega) hbind2
  have e : ds = [] := by
    cases v1
    rfl
  rw [e] at b1
  exact ⟨f, fd, ds2, F.ok S len hbody, g, b1, b2, v2⟩
end
end DL

set_option maxRecDepth 100000
/-! Cl: instances of an own class with two ints, its operators, isinstance, exceptions, try. -/
namespace DL
open PySem L2 Evl
structure Rt where
  top : Int
  bot : Int
  deriving DecidableEq
/-- what the class says about its instances -/
structure RatW (K : PySem.W.Frag) (C : Addr) : Prop where
  cls : Cls K C
  nt : NoAttr K C "top"
  nb : NoAttr K C "bottom"
  ha : PySem.W.findIn K (Value.ref C) "__class__" = some (some (Value.builtin "object.__class__"))
  hn : PySem.W.specialIn K (Value.builtin "object.__class__") "__get__" = some (some (Value.builtin "getset_descriptor.__get__"))
  htk : PySem.W.takesIn K (Value.builtin "object.__class__") = some true
  hm : PySem.W.mroIn K C (Value.type "object") = some true
  ni : PySem.W.kitOne K (.type "int") (.ref C) = some false
def ratF (q : Rt) : List (Str × V) := [("top", .int q.top), ("bottom", .int q.bot)]
def tRat (C : Addr) : Ty Rt := ⟨fun F v q => ∃ a dx, v = .ref a ∧ F a = some (.ins C dx (ratF q)), fun e ⟨a, dx, h1, h2⟩ => ⟨a, dx, h1, e _ _ h2⟩⟩
section
variable {K : PySem.W.Frag} {C : Addr} {p q : Rt} {i : Int}
theorem fld_top (R : RatW K C) : FldOf K (tRat C) q "top" tInt q.top := fun F v ⟨a, dx, h1, h2⟩ => ⟨a, C, dx, _, _, h1, h2, R.cls, R.nt, by
  show List.lookup _ [(("top" : Str), V.int q.top), (("bottom" : Str), V.int q.bot)] = _
  rw [List.lookup_cons]
  have e1 : ((("top" : Str)) == ("top" : Str)) = true := by decide +kernel
  rw [e1], rfl⟩
theorem fld_bot (R : RatW K C) : FldOf K (tRat C) q "bottom" tInt q.bot := fun F v ⟨a, dx, h1, h2⟩ => ⟨a, C, dx, _, _, h1, h2, R.cls, R.nb, by
  show List.lookup _ [(("top" : Str), V.int q.top), (("bottom" : Str), V.int q.bot)] = _
  rw [List.lookup_cons, List.lookup_cons]
  have e1 : ((("bottom" : Str)) == ("top" : Str)) = false := by decide +kernel
  have e2 : ((("bottom" : Str)) == ("bottom" : Str)) = true := by decide +kernel
  rw [e1, e2], rfl⟩
theorem ins_rat {m : Str} (h1 : (m == ("top" : Str)) = false := by decide +kernel) (h2 : (m == ("bottom" : Str)) = false := by decide +kernel) : InsOf (tRat C) q C m := fun F v ⟨a, dx, e1, e2⟩ => ⟨a, dx, _, e1, e2, by
  show List.lookup _ [(("top" : Str), V.int q.top), (("bottom" : Str), V.int q.bot)] = _
  rw [List.lookup_cons, List.lookup_cons, h1, h2]
  rfl⟩
theorem mk_rat : MkOf C [("top", ⟨tInt, q.top⟩), ("bottom", ⟨tInt, q.bot⟩)] (tRat C) q := fun F a dx us h1 h2 h3 => by
  cases h3 with
  | cons r h3 => cases h3 with
    | cons r2 h3 =>
      cases h3
      obtain ⟨r, ra⟩ := r
      obtain ⟨r2, rb⟩ := r2
      refine ⟨a, dx, rfl, ?_⟩
      rename_i b b'
      obtain ⟨b1, b2⟩ := b
      obtain ⟨c1, c2⟩ := b'
      simp only at r r2 ra rb
      subst r r2
      cases ra
      cases rb
      exact h1
end
section
variable {α β γ : Type} {t : Ty α} {u : Ty β} {w : Ty γ} {x : α} {y : β} {z : γ} {Γ Γ' Γ1 Γ2 Γ3 : List Slot} {ta tb tc te : TE} {r : R2} {ds es : List Dv} {K : PySem.W.Frag} {C : Addr} {p q : Rt} {i : Int} {E : XK}
/-! ### operators -/
theorem op2_own {S : List Dv → Dv → Prop} {R : List Dv → Value → Prop} (h : S [⟨tRat C, p⟩, ⟨tRat C, q⟩] ⟨w, z⟩) : Op2 (rOwn2 C (spP S R) E) (tRat C) p (tRat C) q w z := fun F H v1 v2 e r1 r2 Q k => by
  obtain ⟨a, dx, rfl, h1⟩ := r1
  obtain ⟨b, dy, rfl, h2⟩ := r2
  exact ⟨a, b, dx, dy, _, _, rfl, rfl, e _ _ h1, e _ _ h2, spP_v h F H _ e (.cons ⟨a, dx, rfl, h1⟩ (.cons ⟨b, dy, rfl, h2⟩ .nil)) Q E k⟩
theorem op2_ownI {S : List Dv → Dv → Prop} {R : List Dv → Value → Prop} (h : S [⟨tRat C, p⟩, ⟨tInt, i⟩] ⟨w, z⟩) : Op2 (rOwnI C (spP S R) E) (tRat C) p tInt i w z := fun F H v1 v2 e r1 r2 Q k => by
  obtain ⟨a, dx, rfl, h1⟩ := r1
  cases r2
  exact ⟨a, dx, _, i, rfl, rfl, e _ _ h1, spP_v h F H _ e (.cons ⟨a, dx, rfl, h1⟩ (.cons rfl .nil)) Q E k⟩
theorem op2_ownR {S : List Dv → Dv → Prop} {R : List Dv → Value → Prop} (h : S [⟨tRat C, p⟩, ⟨tInt, i⟩] ⟨w, z⟩) : Op2 (rOwnR C (spP S R) E) tInt i (tRat C) p w z := fun F H v1 v2 e r1 r2 Q k => by
  obtain ⟨a, dx, rfl, h1⟩ := r2
  cases r1
  exact ⟨a, dx, _, i, rfl, rfl, e _ _ h1, spP_v h F H _ e (.cons ⟨a, dx, rfl, h1⟩ (.cons rfl .nil)) Q E k⟩
theorem op1_own {S : List Dv → Dv → Prop} {R : List Dv → Value → Prop} (h : S [⟨tRat C, p⟩] ⟨w, z⟩) : Op1 (rOwn1 C (spP S R) E) (tRat C) p w z := fun F H v1 e r1 Q k => by
  obtain ⟨a, dx, rfl, h1⟩ := r1
  exact ⟨a, dx, _, rfl, e _ _ h1, spP_v h F H _ e (.cons ⟨a, dx, rfl, h1⟩ .nil) Q E k⟩
theorem on_own1 {S : List Dv → Dv → Prop} {R : List Dv → Value → Prop} (h : S [⟨tRat C, p⟩] ⟨w, z⟩) : OpN (fun xs H Q => ∃ x, xs = [x] ∧ rOwn1 C (spP S R) E x H Q) [⟨tRat C, p⟩] w z := fun F H vs e r1 Q k => by
  cases r1 with
  | cons r r' =>
    cases r'
    exact ⟨_, rfl, op1_own h F H _ e r Q k⟩
theorem op2_eq {S : List Dv → Dv → Prop} {R : List Dv → Value → Prop} (h : S [⟨tRat C, p⟩, ⟨tRat C, q⟩] ⟨w, z⟩) : Op2 (rOwnEq C (spP S R) E) (tRat C) p (tRat C) q w z := fun F H v1 v2 e r1 r2 Q k => by
  obtain ⟨a, dx, rfl, h1⟩ := r1
  obtain ⟨b, dy, rfl, h2⟩ := r2
  exact ⟨a, dx, _, rfl, e _ _ h1, .inl ⟨b, dy, _, rfl, e _ _ h2⟩, spP_v h F H _ e (.cons ⟨a, dx, rfl, h1⟩ (.cons ⟨b, dy, rfl, h2⟩ .nil)) Q E k⟩
theorem op2_eqI {S : List Dv → Dv → Prop} {R : List Dv → Value → Prop} (h : S [⟨tRat C, p⟩, ⟨tInt, i⟩] ⟨w, z⟩) : Op2 (rOwnEq C (spP S R) E) (tRat C) p tInt i w z := fun F H v1 v2 e r1 r2 Q k => by
  obtain ⟨a, dx, rfl, h1⟩ := r1
  cases r2
  exact ⟨a, dx, _, rfl, e _ _ h1, .inr ⟨i, rfl⟩, spP_v h F H _ e (.cons ⟨a, dx, rfl, h1⟩ (.cons rfl .nil)) Q E k⟩
theorem on_ownB {S : List Dv → Dv → Prop} {R : List Dv → Value → Prop} {b : Bool} (h : S [⟨tRat C, p⟩] ⟨tBool, b⟩) : OpN (fun xs H Q => ∃ x, xs = [x] ∧ rOwnB C (spP S R) E x H fun b H' => Q (.bl b) H') [⟨tRat C, p⟩] tBool b := fun F H vs e r1 Q k => by
  cases r1 with
  | cons r r' =>
    cases r'
    obtain ⟨a, dx, rfl, h1⟩ := r
    refine ⟨_, rfl, a, dx, _, rfl, e _ _ h1, spP_v h F H _ e (.cons ⟨a, dx, rfl, h1⟩ .nil) _ E fun v F' H' st rv => ⟨b, rv, k _ F' H' st rfl⟩⟩
theorem on_gcd {i j : Int} : OpN rGcd [⟨tInt, i⟩, ⟨tInt, j⟩] tInt ((Nat.gcd i.natAbs j.natAbs : Nat) : Int) := fun F H vs e r Q k => by
  cases r with
  | cons r r' => cases r' with
    | cons r2 r' =>
      cases r'
      cases r
      cases r2
      exact ⟨_, _, rfl, k _ F H (Step.refl e) rfl⟩
theorem den_tup2 (h : Den ta Γ t x Γ1) (h2 : Den tb Γ1 u y Γ2) : Den (tTup (tCons ta (tCons tb tNil))) Γ (tPair t u) (x, y) Γ2 := den_as (den_row (da_cons h (da_cons h2 da_nil)) (by show 2 ≤ 100000; decide)) row_pair
/-! ### isinstance -/
def IsTy (K : PySem.W.Frag) (t : Ty α) (x : α) (τ : Value) : Prop := ∀ F H v, Ex F H → t.rep F v x → TyX K H v τ
theorem ty_int : IsTy K tInt i (.type "int") := fun F H v e r => by cases r; exact .base (.int _)
theorem ty_bool {b : Bool} : IsTy K tBool b (.type "bool") := fun F H v e r => by cases r; exact .base (.bl _)
theorem ty_rat (R : RatW K C) : IsTy K (tRat C) q (.ref C) := fun F H v e r => by
  obtain ⟨a, dx, rfl, h1⟩ := r
  exact .base (.ins (e _ _ h1) R.cls R.ha R.hn R.htk R.hm)
theorem den_isi {c : V} {cv τ : Value} {b : Bool} (ha : Den ta Γ t x Γ1) (k : ClsV c cv) (T : IsTy K t x τ) (e : PySem.W.kitOne K τ cv = some b) : Den (tCB (rIsi K) (tCons ta (tCons (tC c) tNil))) Γ tBool b Γ1 := fun Z F σ H hh Q q =>
  ha Z F σ H hh _ fun v F1 H1 h1 p r => ⟨v, c, τ, cv, b, rfl, k, T F1 H1 v h1.fh r, e, q _ F1 H1 h1 p rfl⟩
theorem kit_self {τ : Value} (h : (τ == τ) = true := by simp) : PySem.W.kitOne K τ τ = some true := by
  unfold PySem.W.kitOne
  rw [if_pos h]
theorem den_isE {D a : Addr} {c : V} {cv : Value} {b : Bool} {j : Nat} (e1 : Γ[j]? = some (.val ⟨tRaw, .ref a⟩)) (k : ClsV c cv) (e : PySem.W.kitOne K (.ref D) cv = some b) : Den (tCB (rIsE K D a) (tCons (tVar j) (tCons (tC c) tNil))) Γ tBool b Γ := fun Z F σ H hh Q q => by
  obtain ⟨v, h1, h2⟩ := hh.val e1
  cases h2
  exact ⟨_, h1, c, cv, b, rfl, fun u r => k.eq r, e, q _ F H hh Pres.refl rfl⟩
/-! ### lists of truths, compared -/
theorem dp_bools {H F : Hp} : ∀ {xs : List Bool} {vs : List V}, Al (fun x v => tBool.rep F v x) xs vs → DpAll K H vs (xs.map PyData.bool)
  | _, _, .nil => .nil
  | _, _, .cons r h => by
    cases r
    exact .cons (.bl _) (dp_bools h)
theorem den_eqBL {xs ys : List Bool} {j : Nat} {b : Bool} (e : Γ[j]? = some (.lst tBool xs)) (hb : DenL tb Γ tBool ys Γ2) (e2 : Γ2[j]? = some (.lst tBool xs)) (s1 : SeqAt.shaped (.list (xs.map PyData.bool)) = true) (s2 : SeqAt.shaped (.list (ys.map PyData.bool)) = true)
    (hv : PyData.eqv (.list (xs.map PyData.bool)) (.list (ys.map PyData.bool)) = b) : Den (tOp (rEqD K) (tVar j) tb) Γ tBool b Γ2 := fun Z F σ H hh Q q => by
  obtain ⟨a, h1, _, _⟩ := hh.owned e rfl
  refine ⟨_, h1, hb Z F σ H hh _ fun c vs F' H' h' p r1 r2 => ?_⟩
  obtain ⟨a', h1', ⟨_, us, hu, ru⟩, _⟩ := h'.owned e2 rfl
  rw [h1] at h1'
  cases h1'
  refine ⟨_, _, .lst (sq_of hu) (dp_bools ru), .lst (sq_of r1) (dp_bools r2), s1, s2, ?_⟩
  rw [hv]
  exact q _ F' H' h' p rfl
end
section
variable {Z : En} {Γ Γ' Γ1 Γ2 : List Slot} {F H : Hp} {σ : L2.St} {i : Nat} {D : Ends} {te : TE}
theorem Holds.drop (h : Holds Z Γ F σ H) (i : Nat) : Holds Z (Γ.set i .any) F (σ.set i none) H := by
  refine ⟨h.st, h.sl.set trivial i, fun j a w => ?_, fun j k a w w' => ?_, h.pp⟩
  · rcases ownAt_set w h.len with ⟨_, q, _⟩ | ⟨_, w⟩
    · cases q
    · exact h.ow j a w
  · rcases ownAt_set w h.len with ⟨_, q, _⟩ | ⟨_, w⟩
    · cases q
    · rcases ownAt_set w' h.len with ⟨_, q, _⟩ | ⟨_, w'⟩
      · cases q
      · exact h.di j k a w w'
theorem s_back {P : L2.St → Hp → Prop} (h : OK Z (Γ.set i .any) P) : OK Z Γ (fun σ H => P (σ.set i none) H) := fun F σ H hh => h F _ H (hh.drop i)
/-! ### raising, catching -/
theorem s_raise {P : L2.St → Hp → Prop} {O : Addr → Prop} {F0 H0 : Hp} {E : XK} {c : Value} (hZ : Z.F = F0 ∧ Z.H = H0 ∧ Z.O = O) (q : ∀ F' H', Step O F0 H0 F' H' → E c none H') (hP : ∀ σ H, E c none H → P σ H) : OK Z Γ P := fun F σ H hh => by
  obtain ⟨z1, z2, z3⟩ := hZ
  refine hP σ H (q F H ?_)
  rw [← z1, ← z2, ← z3]
  exact hh.st
def BotS (te : TE) (Γ Γ' : List Slot) (E : L2.St → XK) (c : Value) : Prop := ∀ (Z : En) F σ H, Holds Z Γ F σ H → (∀ F' H', Holds Z Γ' F' σ H' → E σ c none H') → ∀ Q : VK, te σ H Q
theorem s_botS {E : L2.St → XK} {c : Value} (h : BotS te Γ Γ1 E c) (e : OK Z Γ1 fun σ H => E σ c none H) : OK Z Γ (tDrop te D) := fun F σ H hh => h Z F σ H hh (fun F' H' h' => e F' σ H' h') _
theorem s_caught {K : PySem.W.Frag} {c cls : Value} {d : Option Addr} {ts : Addr → Value → Option Addr → TS} {Wout : WX} (hb : PySem.W.exmOne K cls c = some true)
    (h : ∀ a, OK Z (Γ.set i (.val ⟨tRaw, .ref a⟩)) (ts a cls d { nx := fun σ' H' => D.nx (σ'.set i none) H', rt := D.rt, bk := fun σ' H' => D.bk (σ'.set i none) H', ct := fun σ' H' => D.ct (σ'.set i none) H' })) :
    OK Z Γ (fun σ H => wAs K c i ts Wout D cls d σ H) := fun F σ H hh => ⟨true, hb, fun _ a _ => h a F _ H (hh.set (d := ⟨tRaw, .ref a⟩) i rfl), fun e => nomatch e⟩
theorem s_prop {P : Prop} {t : L2.St → Hp → Prop} (p : P) (h : OK Z Γ t) : OK Z Γ (fun σ H => P ∧ t σ H) := fun F σ H hh => ⟨p, h F σ H hh⟩
/-- what is never reached -/
theorem ps_dead {X : Cx} {st : Stmt} : PS X st (fun _ _ _ => False) := ⟨fun _ _ _ _ _ _ h => h.elim⟩
theorem zc_of {cls D : Value} {d : Option Addr} {oe : Obj} (h : cls = D ∧ d = none) (z : Zc cls d oe) : Zc D none oe := by
  obtain ⟨rfl, rfl⟩ := h
  exact z
theorem pss_if {X : Cx} {st : List Stmt} {P : Prop} {t : TS} (h : P → PSs X st t) : PSs X st (fun D σ H => P ∧ t D σ H) := ⟨fun pins s σ H D I ⟨p, q⟩ => (h p).run pins s σ H D I q⟩
end
end DL
namespace L2
open PySem PySem.Spec PyProof.Rows
section
variable {X : Cx} {CX : CXT} {k : Nat} {f C : Addr} {fd : FuncData} {ps : List Str} {sp : Sp} {E : St → XK} {x m : Str} {p pos apos : Pos} {e o : Expr} {es : List Expr} {ta : TE} {t : TA} {ds : List Value} {dvs : List V}
def tMakeAt (C : Addr) (sp : Sp) (dvs : List V) (E : St → XK) (t : TA) : TE := fun σ H Q => tMake C sp dvs (E σ) t σ H Q
def tMethAt (C : Addr) (m : Str) (sp : Sp) (dvs : List V) (E : St → XK) (ta : TE) (t : TA) : TE := fun σ H Q => tMeth C m sp dvs (E σ) ta t σ H Q
theorem run_makeAt {pins : List (Addr × Obj)} {σ : St} {H : Hp} {s : Shared} {Q : VK} {us : List Value} {vs : List V} (M : Mk X.K C f) (F : FnOk X.prog X.w X.K X.mg X.base CX k f fd ps sp) (hr : Room (k + 1) X.A) (hb : Binds X.K fd ps ds) (hd : Vals dvs ds)
    (hx : PassesAt CX X σ (E σ)) (I : Inv X pins σ H s) (r : Vals vs us)
    (h : ∀ x dx, H x = none → H dx = none → dx ≠ x → sp (.ref x :: (vs ++ dvs)) (upd (upd H dx (.own x)) x (.ins C dx [])) (fun v H2 => v = .non ∧ Q (.ref x) H2) (E σ)) :
    wpAny (model X.prog X.w) X.A (PySem.call (Value.ref C) us) (EP X pins σ Q) X.xe s := by
  have want := h (s.heap.objs.size + 1) s.heap.objs.size (I.hok.fresh (by omega)) (I.hok.fresh (by omega)) (Nat.succ_ne_self _).symm
  have made := Inv.made (C := C) I
  have pairs : Vals (V.ref (s.heap.objs.size + 1) :: (vs ++ dvs)) (Value.ref (s.heap.objs.size + 1) :: (us ++ ds)) := .cons rfl (r.append hd)
  have many : (Value.ref (s.heap.objs.size + 1) :: us ++ ds).length = ps.length := pairs.length.symm.trans (F.len _ _ _ _ want)
  have bound := hb _ (Value.ref (s.heap.objs.size + 1) :: us) made.kIn many
  have inside := F.run _ X.stack _ _ ⟨Value.ref (s.heap.objs.size + 1) :: us, []⟩ _ _ _ (E σ) (hr.make C us []) (made.env0.make C us []) bound pairs want
  refine wpAny_call (make_map (f := f) I.kIn M.makes M.init (beq_iff_eq.mp M.fn) (codeAny_mono inside fun res t z => ?_))
  match res, z with
  | .error u, z => exact hx pins _ _ u t made z
  | .ok (.ret u), z =>
    obtain ⟨v, H2, J, rv, e, k⟩ := made.after z
    subst e
    exact ⟨rv, V.ref (s.heap.objs.size + 1), H2, J, rfl, k⟩
  | .ok .next, z => exact absurd z id
  | .ok .brk, z => exact absurd z id
  | .ok .cont, z => exact absurd z id
theorem pe_makeAt (M : Mk X.K C f) (F : FnOk X.prog X.w X.K X.mg X.base CX k f fd ps sp) (hr : Room (k + 1) X.A) (hg : Gl X x) (hm : X.mg x = some (.ref C)) (hb : Binds X.K fd ps ds) (hd : Vals dvs ds) (hx : ∀ σ, PassesAt CX X σ (E σ))
    (ha : PA X (e :: es) t)
    (hdb : (x == ("__debug__" : Str)) = false := by decide)
    (he : starEach (e :: es) X.env = (false, eval e X.env) :: starEach es X.env := by rfl)
    (hpl : (backTo pos (starEach es X.env)).any (·.1) = false := by rfl) :
    PE X (.Call (.Name x p) (e :: es) [] pos) (tMakeAt C sp dvs E t) := by
  constructor
  intro pins s σ H Q I h
  have args := ha.run pos pins s σ H _ I h
  exact wpAny_Call_Name_kw (ld_glob I hg hm (PySem.W.callWith_K (h₀ := X.base) I.ok.mod.kin M.kp (thn args fun _ _ ⟨_, _, J, r, q⟩ => ⟨J.kIn, run_makeAt M F hr hb hd (hx σ) J r q⟩) he hpl) hdb)
theorem pe_methAt {pl : Sem Bool} (he : PE X o ta) (c : Cls X.K C) (hm : Meth X.K C m f) (F : FnOk X.prog X.w X.K X.mg X.base CX k f fd ps sp) (hr : Room k X.A) (hb : Binds X.K fd ps []) (hx : ∀ σ, PassesAt CX X σ (E σ)) (ha : PA X (e :: es) t)
    (hst : starEach (e :: es) X.env = (false, eval e X.env) :: starEach es X.env := by rfl) (hpl : (backTo pos (starEach es X.env)).any (·.1) = false := by rfl)
    (ht : eval (.Call (.Attribute o m apos) (e :: es) [] pos) X.env = (do
      let ov ← eval o X.env
      standAt apos.atName
      let (f, first) ← holding [ov] (getMethod ov m pl)
      callWith pos f first (backTo pos (starEach (e :: es) X.env)) (backToKw pos (keywordEach [] X.env))) := by rfl) :
    PE X (.Call (.Attribute o m apos) (e :: es) [] pos) (tMethAt C m sp [] E ta t) := by
  refine ⟨fun pins s σ H Q I h => ?_⟩
  refine PySem.W.methodCall_KW (pl := pl) (thn (he.run pins s σ H _ I h) fun u s1 ⟨x, H1, I1, rx, a, dx, fs, ex, ea, l, q⟩ => ?_) ht
  subst ex
  obtain rfl : u = Value.ref a := rx
  refine getmeth_ok I1 ea c hm l ?_
  refine PySem.W.callWith_K (first := [.ref a]) (h₀ := X.base) I.ok.mod.kin hm.kp (thn (ha.run pos pins s1 σ H1 _ I1 q) fun us s2 ⟨vs, H2, I2, r, q2⟩ => ⟨I2.kIn, ?_⟩) hst hpl
  have q3 : sp (V.ref a :: (vs ++ [])) H2 Q (E σ) := q2
  rw [List.append_nil] at q3
  exact run_fnS (us := .ref a :: us) (vs := .ref a :: vs) F hr hb (hx σ) I2 (.cons rfl r) q3
end
end L2
namespace DL
open PySem L2 Evl
section
variable {α β γ : Type} {t : Ty α} {u : Ty β} {w : Ty γ} {x : α} {y : β} {z : γ} {Γ Γ' Γ1 Γ2 Γ3 : List Slot} {ta tb tc te : TE} {ds es : List Dv} {K : PySem.W.Frag} {C : Addr} {E : L2.St → XK} {tr : TA}
theorem den_makeS {S : List Dv → List (Str × Dv) → Prop} {R : List Dv → Value → Prop} {fs : List (Str × Dv)} (h : DenA tr Γ ds Γ1) (hs : S ds fs) (hm : MkOf C fs w z) : Den (tMakeAt C (spI C S R) [] E tr) Γ w z Γ1 := fun Z F σ H hh Q q =>
  den_make0 (E := E σ) h hs hm Z F σ H hh Q q
theorem bots_make {S : List Dv → List (Str × Dv) → Prop} {R : List Dv → Value → Prop} {c : Value} (h : DenA tr Γ ds Γ1) (hs : R ds c) : BotS (tMakeAt C (spI C S R) [] E tr) Γ Γ1 E c := fun Z F σ H hh e Q =>
  bot_make (E := E σ) (es := []) h (fun _ => .nil) (by rw [List.append_nil]; exact hs) Z F σ H hh e Q
theorem bots_meth {sp : Sp} {m : Str} {c : Value} (ha : Den ta Γ t x Γ1) (hi : InsOf t x C m) (h : DenA tr Γ1 ds Γ2) (hs : SpX sp (⟨t, x⟩ :: ds) c) : BotS (tMethAt C m sp [] E ta tr) Γ Γ2 E c := fun Z F σ H hh e Q =>
  bot_meth (E := E σ) ha hi h hs Z F σ H hh e Q
end
end DL

set_option maxRecDepth 100000
/-! Nd: calls that promise some result with a property; ifs that only set a name. -/
namespace DL
open PySem L2 Evl
/-- the first argument is an owned list, which changes; whatever comes back has S -/
def spMA {γ : Type} (Pre : γ → List Dv → List Dv → Prop) (S : γ → List Dv → Dv → Prop) : Sp := fun vs H Q E => ∃ F a us args ps ds, vs = .ref a :: args ∧ Ex F H ∧ F a = none ∧ H a = some (.lst us) ∧ Reps F ps us ∧ Reps F ds args ∧
  ∃ g, Pre g ps ds ∧ ∀ ps' r, S g ps' r → ∀ v F' H' us', Step (fun b => b = a) F H F' H' → F' a = none → H' a = some (.lst us') → Reps F' ps' us' → r.rep F' v → Q v H'
theorem spMA_len {δ : Type} {Pre : δ → List Dv → List Dv → Prop} {S : δ → List Dv → Dv → Prop} {n : Nat} (h1 : ∀ g ps ds, Pre g ps ds → ds.length = n) : ∀ vs H Q E, spMA Pre S vs H Q E → vs.length = n + 1 := fun vs H Q E ⟨F, a, us, args, ps, ds, e, _, _, _, _, r, g, h, _⟩ => by
  rw [e, List.length_cons, ← r.len, h1 _ _ _ h]
theorem body_MA {δ : Type} {Pre : δ → List Dv → List Dv → Prop} {S : δ → List Dv → Dv → Prop} {t : TS} {N : List Str} {vs : List V} {H : Hp} {Q : VK} {E : XK} (h : spMA Pre S vs H Q E)
    (k : ∀ F a ps ds g, ds.length + 1 = vs.length → Pre g ps ds → (∀ ps' r, S g ps' r → ∀ v F' H' us', Step (fun b => b = a) F H F' H' → F' a = none → H' a = some (.lst us') → Reps F' ps' us' → r.rep F' v → Q v H') →
      OK ⟨fun b => b = a, F, H, fun _ => True, fun _ h => h⟩ (.own (some a) ps :: (vals ds ++ anys (N.length - (ds.length + 1)))) (t { nx := fun _ H' => Q .non H', rt := Q })) : t { nx := fun _ H' => Q .non H', rt := Q } (L2.start N vs) H := by
  obtain ⟨F, a, us, args, ps, ds, rfl, e, n, hu, rp, r, g, h, q⟩ := h
  exact k F a ps ds g (by rw [List.length_cons, r.len]) h q F _ H (start_M e n hu rp r)
def DenMA (te : TE) (Γ : List Slot) (X : List Slot → Dv → Prop) : Prop := ∀ (Z : En) F σ H, Holds Z Γ F σ H → ∀ Q : VK, (∀ Γ' r, X Γ' r → ∀ v F' H', Holds Z Γ' F' σ H' → r.rep F' v → Q v H') → te σ H Q
section
variable {α β γ : Type} {t : Ty α} {u : Ty β} {w : Ty γ} {x : α} {y : β} {z : γ} {Z : En} {Γ Γ' Γ1 Γ2 Γ3 : List Slot} {ta tb tc te : TE} {tt uu : TT} {r : R2} {ds es : List Dv} {K : PySem.W.Frag} {D : Ends} {s1 s2 : TS} {i j : Nat}
theorem den_callMA {δ : Type} {Pre : δ → List Dv → List Dv → Prop} {S : δ → List Dv → Dv → Prop} {E : XK} {tr : TA} {i : Nat} {ps : List Dv} {oa : Option Addr} (g : δ) (e : Γ[i]? = some (.own oa ps)) (h : DenA tr Γ ds Γ) (hp : Pre g ps ds) :
    DenMA (tCall (spMA Pre S) [] E (tCons (tVar i) tr)) Γ (fun Γ' r => ∃ ps', S g ps' r ∧ Γ' = Γ.set i (.own oa ps')) := fun Z F σ H hh Q q => by
  obtain ⟨a, h1, _, o1⟩ := hh.owned e rfl
  refine ⟨_, h1, ?_⟩
  refine h Z F σ H hh _ fun vs F1 H1 h2 p1 r1 => ?_
  obtain ⟨a', h1', ⟨n1, ad, us, hu, ru⟩, o2⟩ := h2.owned e rfl
  rw [h1] at h1'
  cases h1'
  rw [List.append_nil]
  refine ⟨F1, a, us, vs, ps, ds, rfl, h2.fh, n1, hu, ru, r1, g, hp, fun ps' r hs v F' H' us' k n' hu' ru' rv => ?_⟩
  have k0 : Step NoO F1 H1 F' (upd H' a (.lst us)) := by
    refine ⟨k.ff, fun b o q => ?_, fun b o q n => ?_⟩
    · have : b ≠ a := fun z => by rw [z, n'] at q; cases q
      rw [upd_ne this]
      exact k.fh b o q
    · obtain ⟨n2, hn2, kk⟩ := k.keep b o q n
      by_cases zz : b = a
      · subst zz
        rw [hu] at q
        cases q
        exact ⟨n2, ⟨_, upd_same⟩, fun _ => upd_same⟩
      · rw [upd_ne zz]
        exact ⟨n2, hn2, fun _ => kk zz⟩
  have h3 := h2.step k0
  have o3 : OwnAt Γ σ i a := o2
  have h4 := h3.mut (s := .own oa ps') (o := .lst us') o3 ⟨n', ad, us', upd_same, ru'⟩
  have ee : upd (upd H' a (.lst us)) a (.lst us') = H' := by
    rw [upd_upd]
    funext b
    unfold upd
    split
    · rename_i zz
      rw [zz, hu']
    · rfl
  rw [ee] at h4
  exact q _ r ⟨ps', hs, rfl⟩ v F' H' h4 rv
theorem s_setA {X : List Slot → Dv → Prop} (h : DenMA te Γ X) (k : ∀ Γ' r, X Γ' r → OK Z (Γ'.set i (.val r)) D.nx) : OK Z Γ (tAsg te (gName i) D) := fun F σ H hh =>
  h Z F σ H hh _ fun Γ' r x v F' H' h' rv => k Γ' r x F' _ H' (h'.set i rv)
theorem s_retA {X : List Slot → Dv → Prop} (h : DenMA te Γ X) (k : ∀ Γ' r, X Γ' r → ∀ F σ H v, Holds Z Γ' F σ H → r.rep F v → D.rt v H) : OK Z Γ (tRet te D) := fun F σ H hh =>
  h Z F σ H hh _ fun Γ' r x v F' H' h' rv => k Γ' r x F' _ H' v h' rv
/-- what an owned-list def gives back, seen from the holding -/
theorem ret_MA {F0 H0 : Hp} {Q : VK} {d : Dv} {a : Addr} {ps' : List Dv} (hZ : Z.F = F0 ∧ Z.H = H0 ∧ Z.O = fun b => b = a)
    (q : ∀ v F' H' us', Step (fun b => b = a) F0 H0 F' H' → F' a = none → H' a = some (.lst us') → Reps F' ps' us' → d.rep F' v → Q v H') (e0 : Γ1[0]? = some (.own (some a) ps')) {F : Hp} {σ : L2.St} {H : Hp} {v : V} (hh : Holds Z Γ1 F σ H) (rv : d.rep F v) : Q v H := by
  obtain ⟨z1, z2, z3⟩ := hZ
  obtain ⟨b, h1, ⟨n1, ad, us, hu, ru⟩, _⟩ := hh.owned e0 rfl
  cases ad a rfl
  refine q v F H us ?_ n1 hu ru rv
  rw [← z1, ← z2, ← z3]
  exact hh.st
/-- if t: x = e -/
theorem s_ifSet {b : Bool} {x' : α} (ht : DenT tt Γ b Γ1) (e0 : Γ1[i]? = some (.val ⟨t, x⟩)) (he : b = true → Den te Γ1 t x' Γ1) (k : ∀ y : α, (b = true ∧ y = x') ∨ (b = false ∧ y = x) → OK Z (Γ1.set i (.val ⟨t, y⟩)) D.nx) : OK Z Γ (tIfS tt (tAsg te (gName i)) tNext D) := by
  refine s_if ht (fun hb => s_set (he hb) (k x' (.inl ⟨hb, rfl⟩))) fun hb => s_nx ?_
  have hs : Γ1.set i (.val ⟨t, x⟩) = Γ1 := by
    apply List.ext_getElem?
    intro j
    by_cases z : i = j
    · subst z
      have lt := (List.getElem?_eq_some_iff.mp e0).1
      rw [List.getElem?_set_self lt, e0]
    · rw [List.getElem?_set_ne z]
  have := k x (.inr ⟨hb, rfl⟩)
  rw [hs] at this
  exact this
theorem wk_set : ∀ {Γ : List Slot} {j : Nat} {s : Slot}, Γ[j]? = some .any → Wk (Γ.set j s) Γ
  | [], _, _, e => by simp at e
  | _ :: r, 0, s, e => by
    simp at e
    subst e
    exact .cons (.inl rfl) (Wk.refl r)
  | a :: r, j + 1, s, e => .cons (.inr rfl) (wk_set (j := j) (by simpa using e))
/-- a loop that keeps all that it finds -/
theorem s_forC {wl : TE} {xs : List α} (h : Den wl Γ (tList t) xs Γ) (hj : Γ[j]? = some .any)
    (hs : ∀ Z' : En, (∀ {Γ F σ H}, Holds Z' Γ F σ H → Holds Z Γ F σ H) → ∀ n x, xs[n]? = some x → OK Z' (Γ.set j (.val ⟨t, x⟩)) (s1 { D with nx := LoopAt Z' (fun _ : Unit => Γ) (fun _ _ => True) (n + 1), ct := LoopAt Z' (fun _ : Unit => Γ) (fun _ _ => True) (n + 1), bk := D.nx }))
    (hd : OK Z Γ D.nx) : OK Z Γ (tFor (iList K wl) (gName j) s1 D) := s_forF () (fun _ => Γ) (fun _ _ => True) h trivial (Wk.refl _) (fun Z' hZ n x _ hx _ => hs Z' hZ n x hx) (fun _ _ => hd)
theorem s_turn {n : Nat} {s : Slot} (hj : Γ[j]? = some .any) : OK Z (Γ.set j s) (LoopAt Z (fun _ : Unit => Γ) (fun _ _ => True) n) := s_next () trivial (wk_set hj)
end
section
open PySem.Spec PyProof.Rows
variable {W : Wd} {x qual : Str} {params : Arguments} {body : List Stmt} {scope : Scope} {f : Addr} {fd : FuncData} {N ps : List Str} {k : Nat} {sp : Sp}
theorem lawFn_of (F : FunD W.K x qual params body scope [] [] f fd) (S : FnScope N ps scope) (len : ∀ vs H Q E, sp vs H Q E → vs.length = ps.length)
    (hbody : ∀ (cv : Value) (B : Around) (up : List Env) (s : Shared) (H : Hp) (vs : List V) (Q : VK) (E : XK), Room k (B.deeper (envOfC qual scope s.heap.objs.size f cv)) → sp vs H Q E →
      ∃ t, PSs (cxOf (L2.CX W.P W.w) W.P W.w W.K W.mg W.base N qual scope f cv B up s H E) body t ∧ t { nx := fun _ H' => Q .non H', rt := Q } (L2.start N vs) H) : FnOk W.P W.w W.K W.mg W.base (L2.CX W.P W.w) (k + 1) f fd ps sp :=
  F.ok S len hbody
end
end DL

set_option maxRecDepth 100000
/-! Tx: static methods, str of an instance, texts over typed data. -/
namespace L2
open PySem PySem.Spec PyProof.Rows
section
variable {X : Cx} {CX : CXT} {k : Nat} {f C p : Addr} {mc : Value} {fd : FuncData} {ps : List Str} {sp : Sp} {E1 : XK} {E : St → XK} {m : Str} {pos apos : Pos} {e o : Expr} {es : List Expr} {ta : TE} {t : TA}
/-- str(x) by the own __str__ -/
def rOwnS (C : Addr) (sp : Sp) (E : XK) : V → Hp → (Str → Hp → Prop) → Prop := fun x H Q => ∃ a dx fs, x = .ref a ∧ H a = some (.ins C dx fs) ∧ sp [x] H (fun v H' => ∃ z, v = .str z ∧ Q z H') E
theorem call_ownStr (O : OwnM X.K C "__str__" f) (F : FnOk X.prog X.w X.K X.mg X.base CX k f fd ps sp) (hb : Binds X.K fd ps []) (hx : Passes CX X E1) (hr : Room (k + 2) X.A) : CallR X (.type "str") (fun xs H Q => ∃ x, xs = [x] ∧ rOwnS C sp E1 x H fun z H' => Q (.str z) H') := by
  rintro pins s σ H xs us Q I rx ⟨x, rfl, a, dx, fs, rfl, ha, h⟩
  obtain rfl := Vals.ref1 rx
  obtain ⟨mm, J, _⟩ := ins_get I.hok ha
  obtain ⟨od, J, _⟩ := J.look
  refine PySem.W.kso_call hr.in1.in1.units0 I.kIn J O.at_ O.fn (thn (run_at hr.in1.in1 rfl F hb hx I (show Vals [V.ref a] [Value.ref a] from .cons rfl .nil) h) fun u s' q => ?_)
  obtain ⟨v, H2, J2, rv, z, rfl, q⟩ := q
  obtain ⟨tk, rfl⟩ := (show ∃ tk, u = Value.str z tk from rv)
  exact ⟨.str z, H2, J2, ⟨tk, rfl⟩, q⟩
/-- what a class says of a static method -/
structure SMet (K : PySem.W.Frag) (C : Addr) (m : Str) (f : Addr) : Prop where
  cls : ClX.CRead K C (Value.type "type")
  at_ : ∃ p rest, PySem.W.findCls K (Value.ref C) (Value.type "type") m = some (.get (.builtin "staticmethod.__get__") (.ref p) .none (.ref C)) ∧ PySem.W.recIn K p "staticmethod" = some (Value.ref f :: rest)
  kp : PySem.W.keepIn K (Value.ref f) = true
/-- C.m(..), m a static method of the class at C -/
def tSMeth (C : Addr) (sp : Sp) (E : St → XK) (ta : TE) (t : TA) : TE := fun σ H Q => ta σ H fun x H1 => x = .ref C ∧ t σ H1 fun vs H2 => sp vs H2 Q (E σ)
theorem pe_smethS {pl : Sem Bool} (he : PE X o ta) (M : SMet X.K C m f) (F : FnOk X.prog X.w X.K X.mg X.base CX k f fd ps sp) (hr : Room k X.A) (hb : Binds X.K fd ps []) (hx : ∀ σ, PassesAt CX X σ (E σ)) (ha : PA X (e :: es) t)
    (hst : starEach (e :: es) X.env = (false, eval e X.env) :: starEach es X.env := by rfl)
    (hpl : (backTo pos (starEach es X.env)).any (·.1) = false := by rfl)
    (ht : eval (.Call (.Attribute o m apos) (e :: es) [] pos) X.env = (do
      let ov ← eval o X.env
      standAt apos.atName
      let (g, before) ← holding [ov] (getMethod ov m pl)
      callWith pos g before (backTo pos (starEach (e :: es) X.env)) (backToKw pos (keywordEach [] X.env))) := by rfl) :
    PE X (.Call (.Attribute o m apos) (e :: es) [] pos) (tSMeth C sp E ta t) := by
  constructor
  intro pins s σ H Q I h
  obtain ⟨p, rest, at_, rc⟩ := M.at_
  refine PySem.W.methodCall_KW (pl := pl) (thn (he.run pins s σ H _ I h) fun u s1 ⟨x, H1, I1, rx, ex, q⟩ => ?_) ht
  subst ex
  obtain rfl : u = Value.ref C := rx
  refine PySem.W.method_cls I1.kIn M.cls.ga (PySem.W.cls_bind I1.kIn M.cls.rd at_ (wpAny_call (PySem.W.sm_get (s := { s1 with toks := s1.toks + 1 }) I1.kIn rc (PySem.W.handed_on rfl ?_))))
  have J := I1.tok (s1.toks + 1)
  exact PySem.W.callWith_K (first := []) (h₀ := X.base) I.ok.mod.kin M.kp (thn (ha.run pos pins _ σ H1 _ J q) fun _ _ ⟨_, _, J2, r, q2⟩ => ⟨J2.kIn, run_fnS F hr hb (hx σ) J2 r q2⟩) hst hpl
end
end L2
namespace DL
open PySem L2 Evl
/-- a text, by its code points -/
def tTxt : Ty (List Nat) := ⟨fun _ v l => v = .str ⟨l.toArray⟩, fun _ h => h⟩
theorem txt_of (z : Str) : (⟨z.cps.toList.toArray⟩ : Str) = z := TL.mk_tl z
theorem txt_app (l m : List Nat) : ((⟨l.toArray⟩ : Str) ++ (⟨m.toArray⟩ : Str)) = ⟨(l ++ m).toArray⟩ := TL.ext_tl (by rw [TL.tl_append])
theorem txt_len (l : List Nat) : (⟨l.toArray⟩ : Str).length = l.length := by rw [TL.len_tl]
theorem txt_inj {l m : List Nat} : (V.str ⟨l.toArray⟩ = V.str ⟨m.toArray⟩) ↔ l = m := by
  constructor
  · intro h
    have h1 : (⟨l.toArray⟩ : Str) = ⟨m.toArray⟩ := by injection h
    exact congrArg TL.tl h1
  · intro h
    rw [h]
section
variable {α β γ : Type} {t : Ty α} {u : Ty β} {w : Ty γ} {x : α} {y : β} {z : γ} {Z : En} {Γ Γ' Γ1 Γ2 Γ3 : List Slot} {ta tb tc te : TE} {tt uu : TT} {ds es : List Dv} {K : PySem.W.Frag} {D : Ends} {s1 s2 : TS} {i j : Nat} {l m : List Nat} {C : Addr} {p q : Rt} {E : XK}
theorem den_txt {z : Str} : Den (tC (.str z)) Γ tTxt z.cps.toList Γ := fun Z F σ H hh Q q => q _ F H hh Pres.refl (congrArg V.str (txt_of z).symm)
theorem op2_txtcat (h : l.length + m.length ≤ 100000) : Op2 (fun x y H Q => ∃ i j, x = .str i ∧ y = .str j ∧ i.length + j.length ≤ sizeLine ∧ Q (.str (i ++ j)) H) tTxt l tTxt m tTxt (l ++ m) := fun F H v1 v2 e r1 r2 Q q => by
  cases r1
  cases r2
  refine ⟨_, _, rfl, rfl, sz_of (by rw [txt_len, txt_len]; exact h), ?_⟩
  rw [txt_app]
  exact q _ F H (Step.refl e) rfl
theorem op2_txteq : Op2 rEq tTxt l tTxt m tBool (decide (l = m)) := fun F H v1 v2 e r1 r2 Q q => by
  cases r1
  cases r2
  refine ⟨rfl, ?_⟩
  rw [decide_eq_decide.mpr (txt_inj (l := l) (m := m))]
  exact q _ F H (Step.refl e) rfl
theorem op2_txtne : Op2 rNe tTxt l tTxt m tBool (!decide (l = m)) := fun F H v1 v2 e r1 r2 Q q => by
  cases r1
  cases r2
  refine ⟨rfl, ?_⟩
  rw [decide_eq_decide.mpr (txt_inj (l := l) (m := m))]
  exact q _ F H (Step.refl e) rfl
theorem op2_txtix {i : Int} {c : Nat} (h0 : 0 ≤ i) (hl : l.length ≤ 100000) (hx : l[i.toNat]? = some c) : Op2 rIxS tTxt l tInt i tTxt [c] := fun F H v1 v2 e r1 r2 Q q => by
  cases r1
  cases r2
  exact ⟨_, i, c, rfl, rfl, sz_of (by rw [txt_len]; exact hl), atI_get h0 hx, q _ F H (Step.refl e) rfl⟩
/-- the cut of a text -/
def cutL (l : List Nat) (lo hi : Option Int) : List Nat := (l.drop (HT.sIx l.length 0 lo)).take (HT.sIx l.length l.length hi - HT.sIx l.length 0 lo)
theorem den_txtsl {lo hi : Option Int} {tlo thi : TO} (ha : Den ta Γ tTxt l Γ1) (hlo : PuO tlo Γ1 lo) (hhi : PuO thi Γ1 hi) (hl : l.length ≤ 100000) : Den (tSl rSlS ta tlo thi) Γ tTxt (cutL l lo hi) Γ1 := fun Z F σ H hh Q q =>
  ha Z F σ H hh _ fun v F1 H1 h1 p r => hlo Z F1 σ H1 h1 _ fun F2 H2 k2 => hhi Z F2 σ H2 (h1.step k2) _ fun F3 H3 k3 => by
    cases r
    refine ⟨_, rfl, sz_of (by rw [txt_len]; exact hl), q _ F3 H3 (h1.step (k2.trans k3)) (p.trans (Pres.step (k2.trans k3))) ?_⟩
    show V.str (cutS ⟨l.toArray⟩ lo hi) = V.str ⟨(cutL l lo hi).toArray⟩
    unfold cutS cutL
    rw [txt_len]
theorem on_txtlen (hl : l.length ≤ 100000) : OpN (fun xs H Q => ∃ z, xs = [.str z] ∧ z.length ≤ sizeLine ∧ Q (.int z.length) H) [⟨tTxt, l⟩] tInt (l.length : Int) := fun F H vs e r Q q => by
  cases r with
  | cons r r' =>
    cases r'
    cases r
    refine ⟨_, rfl, sz_of (by rw [txt_len]; exact hl), ?_⟩
    rw [txt_len]
    exact q _ F H (Step.refl e) rfl
/-- the digits of a whole number -/
def intL (i : Int) : List Nat := if i < 0 then 45 :: TL.numL i.natAbs else TL.numL i.natAbs
theorem tl_int (i : Int) : TL.tl (Str.ofString (toString i)) = intL i := by
  unfold intL
  cases i with
  | ofNat n =>
    rw [if_neg (by simp)]
    exact TL.tl_num n
  | negSucc n =>
    rw [if_pos (Int.negSucc_lt_zero n)]
    have e : toString (Int.negSucc n) = "-" ++ toString (n + 1) := rfl
    rw [e, TL.tl_ofString, String.toList_append, List.map_append, ← TL.tl_ofString, ← TL.tl_ofString]
    have h2 : TL.tl (Str.ofString (toString (n + 1))) = TL.numL (n + 1) := TL.tl_num (n + 1)
    rw [h2]
    rfl
theorem on_strint {i : Int} (h : i.natAbs.log2 < 1920) : OpN (fun xs H Q => ∃ i : Int, xs = [.int i] ∧ i.natAbs.log2 < 1920 ∧ Q (.str (toString i)) H) [⟨tInt, i⟩] tTxt (intL i) := fun F H vs e r Q q => by
  cases r with
  | cons r r' =>
    cases r'
    cases r
    refine ⟨i, rfl, h, q _ F H (Step.refl e) ?_⟩
    show V.str (Str.ofString (toString i)) = V.str ⟨(intL i).toArray⟩
    rw [← tl_int, TL.mk_tl]
theorem on_strstr : OpN (fun xs H Q => ∃ a, xs = [.str a] ∧ Q (.str a) H) [⟨tTxt, l⟩] tTxt l := fun F H vs e r Q q => by
  cases r with
  | cons r r' =>
    cases r'
    cases r
    exact ⟨_, rfl, q _ F H (Step.refl e) rfl⟩
/-- only digits -/
def digs (l : List Nat) : Bool := l.all fun c => decide (48 ≤ c) && decide (c ≤ 57)
theorem on_intstr (h : digs l = true) (hne : l ≠ []) (hl : l.length ≤ 640) : OpN (fun xs H Q => ∃ a n, xs = [.str a] ∧ PySem.intText? a = some n ∧ a.length ≤ 640 ∧ Q (.int n) H) [⟨tTxt, l⟩] tInt ((NumText.digitsVal l : Nat) : Int) := fun F H vs e r Q q => by
  cases r with
  | cons r r' =>
    cases r'
    cases r
    exact ⟨_, _, rfl, SX.int_S h hne (Nat.le_trans hl (by decide)), by rw [txt_len]; exact hl, q _ F H (Step.refl e) rfl⟩
theorem on_ownStr {S : List Dv → Dv → Prop} {R : List Dv → Value → Prop} (h : S [⟨tRat C, p⟩] ⟨tTxt, l⟩) : OpN (fun xs H Q => ∃ x, xs = [x] ∧ rOwnS C (spP S R) E x H fun z H' => Q (.str z) H') [⟨tRat C, p⟩] tTxt l := fun F H vs e r Q k => by
  cases r with
  | cons r r' =>
    cases r'
    obtain ⟨a, dx, rfl, h1⟩ := r
    exact ⟨_, rfl, a, dx, _, rfl, e _ _ h1, spP_v h F H _ e (.cons ⟨a, dx, rfl, h1⟩ .nil) _ E fun v F' H' st rv => ⟨_, rv, k _ F' H' st rfl⟩⟩
theorem op2_txtin {c : Nat} : Op2 rInS tTxt [c] tTxt l tBool (decide (c ∈ l)) := fun F H v1 v2 e r1 r2 Q q => by
  cases r1
  cases r2
  exact ⟨c, _, rfl, rfl, q _ F H (Step.refl e) rfl⟩
/-! ### over the signs of a text -/
theorem dn_lcS {β : Type} {u : Ty β} {tl : TE} {l : List Nat} (G : Nat → List Slot) (A : Nat → List β) (h : Den tl Γ tTxt l (G 0)) (hf : ∀ n, (G n)[j]? = some .any) (hl : l.length < 50000) (h0 : A 0 = [])
    (hs : ∀ n c, l[n]? = some c → ∃ b Γ2, DenT tt ((G n).set j (.val ⟨tTxt, [c]⟩)) b Γ2 ∧ (b = true → ∃ y, Den te Γ2 u y ((G (n + 1)).set j (.val ⟨tTxt, [c]⟩)) ∧ A (n + 1) = A n ++ [y]) ∧ (b = false → Γ2 = (G (n + 1)).set j (.val ⟨tTxt, [c]⟩) ∧ A (n + 1) = A n)) :
    DenN (tLc (iStr tl) (gName j) tt te [j]) Γ ((A l.length).map fun y => ⟨u, y⟩) (G l.length) := fun Z F σ H hh Q q => by
  refine h Z F σ H hh _ fun v F1 H1 h1 p1 r => ?_
  cases r
  refine ⟨⟨l.toArray⟩, rfl, fun p np => lc_it walk_str (fun n H' => LcI Z u (G 0) (G n) (A n) σ F1 H1 p n H') ?_ (fun _ _ _ _ => trivial) ?_ ?_⟩
  · rw [h0]
    exact LcI.start h1 np
  · rintro n x H' H2 hn c ⟨e, ch, ec, ex⟩
    subst e
    subst ex
    have ec : l[n]? = some ch := by simpa using ec
    have hn : n < l.length := (List.getElem?_eq_some_iff.mp ec).1
    obtain ⟨b, Γ2, hb⟩ := hs n ch ec
    exact ⟨wipe1 σ j _, LcI.turn (d := ⟨tTxt, [ch]⟩) h1 np (h1.fresh np) c (by omega) (hf n) (hf (n + 1)) (fun F' _ => rfl) ⟨b, hb⟩⟩
  · rintro H' c
    have c : LcI Z u (G 0) (G l.length) (A l.length) σ F1 H1 p l.length H' := by simpa using c
    obtain ⟨⟨F', acc, hs', pr, fp, hp, al⟩, _⟩ := c
    exact q p acc F' H' hs' (p1.trans pr) (p1.new np) fp hp (al_unmap al)
theorem s_forS {S : Type} {wl : TE} {l : List Nat} (s0 : S) (G : S → List Slot) (I : Nat → S → Prop) (h : Den wl Γ tTxt l Γ1) (h0 : I 0 s0) (e0 : Wk Γ1 (G s0))
    (hs : ∀ n c s, l[n]? = some c → I n s → OK Z ((G s).set j (.val ⟨tTxt, [c]⟩)) (s1 { D with nx := LoopAt Z G I (n + 1), ct := LoopAt Z G I (n + 1), bk := D.nx }))
    (hd : ∀ s, I l.length s → OK Z (G s) D.nx) : OK Z Γ (tFor (iStr wl) (gName j) s1 D) := fun F σ H hh => by
  refine h Z F σ H hh _ fun v F1 H1 h1 p r => ?_
  cases r
  refine ⟨⟨l.toArray⟩, rfl, for_it walk_str (LoopAt Z G I) ⟨s0, F1, h0, h1.weak e0⟩ (fun _ _ _ _ _ => trivial) ?_ ?_⟩
  · rintro n x σ' H' H2 hn ⟨s, F', hi, hs'⟩ ⟨e, ch, ec, ex⟩
    subst e
    subst ex
    have ec : l[n]? = some ch := by simpa using ec
    exact hs n ch s ec hi F' _ _ (hs'.set j rfl)
  · rintro σ' H' ⟨s, F', hi, hs'⟩
    have hi : I l.length s := by simpa using hi
    exact hd s hi F' σ' H' hs'
end
end DL

set_option maxRecDepth 100000
/-! Srt: list < list of ints. -/
namespace L2
open PySem PySem.Spec PyProof.Rows
theorem firstLt_lex : ∀ (ns ms : List Int), SeqAt.firstLt (fun j => decide (ns.getD j 0 = ms.getD j 0)) (fun j => decide (ns.getD j 0 < ms.getD j 0)) (decide (ns.length < ms.length)) (List.range (min ns.length ms.length)) = HT.lexLt ns ms
  | [], [] => rfl
  | [], m :: ms => rfl
  | n :: ns, [] => rfl
  | n :: ns, m :: ms => by
    have ih := firstLt_lex ns ms
    have e1 : min (n :: ns).length (m :: ms).length = min ns.length ms.length + 1 := by
      rw [List.length_cons, List.length_cons]
      omega
    have sh : ∀ (l : List Nat), SeqAt.firstLt (fun j => decide ((n :: ns).getD j 0 = (m :: ms).getD j 0)) (fun j => decide ((n :: ns).getD j 0 < (m :: ms).getD j 0)) (decide ((n :: ns).length < (m :: ms).length)) (l.map Nat.succ)
        = SeqAt.firstLt (fun j => decide (ns.getD j 0 = ms.getD j 0)) (fun j => decide (ns.getD j 0 < ms.getD j 0)) (decide (ns.length < ms.length)) l := fun l => by
      induction l with
      | nil =>
        show decide ((n :: ns).length < (m :: ms).length) = decide (ns.length < ms.length)
        rw [List.length_cons, List.length_cons]
        exact decide_eq_decide.mpr (by omega)
      | cons j l ihl =>
        rw [List.map_cons]
        unfold SeqAt.firstLt
        rw [ihl]
        rfl
    rw [e1, List.range_succ_eq_map]
    unfold SeqAt.firstLt HT.lexLt
    rw [sh, ih]
    by_cases h : n = m
    · simp [h]
    · simp [h]
def rLtL (K : PySem.W.Frag) : R2 := fun x y H Q => ∃ a b ns ms, x = .ref a ∧ y = .ref b ∧ SqL K H a (ns.map V.int) ∧ SqL K H b (ms.map V.int) ∧ Q (.bl (HT.lexLt ns ms)) H
end L2
namespace L2
open PySem PySem.Spec PyProof.Rows
theorem ints_at {vs : List Value} {ns : List Int} (h : IntsAre vs ns) : ∀ (j : Nat) (hj : j < vs.length), ∃ t, vs[j] = Value.int (ns.getD j 0) t := by
  induction h with
  | nil => intro j hj; exact absurd hj (Nat.not_lt_zero j)
  | cons n t h ih =>
    intro j hj
    cases j with
    | zero => exact ⟨t, rfl⟩
    | succ j => exact ih j (Nat.lt_of_succ_lt_succ hj)
section
variable {A : Around} {s : Shared} {l b : Addr} {i1 i2 : Array Value} {ns ms : List Int}
theorem ints_eqAt (hi : IntsAre i1.toList ns) (hj : IntsAre i2.toList ms) : ∀ j (h1 : j < i1.size) (h2 : j < i2.size), SeqAt.EqAt A.in1 s i1[j] i2[j] (decide (ns.getD j 0 = ms.getD j 0)) := fun j h1 h2 => by
  obtain ⟨t, e1⟩ := ints_at hi j (by simpa using h1)
  obtain ⟨u, e2⟩ := ints_at hj j (by simpa using h2)
  rw [Array.getElem_toList] at e1 e2
  rw [e1, e2]
  exact SeqAt.EqAt.int_int _ t _ u
theorem ints_ltAt (hi : IntsAre i1.toList ns) (hj : IntsAre i2.toList ms) : ∀ j (h1 : j < i1.size) (h2 : j < i2.size), decide (ns.getD j 0 = ms.getD j 0) = false → SeqAt.RcLt A.in1 s i1[j] i2[j] (decide (ns.getD j 0 < ms.getD j 0)) := fun j h1 h2 _ => by
  obtain ⟨t, e1⟩ := ints_at hi j (by simpa using h1)
  obtain ⟨u, e2⟩ := ints_at hj j (by simpa using h2)
  rw [Array.getElem_toList] at e1 e2
  rw [e1, e2]
  exact fun prog w E Q h => lt_int h
theorem lists_lex (hi : IntsAre i1.toList ns) (hj : IntsAre i2.toList ms) : SeqAt.firstLt (fun j => decide (ns.getD j 0 = ms.getD j 0)) (fun j => decide (ns.getD j 0 < ms.getD j 0)) (decide (i1.size < i2.size)) (List.range (min i1.size i2.size)) = HT.lexLt ns ms := by
  have h1 := hi.length
  have h2 := hj.length
  rw [Array.length_toList] at h1 h2
  have e1 : i1.size = ns.length := by omega
  have e2 : i2.size = ms.length := by omega
  rw [← firstLt_lex ns ms, e1, e2]
end
theorem op_ltL {X : Cx} (hu : X.A.units < cLine) : OpR X (compareOp .Lt) (rLtL X.K) := by
  intro pins s σ H x y v u Q I rx ry h
  obtain ⟨a, b, ns, ms, rfl, rfl, ha, hb, q⟩ := h
  cases rx
  cases ry
  obtain ⟨its, r1, p1, _⟩ := I.list ha
  obtain ⟨its2, r2, p2, _⟩ := I.list hb
  have i1 : IntsAre its.toArray.toList ns := intsAre_of r1
  have i2 : IntsAre its2.toArray.toList ms := intsAre_of r2
  have z := SeqAt.RcLt.lists p1.isList p2.isList hu (ints_eqAt i1 i2) (ints_ltAt i1 i2)
  rw [lists_lex i1 i2] at z
  exact z _ _ _ _ ⟨.bl (HT.lexLt ns ms), H, I, rfl, q⟩
end L2
namespace SrK
open PySem PySem.Spec PyProof.Rows L2 PySem.W NtL
/-- v is a list of these ints -/
def LstI (h : Heap) (v : Value) (ns : List Int) : Prop := ∃ (a : Addr) (its : Array Value), v = .ref a ∧ h.IsList a its ∧ IntsAre its.toList ns
theorem LstI.keeps {h h' : Heap} {v : Value} {ns : List Int} (x : LstI h v ns) (k : ∀ b o, v = .ref b → h.get? b = some o → h'.get? b = some o) : LstI h' v ns := by
  obtain ⟨a, its, e, ⟨o, g, r⟩, i⟩ := x
  exact ⟨a, its, e, ⟨o, k _ _ e g, r⟩, i⟩
section
variable {prog : Program} {w : World} {A : Around} {E : Value → Shared → Prop} {s : Shared}
theorem LstI.type {M : Model} {h : Heap} {v : Value} {ns : List Int} (x : LstI h v ns) : Looks M h (typeOf v) (.type "list") := by
  obtain ⟨a, its, rfl, ⟨o, g, c, _⟩, i⟩ := x
  have z : Looks M h (typeOf (.ref a)) o.cls := (Looks.ld g).andThen .now
  rw [c] at z
  exact z
theorem key_lt {v u : Value} {ns ms : List Int} {Q : Bool → Shared → Prop} (hu : A.units < cLine) (hv : LstI s.heap v ns) (hw : LstI s.heap u ms) (h : Q (HT.lexLt ns ms) s) : wpAny (model prog w) A (keyLt' oneType' v u) Q E s := by
  obtain ⟨a, i1, rfl, l1, k1⟩ := hv
  obtain ⟨b, i2, rfl, l2, k2⟩ := hw
  rw [keyLt'_oneType, oneLt'_eq]
  simp only [if_true]
  refine wpAny_bind (wpAny_cRoomFor hu ?_)
  obtain ⟨o, g, c, r⟩ := id l1
  refine wpAny_bind (wpAny_callSpecialIfBound?_slot (T := "list") ⟨o, g, c⟩ PySem.F.slot_list_lt (SeqAt.call_list_lt l1 l2 (ints_eqAt k1 k2) (ints_ltAt k1 k2) ?_))
  rw [lists_lex k1 k2]
  exact wpAny_truthy_bool h
/-- the kind of the keys is found, and any two compare -/
theorem key_cmp {ks : List Value} {k : Value → List Int} (hu : A.units < cLine) (hv : ∀ v ∈ ks, LstI s.heap v (k v)) : SrtO.Cmp prog w A s oneType' (fun p => p.1 ∈ ks) (fun p q => HT.lexLt (k p.1) (k q.1)) := fun p q hp hq =>
  key_lt (Q := fun r s' => s' = s ∧ r = HT.lexLt (k p.1) (k q.1)) (E := fun _ _ => False) hu (hv p.1 hp) (hv q.1 hq) ⟨rfl, rfl⟩
theorem key_kind {ks : List Value} {k : Value → List Int} (h2 : 2 ≤ ks.length) (hv : ∀ v ∈ ks, LstI s.heap v (k v)) {Q : SortKind → Shared → Prop} (h : Q oneType' s) : wpAny (model prog w) A (keyKind' ks.toArray) Q E s :=
  kas_kind (T := .type "list") h2 (fun v hm => (hv v hm).type) (by decide) (by decide) h
end
end SrK
namespace SrK
open PySem PySem.Spec PyProof.Rows L2 PySem.W
section
variable {X : Cx} {pins : List (Addr × Obj)} {σ : L2.St} {H : Hp} {s : Shared} {S : Addr} {o o' : Obj} {h' : Heap}
/-- an address of the body at hand that no pin has -/
structure Mine (X : Cx) (pins : List (Addr × Obj)) (S : Addr) : Prop where
  lo : X.s_0.heap.objs.size ≤ S
  no : ∀ p ∈ X.pn ++ pins, p.1 ≠ S
theorem mine_new (I : Inv X pins σ H s) (h : s.heap.objs.size ≤ S) : Mine X pins S := ⟨Nat.le_trans I.sz h, fun p hp e => by
  have q := (I.pin p hp).1
  rw [e] at q
  exact absurd (Heap.lt_size q) (Nat.not_lt.mpr h)⟩
theorem mine_ch (I : Inv X ((S, o) :: pins) σ H s) (M : Mine X pins S) : ∀ b ∈ [S], (b ∈ X.ex ∨ X.s_0.heap.objs.size ≤ b) ∧ b ≠ X.env.locals ∧ (∀ x c, X.env.cells.lookup x = some c → c ≠ b) ∧ ∀ p ∈ X.pn ++ pins, p.1 ≠ b := fun b hb => by
  rw [List.mem_singleton.mp hb]
  obtain ⟨g, n, nl, nf, nc⟩ := I.pin (S, o) (List.mem_append_right _ List.mem_cons_self)
  refine ⟨.inr M.lo, nl, fun x c ec e => ?_, M.no⟩
  obtain ⟨v, oc, hc, hd⟩ := I.cell x c ec
  rw [e] at hc
  have g : s.heap.get? S = some o := g
  rw [g] at hc
  cases hc
  exact nc v hd
/-- a pinned object of ours is changed -/
theorem change (I : Inv X ((S, o) :: pins) σ H s) (M : Mine X pins S) (k : ∀ b u, b ≠ S → s.heap.get? b = some u → h'.get? b = some u) (e : h'.get? S = some o') (hc : ∀ v, o'.data ≠ .cell v) (t' : Nat) : Inv X ((S, o') :: pins) σ H { s with heap := h', toks := t' } := by
  have pn := I.pin (S, o) (List.mem_append_right _ List.mem_cons_self)
  have nt : ∀ b u, H b = some u → b ≠ S := fun b u q hb => by
    have n : H S = none := pn.2.1
    rw [hb, n] at q
    cases q
  have nc : ∀ b, b ∉ [S] → b ≠ S := fun b hb z => hb (by rw [z]; exact List.mem_singleton.mpr rfl)
  have J : Inv X pins σ H { s with heap := h', toks := t' } := by
    refine (ClX.unpin I).step (g' := s.gens) (t' := t') (d' := s.drawn) (ch := [S]) (mine_ch I M) (fun b ob _ _ z q _ => k b ob (nc b z) q) (fun b ob _ _ z q _ => ⟨ob.slots, k b ob (nc b z) q⟩) (fun _ _ _ _ n => n) (fun b ob z q => ⟨ob, k b ob (nc b z) q⟩)
      (fun _ _ q => q) (fun _ _ _ q => q) (fun b ps q => ⟨#[], by rw [q]; simp⟩) (fun m hm => ?_) (fun b u q => ?_) I.bare
    · obtain ⟨ob, es, ep, ho, r⟩ := hm
      exact ⟨ob, es, ep, k _ ob (Ne.symm pn.2.2.1) ho, r⟩
    · refine (I.hok b u q).stay (fun c v z y => k c v ?_ y) (fun _ y => y) fun _ _ y => y
      rcases z with y | y
      · rw [y]
        exact nt b u q
      · exact nt c _ y
  refine J.pins_of fun p hp => ?_
  rcases List.mem_cons.mp hp with z | z
  · rw [z]
    exact ⟨e, pn.2.1, pn.2.2.1, pn.2.2.2.1, hc⟩
  · exact J.pin p (List.mem_append_right _ z)
/-- a pinned list of ours is tracked from here on -/
theorem track {xs : List V} {its : List Value} {n : Nat} (I : Inv X ((S, o) :: pins) σ H s) (M : Mine X pins S) (ho : o = { cls := .type "list", data := .seq its.toArray n }) (hl : xs.length ≤ sizeLine) (r : Vals xs its) : Inv X pins σ (upd H S (.lst xs)) s := by
  have pn := I.pin (S, o) (List.mem_append_right _ List.mem_cons_self)
  have n0 : H S = none := pn.2.1
  have nt : ∀ b u, H b = some u → b ≠ S := fun b u q hb => by
    rw [hb, n0] at q
    cases q
  have nc : ∀ b, b ∉ [S] → b ≠ S := fun b hb z => hb (by rw [z]; exact List.mem_singleton.mpr rfl)
  refine (ClX.unpin I).step (g' := s.gens) (t' := s.toks) (d' := s.drawn) (h' := s.heap) (ch := [S]) (mine_ch I M) (fun b ob _ _ z q _ => q) (fun b ob _ _ z q _ => ⟨ob.slots, q⟩) (fun b ob z _ q => by rw [upd_ne (nc b z)]; exact q) (fun b ob z q => ⟨ob, q⟩)
    (fun b _ q => by rw [upd_ne (nt b _ q)]; exact q) (fun b _ _ q => by rw [upd_ne (nt b _ q)]; exact q) (fun b ps q => ⟨#[], by rw [upd_ne (nt b _ q), q]; simp⟩) (fun m hm => hm) (fun b u q => ?_) I.bare
  by_cases hb : b = S
  · subst hb
    rw [upd_same] at q
    cases q
    refine ⟨hl, its, n, r, ?_⟩
    rw [← ho]
    exact pn.1
  · rw [upd_ne hb] at q
    exact (I.hok b u q).stay (fun _ _ _ z => z) (fun d z => by rw [upd_ne (ne_of_none z n0)]; exact z) fun d xs z => by rw [upd_ne (ne_of_none z n0)]; exact z
end
end SrK
namespace SrK
open PySem PySem.Spec PyProof.Rows L2 PySem.W SrtO
section
variable {X : Cx} {pins : List (Addr × Obj)} {σ : L2.St} {H : Hp} {s : Shared} {k : Nat} {f : Addr} {fd : FuncData} {ps : List Str} {sp : Sp} {A : Around}
/-- a callee that raises nothing -/
theorem run_no {Q : VK} {us : List Value} {vs : List V} (hr : Room k A) (hfr : A.frames = X.A.frames) (F : FnOk X.prog X.w X.K X.mg X.base (L2.CX X.prog X.w) k f fd ps sp) (hb : Binds X.K fd ps [])
    (I : Inv X pins σ H s) (r : Vals vs us) (h : sp vs H Q E0) : wpAny (model X.prog X.w) A (call (.ref f) us) (EP X pins σ Q) (fun _ _ => False) s := by
  have en : Env0 X.prog X.w X.K X.mg X.base A X.stack s H := by
    have e := I.env0
    exact ⟨by rw [hfr]; exact e.frames, e.mod, e.bs, e.bsz, e.funs, e.frf, e.hok, e.bare⟩
  have hl := F.len _ _ _ _ h
  have hb' := hb s us I.kIn (by rw [List.append_nil, ← r.length]; exact hl)
  rw [List.append_nil] at hb'
  refine wpAny_call (codeAny_mono (F.run A X.stack s H ⟨us, []⟩ us vs Q E0 hr en hb' r h) fun q s' hq => ?_)
  cases q with
  | error e =>
    obtain ⟨_, _, _, _, _, _, _, _, _, _, _, _, z⟩ := (show L2.CX X.prog X.w X.stack H s E0 e s' from hq)
    exact z.elim
  | ok fl =>
    cases fl with
    | ret u => exact I.after hq
    | next => exact False.elim hq
    | brk => exact False.elim hq
    | cont => exact False.elim hq
theorem vals_zip {ks xs : List V} : ∀ {us ws : List Value}, Vals ks us → Vals xs ws → Paired (fun (p : V × V) (q : Value × Value) => RelV p.1 q.1 ∧ RelV p.2 q.2) (ks.zip xs) (us.zip ws) := by
  intro us ws a b
  induction a generalizing xs ws with
  | nil => exact .nil
  | cons r t ih =>
    cases b with
    | nil => exact .nil
    | cons r2 t2 => exact .cons ⟨r, r2⟩ (ih t2)
end
end SrK
namespace SrK
open PySem PySem.Spec PyProof.Rows L2 PySem.W SrtO
theorem lift_perm {α β : Type} {R : α → β → Prop} {m m' : List β} (p : m.Perm m') : ∀ {l : List α}, Paired R l m → ∃ l', l'.Perm l ∧ Paired R l' m' := by
  induction p with
  | nil => exact fun h => ⟨_, .refl _, h⟩
  | cons x p ih =>
    intro l h
    cases h with
    | cons r t =>
      obtain ⟨l', e, t'⟩ := ih t
      exact ⟨_, e.cons _, .cons r t'⟩
  | swap x y l =>
    intro l h
    cases h with
    | cons r t => cases t with
      | cons r2 t => exact ⟨_, .swap _ _ _, .cons r2 (.cons r t)⟩
  | trans p q ih1 ih2 =>
    intro l h
    obtain ⟨l1, e1, t1⟩ := ih1 h
    obtain ⟨l2, e2, t2⟩ := ih2 t1
    exact ⟨l2, e2.trans e1, t2⟩
def kV (kf : V → List Int) : Value → List Int
  | .ref a => kf (.ref a)
  | _ => []
section
variable {X : Cx} {pins : List (Addr × Obj)} {σ : L2.St} {H : Hp} {s : Shared} {k : Nat} {f : Addr} {fd : FuncData} {ps : List Str} {sp : Sp} {A : Around} {D S : Addr} {kf : V → List Int}
/-- what a key is -/
def KeyAt (K : PySem.W.Frag) (H : Hp) (kf : V → List Int) (v : V) : Prop := ∃ a, v = .ref a ∧ SqL K H a ((kf v).map V.int)
theorem keys_at (I : Inv X pins σ H s) : ∀ {ks : List V} {ws : List Value}, Vals ks ws → (∀ v ∈ ks, KeyAt X.K H kf v) → ∀ u ∈ ws, LstI s.heap u (kV kf u)
  | _, _, .nil, _ => fun u hu => nomatch hu
  | v :: ks, w :: ws, .cons r t, h => fun u hu => by
    rcases List.mem_cons.mp hu with e | e
    · obtain ⟨a, ea, hs⟩ := h v List.mem_cons_self
      subst ea
      have ew : w = Value.ref a := r
      obtain ⟨its, rv, pl, _⟩ := I.list hs
      rw [e, ew]
      exact ⟨a, its.toArray, rfl, pl.isList, intsAre_of rv⟩
    · exact keys_at I t (fun v hv => h v (List.mem_cons_of_mem _ hv)) u e
/-- pairs of a key and an item, in order -/
abbrev ltP (kf : V → List Int) : V × V → V × V → Bool := fun p q => HT.lexLt (kf p.1) (kf q.1)
theorem pairs_back {ks xs : List V} {ws us : List Value} {out : List Keyed} (hk : ∀ v ∈ ks, ∃ a, v = V.ref a) (r1 : Vals ks ws) (r2 : Vals xs us) (hp : (ws.zip us).Perm out) (hs : Srtd (fun p q : Keyed => HT.lexLt (kV kf p.1) (kV kf q.1)) out) :
    ∃ pq : List (V × V), pq.Perm (ks.zip xs) ∧ Srtd (ltP kf) pq ∧ Vals (pq.map (·.2)) (out.map (·.2)) := by
  obtain ⟨pq, e, t⟩ := lift_perm hp (vals_zip r1 r2)
  have hk2 : ∀ p ∈ pq, ∃ a, p.1 = V.ref a := fun p hm => hk _ (List.of_mem_zip (e.mem_iff.mp hm)).1
  refine ⟨pq, e, ?_, ?_⟩
  · clear hp e
    induction t with
    | nil => exact List.Pairwise.nil
    | cons r t ih =>
      rename_i p q l m
      obtain ⟨h1, h2⟩ := List.pairwise_cons.mp hs
      refine List.pairwise_cons.mpr ⟨fun p' hm => ?_, ih h2 fun p hm => hk2 p (List.mem_cons_of_mem _ hm)⟩
      obtain ⟨a, ea⟩ := hk2 p List.mem_cons_self
      obtain ⟨a', ea'⟩ := hk2 p' (List.mem_cons_of_mem _ hm)
      have key : ∀ {l : List (V × V)} {m : List Keyed}, Paired (fun (p : V × V) (q : Value × Value) => RelV p.1 q.1 ∧ RelV p.2 q.2) l m → p' ∈ l → ∃ q' ∈ m, RelV p'.1 q'.1 := by
        intro l m t
        induction t with
        | nil => exact fun z => nomatch z
        | cons r t ih =>
          intro z
          rcases List.mem_cons.mp z with z | z
          · exact ⟨_, List.mem_cons_self, by rw [z]; exact r.1⟩
          · obtain ⟨q', m1, m2⟩ := ih z
            exact ⟨q', List.mem_cons_of_mem _ m1, m2⟩
      obtain ⟨q', hq', rq'⟩ := key t hm
      have z : HT.lexLt (kV kf q'.1) (kV kf q.1) = false := h1 q' hq'
      have e1 : q.1 = Value.ref a := by
        have := r.1
        rw [ea] at this
        exact this
      have e2 : q'.1 = Value.ref a' := by
        rw [ea'] at rq'
        exact rq'
      rw [e1, e2] at z
      show HT.lexLt (kf p'.1) (kf p.1) = false
      rw [ea, ea']
      exact z
  · clear hp hs hk2 e
    induction t with
    | nil => exact .nil
    | cons r t ih => exact .cons r.2 ih
end
end SrK
namespace L2
open PySem PySem.Spec PyProof.Rows PySem.W SrtO SrK
/-- sorted(xs, key=f), f a def that gives lists of ints -/
def rSortKey (K : PySem.W.Frag) (f : Addr) (sp : Sp) : List V → List V → Hp → VK → Prop := fun vs zs H Q => ∃ (l : Addr) (xs : List V) (Pv : Nat → List V → Hp → Prop), vs = [.ref l] ∧ zs = [.ref f] ∧ SqL K H l xs ∧ xs.length ≤ 100000 ∧ Pv 0 [] H ∧
  (∀ i x ks H1, xs[i]? = some x → Pv i ks H1 → sp [x] H1 (fun v H2 => Pv (i + 1) (ks ++ [v]) H2) E0) ∧
  (∀ ks H1, Pv xs.length ks H1 → ks.length = xs.length ∧ ∃ kf : V → List Int, (∀ v ∈ ks, KeyAt K H1 kf v) ∧
    ∀ (pq : List (V × V)) (D : Addr), pq.Perm (ks.zip xs) → Srtd (SrK.ltP kf) pq → H1 D = none → Q (.ref D) (upd H1 D (.lst (pq.map (·.2)))))
section
variable {X : Cx} {pins : List (Addr × Obj)} {σ : L2.St} {H : Hp} {s : Shared} {k : Nat} {f : Addr} {fd : FuncData} {ps : List Str} {sp : Sp} {A : Around} {D S : Addr} {kf : V → List Int}
abbrev lo (xs : Array Value) (n : Nat) : Obj := seqObj "list" xs n
theorem lo_nc {xs : Array Value} {n : Nat} : ∀ v, (lo xs n).data ≠ .cell v := fun v e => by cases e
set_option maxHeartbeats 2000000 in
/-- the end: the sorted items go into the list -/
theorem key_tail {R : PySem.Fin → Shared → Prop} {E : Value → Shared → Prop} {st : SortSt} {e e1 : Nat} {keys : Array Value} {ks xs : List V} {us : List Value} {Q : VK} (I : Inv X ((S, lo keys e) :: (D, lo #[] e1) :: pins) σ H s) (MS : Mine X ((D, lo #[] e1) :: pins) S) (MD : Mine X pins D)
    (r1 : Vals ks keys.toList) (r2 : Vals xs us) (hz : xs.length ≤ 100000) (hk : ks.length = xs.length) (ha : ∀ v ∈ ks, ∃ a, v = V.ref a) (hp : (keys.toList.zip us).Perm (arrOf st).toList) (hs : Srtd (fun p q : Keyed => HT.lexLt (SrK.kV kf p.1) (SrK.kV kf q.1)) (arrOf st).toList) (hf : failedOf st = none)
    (q : ∀ (pq : List (V × V)) (D : Addr), pq.Perm (ks.zip xs) → Srtd (SrK.ltP kf) pq → H D = none → Q (.ref D) (upd H D (.lst (pq.map (·.2)))))
    (h : ∀ s' H', Inv X pins σ H' s' → Q (.ref D) H' → R (.done (.ret .none)) s') : wpAny (model X.prog X.w) A (ksk_tail D false e1 (.ref S) st) R E s := by
  obtain ⟨pq, h1, h2, h3⟩ := pairs_back ha r1 r2 hp hs
  have lk : keys.size = ks.length := by
    have := r1.length
    rw [Array.length_toList] at this
    exact this.symm
  have lp : pq.length = xs.length := by
    rw [h1.length_eq, List.length_zip]
    omega
  have hD := (I.pin (D, lo #[] e1) (List.mem_append_right _ (.tail _ (.head _)))).1
  have hS := ClX.pin_at I
  have hDS : D ≠ S := MS.no (D, lo #[] e1) (List.mem_append_right _ (.head _))
  have szk : keys.size ≤ sizeLine := by rw [lk, hk]; exact Evl.sz_of hz
  have szo : ((arrOf st).map (·.2)).size ≤ sizeLine := by
    have z : (pq.map (·.2)).length = ((arrOf st).toList.map (·.2)).length := h3.length
    rw [List.length_map, List.length_map] at z
    have z2 : (arrOf st).toList.length = (arrOf st).size := Array.length_toList
    rw [Array.size_map]
    exact Evl.sz_of (by omega)
  unfold ksk_tail
  try dsimp only
  obtain ⟨c1, hc1⟩ : ∃ c1, (s.heap.update S (Obj.mapSeq fun _ => #[])).get? S = some (lo #[] c1) := ⟨_, get?_update_seq hS fun _ => #[]⟩
  have I1 := change I MS (h' := s.heap.update S (Obj.mapSeq fun _ => #[])) (o' := lo #[] c1) (fun b u hb g => (Heap.get?_update_ne _ _ _ _ hb).trans g) hc1 lo_nc s.toks
  refine wpAny_bind (listUpdate_at hS rfl ?_ szk (Nat.zero_le _))
  refine wpAny_bind (wpAny_letGo ?_)
  have hD1 : (s.heap.update S (Obj.mapSeq fun _ => (#[] : Array Value))).get? D = some (lo #[] e1) := (Heap.get?_update_ne _ _ _ _ hDS).trans hD
  refine wpAny_bind (seqEpoch_at hD1 rfl ?_)
  have I2 : Inv X ((D, lo #[] e1) :: pins) σ H _ := ClX.unpin I1
  obtain ⟨c2, hc2⟩ : ∃ c2, ((s.heap.update S (Obj.mapSeq fun _ => (#[] : Array Value))).update D (Obj.mapSeq fun _ => (arrOf st).map (·.2))).get? D = some (lo ((arrOf st).map (·.2)) c2) := ⟨_, get?_update_seq hD1 fun _ => (arrOf st).map (·.2)⟩
  have I3 := change I2 MD (h' := (s.heap.update S (Obj.mapSeq fun _ => (#[] : Array Value))).update D (Obj.mapSeq fun _ => (arrOf st).map (·.2))) (o' := lo ((arrOf st).map (·.2)) c2) (fun b u hb g => (Heap.get?_update_ne _ _ _ _ hb).trans g) hc2 lo_nc s.toks
  simp only [Bool.false_eq_true, if_false]
  refine wpAny_bind (listUpdate_at hD1 rfl ?_ (Nat.zero_le _) (Nat.le_trans szo (Nat.le_succ _)))
  rw [hf]
  simp only [bne_self_eq_false, Bool.false_eq_true, if_false]
  have I4 := track (xs := pq.map (·.2)) (its := ((arrOf st).map (·.2)).toList) (n := c2) I3 MD (by rw [Array.toArray_toList] <;> rfl) (by rw [List.length_map, lp]; exact Evl.sz_of hz) (by rw [Array.toList_map]; exact h3)
  exact wpAny_pure (h _ _ I4 (q pq D h1 h2 (ClX.pin_un I2)))
end
end L2

set_option maxRecDepth 100000
/-! Srt2: sorted(.., key=f) with list keys. -/
namespace L2
open PySem PySem.Spec PyProof.Rows PySem.W SrtO SrK
section
variable {X : Cx} {pins : List (Addr × Obj)} {σ : L2.St} {H : Hp} {s : Shared} {k : Nat} {f : Addr} {fd : FuncData} {ps : List Str} {sp : Sp} {A : Around} {D S : Addr} {kf : V → List Int}
theorem key_zip (ws us : List Value) : (ws.toArray.zip us.toArray).toList = ws.zip us := by
  rw [List.zip_toArray]
set_option maxHeartbeats 2000000 in
/-- the sorting itself -/
theorem key_end {R : PySem.Fin → Shared → Prop} {E : Value → Shared → Prop} {e e1 : Nat} {ks xs : List V} {ws us : List Value} {Q : VK} (hu : A.units < cLine) (I : Inv X ((S, lo ws.toArray e) :: (D, lo #[] e1) :: pins) σ H s) (MS : Mine X ((D, lo #[] e1) :: pins) S) (MD : Mine X pins D)
    (r1 : Vals ks ws) (r2 : Vals xs us) (hz : xs.length ≤ 100000) (hk : ks.length = xs.length) (ha : ∀ v ∈ ks, KeyAt X.K H kf v)
    (q : ∀ (pq : List (V × V)) (D : Addr), pq.Perm (ks.zip xs) → Srtd (SrK.ltP kf) pq → H D = none → Q (.ref D) (upd H D (.lst (pq.map (·.2)))))
    (h : ∀ s' H', Inv X pins σ H' s' → Q (.ref D) H' → R (.done (.ret .none)) s') : wpAny (model X.prog X.w) A (ksk_end D false us.toArray e1 (.ref S) ws.toArray) R E s := by
  have ha' : ∀ v ∈ ks, ∃ a, v = V.ref a := fun v hv => let ⟨a, ea, _⟩ := ha v hv; ⟨a, ea⟩
  have lw : ws.length = us.length := by
    have h1 := r1.length
    have h2 := r2.length
    omega
  have hL := SrK.keys_at I r1 ha
  unfold ksk_end
  try dsimp only
  simp only [Bool.false_eq_true, if_false]
  by_cases h2 : us.toArray.size < 2
  · rw [if_pos h2, if_pos h2]
    refine wpAny_bind (wpAny_pure ?_)
    rw [StateT.run_pure]
    refine wpAny_bind (wpAny_pure ?_)
    try dsimp only
    refine key_tail (st := SortSt.mk' general' (ws.toArray.zip us.toArray) #[] 7 none) I MS MD r1 r2 hz hk ha' (by rw [show (arrOf (SortSt.mk' general' (ws.toArray.zip us.toArray) #[] 7 none)) = ws.toArray.zip us.toArray from rfl, key_zip]) ?_ rfl q h
    rw [show (arrOf (SortSt.mk' general' (ws.toArray.zip us.toArray) #[] 7 none)) = ws.toArray.zip us.toArray from rfl, key_zip]
    rw [List.size_toArray] at h2
    have hl : (ws.zip us).length < 2 := by
      rw [List.length_zip]
      omega
    generalize ws.zip us = l at hl
    match l, hl with
    | [], _ => exact List.Pairwise.nil
    | [v], _ => exact List.pairwise_singleton _ _
    | _ :: _ :: l, hl => exact absurd hl (by rw [List.length_cons, List.length_cons]; omega)
  · rw [if_neg h2, if_neg h2]
    rw [List.size_toArray] at h2
    refine wpAny_bind (SrK.key_kind (k := SrK.kV kf) (by omega) hL ?_)
    refine wpAny_bind (wpAny_mono (wpS_sortO (st0 := SortSt.mk' oneType' (ws.toArray.zip us.toArray) #[] 7 none) (lt := fun p q : Keyed => HT.lexLt (SrK.kV kf p.1) (SrK.kV kf q.1)) (P := fun p : Keyed => p.1 ∈ ws)
      (Q := fun _ st' => Srtd (fun p q : Keyed => HT.lexLt (SrK.kV kf p.1) (SrK.kV kf q.1)) (arrOf st').toList ∧ Stb (fun p q : Keyed => HT.lexLt (SrK.kV kf p.1) (SrK.kV kf q.1)) (arrOf st').toList (arrOf (SortSt.mk' oneType' (ws.toArray.zip us.toArray) #[] 7 none)).toList ∧ failedOf st' = none)
      (NtL.swo_lexL fun p : Keyed => SrK.kV kf p.1) (SrK.key_cmp hu hL) rfl (fun p hm => ?_) rfl rfl fun st' a1 a2 a3 => ⟨a1, a2, a3⟩) ?_ fun _ _ e => e)
    · rw [show (arrOf (SortSt.mk' oneType' (ws.toArray.zip us.toArray) #[] 7 none)) = ws.toArray.zip us.toArray from rfl, key_zip] at hm
      exact (List.of_mem_zip hm).1
    · rintro ⟨⟨⟩, st'⟩ s' ⟨rfl, hp1, hp2, hf⟩
      try dsimp only
      rw [show (arrOf (SortSt.mk' oneType' (ws.toArray.zip us.toArray) #[] 7 none)) = ws.toArray.zip us.toArray from rfl, key_zip] at hp2
      exact key_tail I MS MD r1 r2 hz hk ha' hp2.perm.symm hp1 hf q h
end
end L2
namespace L2
open PySem PySem.Spec PyProof.Rows PySem.W SrtO SrK
section
variable {X : Cx} {pins : List (Addr × Obj)} {σ : L2.St} {H : Hp} {s : Shared} {k : Nat} {f : Addr} {fd : FuncData} {ps : List Str} {sp : Sp} {A : Around} {D S : Addr} {kf : V → List Int}
set_option maxHeartbeats 2000000 in
/-- the keys, one after the other -/
theorem key_rest {R : PySem.Fin → Shared → Prop} {E : Value → Shared → Prop} {e1 : Nat} {xs : List V} {us : List Value} {Q : VK} {Pv : Nat → List V → Hp → Prop} (hr : Room k A) (hfr : A.frames = X.A.frames) (F : FnOk X.prog X.w X.K X.mg X.base (L2.CX X.prog X.w) k f fd ps sp) (hb : Binds X.K fd ps [])
    (I : Inv X ((S, lo #[] 0) :: (D, lo #[] e1) :: pins) σ H s) (MS : Mine X ((D, lo #[] e1) :: pins) S) (MD : Mine X pins D) (r2 : Vals xs us) (hz : xs.length ≤ 100000) (h0 : Pv 0 [] H)
    (hs : ∀ i x ks H1, xs[i]? = some x → Pv i ks H1 → sp [x] H1 (fun v H2 => Pv (i + 1) (ks ++ [v]) H2) E0)
    (hd : ∀ ks H1, Pv xs.length ks H1 → ks.length = xs.length ∧ ∃ kf : V → List Int, (∀ v ∈ ks, KeyAt X.K H1 kf v) ∧
      ∀ (pq : List (V × V)) (D : Addr), pq.Perm (ks.zip xs) → Srtd (SrK.ltP kf) pq → H1 D = none → Q (.ref D) (upd H1 D (.lst (pq.map (·.2)))))
    (h : ∀ s' H', Inv X pins σ H' s' → Q (.ref D) H' → R (.done (.ret .none)) s') : wpAny (model X.prog X.w) A (ksk_rest D (.ref f) false us.toArray e1 (.ref S)) R E s := by
  unfold ksk_rest
  refine wpAny_bind (wpAny_rule ?_)
  first
    | rw [List.forIn_toArray]
    | (rw [← Array.forIn_toList]; simp only [List.toList_toArray])
  have lu := r2.length
  refine wpAny_bind (ksk_fold (fun i s' => ∃ H1 ks ws e, Inv X ((S, lo ws.toArray e) :: (D, lo #[] e1) :: pins) σ H1 s' ∧ Vals ks ws ∧ ks.length = i ∧ Pv i ks H1) us 0 s ⟨H, [], [], 0, I, .nil, rfl, h0⟩ ?step ?done)
  case step =>
    rintro j u s' hu ⟨H1, ks, ws, e, J, r1, lk, pv⟩
    simp only [Nat.zero_add] at lk pv ⊢
    have hj : j < us.length := (List.getElem?_eq_some_iff.mp hu).1
    obtain ⟨x, hx, rx⟩ : ∃ x, xs[j]? = some x ∧ RelV x u := by
      have : ∀ {xs : List V} {us : List Value} {j : Nat}, Vals xs us → us[j]? = some u → ∃ x, xs[j]? = some x ∧ RelV x u := by
        intro xs us j r
        induction r generalizing j with
        | nil => intro z; simp at z
        | cons r t ih =>
          intro z
          cases j with
          | zero =>
            simp at z
            subst z
            exact ⟨_, rfl, r⟩
          | succ j => exact ih (by simpa using z)
      exact this r2 hu
    refine wpAny_bind (wpAny_attempt (wpAny_mono (SrK.run_no hr hfr F hb J (show Vals [x] [u] from .cons rx .nil) (hs j x ks H1 hx pv)) (fun v s2 he => ?_) fun _ _ hF => hF.elim))
    obtain ⟨v', H2, J2, rv, pv2⟩ := he
    try dsimp only
    have hS := ClX.pin_at J2
    obtain ⟨c2, hc2⟩ : ∃ c2, (s2.heap.update S (Obj.mapSeq (·.push v))).get? S = some (lo (ws.toArray.push v) c2) := ⟨_, get?_update_seq hS (·.push v)⟩
    have lw := r1.length
    refine wpAny_bind (listUpdate_at hS rfl ?_ (by rw [List.size_toArray]; exact Evl.sz_of (by omega)) (Nat.le_trans (Nat.le_of_eq (Array.size_push ..)) (by rw [List.size_toArray]; exact Nat.succ_le_succ (Evl.sz_of (by omega)))))
    have J3 := change J2 MS (h' := s2.heap.update S (Obj.mapSeq (·.push v))) (o' := lo (ws.toArray.push v) c2) (fun b g hb z => (Heap.get?_update_ne _ _ _ _ hb).trans z) hc2 lo_nc s2.toks
    refine wpAny_pure ⟨rfl, H2, ks ++ [v'], ws ++ [v], c2, ?_, r1.append (.cons rv .nil), by rw [List.length_append, lk]; rfl, pv2⟩
    rw [← List.push_toArray]
    exact J3
  case done =>
    rintro s' ⟨H1, ks, ws, e, J, r1, lk, pv⟩
    have lk : ks.length = xs.length := by omega
    have pv : Pv xs.length ks H1 := by
      rw [Nat.zero_add, ← lu] at pv
      exact pv
    obtain ⟨l1, kf, hk, q⟩ := hd ks H1 pv
    try dsimp only
    refine wpAny_bind (listItems_at (ClX.pin_at J) rfl ?_)
    exact key_end hr.units0 J MS MD r1 r2 hz l1 hk q h
abbrev lo2 (us : List Value) : Obj := seqObj "tuple" us.toArray 0
set_option maxHeartbeats 2000000 in
theorem key_sort {R : PySem.Fin → Shared → Prop} {E : Value → Shared → Prop} {n : Nat} {xs : List V} {us : List Value} {Q : VK} {Pv : Nat → List V → Hp → Prop} (hr : Room k A) (hfr : A.frames = X.A.frames) (F : FnOk X.prog X.w X.K X.mg X.base (L2.CX X.prog X.w) k f fd ps sp) (hb : Binds X.K fd ps [])
    (I : Inv X ((D, lo us.toArray n) :: pins) σ H s) (MD : Mine X pins D) (r2 : Vals xs us) (hz : xs.length ≤ 100000) (h0 : Pv 0 [] H)
    (hs : ∀ i x ks H1, xs[i]? = some x → Pv i ks H1 → sp [x] H1 (fun v H2 => Pv (i + 1) (ks ++ [v]) H2) E0)
    (hd : ∀ ks H1, Pv xs.length ks H1 → ks.length = xs.length ∧ ∃ kf : V → List Int, (∀ v ∈ ks, KeyAt X.K H1 kf v) ∧
      ∀ (pq : List (V × V)) (D : Addr), pq.Perm (ks.zip xs) → Srtd (SrK.ltP kf) pq → H1 D = none → Q (.ref D) (upd H1 D (.lst (pq.map (·.2)))))
    (h : ∀ s' H', Inv X pins σ H' s' → Q (.ref D) H' → R (.done (.ret .none)) s') : wpAny (model X.prog X.w) A (ksk_tree D (.ref f) false) R E s := by
  have ho := ClX.pin_at I
  have lu := r2.length
  have szu : us.toArray.size ≤ sizeLine := by rw [List.size_toArray]; exact Evl.sz_of (by omega)
  obtain ⟨e1, ho1⟩ : ∃ e1, (s.heap.update D (Obj.mapSeq fun _ => (#[] : Array Value))).get? D = some (lo #[] e1) := ⟨_, get?_update_seq ho fun _ => #[]⟩
  have I1 := change I MD (h' := s.heap.update D (Obj.mapSeq fun _ => (#[] : Array Value))) (o' := lo #[] e1) (fun b g hb z => (Heap.get?_update_ne _ _ _ _ hb).trans z) ho1 lo_nc s.toks
  have I2 := I1.kept (h' := (s.heap.update D (Obj.mapSeq fun _ => (#[] : Array Value))).push (lo2 us)) (t' := s.toks) fun b g z => Heap.get?_push_of_some _ z
  have I3 := ClX.pin_new I2 (a := ((s.heap.update D (Obj.mapSeq fun _ => (#[] : Array Value))).push (lo2 us)).objs.size) (o := lo #[] 0) (h' := ((s.heap.update D (Obj.mapSeq fun _ => (#[] : Array Value))).push (lo2 us)).push (lo #[] 0)) (t' := s.toks) (fun b g z => Heap.get?_push_of_some _ z) (Nat.le_refl _) (Heap.get?_push_size _ rfl) lo_nc
  unfold ksk_tree
  refine wpAny_bind (listItems_at ho rfl ?_)
  refine wpAny_bind (listUpdate_at ho rfl ?_ szu (Nat.zero_le _))
  refine wpAny_bind (seqEpoch_at ho1 rfl ?_)
  refine wpAny_bind (wpAny_newTuple ?_ (by show us.length ≤ _; exact Evl.sz_of (by omega)))
  refine wpAny_bind (wpAny_newList ?_ (Nat.zero_le _))
  refine wpAny_holding ?_
  exact key_rest hr hfr F hb I3 (mine_new I2 (Nat.le_refl _)) MD r2 hz h0 hs hd h
end
end L2
namespace L2
open PySem PySem.Spec PyProof.Rows PySem.W SrtO SrK
section
variable {X : Cx} {k : Nat} {f : Addr} {fd : FuncData} {ps : List Str} {sp : Sp}
set_option maxHeartbeats 4000000 in
/-- THE RULE -/
theorem cr_sortedBy (F : FnOk X.prog X.w X.K X.mg X.base (L2.CX X.prog X.w) k f fd ps sp) (hb : Binds X.K fd ps []) (hr : Room (k + 2) X.A) : CallRK X (.builtin "sorted") [Str.ofString "key"] (rSortKey X.K f sp) := by
  intro pins s σ H vs zs us ws Q I r rz h
  obtain ⟨l, xs, Pv, rfl, rfl, hs, hz, h0, hstep, hd⟩ := h
  obtain rfl := Vals.ref1 r
  obtain ⟨w1, rfl, e1⟩ := vals1 rz
  obtain rfl : w1 = Value.ref f := e1
  obtain ⟨its, r2, pl, _⟩ := I.list hs
  have lu := r2.length
  have szi : its.length ≤ sizeLine := Evl.sz_of (by omega)
  show wpAny _ _ (call (.builtin "sorted") [.ref l] [(Str.ofString "key", .ref f)]) _ _ _
  refine call_function_entry_kw kind_sorted plain_sorted entry_sorted (ksk_s1 _ _) ?_
  unfold Builtin.«sorted»
  refine wpAny_bind (m := checkCount "sorted" 1 1 _) (wpAny_pure ?_)
  refine wpAny_bind (collect_list pl.isList ?_ szi)
  refine wpAny_bind (wpAny_newList ?_ szi)
  have hsz : ((s.heap.push (seqObj "list" #[] 0)).update s.heap.objs.size (Obj.mapSeq (· ++ its.toArray))).objs.size = s.heap.objs.size + 1 := by
    rw [Heap.size_update, size_push']
  have keep : ∀ b o, s.heap.get? b = some o → ((s.heap.push (seqObj "list" #[] 0)).update s.heap.objs.size (Obj.mapSeq (· ++ its.toArray))).get? b = some o := fun b o q => by
    have hlt : b < s.heap.objs.size := Heap.lt_size q
    rw [Heap.get?_update_ne _ _ _ _ (Nat.ne_of_lt hlt)]
    exact Heap.get?_push_of_some _ q
  have I1 := I.kept (h' := (s.heap.push (seqObj "list" #[] 0)).update s.heap.objs.size (Obj.mapSeq (· ++ its.toArray))) (t' := s.toks) keep
  have hoL : (((s.heap.push (seqObj "list" #[] 0)).update s.heap.objs.size (Obj.mapSeq (· ++ its.toArray))).push (lo its.toArray 0)).get? (s.heap.objs.size + 1) = some (lo its.toArray 0) := by
    rw [← hsz]
    exact Heap.get?_push_size _ rfl
  have I2 := ClX.pin_new I1 (a := s.heap.objs.size + 1) (o := lo its.toArray 0) (h' := ((s.heap.push (seqObj "list" #[] 0)).update s.heap.objs.size (Obj.mapSeq (· ++ its.toArray))).push (lo its.toArray 0)) (t' := s.toks) (fun b g z => Heap.get?_push_of_some _ z) (Nat.le_of_eq hsz) hoL lo_nc
  show wpAny _ _ _ _ _ { s with heap := ((s.heap.push (seqObj "list" #[] 0)).update s.heap.objs.size (Obj.mapSeq (· ++ its.toArray))).push (seqObj "list" its.toArray 0) }
  rw [hsz]
  refine wpAny_bind (wpAny_holding (wpAny_call_entry_kw slot_list_sort ⟨_, hoL, rfl⟩ entry_list_sort ?body (ksk_l1 _ _)))
  case body =>
    show wpAny (model X.prog X.w) X.A.in1.in1 (Builtin.«list.sort» ⟨[.ref (s.heap.objs.size + 1)], [(Str.ofString "key", .ref f)]⟩) _ _ _
    rw [ksk_t1]
    refine key_sort (Q := Q) hr.in1.in1 rfl F hb I2 (mine_new I1 (Nat.le_of_eq hsz)) r2 hz h0 hstep hd fun s' H' J q => ⟨_, rfl, ?_⟩
    exact wpAny_pure ⟨_, rfl, .ref (s.heap.objs.size + 1), H', J, rfl, q⟩
end
end L2

set_option maxRecDepth 100000
/-! Sg: list < list, sorted(.., key=f) over typed data. -/
namespace DL
open PySem L2 Evl
theorem al_perm {α β : Type} {R : α → β → Prop} {m m' : List β} (p : m.Perm m') : ∀ {l : List α}, Al R l m → ∃ l', l'.Perm l ∧ Al R l' m' := by
  induction p with
  | nil => exact fun h => ⟨_, .refl _, h⟩
  | cons x p ih =>
    intro l h
    cases h with
    | cons r t =>
      obtain ⟨l', e, t'⟩ := ih t
      exact ⟨_, e.cons _, .cons r t'⟩
  | swap x y l =>
    intro l h
    cases h with
    | cons r t => cases t with
      | cons r2 t => exact ⟨_, .swap _ _ _, .cons r2 (.cons r t)⟩
  | trans p q ih1 ih2 =>
    intro l h
    obtain ⟨l1, e1, t1⟩ := ih1 h
    obtain ⟨l2, e2, t2⟩ := ih2 t1
    exact ⟨l2, e2.trans e1, t2⟩
/-- a new list, any with P -/
def DenNX {α : Type} (te : TE) (Γ : List Slot) (t : Ty α) (P : List α → Prop) (Γ' : List Slot) : Prop := ∀ (Z : En) F σ H, Holds Z Γ F σ H → ∀ Q : VK, (∀ ys p vs F' H', P ys → Holds Z Γ' F' σ H' → Pres Γ Γ' σ F H F' H' → H p = none → F' p = none → H' p = some (.lst vs) → Reps F' (ys.map fun y => ⟨t, y⟩) vs → Q (.ref p) H') → te σ H Q
def intOf : V → Int
  | .int i => i
  | _ => 0
/-- the ints that a key's address holds -/
def intsAt (H : Hp) : V → List Int
  | .ref p => match H p with
    | some (.lst us) => us.map intOf
    | _ => []
  | _ => []
theorem ints_map : ∀ (ns : List Int), (ns.map V.int).map intOf = ns
  | [] => rfl
  | n :: ns => congrArg (n :: ·) (ints_map ns)
theorem intsAt_at {H : Hp} {p : Addr} {ns : List Int} (h : H p = some (.lst (ns.map V.int))) : intsAt H (.ref p) = ns := by
  unfold intsAt
  simp only [h]
  exact ints_map ns
/-- what stands for the keys of xs -/
abbrev KeyR {α : Type} (kf : α → List Int) (F H : Hp) : α → V → Prop := fun x v => ∃ p, v = .ref p ∧ F p = none ∧ H p = some (.lst ((kf x).map V.int))
section
variable {α : Type} {t : Ty α} {xs : List α} {kf : α → List Int} {Γ Γ1 : List Slot} {ta : TE} {K : PySem.W.Frag} {f : Addr} {S : List Dv → List Dv → Prop}
theorem KeyR.step {F H F' H' : Hp} (k : Step NoO F H F' H') : ∀ {xs : List α} {ks : List V}, Al (KeyR kf F H) xs ks → Al (KeyR kf F' H') xs ks := fun h => h.map fun x v ⟨p, e, n, hp⟩ => by
  obtain ⟨n', e2⟩ := k.no hp n (fun _ z => nomatch z)
  exact ⟨p, e, n', e2⟩
theorem dn_sortBy (ha : DenL ta Γ t xs Γ1) (hl : xs.length ≤ 100000) (hS : ∀ x ∈ xs, S [⟨t, x⟩] ((kf x).map fun i => ⟨tInt, i⟩)) :
    DenNX (tCKw (rSortKey K f (spN S)) (tCons ta tNil) (tCons (tC (.ref f)) tNil)) Γ t (fun ys => ys.Perm xs ∧ ys.Pairwise fun a b => HT.lexLt (kf b) (kf a) = false) Γ1 := fun Z F σ H hh Q q =>
  ha Z F σ H hh _ fun a vs F1 H1 h1 p1 e r => by
    show rSortKey K f (spN S) [.ref a] [.ref f] H1 Q
    refine ⟨a, vs, fun n ks Hn => ∃ Fn, Step NoO F1 H1 Fn Hn ∧ ks.length = n ∧ Al (KeyR kf Fn Hn) (xs.take n) ks, rfl, rfl, sq_of e, by rw [← r.len]; exact hl, ⟨F1, Step.refl h1.fh, rfl, .nil⟩, ?_, ?_⟩
    · rintro i v ks Hn hv ⟨Fn, st, lk, al⟩
      obtain ⟨x, hx, rx⟩ := r.getR hv
      have hm : x ∈ xs := List.mem_of_getElem? hx
      refine ⟨Fn, [⟨t, x⟩], st.fh, .cons (t.mono st.ff rx) .nil, _, hS x hm, fun p us F' H' k np fp hp rr => ⟨F', st.trans k, by rw [List.length_append, lk]; rfl, ?_⟩⟩
      have ex : xs.take (i + 1) = xs.take i ++ [x] := by rw [List.take_add_one, hx] <;> rfl
      rw [ex]
      have eu : us = (kf x).map V.int := al_int (al_map rr)
      exact (KeyR.step k al).app (.cons ⟨p, rfl, fp, by rw [hp, eu]⟩ .nil)
    · rintro ks Hn ⟨Fn, st, lk, al⟩
      rw [← r.len, List.take_length] at al
      refine ⟨by omega, intsAt Hn, fun v hv => ?_, fun pq D hp hs nD => ?_⟩
      · obtain ⟨x, p, rfl, n, hp⟩ : ∃ x p, v = .ref p ∧ Fn p = none ∧ Hn p = some (.lst ((kf x).map V.int)) := by
          obtain ⟨j, hj⟩ := List.getElem?_of_mem hv
          obtain ⟨x, _, p, e1, e2, e3⟩ := al.getR hj
          exact ⟨x, p, e1, e2, e3⟩
        refine ⟨p, rfl, sq_of ?_⟩
        have ei : intsAt Hn (.ref p) = kf x := intsAt_at hp
        rw [ei]
        exact hp
      · have both : Al (fun (x : α) (b : V × V) => intsAt Hn b.1 = kf x ∧ t.rep Fn b.2 x) xs (ks.zip vs) := by
          have r2 : Al (fun x v => t.rep Fn v x) xs vs := r.map fun _ _ z => t.mono st.ff z
          clear hp hs q r
          have hlen := al.len
          revert al r2
          generalize ks = ks
          intro al
          clear hlen
          have key : ∀ {xs : List α} {ks vs : List V}, Al (KeyR kf Fn Hn) xs ks → Al (fun x v => t.rep Fn v x) xs vs → Al (fun (x : α) (b : V × V) => intsAt Hn b.1 = kf x ∧ t.rep Fn b.2 x) xs (ks.zip vs) := by
            intro xs ks vs a
            induction a generalizing vs with
            | nil => intro _; exact .nil
            | cons h _ ih =>
              intro b
              cases b with
              | cons h2 b =>
                refine .cons ⟨?_, h2⟩ (ih b)
                obtain ⟨p, rfl, n, hp⟩ := h
                exact intsAt_at hp
          exact key al
        obtain ⟨ys, py, ay⟩ := al_perm hp.symm both
        have h2 := h1.step st
        have hs2 : ys.Pairwise fun a b => HT.lexLt (kf b) (kf a) = false := by
          clear hp py both
          induction ay with
          | nil => exact List.Pairwise.nil
          | cons h t ih =>
            obtain ⟨z1, z2⟩ := List.pairwise_cons.mp hs
            refine List.pairwise_cons.mpr ⟨fun y hy => ?_, ih z2⟩
            obtain ⟨j, hj⟩ := List.getElem?_of_mem hy
            obtain ⟨b, hb, e1, _⟩ := t.get hj
            have z := z1 b (List.mem_of_getElem? hb)
            rw [← h.1, ← e1]
            exact z
        have rr : Al (fun x v => t.rep Fn v x) ys (pq.map (·.2)) := by
          clear hs hs2 hp py both
          induction ay with
          | nil => exact .nil
          | cons h t ih => exact .cons h.2 ih
        have sn := Step.open (o := .lst (pq.map (·.2))) h2.fh nD
        have pt : Pres Γ Γ1 σ F H Fn Hn := p1.trans (Pres.step st)
        exact q ys D _ Fn _ ⟨py, hs2⟩ (h2.step sn) (pt.trans (Pres.step sn)) (pt.new nD) (ex_none h2.fh nD) upd_same (al_unmap rr)
end
end DL
namespace DL
open PySem L2 Evl
section
variable {Z : En} {Γ Γ1 Γ2 : List Slot} {ta tb te : TE} {K : PySem.W.Frag} {ns ms : List Int} {i : Nat} {D : Ends} {α : Type} {t : Ty α} {P : List α → Prop}
theorem den_ltL (ha : DenN ta Γ (ns.map fun x => ⟨tInt, x⟩) Γ1) (hb : DenN tb Γ1 (ms.map fun x => ⟨tInt, x⟩) Γ2) : Den (tOp (rLtL K) ta tb) Γ tBool (HT.lexLt ns ms) Γ2 := fun Z F σ H hh Q q =>
  ha Z F σ H hh _ fun a vs F1 H1 h1 p1 na fa hla ra => hb Z F1 σ H1 h1 _ fun b us F2 H2 h2 p2 nb fb hlb rb => by
    have no : ∀ i, ¬ OwnAt Γ1 σ i a := fun i w => hh.notOwn na i (p1.ow i a w)
    obtain ⟨_, k⟩ := p2.keep a _ hla fa (fun _ z => nomatch z) no
    have e1 : vs = ns.map V.int := al_int (al_map ra)
    have e2 : us = ms.map V.int := al_int (al_map rb)
    exact ⟨a, b, ns, ms, rfl, rfl, sq_of (by rw [k, e1]), sq_of (by rw [hlb, e2]), q _ F2 H2 h2 (p1.trans p2) rfl⟩
theorem s_setNX (h : DenNX te Γ t P Γ1) (k : ∀ ys, P ys → OK Z (Γ1.set i (.lst t ys)) D.nx) : OK Z Γ (tAsg te (gName i) D) := fun F σ H hh =>
  h Z F σ H hh _ fun ys p vs F' H' py h' pr np fp hp rr => k ys py F' _ _ (h'.setOwn i (hh.fresh np) (fun j w => hh.notOwn np j (pr.ow j p w)) ⟨fp, vs, hp, al_map rr⟩)
end
end DL

set_option maxRecDepth 100000
/-! Dc: dicts keyed by tuples of ints, over typed data. -/
namespace DL
open PySem L2 Evl
/-- a tuple that is there may be frozen -/
theorem Step.tup {F H : Hp} {b : Addr} {vs : List V} (e : Ex F H) (h : H b = some (.tup vs)) : ∃ F', Step NoO F H F' H ∧ F' b = some (.tup vs) := by
  cases q : F b with
  | some o =>
    have z := e b o q
    rw [h] at z
    cases z
    exact ⟨F, Step.refl e, q⟩
  | none =>
    refine ⟨upd F b (.tup vs), ⟨Ex.new q, fun c u z => ?_, fun c u z n => ?_⟩, upd_same⟩
    · by_cases y : c = b
      · subst y
        rw [upd_same] at z
        cases z
        exact h
      · rw [upd_ne y] at z
        exact e c u z
    · by_cases y : c = b
      · subst y
        exact ⟨.inr ⟨vs, upd_same⟩, ⟨u, z⟩, fun _ => z⟩
      · rw [upd_ne y]
        exact ⟨.inl n, ⟨u, z⟩, fun _ => z⟩
theorem Step.tups {F H : Hp} (e : Ex F H) : ∀ (bs : List (Addr × List V)), (∀ p ∈ bs, H p.1 = some (.tup p.2)) → ∃ F', Step NoO F H F' H ∧ ∀ p ∈ bs, F' p.1 = some (.tup p.2)
  | [], _ => ⟨F, Step.refl e, fun p hp => nomatch hp⟩
  | p :: bs, h => by
    obtain ⟨F1, k1, r1⟩ := Step.tups e bs fun q hq => h q (List.mem_cons_of_mem _ hq)
    obtain ⟨F2, k2, r2⟩ := Step.tup k1.fh (h p List.mem_cons_self)
    refine ⟨F2, k1.trans k2, fun q hq => ?_⟩
    rcases List.mem_cons.mp hq with z | z
    · rw [z]
      exact r2
    · exact k2.ff _ _ (r1 q z)
/-! ### entries -/
def valD {α : Type} (kvs : List (List Int × α)) (k : List Int) : Option α := (kvs.find? fun p => decide (p.1 = k)).map (·.2)
def putL {α : Type} (kvs : List (List Int × α)) (k : List Int) (x : α) : List (List Int × α) := if (kvs.any fun p => decide (p.1 = k)) = true then kvs.map (fun p => if p.1 = k then (p.1, x) else p) else kvs ++ [(k, x)]
theorem inl_inj : ∀ {k j : List Int}, (k.map Sum.inl : List Key) = j.map Sum.inl → k = j
  | [], [], _ => rfl
  | [], _ :: _, e => by simp at e
  | _ :: _, [], e => by simp at e
  | a :: k, b :: j, e => by
    rw [List.map_cons, List.map_cons] at e
    injection e with e1 e2
    injection e1 with e1
    rw [e1, inl_inj e2]
theorem kv_inl : ∀ (k : List Int), (k.map Sum.inl : List Key).map kV = k.map V.int
  | [] => rfl
  | i :: k => by
    show V.int i :: _ = V.int i :: _
    rw [kv_inl k]
section
variable {α : Type} {t : Ty α} {F : Hp} {k : List Int} {x : α} {v : V}
theorem valD_rep : ∀ {kvs : List (List Int × α)} {ws : List (List Key × V)}, RepK F t kvs ws → (∀ x, valD kvs k = some x → ∃ v, valV ws (k.map Sum.inl) = some v ∧ t.rep F v x) ∧ (valD kvs k = none → valV ws (k.map Sum.inl) = none)
  | _, _, .nil => ⟨fun x e => (nomatch e), fun _ => rfl⟩
  | (j, y) :: kvs, (j', b) :: ws, .cons r h => by
    obtain ⟨r1, r2⟩ := r
    have r1 : j' = j.map Sum.inl := r1
    have r2 : t.rep F b y := r2
    subst r1
    obtain ⟨i1, i2⟩ := valD_rep h
    by_cases e : j = k
    · subst e
      have e1 : valD ((j, y) :: kvs) j = some y := by simp [valD, List.find?_cons]
      have e2 : valV ((j.map Sum.inl, b) :: ws) (j.map Sum.inl) = some b := by simp [valV, List.find?_cons]
      rw [e1, e2]
      exact ⟨fun x z => by cases z; exact ⟨b, rfl, r2⟩, fun z => nomatch z⟩
    · have e1 : valD ((j, y) :: kvs) k = valD kvs k := by simp [valD, List.find?_cons, e]
      have ne : ¬ (j.map Sum.inl : List Key) = k.map Sum.inl := fun z => e (inl_inj z)
      have e2 : valV ((j.map Sum.inl, b) :: ws) (k.map Sum.inl) = valV ws (k.map Sum.inl) := by simp [valV, List.find?_cons, ne]
      rw [e1, e2]
      exact ⟨i1, i2⟩
theorem putL_rep {kvs : List (List Int × α)} {ws : List (List Key × V)} (h : RepK F t kvs ws) (r : t.rep F v x) : RepK F t (putL kvs k x) (putK ws (k.map Sum.inl) v) := by
  have ea : (kvs.any fun p => decide (p.1 = k)) = (ws.any fun p => decide (p.1 = (k.map Sum.inl : List Key))) := by
    induction h with
    | nil => rfl
    | cons r h ih =>
      rw [List.any_cons, List.any_cons, ih, r.1]
      congr 1
      exact decide_eq_decide.mpr ⟨fun z => by rw [z], fun z => inl_inj z⟩
  unfold putL putK
  rw [ea]
  split
  · clear ea
    rename_i z
    clear z
    induction h with
    | nil => exact .nil
    | cons r1 h ih =>
      refine .cons ?_ ih
      rename_i p w l m
      dsimp only
      by_cases e : p.1 = k
      · rw [if_pos e, if_pos (by rw [r1.1, e])]
        exact ⟨r1.1, r⟩
      · rw [if_neg e, if_neg (by rw [r1.1]; exact fun z => e (inl_inj z))]
        exact r1
  · exact h.app (.cons ⟨rfl, r⟩ .nil)
end
end DL
/-! ### rules -/
namespace DL
open PySem L2 Evl
section
variable {α β : Type} {t : Ty α} {Z : En} {Γ Γ1 : List Slot} {i j : Nat} {D : Ends} {kvs : List (List Int × α)} {k : List Int} {x : α} {ty tv : TE} {u : Ty β} {K : PySem.W.Frag}
/-- x = {} -/
theorem s_setD (q : OK Z (Γ.set i (.dct t [])) D.nx) : OK Z Γ (tAsg tDNewT (gName i) D) := fun F σ H hh p np => q F _ _ (hh.setNew i np ⟨ex_none hh.fh np, [], upd_same, .nil⟩)
theorem dget_at {F H : Hp} {a : Addr} {v : V} {ws : List (List Key × V)} (e : Ex F H) (ha : H a = some (.dT ws)) (hk : (tTupl tInt).rep F v k) : DGet H a v (valV ws (k.map Sum.inl)) := by
  obtain ⟨b, vs, rfl, hb, al⟩ := hk
  refine DGet.t ha ?_
  rw [kv_inl, ← al_int al]
  exact e _ _ hb
/-- k in d -/
theorem den_din (h : Den ty Γ (tTupl tInt) k Γ1) (e1 : Γ1[i]? = some (.dct t kvs)) : Den (tDIn ty (tVar i)) Γ tBool (valD kvs k).isSome Γ1 := fun Z F σ H hh Q q =>
  h Z F σ H hh _ fun v F1 H1 h1 p r => by
    obtain ⟨a, ea, ⟨_, ws, hw, rw1⟩, _⟩ := h1.owned e1 rfl
    refine ⟨_, ea, a, _, rfl, dget_at h1.fh hw r, ?_⟩
    obtain ⟨g1, g2⟩ := valD_rep (k := k) rw1
    have es : (valV ws (k.map Sum.inl)).isSome = (valD kvs k).isSome := by
      cases z : valD kvs k with
      | none =>
        rw [g2 z]
        rfl
      | some y =>
        obtain ⟨v, z2, _⟩ := g1 y z
        rw [z2] <;> rfl
    rw [es]
    exact q _ F1 H1 h1 p rfl
/-- d[k] -/
theorem den_dget (e1 : Γ[i]? = some (.dct t kvs)) (h : Pu ty Γ (tTupl tInt) k) (hx : valD kvs k = some x) : Den (tDGet (tVar i) ty) Γ t x Γ := fun Z F σ H hh Q q => by
  obtain ⟨a, ea, _, _⟩ := hh.owned e1 rfl
  refine ⟨_, ea, h Z F σ H hh _ fun v F1 H1 st r => ?_⟩
  obtain ⟨a', ea', ⟨_, ws, hw, rw1⟩, _⟩ := (hh.step st).owned e1 rfl
  rw [ea] at ea'
  cases ea'
  obtain ⟨y, z, ry⟩ := (valD_rep (k := k) rw1).1 x hx
  exact ⟨a, y, rfl, by rw [← z]; exact dget_at st.fh hw r, q y F1 H1 (hh.step st) (Pres.step st) ry⟩
/-- d[k] = v -/
theorem s_dput (hv : Den tv Γ t x Γ1) (e1 : Γ1[i]? = some (.dct t kvs)) (h : Pu ty Γ1 (tTupl tInt) k) (hl : kvs.length < 100000) (q : OK Z (Γ1.set i (.dct t (putL kvs k x))) D.nx) : OK Z Γ (sDPut (tVar i) ty tv D) := fun F σ H hh =>
  hv Z F σ H hh _ fun v F1 H1 h1 p r => by
    obtain ⟨a, ea, _, _⟩ := h1.owned e1 rfl
    refine ⟨_, ea, h Z F1 σ H1 h1 _ fun b F2 H2 st rb => ?_⟩
    have h2 := h1.step st
    obtain ⟨a', ea', ⟨fa, ws, hw, rw1⟩, o⟩ := h2.owned e1 rfl
    rw [ea] at ea'
    cases ea'
    obtain ⟨c, vs, rfl, hc, al⟩ := rb
    refine ⟨a, _, rfl, DPut.t (k := k.map Sum.inl) hw (by rw [kv_inl, ← al_int al]; exact h2.fh _ _ hc) (sz_lt (by rw [← rw1.len]; exact hl)), ?_⟩
    exact q F2 σ _ (h2.mut (s := .dct t (putL kvs k x)) (o := .dT (putK ws (k.map Sum.inl) v)) o ⟨fa, _, upd_same, putL_rep rw1 (t.mono st.ff r)⟩)
/-- list(d): the keys -/
theorem dn_keys (e1 : Γ[i]? = some (.dct t kvs)) : DenN (tCB (fun xs H Q => ∃ d kvs, xs = [V.ref d] ∧ Rd H d (.dT kvs) ∧ ∀ p bs, H p = none → IsKeys H kvs bs → Q (.ref p) (upd H p (.lst (bs.map V.ref)))) (tCons (tVar i) tNil)) Γ ((kvs.map (·.1)).map fun k => ⟨tTupl tInt, k⟩) Γ := fun Z F σ H hh Q q => by
  obtain ⟨a, ea, ⟨_, ws, hw, rw1⟩, _⟩ := hh.owned e1 rfl
  refine ⟨_, ea, a, ws, rfl, .of hw, fun p bs np hk => ?_⟩
  have kk : ∀ {kvs : List (List Int × α)} {ws : List (List Key × V)} {bs : List Addr}, RepK F t kvs ws → IsKeys H ws bs → Al (fun (k : List Int) (b : Addr) => H b = some (.tup (k.map V.int))) (kvs.map (·.1)) bs := by
    intro kvs ws bs r
    induction r generalizing bs with
    | nil =>
      intro z
      cases z
      exact .nil
    | cons r _ ih =>
      intro z
      cases z with
      | cons z1 z2 =>
        refine .cons ?_ (ih z2)
        rw [z1, r.1, kv_inl]
  have al := kk rw1 hk
  obtain ⟨F', st, fr⟩ := Step.tups hh.fh (bs.map fun b => (b, match H b with
    | some (.tup vs) => vs
    | _ => [])) fun p hp => by
      obtain ⟨b, hb, rfl⟩ := List.mem_map.mp hp
      obtain ⟨n, hn⟩ := List.getElem?_of_mem hb
      obtain ⟨k, _, e⟩ := al.getR hn
      show H b = some (.tup (match H b with
        | some (.tup vs) => vs
        | _ => []))
      rw [e]
  have rr : Reps F' ((kvs.map (·.1)).map fun k => (⟨tTupl tInt, k⟩ : Dv)) (bs.map V.ref) := by
    clear hk st q
    revert al fr
    generalize kvs.map (·.1) = ks
    intro al fr
    induction al with
    | nil => exact .nil
    | cons e _ ih =>
      rename_i k b l m _x
      refine .cons ⟨b, k.map V.int, rfl, ?_, ?_⟩ (ih fun p hp => fr p (List.mem_cons_of_mem _ hp))
      · have z := fr _ (List.mem_cons_self)
        dsimp only at z
        rw [e] at z
        exact z
      · clear e ih fr
        induction k with
        | nil => exact .nil
        | cons n k ih => exact .cons rfl ih
  have h2 := hh.step st
  exact new_q (fun p vs F' H' => q p vs F' H') h2 (Pres.step st) np rr
end
end DL

set_option maxRecDepth 100000
/-! Pr: targets that are pairs, triples. -/
namespace DL
open PySem L2 Evl
abbrev gPair (K : PySem.W.Frag) (i j : Nat) : TG := gTup K 2 (gCons (gName i) (gCons (gName j) gNil))
abbrev gTri (K : PySem.W.Frag) (i j l : Nat) : TG := gTup K 3 (gCons (gName i) (gCons (gName j) (gCons (gName l) gNil)))
section
variable {α β γ : Type} {t : Ty α} {u : Ty β} {w : Ty γ} {x : α} {y : β} {Z : En} {Γ Γ' Γ1 Γ2 Γ3 : List Slot} {te wl : TE} {K : PySem.W.Frag} {D : Ends} {s1 s2 : TS} {i j l : Nat}
theorem g_pair {F H : Hp} {σ : L2.St} {v : V} {z : α × β} {Q : L2.St → Hp → Prop} (e : Ex F H) (r : (tPair t u).rep F v z) (q : ∀ v1 v2, t.rep F v1 z.1 → u.rep F v2 z.2 → Q ((σ.set i (some v1)).set j (some v2)) H) : gPair K i j v σ H Q := by
  obtain ⟨a, v1, v2, rfl, h, r1, r2⟩ := r
  exact ⟨a, [v1, v2], rfl, st_of (e _ _ h), rfl, v1, [v2], rfl, v2, [], rfl, rfl, q v1 v2 r1 r2⟩
theorem g_tri {F H : Hp} {σ : L2.St} {v : V} {z : α × β × γ} {Q : L2.St → Hp → Prop} (e : Ex F H) (r : (tTri t u w).rep F v z) (q : ∀ v1 v2 v3, t.rep F v1 z.1 → u.rep F v2 z.2.1 → w.rep F v3 z.2.2 → Q (((σ.set i (some v1)).set j (some v2)).set l (some v3)) H) : gTri K i j l v σ H Q := by
  obtain ⟨a, v1, v2, v3, rfl, h, r1, r2, r3⟩ := r
  exact ⟨a, [v1, v2, v3], rfl, st_of (e _ _ h), rfl, v1, [v2, v3], rfl, v2, [v3], rfl, v3, [], rfl, rfl, q v1 v2 v3 r1 r2 r3⟩
/-- a, b = e -/
theorem s_unp2 {z : α × β} (h : Den te Γ (tPair t u) z Γ1) (k : OK Z ((Γ1.set i (.val ⟨t, z.1⟩)).set j (.val ⟨u, z.2⟩)) D.nx) : OK Z Γ (tAsg te (gPair K i j) D) := fun F σ H hh =>
  h Z F σ H hh _ fun v F1 H1 h1 p r => g_pair h1.fh r fun v1 v2 r1 r2 => k F1 _ H1 ((h1.set (d := ⟨t, z.1⟩) i r1).set (d := ⟨u, z.2⟩) j r2)
theorem s_unp3 {z : α × β × γ} (h : Den te Γ (tTri t u w) z Γ1) (k : OK Z (((Γ1.set i (.val ⟨t, z.1⟩)).set j (.val ⟨u, z.2.1⟩)).set l (.val ⟨w, z.2.2⟩)) D.nx) : OK Z Γ (tAsg te (gTri K i j l) D) := fun F σ H hh =>
  h Z F σ H hh _ fun v F1 H1 h1 p r => g_tri h1.fh r fun v1 v2 v3 r1 r2 r3 => k F1 _ H1 (((h1.set (d := ⟨t, z.1⟩) i r1).set (d := ⟨u, z.2.1⟩) j r2).set (d := ⟨w, z.2.2⟩) l r3)
/-- for a, b in xs: xs a frozen list of pairs -/
theorem s_forP {S : Type} {xs : List (α × β)} (s0 : S) (G : S → List Slot) (I : Nat → S → Prop) (h : Den wl Γ (tList (tPair t u)) xs Γ1) (h0 : I 0 s0) (e0 : Wk Γ1 (G s0))
    (hs : ∀ Z' : En, (∀ {Γ F σ H}, Holds Z' Γ F σ H → Holds Z Γ F σ H) → ∀ n x s, xs[n]? = some x → I n s → OK Z' (((G s).set i (.val ⟨t, x.1⟩)).set j (.val ⟨u, x.2⟩)) (s1 { D with nx := LoopAt Z' G I (n + 1), ct := LoopAt Z' G I (n + 1), bk := D.nx }))
    (hd : ∀ s, I xs.length s → OK Z (G s) D.nx) : OK Z Γ (tFor (iList K wl) (gPair K i j) s1 D) := fun F σ H hh => by
  refine h Z F σ H hh _ fun v F1 H1 h1 p r => ?_
  obtain ⟨a, vs, rfl, e, rr⟩ := r
  have pm : ∀ {F F' : Hp}, Ex F F' → (F a = some (.lst vs) ∧ Al (fun x v => (tPair t u).rep F v x) xs vs) → (F' a = some (.lst vs) ∧ Al (fun x v => (tPair t u).rep F' v x) xs vs) := fun e h => ⟨e _ _ h.1, h.2.map fun _ _ z => (tPair t u).mono e z⟩
  refine ⟨a, rfl, ⟨vs, sq_of (h1.fh _ _ e)⟩, for_list (K := K) (a := a) (xs := vs) (LoopAt (Z.more _ pm) G I) ⟨s0, F1, h0, (h1.weak e0).more ⟨e, rr⟩⟩ ?_ ?_ ?_⟩
  · rintro n σ' H' _ ⟨s, F', _, hs'⟩
    exact sq_of (hs'.fh _ _ hs'.pp.2.1)
  · rintro n x σ' H' hx ⟨s, F', hi, hs'⟩
    obtain ⟨y, hy, ry⟩ := hs'.pp.2.2.getR hx
    exact g_pair hs'.fh ry fun v1 v2 r1 r2 => hs (Z.more _ pm) (fun h => h.less) n y s hy hi F' _ H' ((hs'.set (d := ⟨t, y.1⟩) i r1).set (d := ⟨u, y.2⟩) j r2)
  · rintro σ' H' ⟨s, F', hi, hs'⟩
    rw [← rr.len] at hi
    exact hd s hi F' σ' H' hs'.less
end
end DL
namespace DL
open PySem L2 Evl
section
variable {α β γ : Type} {t : Ty α} {u : Ty β} {x : α} {y : β} {Z : En} {Γ Γ' Γ1 Γ2 Γ3 : List Slot} {te ta tb tc : TE} {K : PySem.W.Frag} {D : Ends} {i j l : Nat}
/-- isinstance(x, (A, B)) -/
theorem den_isiT {c1 c2 : V} {u1 u2 τ : Value} {b : Bool} (ha : Den ta Γ t x Γ1) (k1 : ClsV c1 u1) (k2 : ClsV c2 u2) (T : IsTy K t x τ) (e : PySem.W.kitAny K τ [u1, u2] = some b) :
    Den (tCB (rIsiT K) (tCons ta (tCons (tTup (tCons (tC c1) (tCons (tC c2) tNil))) tNil))) Γ tBool b Γ1 := fun Z F σ H hh Q q =>
  ha Z F σ H hh _ fun v F1 H1 h1 p r => ⟨sz_of (by show 2 ≤ 100000; decide), fun m nm => by
    have k : Step NoO F1 H1 (upd F1 m (.tup [c1, c2])) (upd H1 m (.tup [c1, c2])) := Step.new h1.fh nm
    have h2 := h1.step k
    exact ⟨v, m, [c1, c2], τ, [u1, u2], b, rfl, upd_same, .cons k1 (.cons k2 .nil), T _ _ v h2.fh (t.mono k.ff r), e, q _ _ _ h2 (p.trans (Pres.step k)) rfl⟩⟩
/-- (a, b, c) -/
theorem den_tup3 {γ : Type} {w : Ty γ} {z : γ} (h : Den ta Γ t x Γ1) (h2 : Den tb Γ1 u y Γ2) (h3 : Den tc Γ2 w z Γ3) : Den (tTup (tCons ta (tCons tb (tCons tc tNil)))) Γ (tTri t u w) (x, y, z) Γ3 := den_as (den_row (da_cons h (da_cons h2 (da_cons h3 da_nil))) (by show 3 ≤ 100000; decide)) row_tri
/-- max, min, sum of a frozen list are told by the kit's cr_max, cr_min; a list given back as it is -/
theorem den_ifV {a b : α} {c : Bool} {tt : TT} (h : DenT tt Γ c Γ1) (h1 : c = true → Den ta Γ1 t a Γ2) (h2 : c = false → Den tb Γ1 t b Γ2) : Den (fun σ H Q => tt σ H fun k H' => if k = true then ta σ H' Q else tb σ H' Q) Γ t (if c = true then a else b) Γ2 := fun Z F σ H hh Q q =>
  h Z F σ H hh _ fun F' H' h' p => by
    cases c with
    | true => exact h1 rfl Z F' σ H' h' Q fun v F2 H2 h2' p2 r2 => q v F2 H2 h2' (p.trans p2) r2
    | false => exact h2 rfl Z F' σ H' h' Q fun v F2 H2 h2' p2 r2 => q v F2 H2 h2' (p.trans p2) r2
end
end DL
namespace DL
open PySem L2 Evl
def dec2 (Γ : List Slot) (i j : Nat) (d1 d2 : Dv) : List Slot := (Γ.set i (.val d1)).set j (.val d2)
def sg2 (σ : L2.St) (i j : Nat) (v1 v2 : V) : L2.St := ((wipe σ [i, j]).set i (some v1)).set j (some v2)
def Any2 (Γ : List Slot) (i j : Nat) : Prop := Γ[i]? = some .any ∧ Γ[j]? = some .any
section
variable {Z : En} {Γ : List Slot} {F H : Hp} {σ : L2.St} {i j k : Nat} {v1 v2 : V} {d1 d2 : Dv} {a : Addr}
theorem dec2_ne (h1 : k ≠ i) (h2 : k ≠ j) : (dec2 Γ i j d1 d2)[k]? = Γ[k]? := by
  unfold dec2
  rw [set_get_ne h2, set_get_ne h1]
theorem wip2_ne (h1 : k ≠ i) (h2 : k ≠ j) : (wipe σ [i, j])[k]? = σ[k]? := by
  show ((σ.set j none).set i none)[k]? = σ[k]?
  rw [set_get_ne h1, set_get_ne h2]
theorem sg2_ne (h1 : k ≠ i) (h2 : k ≠ j) : (sg2 σ i j v1 v2)[k]? = σ[k]? := by
  unfold sg2
  rw [set_get_ne h2, set_get_ne h1, wip2_ne h1 h2]
theorem wipe2 : wipe (sg2 σ i j v1 v2) [i, j] = wipe σ [i, j] := by
  apply List.ext_getElem?
  intro k
  show ((((((σ.set j none).set i none).set i (some v1)).set j (some v2)).set j none).set i none)[k]? = ((σ.set j none).set i none)[k]?
  by_cases h1 : k = i
  · subst h1
    by_cases lt : k < σ.length
    · rw [List.getElem?_set_self (by simpa using lt), List.getElem?_set_self (by simpa using lt)]
    · rw [List.getElem?_eq_none (by simpa using lt), List.getElem?_eq_none (by simpa using lt)]
  · by_cases h2 : k = j
    · subst h2
      by_cases lt : k < σ.length
      · rw [set_get_ne h1, set_get_ne h1, List.getElem?_set_self (by simpa using lt), List.getElem?_set_self (by simpa using lt)]
      · rw [List.getElem?_eq_none (by simpa using lt), List.getElem?_eq_none (by simpa using lt)]
    · simp only [set_get_ne h2, set_get_ne h1]
theorem inC2 (h : Holds Z Γ F σ H) (e : Any2 Γ i j) (r1 : d1.rep F v1) (r2 : d2.rep F v2) : Holds Z (dec2 Γ i j d1 d2) F (sg2 σ i j v1 v2) H := by
  have h1 : Holds Z Γ F (wipe σ [i, j]) H := h.other (by rw [wipe_length, h.len]) fun k s q => by
    by_cases z1 : k = i
    · subst z1
      rw [e.1] at q
      cases q
      exact .inl rfl
    · by_cases z2 : k = j
      · subst z2
        rw [e.2] at q
        cases q
        exact .inl rfl
      · exact .inr ⟨q, wip2_ne z1 z2⟩
  exact (h1.set i r1).set j r2
theorem outC2 (h : Holds Z (dec2 Γ i j d1 d2) F (sg2 σ i j v1 v2) H) (e : Any2 Γ i j) : Holds Z Γ F σ H :=
  h.other (by have := h.len; unfold dec2 sg2 at this; rw [List.length_set, List.length_set, List.length_set, List.length_set, wipe_length] at this; exact this) fun k s q => by
    by_cases z1 : k = i
    · subst z1
      rw [e.1] at q
      cases q
      exact .inl rfl
    · by_cases z2 : k = j
      · subst z2
        rw [e.2] at q
        cases q
        exact .inl rfl
      · exact .inr ⟨by rw [dec2_ne z1 z2]; exact q, (sg2_ne z1 z2).symm⟩
theorem dec2_no (h : k = i ∨ k = j) {s : Slot} (e : (dec2 Γ i j d1 d2)[k]? = some s) : s.isOwn = false := by
  unfold dec2 at e
  by_cases h2 : k = j
  · subst h2
    by_cases lt : k < Γ.length
    · rw [List.getElem?_set_self (by simpa using lt)] at e
      cases e
      rfl
    · rw [List.getElem?_eq_none (by simpa using lt)] at e
      cases e
  · rcases h with h | h
    · subst h
      rw [set_get_ne h2] at e
      by_cases lt : k < Γ.length
      · rw [List.getElem?_set_self lt] at e
        cases e
        rfl
      · rw [List.getElem?_eq_none (by simpa using lt)] at e
        cases e
    · exact absurd h h2
theorem ownC2 (w : OwnAt (dec2 Γ i j d1 d2) (sg2 σ i j v1 v2) k a) : OwnAt Γ σ k a := by
  obtain ⟨⟨s, e, o⟩, e2⟩ := w
  by_cases z1 : k = i
  · rw [dec2_no (.inl z1) e] at o
    cases o
  · by_cases z2 : k = j
    · rw [dec2_no (.inr z2) e] at o
      cases o
    · rw [dec2_ne z1 z2] at e
      rw [sg2_ne z1 z2] at e2
      exact ⟨⟨s, e, o⟩, e2⟩
theorem ownC2' (e0 : Any2 Γ i j) (w : OwnAt Γ σ k a) : OwnAt (dec2 Γ i j d1 d2) (sg2 σ i j v1 v2) k a := by
  obtain ⟨⟨s, e, o⟩, e2⟩ := w
  by_cases z1 : k = i
  · subst z1
    rw [e0.1] at e
    cases e
    cases o
  · by_cases z2 : k = j
    · subst z2
      rw [e0.2] at e
      cases e
      cases o
    · exact ⟨⟨s, by rw [dec2_ne z1 z2]; exact e, o⟩, by rw [sg2_ne z1 z2]; exact e2⟩
end
section
variable {α β γ : Type} {t : Ty α} {u : Ty β} {w : Ty γ} {Z : En} {Γ Γ' Γ1 Γ2 Γ3 : List Slot} {ta tb tc te : TE} {tt uu : TT} {K : PySem.W.Frag} {D : Ends} {s1 s2 : TS} {i j : Nat}
theorem LcI.at_ {β : Type} {u : Ty β} {A : List β} {σ : L2.St} {F0 H0 H' : Hp} {p : Addr} {n : Nat} (c : LcI Z u Γ Γ1 A σ F0 H0 p n H') : ∃ F', Holds Z Γ1 F' σ H' := let ⟨⟨F', _, h, _⟩, _⟩ := c; ⟨F', h⟩
theorem LcI.turn2 {β : Type} {u : Ty β} {σ : L2.St} {F0 H0 H' : Hp} {p : Addr} {n : Nat} {A A' : List β} {d1 d2 : Dv} {v1 v2 : V} {Z0 : En} (h00 : Holds Z0 Γ F0 σ H0) (np : H0 p = none) (nz : Z.H p = none) (c : LcI Z u Γ Γ1 A σ F0 H0 p n H') (hn : n < 50000) (e1 : Any2 Γ1 i j) (e3 : Any2 Γ3 i j)
    (r : ∀ F', Z.P F' → d1.rep F' v1 ∧ d2.rep F' v2)
    (hs : ∃ b, DenT tt (dec2 Γ1 i j d1 d2) b Γ2 ∧ (b = true → ∃ y, Den te Γ2 u y (dec2 Γ3 i j d1 d2) ∧ A' = A ++ [y]) ∧ (b = false → Γ2 = dec2 Γ3 i j d1 d2 ∧ A' = A)) :
    tt (sg2 σ i j v1 v2) H' fun b H3 => if b = true then te (sg2 σ i j v1 v2) H3 fun y H4 => ∃ acc, H4 p = some (.lst acc) ∧ acc.length < sizeLine ∧ LcI Z u Γ Γ3 A' σ F0 H0 p (n + 1) (upd H4 p (.lst (acc ++ [y]))) else LcI Z u Γ Γ3 A' σ F0 H0 p (n + 1) H3 := by
  obtain ⟨⟨F', acc, h, pr, fp, hp, al⟩, le⟩ := c
  obtain ⟨b, ht, hy, hf⟩ := hs
  have hc := inC2 h e1 (r F' h.pp).1 (r F' h.pp).2
  have no1 : ∀ i', ¬ OwnAt (dec2 Γ1 i j d1 d2) (sg2 σ i j v1 v2) i' p := fun i' w => h00.notOwn np i' (pr.ow i' p (ownC2 w))
  have conv : ∀ {Γa Γb : List Slot} {Fa Ha Fb Hb : Hp}, Pres (dec2 Γa i j d1 d2) (dec2 Γb i j d1 d2) (sg2 σ i j v1 v2) Fa Ha Fb Hb → Any2 Γa i j → Any2 Γb i j → Pres Γa Γb σ Fa Ha Fb Hb := fun k ea eb =>
    ⟨k.ff, fun b o hb n nt no => k.keep b o hb n nt fun i' w => no i' (ownC2 w), fun i' b w => ownC2 (k.ow i' b (ownC2' eb w)), k.th⟩
  refine ht Z F' _ H' hc _ fun F3 H3 h3 p3 => ?_
  obtain ⟨fp3, hp3⟩ := p3.keep p _ hp fp (fun _ z => nomatch z) no1
  cases b with
  | true =>
    obtain ⟨y, hden, eA⟩ := hy rfl
    show te (sg2 σ i j v1 v2) H3 fun y H4 => ∃ acc, H4 p = some (.lst acc) ∧ acc.length < sizeLine ∧ LcI Z u Γ Γ3 A' σ F0 H0 p (n + 1) (upd H4 p (.lst (acc ++ [y])))
    refine hden Z F3 _ H3 h3 _ fun vy F4 H4 h4 p4 ry => ?_
    have no3 : ∀ i', ¬ OwnAt Γ2 (sg2 σ i j v1 v2) i' p := fun i' w => no1 i' (p3.ow i' p w)
    obtain ⟨fp4, hp4⟩ := p4.keep p _ hp3 fp3 (fun _ z => nomatch z) no3
    have hout : Holds Z Γ3 F4 σ H4 := outC2 h4 e3
    have pt : Pres Γ Γ3 σ F0 H0 F4 H4 := pr.trans (conv (p3.trans p4) e1 e3)
    have no4 : ∀ i', ¬ OwnAt Γ3 σ i' p := fun i' w => h00.notOwn np i' (pt.ow i' p w)
    refine ⟨acc, hp4, sz_lt (by rw [← al.len]; omega), ⟨⟨F4, acc ++ [vy], hout.poke nz no4 fp4, ⟨pt.ff, fun b o hb n nt no => ?_, pt.ow, fun b o hb => ?_⟩, fp4, upd_same, ?_⟩, ?_⟩⟩
    · have zz : b ≠ p := ne_of_none hb np
      rw [upd_ne zz]
      exact pt.keep b o hb n nt no
    · have zz : b ≠ p := ne_of_none hb np
      rw [upd_ne zz]
      exact pt.th b o hb
    · rw [eA]
      exact (al.map fun _ _ z => u.mono (p3.ff.trans p4.ff) z).app (.cons ry .nil)
    · rw [eA, List.length_append, List.length_singleton]
      omega
  | false =>
    obtain ⟨eG, eA⟩ := hf rfl
    show LcI Z u Γ Γ3 A' σ F0 H0 p (n + 1) H3
    subst eG
    exact ⟨⟨F3, acc, outC2 h3 e3, pr.trans (conv p3 e1 e3), fp3, hp3, by rw [eA]; exact al.map fun _ _ z => u.mono p3.ff z⟩, by rw [eA]; omega⟩
theorem dn_lcP {β : Type} {u : Ty β} {tl : TE} {xs : List (α × γ)} (G : Nat → List Slot) (A : Nat → List β) (h : Den tl Γ (tList (tPair t w)) xs (G 0)) (hf : ∀ n, Any2 (G n) i j) (hl : xs.length < 50000) (h0 : A 0 = [])
    (hs : ∀ n x, xs[n]? = some x → ∃ b Γ2, DenT tt (dec2 (G n) i j ⟨t, x.1⟩ ⟨w, x.2⟩) b Γ2 ∧ (b = true → ∃ y, Den te Γ2 u y (dec2 (G (n + 1)) i j ⟨t, x.1⟩ ⟨w, x.2⟩) ∧ A (n + 1) = A n ++ [y]) ∧ (b = false → Γ2 = dec2 (G (n + 1)) i j ⟨t, x.1⟩ ⟨w, x.2⟩ ∧ A (n + 1) = A n)) :
    DenN (tLc (iList K tl) (gPair K i j) tt te [i, j]) Γ ((A xs.length).map fun y => ⟨u, y⟩) (G xs.length) := fun Z F σ H hh Q q => by
  refine h Z F σ H hh _ fun v F1 H1 h1 p1 r => ?_
  obtain ⟨a, vs, rfl, e, rr⟩ := r
  have pm : ∀ {F F' : Hp}, Ex F F' → Ex F1 F → Ex F1 F' := fun e h => h.trans e
  refine ⟨a, rfl, ⟨vs, sq_of (h1.fh _ _ e)⟩, fun p np => lc_list (K := K) (a := a) (xs := vs) (fun n H' => LcI (Z.more _ pm) u (G 0) (G n) (A n) σ F1 H1 p n H') ?_ ?_ ?_ ?_⟩
  · rw [h0]
    exact LcI.start (h1.more (Ex.refl F1)) np
  · rintro n H' _ ⟨⟨F', acc, hs', _⟩, _⟩
    exact sq_of (hs'.fh _ _ (hs'.pp.2 _ _ e))
  · intro n x H' hx c
    obtain ⟨y, hy, ry⟩ := rr.getR hx
    have hn : n < 50000 := by
      have := (List.getElem?_eq_some_iff.mp hy).1
      omega
    obtain ⟨b1, v1, v2, rfl, hb1, r1, r2⟩ := ry
    obtain ⟨b, Γ2, hb⟩ := hs n y hy
    obtain ⟨Fc, hc⟩ := c.at_
    exact ⟨b1, [v1, v2], rfl, st_of (hc.fh _ _ (hc.pp.2 _ _ hb1)), rfl, v1, [v2], rfl, v2, [], rfl, rfl, wipe2, LcI.turn2 (d1 := ⟨t, y.1⟩) (d2 := ⟨w, y.2⟩) h1 np (h1.fresh np) c hn (hf n) (hf (n + 1)) (fun F' pp => ⟨t.mono pp.2 r1, w.mono pp.2 r2⟩) ⟨b, hb⟩⟩
  · rintro H' c
    rw [← rr.len] at c
    obtain ⟨⟨F', acc, hs', pr, fp, hp, al⟩, _⟩ := c
    exact q p acc F' H' hs'.less (p1.trans pr) (p1.new np) fp hp (al_unmap al)
end
end DL

set_option maxRecDepth 100000
/-! Ic: an instance called by a local name. -/
namespace L2
open PySem PySem.Spec PyProof.Rows
section
variable {X : Cx} {k i : Nat} {f C : Addr} {fd : FuncData} {ps : List Str} {sp : Sp} {E : St → XK} {CX : CXT} {x : Str} {p pos : Pos} {e : Expr} {es : List Expr} {t : TA}
/-- what the class says of its __call__ -/
structure ICal (K : PySem.W.Frag) (C f : Addr) : Prop where
  at_ : PySem.W.findIn K (Value.ref C) "__call__" = some (some (Value.ref f))
  fn : PySem.W.isFn K (Value.ref f) = true
  fi : PySem.W.fnIn K f = true
def tICall (C : Addr) (i : Nat) (sp : Sp) (E : St → XK) (t : TA) : TE := fun σ H Q => ∃ a, σ[i]? = some (some (.ref a)) ∧ t σ H fun vs H1 => (∃ dx fs, H1 a = some (.ins C dx fs)) ∧ sp (.ref a :: vs) H1 Q (E σ)
theorem run_icall {pins : List (Addr × Obj)} {σ : St} {H : Hp} {s : Shared} {Q : VK} {a dx : Addr} {fs : List (Str × V)} {us : List Value} {vs : List V} (M : ICal X.K C f) (F : FnOk X.prog X.w X.K X.mg X.base CX k f fd ps sp) (hr : Room (k + 1) X.A) (hb : Binds X.K fd ps []) (hx : PassesAt CX X σ (E σ))
    (I : Inv X pins σ H s) (ha : H a = some (.ins C dx fs)) (r : Vals vs us) (h : sp (.ref a :: vs) H Q (E σ)) : wpAny (model X.prog X.w) X.A (call (.ref a) us) (EP X pins σ Q) X.xe s := by
  obtain ⟨mm, J, _⟩ := ins_get I.hok ha
  obtain ⟨od, J, _⟩ := J.look
  have hl := F.len _ _ _ _ h
  have r2 : Vals (V.ref a :: vs) (Value.ref a :: us) := .cons rfl r
  have hb' := hb s (.ref a :: us) I.kIn (by rw [List.append_nil, ← r2.length]; exact hl)
  rw [List.append_nil] at hb'
  refine wpAny_call (PySem.W.kco_code (a := ⟨us, []⟩) I.kIn J rfl M.at_ M.fn M.fi (codeAny_mono (F.run X.A X.stack s H ⟨.ref a :: us, []⟩ (.ref a :: us) (.ref a :: vs) Q (E σ) (hr.mono (Nat.le_succ k)) I.env0 hb' r2 h) fun q s' hq => ?_))
  cases q with
  | error e => exact hx pins H s e s' I hq
  | ok fl =>
    cases fl with
    | ret u => exact I.after hq
    | next => exact False.elim hq
    | brk => exact False.elim hq
    | cont => exact False.elim hq
end
end L2
namespace L2
open PySem PySem.Spec PySem.Calls PyProof.Rows
theorem callWith_inst {M : Model} {A : Around} {E : Value → Shared → Prop} {s : Shared} {pos : Pos} {a : Addr} {first : List Value} {Q : Value → Shared → Prop} {args : List (Bool × Sem Value)} {keywords : List (Option Str × Sem Value)} (hplain : (args.any (·.1) || keywords.any (·.1.isNone)) = false)
    (h : wpAny M A (evalArgs (.ref a) true args keywords) (fun z t => (∃ ox C od, PySem.W.InstAt t.heap a ox C od ∧ ox.data = .plain) ∧ wpAny M A (call (.ref a) (first ++ z.pos) z.kw) Q E t) E s) : wpAny M A (callWith pos (.ref a) first args keywords) Q E s := by
  unfold callWith
  apply wpAny_bind
  apply wpAny_holding
  refine wpAny_mono h (fun z t hz => wpAny_bind (wpAny_standAt ?_)) fun _ _ y => y
  obtain ⟨⟨ox, C, od, J, hd⟩, hc⟩ := hz
  simp only [hplain]
  refine wpAny_bind ((PySem.W.kco_keeper J hd).here ?_)
  exact wpAny_bind (wpAny_mono (wpAny_operateT hc) (fun r t' hr => wpAny_bind (wpAny_holding (wpAny_point (wpAny_pure hr)))) fun _ _ y => y)
section
variable {X : Cx} {k i : Nat} {f C : Addr} {fd : FuncData} {ps : List Str} {sp : Sp} {E : St → XK} {CX : CXT} {x : Str} {p pos : Pos} {e : Expr} {es : List Expr} {t : TA}
/-- x(e, ..), x a name that holds an instance -/
theorem pe_icall (M : ICal X.K C f) (F : FnOk X.prog X.w X.K X.mg X.base CX k f fd ps sp) (hr : Room (k + 1) X.A) (hN : X.N[i]? = some x) (hv : Vis X.env.scope x) (hb : Binds X.K fd ps []) (hx : ∀ σ, PassesAt CX X σ (E σ)) (ha : PA X (e :: es) t)
    (hdb : (x == ("__debug__" : Str)) = false := by decide) (hcd : (x == ("__classdict__" : Str)) = false := by decide)
    (he : starEach (e :: es) X.env = (false, eval e X.env) :: starEach es X.env := by rfl)
    (hpl : (backTo pos (starEach es X.env)).any (·.1) = false := by rfl) : PE X (.Call (.Name x p) (e :: es) [] pos) (tICall C i sp E t) := by
  constructor
  intro pins s σ H Q I h
  obtain ⟨a, hs, ht⟩ := h
  refine wpAny_Call_Name_kw (thn ((pe_var (pos := p) hN hv hdb hcd).run pins s σ H (fun v H1 => v = .ref a ∧ H1 = H) I ⟨.ref a, hs, rfl, rfl⟩) fun u s1 ⟨v, H1, I1, r1, q1⟩ => ?_)
  obtain ⟨rfl, rfl⟩ := q1
  cases r1
  have args := thn (ha.run pos pins s1 σ _ _ I1 ht) (Q' := fun us s2 => (∃ ox C od, PySem.W.InstAt s2.heap a ox C od ∧ ox.data = .plain) ∧ wpAny (model X.prog X.w) X.A (call (.ref a) ([] ++ us)) (EP X pins σ Q) X.xe s2) fun us s2 ⟨vs, H2, I2, r, ⟨dx, fs, hi⟩, q⟩ => by
    obtain ⟨mm, J, _⟩ := ins_get I2.hok hi
    obtain ⟨od, J, _⟩ := J.look
    exact ⟨⟨_, C, od, J, rfl⟩, run_icall M F hr hb (hx σ) I2 hi r q⟩
  rw [he] at args ⊢
  exact callWith_inst (by show ((false || (backTo pos (starEach es X.env)).any (·.1)) || false) = false; rw [hpl]; rfl) (evalArgs_plain args)
end
end L2
namespace DL
open PySem L2 Evl
section
variable {α γ : Type} {t : Ty α} {w : Ty γ} {x : α} {z : γ} {Γ Γ1 : List Slot} {tr : TA} {ds : List Dv} {C : Addr} {i : Nat} {E : L2.St → XK}
def InsC (t : Ty α) (x : α) (C : Addr) : Prop := ∀ F v, t.rep F v x → ∃ a dx fs, v = .ref a ∧ F a = some (.ins C dx fs)
theorem den_icall {sp : Sp} (e : Γ[i]? = some (.val ⟨t, x⟩)) (hi : InsC t x C) (h : DenA tr Γ ds Γ1) (hs : SpV sp (⟨t, x⟩ :: ds) w z) : Den (tICall C i sp E tr) Γ w z Γ1 := fun Z F σ H hh Q q => by
  obtain ⟨v, h1, h2⟩ := hh.val e
  obtain ⟨a, dx, fs, rfl, ha⟩ := hi F v h2
  refine ⟨a, h1, h Z F σ H hh _ fun vs F1 H1 h1' p1 r1 => ⟨⟨dx, fs, h1'.fh _ _ (p1.ff _ _ ha)⟩, ?_⟩⟩
  exact hs F1 H1 _ h1'.fh (.cons (t.mono p1.ff h2) r1) Q (E σ) fun v' F3 H3 k r3 => q v' F3 H3 (h1'.step k) (p1.trans (Pres.step k)) r3
end
end DL

set_option maxRecDepth 100000
set_option maxHeartbeats 1000000
/-! Ge: generators that loop over a range and hand out the lists of another def. -/
namespace L2
open PySem PySem.Spec PyProof.Rows GenW

/-- what a loop's turn does with an exception -/
def notingIt (env : Env) (e : Value) : Sem PySem.Fin := ((do noteFrame e env; theTreesLotGoes e : Sem Unit).bind fun _ => .raise e)
section
variable {prog : Program} {w : World} {A : Around} {R : GenEnd} {Y : Protocol} {n : Nat} {s₀ : Shared} {c : Code} {fs : List Frame} {s : Shared} {env : Env}
theorem seg_For {target iter : Expr} {body : List Stmt} {pos : Pos} {K : Flow → Sem PySem.Fin} {J : Value → Sem PySem.Fin} {gd : Bool → Bool} {lv : List Value → List Value}
    (h : wpAny (model prog w) (A.over c fs) (eval iter env) (fun x s1 => wpAny (model prog w) (A.over c fs) (pyIter x) (fun it s2 =>
      ∀ p, Seg (model prog w) A R Y n s₀ (.forLoop target it body [] env) ((model prog w).den (.forLoop target it body [] env)) (.ret (fun r => ((match r with | .ok f => (.pure f : Sem Flow) | .error e => .raise e).onRaise (cameBack env)).wrap K J gd lv) none (gd false) (lv []) c p [] :: fs) s2)
        (fun x s' => Seg (model prog w) A R Y n s₀ c (J x) fs s') s1) (fun x s' => Seg (model prog w) A R Y n s₀ c (J x) fs s') s)
    (hs : ∀ x, foldedSetIterable iter env x = pure x := by intro _; rfl) :
    Seg (model prog w) A R Y n s₀ c ((exec (.For target iter body [] pos) env).wrap K J gd lv) fs s := by
  rw [exec_For]
  refine seg_bind_wrap (wpAny_standAt ?_)
  refine seg_bind_wrap (wpAny_mono h (fun x s1 h1 => ?_) fun _ _ h' => h')
  refine seg_bind_wrap (wpAny_of_eq (hs x) ?_)
  refine seg_bind_wrap (wpAny_standAt ?_)
  refine seg_bind_wrap (wpAny_holding (wpAny_mono h1 (fun it s2 h2 => ?_) fun _ _ h' => h'))
  exact seg_call h2
theorem seg_forLoop {target : Expr} {it : Value} {body : List Stmt}
    (h : wpAny (model prog w) (A.over (.forLoop target it body [] env) fs) (pyNext it) (fun r s1 => match r with
      | none => Seg (model prog w) A R Y n s₀ (.block [] env) (leafOf (.ok .next)) fs s1
      | some v => wpAny (model prog w) (A.over (.forLoop target it body [] env) fs) (letOwnedTupleGo target it v) (fun _ s1' =>
          wpAny (model prog w) (A.over (.forLoop target it body [] env) fs) (assign target env v) (fun _ s2 =>
            Seg (model prog w) A R Y n s₀ (.forLoop target it body [] env) ((execs body env).wrap (fun f => match f with
              | .next | .cont => .pure (.again (.forLoop target it body [] env))
              | .brk => .pure (.done .next)
              | .ret v => .pure (.done (.ret v))) (notingIt env) id id) fs s2)
            (fun x s' => Seg (model prog w) A R Y n s₀ (.forLoop target it body [] env) (notingIt env x) fs s') s1') (fun x s' => Seg (model prog w) A R Y n s₀ (.forLoop target it body [] env) (notingIt env x) fs s') s1)
      (fun x s' => Seg (model prog w) A R Y n s₀ (.forLoop target it body [] env) (notingIt env x) fs s') s) :
    Seg (model prog w) A R Y n s₀ (.forLoop target it body [] env) ((model prog w).den (.forLoop target it body [] env)) fs s := by
  show Seg _ A R Y n s₀ _ ((forTurn target it body [] env).onRaise (fun x => do noteFrame x env; theTreesLotGoes x)) fs s
  rw [Sem.onRaise_eq_wrap]
  show Seg _ A R Y n s₀ _ ((forTurn target it body [] env).wrap Sem.pure (notingIt env) id id) fs s
  simp only [forTurn]
  refine seg_bind_wrap (wpAny_standAt ?_)
  refine seg_bind_wrap (wpAny_onRaise (wpAny_mono h (fun r s1 h1 => ?_) fun _ _ h' => wpAny_standAt h'))
  cases r with
  | none => exact seg_again rfl h1
  | some v =>
    refine seg_bind_wrap (wpAny_mono h1 (fun _ s1' h1' => ?_) fun _ _ h' => h')
    refine seg_bind_wrap (wpAny_mono h1' (fun _ s2 h2 => ?_) fun _ _ h' => h')
    rw [Sem.bind_eq_wrap', Sem.wrap_wrap]
    rw [Sem.wrap_congr (execs body env) _ _ (K' := fun f => match f with
              | .next | .cont => .pure (.again (.forLoop target it body [] env))
              | .brk => .pure (.done .next)
              | .ret v => .pure (.done (.ret v))) (H := fun e => Sem.wrap Sem.pure (notingIt env) id id (Sem.raise e)) (H' := notingIt env) (fun f => by cases f <;> rfl) (fun _ => rfl)]
    exact h2
end

section
variable {X : Cx} {st : Stmt} {rest : List Stmt}
def tGFor (wi : TI) (g : TG) (tb : TGn) : TGn := fun D ys σ H => wi σ H fun J H1 => ∃ W : Nat → Nat → List V → St → Hp → Prop, (∃ m, W 0 m ys σ H1) ∧ ∀ i m ys σ H, W i m ys σ H →
  (J.stop i H ∧ D.nx ys σ H) ∨ (J.go i H ∧ ∃ N : List V → St → Hp → Prop, (∀ ys' σ' H', N ys' σ' H' → ∃ m', m' < m ∧ W (i + 1) m' ys' σ' H') ∧ ∀ x H', J.yld i H x H' → g x σ H' fun σ2 H2 => tb { D with nx := N, ct := N, bk := D.nx } ys σ2 H2)
theorem gs_for {tg iter : Expr} {body : List Stmt} {wi : TI} {g : TG} {tb : TGn} {pos : Pos} (hp : PassesOwn (model X.prog X.w) X.A X.env X.xe) (hc : X.calm = true) (hi : PI X tg iter wi) (hg : PG X tg g) (hb : GSs X body tb)
    (hs : ∀ x, foldedSetIterable iter X.env x = pure x := by intro _; rfl) : GS X (.For tg iter body [] pos) (tGFor wi g tb) := by
  refine ⟨fun A S ip R n ys s₀ c fs K J gd lv s σ H D gc hn k hI ht => ?_⟩
  obtain ⟨acc, cc, r0, I0⟩ := hI
  refine seg_For ?_ hs
  rw [gc.over]
  refine wpAny_mono (hi.run _ s σ H _ I0 ht) (fun v s1 h1 => wpAny_mono h1 (fun itv s2 h2 => ?_) fun x s' hx => k.exc n s₀ x s' hx) fun x s' hx => k.exc n s₀ x s' hx
  obtain ⟨it, fp, tn, Jt, H2, e, I2, T, st2, f2, W, ⟨m0, w0⟩, turn⟩ := h2
  subst e
  intro p
  have fpok : ∀ {acc' : Array Value} {c' : Nat} {H' : Hp}, (∀ b ∈ fp, H' b = none) → ∀ b ∈ fp, FpOk X ((S, lstObj acc' c') :: ip) H' b := fun {acc' c' H'} hn b hb => by
    obtain ⟨_, q1, q2, q3, q4, q5⟩ := f2 b hb
    refine ⟨hn b hb, q1, q2, q3, q4, fun p hp => ?_⟩
    rcases List.mem_append.mp hp with z | z
    · exact q5 p (List.mem_append_left _ z)
    · rcases List.mem_cons.mp z with z | z
      · rw [z]; exact q5 (S, lstObj acc cc) (List.mem_append_right _ List.mem_cons_self)
      · exact q5 p (List.mem_append_right _ (List.mem_cons_of_mem _ z))
  have fpS : ∀ b ∈ fp, b ≠ S := fun b hb z => (f2 b hb).2.2.2.2.2 (S, lstObj acc cc) (List.mem_append_right _ List.mem_cons_self) z.symm
  have gl := fun (kk : Result → Sem PySem.Fin) => gc_loop (k := kk) (c' := .forLoop tg (.ref it) body [] X.env) (l := lv []) (kp := []) (p := p) gc rfl rfl
  have loop : ∀ (m i n : Nat) (ys : List V) (s₀ s : Shared) (σ : St) (H : Hp), n + ys.length = sizeLine → W i m ys σ H → GI X S ip ys σ H s → tn i s.heap → (∀ b ∈ fp, H b = none) →
      Seg (model X.prog X.w) A R (GY X S) n s₀ (.forLoop tg (.ref it) body [] X.env) ((model X.prog X.w).den (.forLoop tg (.ref it) body [] X.env))
        (.ret (fun r => ((match r with | .ok f => (.pure f : Sem Flow) | .error e => .raise e).onRaise (cameBack X.env)).wrap K J gd lv) none (gd false) (lv []) c p [] :: fs) s := by
    intro m
    induction m using Nat.strongRecOn with
    | ind m ih =>
      intro i n ys s₀ s σ H hn w hI hst hfr
      have ee : ∀ (n : Nat) (s₀ : Shared) (x : Value) (s' : Shared), X.xe x s' → Seg (model X.prog X.w) A R (GY X S) n s₀ (.forLoop tg (.ref it) body [] X.env)
          (notingIt X.env x)
          (.ret (fun r => ((match r with | .ok f => (.pure f : Sem Flow) | .error e => .raise e).onRaise (cameBack X.env)).wrap K J gd lv) none (gd false) (lv []) c p [] :: fs) s' := fun n s₀ x s' hx => by
        unfold notingIt
        rw [Sem.bind_eq_wrap]
        refine seg_wrap ?_
        rw [(gl _).over]
        refine wpAny_bind (wpAny_mono (hp x s' hx) (fun _ s'' hcb => wpAny_theTreesLotGoes ?_) fun y s'' hcb => ?_)
        · exact seg_leaf (.error x) (seg_cameBack gc k hcb)
        · exact seg_leaf (.error y) (seg_cameBack gc k hcb)
      refine seg_forLoop ?_
      rw [(gl _).over]
      obtain ⟨acc', cc', r, I⟩ := hI
      rcases turn i m ys σ H w with ⟨stop, qn⟩ | ⟨go, N, hN, step⟩
      · refine thn (T.done X rfl rfl rfl hc i _ s σ H _ I (fpok hfr) hst stop) fun rr s4 ⟨hr, I4⟩ => ?_
        subst hr
        exact seg_leaf (.ok .next) (k.ok n ys s₀ s4 .next hn ⟨σ, H, ⟨acc', cc', r, I4⟩, qn⟩)
      · refine wpAny_mono (T.item X rfl rfl rfl hc i _ s σ H X.xe I (fpok hfr) hst go) (fun rr s4 ⟨u, hr, h4⟩ => ?_) fun x s' hx => ee n s₀ x s' hx
        subst hr
        refine wpAny_mono h4 (fun _ s5 ⟨x, H5, I5, r5, y5, st5, fr5⟩ => ?_) fun x s' hx => ee n s₀ x s' hx
        have I5' := I5.pinned (fpok fr5) (T.obj _ _ st5)
        refine wpAny_mono (hg.run _ s5 σ H5 x u _ I5' r5 (step x H5 y5)) (fun _ s6 ⟨σ6, H6, I6, q6⟩ => ?_) fun x s' hx => ee n s₀ x s' hx
        have hipS : ∀ q ∈ ip ++ pinsAt fp s5.heap, q.1 ≠ S := fun q hq => (List.mem_append.mp hq).elim (fun z => gc.ip q z) fun z => fpS q.1 (of_pinsAt z).1
        have gl2 := fun (kk : Result → Sem PySem.Fin) => (⟨gc.pn, hipS, gc.apart, (gl kk).over, (gl kk).split, (gl kk).guard, rfl⟩ : GC X S (ip ++ pinsAt fp s5.heap) A (.forLoop tg (.ref it) body [] X.env) (.ret kk none (gd false) (lv []) c p [] :: fs) id)
        have un : ∀ {ys' : List V} {σ' : St} {H' : Hp} {s' : Shared}, GI X S (ip ++ pinsAt fp s5.heap) ys' σ' H' s' → GI X S ip ys' σ' H' s' ∧ tn (i + 1) s'.heap ∧ ∀ b ∈ fp, H' b = none := fun {ys' σ' H' s'} hG => by
          obtain ⟨a2, c2, r2, J2⟩ := hG
          have pn2 : ∀ b ∈ fp, ∀ o, s5.heap.get? b = some o → s'.heap.get? b = some o ∧ H' b = none := fun b hb o e =>
            let q := J2.pin (b, o) (List.mem_append_right _ (List.mem_cons_of_mem _ (List.mem_append_right _ (mem_pinsAt hb e))))
            ⟨q.1, q.2.1⟩
          refine ⟨⟨a2, c2, r2, J2.pins_of fun p hp => ?_⟩, T.keep _ _ _ st5 fun b hb o e => (pn2 b hb o e).1, fun b hb => ?_⟩
          · refine J2.pin p ?_
            refine List.mem_append_right _ ?_
            rcases List.mem_cons.mp hp with z | z
            · rw [z]; exact List.mem_cons_self
            · exact List.mem_cons_of_mem _ (List.mem_append_left _ z)
          · obtain ⟨o, e, _⟩ := T.obj _ _ st5 b hb
            exact (pn2 b hb o e).2
        refine hb.run A S (ip ++ pinsAt fp s5.heap) R n ys s₀ _ _ _ _ id id s6 σ6 H6 { D with nx := N, ct := N, bk := D.nx } (gl2 _) hn ⟨fun n' ys' s₀' s7 f hn' hs => ?_, fun n' s₀' x s7 hx => ee n' s₀' x s7 hx⟩ ⟨acc', cc', r, I6⟩ q6
        cases f with
        | next =>
          obtain ⟨σ7, H7, I7, n7⟩ := hs
          obtain ⟨m', hm, w7⟩ := hN ys' σ7 H7 n7
          obtain ⟨u1, u2, u3⟩ := un I7
          exact seg_again rfl (ih m' hm (i + 1) n' ys' s₀' s7 σ7 H7 hn' w7 u1 u2 u3)
        | cont =>
          obtain ⟨σ7, H7, I7, n7⟩ := hs
          obtain ⟨m', hm, w7⟩ := hN ys' σ7 H7 n7
          obtain ⟨u1, u2, u3⟩ := un I7
          exact seg_again rfl (ih m' hm (i + 1) n' ys' s₀' s7 σ7 H7 hn' w7 u1 u2 u3)
        | brk =>
          obtain ⟨σ7, H7, I7, q7⟩ := hs
          exact seg_leaf (.ok .next) (k.ok n' ys' s₀' s7 .next hn' ⟨σ7, H7, (un I7).1, q7⟩)
        | ret v =>
          obtain ⟨x7, σ7, H7, I7, r7, q7⟩ := hs
          exact seg_leaf (.ok (.ret v)) (k.ok n' ys' s₀' s7 (.ret v) hn' ⟨x7, σ7, H7, (un I7).1, r7, q7⟩)
  exact loop m0 0 n ys s₀ s2 σ H2 hn w0 ⟨acc, cc, r0, I2⟩ st2 fun b hb => (f2 b hb).1
end
section
variable {prog : Program} {w : World} {A : Around} {E : Value → Shared → Prop} {s : Shared}
/-- a list's iterator, asked by its own slot: an item is left -/
theorem lit_item {it a : Addr} {i : Nat} {zs : Array Value} {x : Value} {U : Option Value → Shared → Prop} (q : s.heap.get? it = some (GNX.itObj a i)) (hl : s.heap.IsList a zs) (hx : zs[i]? = some x)
    (hU : ∀ h', h'.get? it = some (GNX.itObj a (i + 1)) → Heap.SameBut it s.heap h' → U (some x) { s with heap := h' }) : wpAny (model prog w) A (callSpecial? (.ref it) "__next__") U E s := by
  have T : s.TypeIs (.ref it) "list_iterator" := ⟨_, q, rfl⟩
  refine wpAny_callSpecial?_slot (name := Str.ofString "__next__") T slot_listiter_next (wpAny_call_entry slot_listiter_next T entry_listiter_next ?_ (args_listiter_next _))
  exact GNX.next_item (Q := fun y s' => U (some y) s') q hl hx hU
/-- .. nothing is left -/
theorem lit_end {it a : Addr} {i : Nat} {zs : Array Value} {U : Option Value → Shared → Prop} (hh : A.handled = none) (q : s.heap.get? it = some (GNX.itObj a i)) (hl : s.heap.IsList a zs) (hx : zs[i]? = none)
    (hE : ∀ e h', StopX e h' → Heap.ExtBut it s.heap h' → E e { s with heap := h' }) : wpAny (model prog w) A (callSpecial? (.ref it) "__next__") U E s := by
  have T : s.TypeIs (.ref it) "list_iterator" := ⟨_, q, rfl⟩
  obtain ⟨ol, hol, _, nl, hdl⟩ := hl
  refine wpAny_callSpecial?_slot (name := Str.ofString "__next__") T slot_listiter_next (wpAny_call_entry slot_listiter_next T entry_listiter_next ?_ (args_listiter_next _))
  show wpAny _ A.in1 (field (.ref it) 0 >>= _) _ _ s
  refine wpAny_bind (wpAny_field (x := .ref a) q rfl rfl ?_)
  rw [show (Value.ref a == Value.none) = false from rfl]
  show wpAny _ A.in1 (field (.ref it) 1 >>= _) _ _ s
  refine wpAny_bind (wpAny_field (x := .int i 0) q rfl rfl ?_)
  show wpAny _ A.in1 (seqItems? (.ref a) >>= _) _ _ s
  refine wpAny_bind (wpAny_seqItems hol hdl ?_)
  simp only [hx, Int.toNat_natCast]
  refine wpAny_bind (wpAny_rule (wpAny_bind (wpAny_setField q rfl (by simp) ?_)))
  show wpAny _ A.in1 (newExc (.type "StopIteration") [] >>= _) _ _ _
  refine wpAny_bind ?_
  simp only [newTuple, newExc]
  refine wpAny_bind (wpAny_newObj_type ?_ (by size_fits))
  refine wpAny_bind (m := firstArgMember _ _) (wpAny_of_eq (a := Value.none) (by first | rfl | (simp only [firstArgMember]; rfl)) ?_)
  refine wpAny_newObj_type ?_ (by size_fits)
  simp only [raiseNew]
  refine wpAny_bind (wpAny_handled ?_)
  first | rw [show A.in1.handled = none from hh] | rw [hh]
  refine wpAny_bind (wpAny_pure (wpAny_throw ?_))
  refine hE _ _ ⟨_, _, _, rfl, Heap.get?_push_size _ rfl, rfl, rfl, ?_⟩ (((Heap.SameBut.update ..).extBut.push _).push _)
  first
    | rfl
    | (rw [Array.getElem?_append_left (by decide)]; rfl)
    | kernel_rfl
end
section
variable {X : Cx} {e : Expr} {te : TE}
def tYfLst (te : TE) : TYf := fun σ H Q => te σ H fun x H1 => ∃ a xs, x = .ref a ∧ H1 a = some (.lst xs) ∧ Q xs H1
theorem close_lit : typeLookup (.type "list_iterator") "close" = pure none := by rw [typeLookup_type, builtinLookup_eq_fast]; kernel_rfl
theorem yf_list (he : PE X e te) : YfE X e (tYfLst te) := by
  refine ⟨fun pins s σ H Q I h => thn (he.run pins s σ H _ I h) fun v s1 ⟨x, H1, I1, r1, a, xs, ex, ha, hq⟩ => ?_⟩
  subst ex
  obtain rfl : v = Value.ref a := r1
  obtain ⟨its, rits, pl, hz⟩ := I1.list (.inl (.inl ha))
  refine ⟨"list", pl.isList.typeIs, by decide, wpAny_pyIter_list pl.isList ?_⟩
  have ksz : ∀ {b : Addr} {o : Obj}, s1.heap.get? b = some o → b ≠ s1.heap.objs.size := fun e => Nat.ne_of_lt (Heap.lt_size e)
  have kp : ∀ b o, s1.heap.get? b = some o → (s1.heap.push (GNX.itObj a 0)).get? b = some o := fun b o e => Heap.get?_push_of_some _ e
  have hne : a ≠ s1.heap.objs.size := by obtain ⟨o, e, _⟩ := pl.isList; exact ksz e
  have frame : ∀ (j : Nat) (h h' : Heap), (h.get? s1.heap.objs.size = some (GNX.itObj a j) ∧ h.IsList a its.toArray) → (∀ b o, (b = s1.heap.objs.size ∨ H1 b ≠ none) → h.get? b = some o → h'.get? b = some o) → h'.get? s1.heap.objs.size = some (GNX.itObj a j) ∧ h'.IsList a its.toArray := by
    rintro j h h' ⟨q1, o2, ho2, r2⟩ hk
    exact ⟨hk _ _ (.inl rfl) q1, o2, hk _ o2 (.inr (by rw [ha]; exact fun z => by cases z)) ho2, r2⟩
  refine ⟨s1.heap.objs.size, H1, xs, fun j h => h.get? s1.heap.objs.size = some (GNX.itObj a j) ∧ h.IsList a its.toArray, rfl, I1.kept (t' := s1.toks) kp, .inr I1.sz, Nat.ne_of_gt I1.lt, fun y c hy => ?_, I1.hok.fresh (Nat.le_refl _), fun p hp => ksz (I1.pin p hp).1,
    ⟨Heap.get?_push_size _ rfl, pl.isList.at fun o e => kp a o e⟩, ⟨⟨"list_iterator", fun j h q => ⟨_, q.1, rfl⟩, close_lit, by decide⟩, frame, fun A' j x s2 Q' E' hA hx q hQ => ?_, fun A' s2 Q' E' hA q hE => ?_⟩, hq⟩
  · obtain ⟨v, o, ho, _⟩ := I1.cell y c hy
    exact ksz ho
  · obtain ⟨u, hu, ru⟩ := rits.get hx
    exact lit_item q.1 q.2 (x := u) (by simpa using hu) fun h' q1' hs => hQ u h' s2.toks ru ⟨q1', q.2.at fun o e => hs.2 a (fun z => hne z) |>.trans e⟩ fun b o hb eb => hs.extBut b o hb eb
  · have hnone : its.toArray[xs.length]? = none := by
      have e := rits.length
      have e2 : its[xs.length]? = none := List.getElem?_eq_none_iff.mpr (by omega)
      simpa using e2
    exact lit_end hA q.1 q.2 hnone fun e h' hS hk => hE e h' s2.toks hS fun b o hb eb => hk b o hb eb
end
end L2

set_option maxRecDepth 100000
set_option maxHeartbeats 1000000
/-! Zg: zip of an empty list and a generator that is never begun. -/
namespace L2
open PySem PySem.Spec PyProof.Rows GenW

abbrev zg1 (h : Heap) (l : Addr) : Heap := h.push (GNX.itObj l 0)
abbrev zg2 (h : Heap) (l g : Addr) : Heap := (zg1 h l).push { cls := .type "tuple", data := .seq #[.ref h.objs.size, .ref g] }
abbrev zg3 (h : Heap) (l g : Addr) : Heap := (zg2 h l g).push { cls := .type "tuple", data := .seq #[.none, .none] }
abbrev zg4 (h : Heap) (l g : Addr) : Heap := (zg3 h l g).push { cls := .type "zip", data := .fields #[.none, .bool false, .bool false, .ref (zg1 h l).objs.size, .ref (zg2 h l g).objs.size] }
theorem meets_zg (l a : Addr) (n : Nat) (zs : Array Value) :
    Meets (Builtin.«zip.__new__» ⟨[.type "zip", .ref l, .ref a], []⟩) (fun _ R s => s.heap.IsList l zs ∧ s.heap.IsGen a n ∧ R (.ok (.ret (.ref (zg3 s.heap l a).objs.size))) { s with heap := zg4 s.heap l a }) :=
  .of_wp fun prog w A R s z => by
    obtain ⟨hp, gg, d, tk, os⟩ := s
    obtain ⟨y1, y2, z⟩ := z
    have hsub := sub_zip
    have x1 : Heap.IsList (Shared.heap ⟨hp, gg, d, tk, os⟩) l zs := y1
    have x2 : Heap.IsGen (Shared.heap ⟨hp.push { cls := .type "list_iterator", data := .fields #[.ref l, .int 0 0] }, gg, d, tk, os⟩) a n := y2.keeps fun b o e => Heap.get?_push_of_some _ e
    wp_walk using wpAny_pyIter_list x1, wpAny_pyIter_gen x2
    exact ⟨_, rfl, z⟩
section
variable {prog : Program} {w : World} {A : Around} {E : Value → Shared → Prop} {s : Shared}
theorem call_zg {l a : Addr} {n : Nat} {zs : Array Value} {U : Value → Shared → Prop} (y1 : s.heap.IsList l zs) (y2 : s.heap.IsGen a n)
    (k : ∀ h', IsZip h' (s.heap.objs.size + 3) (s.heap.objs.size + 1) (s.heap.objs.size + 2) .none → IsPair h' (s.heap.objs.size + 1) (.ref s.heap.objs.size) (.ref a) → IsPair h' (s.heap.objs.size + 2) .none .none → h'.IsListIter s.heap.objs.size l 0 →
      (∀ c o, s.heap.get? c = some o → h'.get? c = some o) → U (.ref (s.heap.objs.size + 3)) { s with heap := h' }) : wpAny (model prog w) A (call (.type "zip") [.ref l, .ref a]) U E s := by
  refine callType_new F.called_zip (by decide) (F.typeCall_zip_2 _ _) (F.newCall_zip_2 _ _) (fun x => F.args_object_init_3 x _ _) F.entry_zip_new (meets_zg l a n zs) ⟨y1, y2, ?_⟩
  have z1 : (zg1 s.heap l).objs.size = s.heap.objs.size + 1 := Heap.size_push ..
  have z2 : (zg2 s.heap l a).objs.size = s.heap.objs.size + 2 := by rw [Heap.size_push, z1]
  have z3 : (zg3 s.heap l a).objs.size = s.heap.objs.size + 3 := by rw [Heap.size_push, z2]
  have q4 : (zg4 s.heap l a).get? (zg3 s.heap l a).objs.size = some _ := Heap.get?_push_size _ rfl
  have q3 : (zg4 s.heap l a).get? (zg2 s.heap l a).objs.size = some _ := Heap.get?_push_of_some _ (Heap.get?_push_size _ rfl)
  have q2 : (zg4 s.heap l a).get? (zg1 s.heap l).objs.size = some _ := Heap.get?_push_of_some _ (Heap.get?_push_of_some _ (Heap.get?_push_size _ rfl))
  have q1 : (zg4 s.heap l a).get? s.heap.objs.size = some _ := Heap.get?_push_of_some _ (Heap.get?_push_of_some _ (Heap.get?_push_of_some _ (Heap.get?_push_size _ rfl)))
  show _ ∧ _
  rw [z1, z2, z3] at q4
  rw [z2] at q3
  rw [z1] at q2
  rw [z3]
  exact ⟨⟨_, q4, rfl⟩, k _ q4 q2 q3 ⟨_, q1, rfl, rfl⟩ fun c o x => Heap.get?_push_of_some _ (Heap.get?_push_of_some _ (Heap.get?_push_of_some _ (Heap.get?_push_of_some _ x)))⟩
/-- the first of two is at its end: the other one is not asked -/
theorem next_zg {z TI TO i l a : Addr} {k : Nat} {zs : Array Value} {v1 v2 : Value} {U : Fin → Shared → Prop} (hh : A.handled = none) (n1 : i ≠ z) (n2 : l ≠ z)
    (hz : IsZip s.heap z TI TO .none) (hTI : IsPair s.heap TI (.ref i) (.ref a)) (hTO : IsPair s.heap TO v1 v2) (hi : s.heap.IsListIter i l k) (hl : s.heap.IsList l zs) (hend : zs[k]? = none)
    (hE : ∀ h' e, (∀ c o, c ≠ z → c ≠ i → s.heap.get? c = some o → h'.get? c = some o) → (∃ o, h'.get? e = some o ∧ o.cls = .type "StopIteration") → E (.ref e) { s with heap := h' }) :
    wpAny (model prog w) A (Builtin.«zip.__next__» ⟨[.ref z], []⟩) U E s := by
  show wpAny _ A (field (.ref z) 2 >>= _) U E s
  refine wpAny_bind (wpAny_field (x := .bool false) hz rfl rfl ?_)
  show wpAny _ A (field (.ref z) 3 >>= _) U E s
  refine wpAny_bind (wpAny_field (x := .ref TI) hz rfl rfl ?_)
  refine wpAny_bind (wpAny_seqItems hTI rfl ?_)
  show wpAny _ A (Builtin.SmallTypes.ownedTupleIsFree (.ref z) >>= _) U E s
  refine wpAny_bind ?_
  unfold Builtin.SmallTypes.ownedTupleIsFree
  refine wpAny_bind (wpAny_field (x := .none) hz rfl rfl (wpAny_pure ?_))
  simp only [if_true]
  refine wpAny_bind (wpAny_rule (wpAny_bind (wpAny_field (x := .ref TO) hz rfl rfl ?_)))
  refine wpAny_bind (wpAny_setField_rec hz (by simp) fun g1 y1 sb1 => ?_)
  replace y1 : IsZip g1 z TI TO .ellipsis := y1
  refine wpAny_bind ?_
  simp only [List.zipIdx_nil, List.zipIdx_cons, List.forIn_nil, List.forIn_cons]
  refine wpAny_bind (wpAny_bind (wpAny_onRaise ?_))
  show wpAny _ A (Builtin.SmallTypes.nextOf (.ref i) >>= _) _ _ _
  refine wpAny_bind (wpAny_nextOf_list_end hh (hi.extBut sb1.extBut n1) (hl.extBut sb1.extBut n2) hend fun g2 e sb2 he => ?_)
  obtain ⟨oe, e1, e2⟩ := he
  have y2 : IsZip g2 z TI TO .ellipsis := sb2 _ _ n1.symm y1
  have ne : e ≠ z := fun x => by
    rw [x, y2] at e1
    cases e1
    simp at e2
  exact wpAny_setField_rec y2 (by simp) fun g3 _ sb3 => hE g3 e (fun c o c1 c2 x => sb3.extBut _ _ c1 (sb2 _ _ c2 (sb1.extBut _ _ c1 x))) ⟨oe, sb3.extBut _ _ ne e1, e2⟩
theorem pyNext_zg {z TI TO i l a : Addr} {k : Nat} {zs : Array Value} {v1 v2 : Value} {U : Option Value → Shared → Prop} (hh : A.handled = none) (n1 : i ≠ z) (n2 : l ≠ z)
    (hz : IsZip s.heap z TI TO .none) (hTI : IsPair s.heap TI (.ref i) (.ref a)) (hTO : IsPair s.heap TO v1 v2) (hi : s.heap.IsListIter i l k) (hl : s.heap.IsList l zs) (hend : zs[k]? = none)
    (hU : ∀ h', (∀ c o, c ≠ z → c ≠ i → s.heap.get? c = some o → h'.get? c = some o) → U none { s with heap := h' }) : wpAny (model prog w) A (pyNext (.ref z)) U E s := by
  have T : s.TypeIs (.ref z) "zip" := ⟨_, hz, rfl⟩
  unfold pyNext
  refine wpAny_bind (wpAny_attempt (wpAny_callSpecial?_slot (name := Str.ofString "__next__") T F.slot_zip_next (wpAny_call_entry F.slot_zip_next T F.entry_zip_next (next_zg hh n1 n2 hz hTI hTO hi hl hend fun h' e hk he => ?_) (F.args_zip_next_1 _))))
  obtain ⟨o, e1, e2⟩ := he
  exact wpAny_bind (wpAny_isInstance (T := "StopIteration") (b := true) ⟨o, e1, e2⟩ isSubtype_stop (wpAny_pure (hU _ hk)))
end
section
variable {X : Cx} {k : Nat} {f : Addr} {fd : FuncData} {ps : List Str} {sp : SpG} {x : Str} {p pos pos' : Pos}
/-- nothing is handed out while the list at a is empty -/
def ItNo (K : PySem.W.Frag) (a : Addr) : It := ⟨fun _ _ => False, fun _ _ _ _ => False, fun _ H => SqL K H a []⟩
theorem turn_zg {P : Program} {w : World} {K : PySem.W.Frag} {tg : Expr} {a z TI TO i gg : Addr} (n1 : i ≠ z) (n2 : a ≠ z) :
    Turn P w K tg (ItNo K a) [z, TI, TO, i] z (fun j h => IsZip h z TI TO .none ∧ IsPair h TI (.ref i) (.ref gg) ∧ (∃ x y, IsPair h TO x y) ∧ h.IsListIter i a j) where
  mem := by simp
  obj := fun j h st c hc => by
    obtain ⟨hz, hTI, ⟨x, y, hTO⟩, o1, e1, _, d1⟩ := st
    have e' : c = z ∨ c = TI ∨ c = TO ∨ c = i := by simpa using hc
    rcases e' with q | q | q | q <;> subst q
    · exact ⟨_, hz, fun v q => by cases q⟩
    · exact ⟨_, hTI, fun v q => by cases q⟩
    · exact ⟨_, hTO, fun v q => by cases q⟩
    · exact ⟨o1, e1, fun v q => by rw [d1] at q; cases q⟩
  keep := fun j h h' st kk => by
    obtain ⟨hz, hTI, ⟨x, y, hTO⟩, h1⟩ := st
    exact ⟨kk z (by simp) _ hz, kk TI (by simp) _ hTI, ⟨x, y, kk TO (by simp) _ hTO⟩, h1.at fun o q => kk i (by simp) o q⟩
  item := fun _ _ _ _ _ _ _ _ _ _ _ _ _ _ hg => hg.elim
  done := by
    intro X hP hw hK hc j pins s σ H E I hf st hg
    subst hP hw hK
    obtain ⟨hz, hTI, ⟨x0, y0, hTO⟩, h1⟩ := st
    obtain ⟨its, rv, pl, _⟩ := I.list hg
    have hn : its.toArray[j]? = none := by
      have e := rv.length
      have e2 : its[j]? = none := List.getElem?_eq_none_iff.mpr (by simp at e; omega)
      simpa using e2
    exact pyNext_zg (I.ok.hd hc) n1 n2 hz hTI hTO h1 pl.isList hn fun h' hk => ⟨rfl, I.turnedL (t' := s.toks) (ch := [z, TI, TO, i]) (fun c o hb q => hk c o (fun q' => hb (by simp [q'])) (fun q' => hb (by simp [q'])) q) hf⟩
  self := fun A j s Q E st h => wpAny_pyIter_zip st.1 h
/-- zip(xs, g(e, ..)): xs is empty, the generator is never begun -/
def iZg (K : PySem.W.Frag) (te : TE) (sp : SpG) (dvs : List V) (ta : TA) : TI := fun σ H R => te σ H fun x H1 => ∃ a, x = .ref a ∧ ta σ H1 fun vs H2 => sp (vs ++ dvs) H2 (fun _ _ => True) (fun _ _ _ => True) ∧ SqL K H2 a [] ∧ R (ItNo K a) H2
theorem pi_zg {e a : Expr} {es : List Expr} {te : TE} {t : TA} {dvs : List V} {ds : List Value} {pz pp : Pos} (hz : Gl X "zip") (hm : X.mg "zip" = none) (he : PE X e te)
    (F : GFn X.prog X.w X.K X.mg X.base k f fd ps sp) (hr : Room k X.A) (hg : Gl X x) (hmx : X.mg x = some (.ref f)) (hk : PySem.W.keepIn X.K (.ref f) = true) (hb : Binds X.K fd ps ds) (hd : Vals dvs ds) (ha : PA X (a :: es) t)
    (hdb : (x == ("__debug__" : Str)) = false := by decide) (h1 : starEach (a :: es) X.env = (false, eval a X.env) :: starEach es X.env := by rfl) (h2 : (backTo pos' (starEach es X.env)).any (·.1) = false := by rfl)
    (hs : starEach [e, .Call (.Name x p) (a :: es) [] pos'] X.env = (false, eval e X.env) :: starEach [.Call (.Name x p) (a :: es) [] pos'] X.env := by rfl) (hs2 : starEach [.Call (.Name x p) (a :: es) [] pos'] X.env = (false, eval (.Call (.Name x p) (a :: es) [] pos') X.env) :: [] := by rfl) :
    PI X tg (.Call (.Name "zip" pz) [e, .Call (.Name x p) (a :: es) [] pos'] [] pp) (iZg X.K te sp dvs t) := by
  refine ⟨fun pins s σ H R I h => ?_⟩
  refine Call_ (ld_blt I hz hm PyProof.Rows.boot_zip (PyProof.Rows.callWith_type1 ?_ hs (by rw [hs2]; rfl)))
  rw [hs, hs2]
  show wpAny _ _ (spliced ((false, eval e X.env) :: (false, eval (.Call (.Name x p) (a :: es) [] pos') X.env) :: [])) _ _ s
  refine Calls.spliced_cons (thn (he.run pins s σ H _ I h) fun u s1 ⟨y, H1, I1, r1, l, ey, q1⟩ => ?_)
  subst ey
  obtain rfl : u = Value.ref l := r1
  refine Calls.spliced_cons ?_
  refine wpAny_Call_Name_kw (ld_glob I1 hg hmx ?_ hdb)
  refine PySem.W.callWith_K (h₀ := X.base) I.ok.mod.kin hk (thn (ha.run pos' pins s1 σ H1 _ I1 q1) fun us s2 ⟨vs, H2, I2, r, q2, q3, q4⟩ => ⟨I2.kIn, ?_⟩) h1 h2
  have r2 : Vals (vs ++ dvs) (us ++ ds) := r.append hd
  have hl2 : (us ++ ds).length = ps.length := by rw [← r2.length]; exact F.len _ _ _ _ q2
  refine wpAny_call (codeAny_mono (F.run X.A X.stack s2 H2 ⟨us, []⟩ (us ++ ds) (vs ++ dvs) _ _ hr I2.env0 (hb s2 us I2.kIn hl2) r2 q2) fun rr s3 hq => ?_)
  cases rr with
  | error e => exact hq.elim
  | ok fl =>
    cases fl with
    | next => exact hq.elim
    | brk => exact hq.elim
    | cont => exact hq.elim
    | ret u =>
      obtain ⟨b, n, c, rfl, b1, b2, b3, b4, os, bare, nl, kp, _⟩ := hq
      have I3 : Inv X pins σ H2 s3 := I2.call' (ch := []) os (Un.kept kp) (I2.hok.kept kp) bare fun b z => by simp at z
      refine Calls.spliced_nil ?_
      obtain ⟨its, rv, pl, _⟩ := I3.list q3
      have ll : l < s3.heap.objs.size := pl.lt
      refine call_zg pl.isList b3 fun h' hz hTI hTO hi hk => wpAny_pyIter_zip hz ?_
      refine ⟨s3.heap.objs.size + 3, [s3.heap.objs.size + 3, s3.heap.objs.size + 1, s3.heap.objs.size + 2, s3.heap.objs.size], _, _, H2, rfl, I3.kept (t' := s3.toks) hk, turn_zg (gg := b) (TI := s3.heap.objs.size + 1) (TO := s3.heap.objs.size + 2) (Nat.ne_of_lt (Nat.lt_add_of_pos_right (by decide))) (Nat.ne_of_lt (Nat.lt_add_right 3 ll)), ⟨hz, hTI, ⟨_, _, hTO⟩, hi⟩, fun c hcm => ?_, q4⟩
      have e' : c = s3.heap.objs.size + 3 ∨ c = s3.heap.objs.size + 1 ∨ c = s3.heap.objs.size + 2 ∨ c = s3.heap.objs.size := by simpa using hcm
      have hle : s3.heap.objs.size ≤ c := by
        rcases e' with z | z | z | z <;> rw [z]
        · exact Nat.le_add_right _ _
        · exact Nat.le_add_right _ _
        · exact Nat.le_add_right _ _
        · exact Nat.le_refl _
      exact I3.fpOk hle (I3.hok.fresh hle)
end
end L2

set_option maxRecDepth 100000
/-! Gn: generator defs over typed data; list(g(..)). -/
namespace L2
open PySem PySem.Spec PyProof.Rows GenW
section
variable {X : Cx} {k : Nat} {x : Str} {p pos : Pos} {e : Expr}
def tListGA (tg : XK → TGen) (E : St → XK) : TE := fun σ H Q => tg (E σ) σ H fun out H2 => ∀ q, H2 q = none → Q (.ref q) (upd H2 q (.lst out))
/-- list(g), what leaves it by the slots -/
theorem pe_listGA {tg : XK → TGen} {E : St → XK} {nm : Str} (h : ∀ E', PGen X k e (tg E') E') (hx : ∀ σ, PassesAt (L2.CX X.prog X.w) X σ (E σ)) (hns : ∀ σ, NoStop X.K (E σ)) (hr : Room (k + 3) X.A) (hg : Gl X nm) (hmg : X.mg nm = none) (hv : bootBuiltins nm = some (.type "list")) (hnm : nm ≠ "__name__" := by decide)
    (hdb : (nm == ("__debug__" : Str)) = false := by decide) (he : starEach [e] X.env = (false, eval e X.env) :: starEach [] X.env := by rfl) : PE X (.Call (.Name nm p) [e] [] pos) (tListGA tg E) := by
  refine ⟨fun pins s σ H Q I hq => ?_⟩
  refine wpAny_Call_Name_kw (ld_blt I hg hmg hv (PyProof.Rows.callWith_type1 ?_ he rfl) hnm hdb)
  rw [he]
  show wpAny _ _ (spliced ((false, eval e X.env) :: backTo pos (starEach [] X.env))) _ _ _
  refine Calls.spliced_cons (thn ((h (E σ)).run pins s σ H _ I hq) fun u s1 ⟨H1, sc, ex, J, hex, made⟩ => Calls.spliced_nil ?_)
  have grown : sc.heap.objs.size ≤ s1.heap.objs.size := by
    obtain ⟨a, n, c, _, b1, b2, _⟩ := made
    exact Nat.le_trans b1 (Nat.le_of_lt b2)
  refine call_list_new hr J.ok.frames made (fun S s' acc c H' ys q0 q1 q2 ql q3 q4 q5 q6 q7 q8 => ?_) fun u s' n hc => ?_
  · exact ⟨.ref S, upd H' S (.lst ys), J.drained (Nat.le_trans grown q0) ql q1 q2 hex q3 q4 q5 q6 q7, rfl, q8 S q7⟩
  have kin : X.K.In s'.heap := by
    obtain ⟨a, B, H', cls, d, _, fl, _, ub, _⟩ := id hc
    refine J.ok.mod.kin.keeps fun b o eb => fl.1 b o (ub.keep b o (J.bs b o eb).1 (J.bs b o eb).2 fun hm => ?_)
    rcases List.mem_cons.mp (J.stkSub b hm) with z | z
    · have y1 := Heap.lt_size eb
      rw [z] at y1
      exact absurd (Nat.lt_of_lt_of_le y1 (Nat.le_trans J.ok.bsz J.ok.above)) (Nat.lt_irrefl _)
    · exact J.ok.nofr eb z
  refine ⟨notStop_of (hns σ) kin hc, hx σ pins H1 sc u _ J ?_⟩
  obtain ⟨a, B, H', cls, d, y1, fl, y2, ub, y3, y4, y5, y6⟩ := hc
  exact ⟨a, B, H', cls, d, y1, fl, y2, ub, y3, y4, allBare_setGen y5 rfl, y6⟩
end
end L2
namespace DL
open PySem PySem.Spec PyProof.Rows L2 Evl
/-- a generator's promise: S: what it hands out in all; R: what is raised once it is begun -/
def spG (S : List Dv → List Dv → Prop) (R : List Dv → Value → Prop) : SpG := fun vs H Q E => ∃ F ds, Ex F H ∧ Reps F ds vs ∧
  ((∃ ys, S ds ys ∧ ∀ us F' H', Step NoO F H F' H' → Reps F' ys us → Q us H') ∨ (∃ c, R ds c ∧ ∀ F' H', Step NoO F H F' H' → E c none H'))
theorem spG_len {S : List Dv → List Dv → Prop} {R : List Dv → Value → Prop} {n : Nat} (h1 : ∀ ds r, S ds r → ds.length = n) (h2 : ∀ ds c, R ds c → ds.length = n) : ∀ vs H Q E, spG S R vs H Q E → vs.length = n := fun vs H Q E ⟨F, ds, _, r, h⟩ => by
  rw [← r.len]
  rcases h with ⟨r, h, _⟩ | ⟨c, h, _⟩
  · exact h1 _ _ h
  · exact h2 _ _ h
def DefG (W : Wd) (x : Str) (k : Nat) (ps : List Str) (sp : SpG) : Prop := ∃ f fd, GFn W.P W.w W.K W.mg W.base k f fd ps sp ∧ W.mg x = some (.ref f) ∧ PySem.W.keepIn W.K (.ref f) = true ∧ Binds W.K fd ps []
theorem defG_of {W : Wd} {x qual : Str} {params : Arguments} {body : List Stmt} {scope : Scope} {f : Addr} {fd : FuncData} {N ps : List Str} {k : Nat} {sp : SpG} (F : FunD W.K x qual params body scope [] [] f fd) (g : W.mg x = some (.ref f)) (S : GScope N ps scope) (len : ∀ vs H Q E, sp vs H Q E → vs.length = ps.length)
    (hbind : ∀ (kV doc pm : Value) (an : Option Addr) (cdv ct : Value) (us : List Value), us.length = ps.length → bindArgs (PySem.W.fnOf x qual params body scope .none kV doc pm an cdv ct) ⟨us, []⟩ = pure (ps.zip us))
    (hbody : ∀ (cv : Value) (B : Around) (up : List Env) (s : Shared) (H : Hp) (vs : List V) (Q : List V → Hp → Prop) (E : XK) (pn : List (Addr × Obj)), Room k (B.deeper (envOfC qual scope s.heap.objs.size f cv)) → sp vs H Q E →
      ∃ t, GSs (gcxOf W.P W.w W.K W.mg W.base N qual scope f cv B up s H E pn) body t ∧ t { nx := fun ys _ H' => Q ys H', rt := fun ys v H' => v = .non ∧ Q ys H' } [] (L2.start N vs) H) : DefG W x (k + 1) ps sp := by
  have bd := F.bindsN hbind
  have kp := F.kp
  obtain ⟨oc, od, dV, kV, doc, pm, an, cdv, ct, osl, rfl, lk, hcd, _, _⟩ := F.ex
  exact ⟨f, _, gfn_of lk hcd S len fun A outer s H vs Q E pn hr hsp => hbody cdv A outer s H vs Q E pn hr hsp, g, kp, bd⟩
/-- under the data Γ and what is out so far -/
def OKG (Z : En) (Γ : List Slot) (out : List Dv) (P : List V → L2.St → Hp → Prop) : Prop := ∀ F σ H ys, Holds Z Γ F σ H → Reps F out ys → P ys σ H
theorem body_G {S : List Dv → List Dv → Prop} {R : List Dv → Value → Prop} {t : TGn} {D : GEnds} {N : List Str} {vs : List V} {H : Hp} {Q : List V → Hp → Prop} {E : XK} (h : spG S R vs H Q E)
    (k : ∀ F ds, ds.length = vs.length → ((∃ ys, S ds ys ∧ ∀ us F' H', Step NoO F H F' H' → Reps F' ys us → Q us H') ∨ (∃ c, R ds c ∧ ∀ F' H', Step NoO F H F' H' → E c none H')) →
      OKG ⟨NoO, F, H, fun _ => True, fun _ h => h⟩ (vals ds ++ anys (N.length - ds.length)) [] (t D)) : t D [] (L2.start N vs) H := by
  obtain ⟨F, ds, e, r, h⟩ := h
  exact k F ds r.len h F _ H [] (start_P e r) .nil
section
variable {α β γ : Type} {Z : En} {Γ Γ' Γ1 Γ2 : List Slot} {ta tb te : TE} {ds es out ys : List Dv} {D : GEnds} {s1 s2 : TGn} {j : Nat} {tr : TA}
theorem g_seq (h : OKG Z Γ out (s1 { D with nx := fun ys' σ' H' => s2 D ys' σ' H' })) : OKG Z Γ out (tGThen s1 s2 D) := h
theorem g_nil (h : OKG Z Γ out D.nx) : OKG Z Γ out (tG0 D) := h
theorem g_drop {t : Ty α} {x : α} (h : Den te Γ t x Γ1) (k : OKG Z Γ1 out D.nx) : OKG Z Γ out (tPlain (tDrop te) D) := fun F σ H us hh r =>
  h Z F σ H hh _ fun v F' H' h' p _ => k F' σ H' us h' (r.mono p.ff)
theorem g_bot {E : XK} {c : Value} (h : Bot te Γ Γ1 E c) (e : OK Z Γ1 fun _ H => E c none H) : OKG Z Γ out (tPlain (tDrop te) D) := fun F σ H us hh r => h Z F σ H hh (fun F' H' h' => e F' σ H' h') _
def GAt (Z : En) (Γ : List Slot) (out : List Dv) : List V → L2.St → Hp → Prop := fun us σ H => ∃ F, Holds Z Γ F σ H ∧ Reps F out us
theorem g_at (k : Wk Γ Γ') : OKG Z Γ out (GAt Z Γ' out) := fun F σ H us hh r => ⟨F, hh.weak k, r⟩
theorem g_forR {m : Int} (G : Nat → List Slot) (O : Nat → List Dv) (h : DenA tr Γ [⟨tInt, m⟩] (G 0)) (hl : m < 50000) (hm : -50000 ≤ m) (h0 : O 0 = out)
    (hs : ∀ (n : Nat), (n : Int) < m → OKG Z ((G n).set j (.val ⟨tInt, (n : Int)⟩)) (O n) (s1 { D with nx := GAt Z (G (n + 1)) (O (n + 1)), ct := GAt Z (G (n + 1)) (O (n + 1)), bk := D.nx }))
    (hd : OKG Z (G m.toNat) (O m.toNat) D.nx) : OKG Z Γ out (tGFor (iRng1 tr) (gName j) s1 D) := fun F σ H us hh r => by
  refine h Z F σ H hh _ fun vs F1 H1 h1 p1 rr => ?_
  cases rr with
  | cons r1 r2 =>
    cases r2
    cases r1
    refine ⟨m, rfl, by omega, by omega, fun i q us σ H => q = m.toNat - i ∧ i ≤ m.toNat ∧ GAt Z (G i) (O i) us σ H, ⟨m.toNat, by simp, Nat.zero_le _, F1, h1, by rw [h0]; exact r.mono p1.ff⟩, ?_⟩
    rintro i q us σ H ⟨rfl, hi, F2, h2, r2⟩
    by_cases lt : i < m.toNat
    · refine .inr ⟨lt, GAt Z (G (i + 1)) (O (i + 1)), fun us' σ' H' g => ⟨m.toNat - (i + 1), by omega, rfl, lt, g⟩, fun x H' y => ?_⟩
      obtain ⟨y1, y2⟩ := y
      subst y1 y2
      rw [show (0 : Int) + (i : Int) = (i : Int) from Int.zero_add _]
      exact hs i (by omega) F2 _ H' us (h2.set j rfl) r2
    · have e : i = m.toNat := by omega
      subst e
      exact .inl ⟨Nat.le_refl _, hd F2 σ H us h2 r2⟩
theorem g_from (h : DenN te Γ ds Γ1) (hl : out.length + ds.length ≤ 100000) (k : OKG Z Γ1 (out ++ ds) D.nx) : OKG Z Γ out (tGFrom (tYfLst te) D) := fun F σ H us hh r =>
  h Z F σ H hh _ fun p vs F' H' h' pr np fp hp rr => ⟨p, vs, rfl, hp, sz_of (by rw [← r.len, ← rr.len]; exact hl), k F' σ H' _ h' ((r.mono pr.ff).app rr)⟩
theorem g_end {F0 H0 : Hp} {Q : List V → Hp → Prop} (hZ : Z.F = F0 ∧ Z.H = H0 ∧ Z.O = NoO) (hD : ∀ us σ H, Q us H → D.nx us σ H) (q : ∀ us F' H', Step NoO F0 H0 F' H' → Reps F' ys us → Q us H') (e : ys = out) : OKG Z Γ out D.nx := fun F σ H us hh r => by
  obtain ⟨z1, z2, z3⟩ := hZ
  refine hD us σ H (q us F H ?_ (by rw [e]; exact r))
  rw [← z1, ← z2, ← z3]
  exact hh.st
/-! ### at the call -/
theorem dn_listG {S : List Dv → List Dv → Prop} {R : List Dv → Value → Prop} {E : L2.St → XK} (h : DenA tr Γ ds Γ1) (hs : S ds es) : DenN (tListGA (fun E => tCallG (spG S R) [] E tr) E) Γ es Γ1 := fun Z F σ H hh Q q =>
  h Z F σ H hh _ fun vs F1 H1 h1 p1 r1 => by
    rw [List.append_nil]
    refine ⟨F1, ds, h1.fh, r1, .inl ⟨es, hs, fun us F' H' k r p np => ?_⟩⟩
    exact new_q (H := H) (Γ' := Γ1) q (h1.step k) (p1.trans (Pres.step k)) np r
/-- only c is let out -/
def XOnly (c : Value) (E : L2.St → XK) : L2.St → XK := fun σ cls d H => (cls = c ∧ d = none) ∧ E σ cls d H
theorem bots_listG {S : List Dv → List Dv → Prop} {R : List Dv → Value → Prop} {E : L2.St → XK} {c : Value} (h : DenA tr Γ ds Γ1) (hs : R ds c) : BotS (tListGA (fun E => tCallG (spG S R) [] E tr) (XOnly c E)) Γ Γ1 E c := fun Z F σ H hh e Q =>
  h Z F σ H hh _ fun vs F1 H1 h1 p1 r1 => by
    rw [List.append_nil]
    exact ⟨F1, ds, h1.fh, r1, .inr ⟨c, hs, fun F' H' k => ⟨⟨rfl, rfl⟩, e F' H' (h1.step k)⟩⟩⟩
theorem nostop_only {K : PySem.W.Frag} {c : Value} {E : L2.St → XK} (h : PySem.W.subIn K c (.type "StopIteration") = some false) (σ : L2.St) : NoStop K (XOnly c E σ) := fun cls d H ⟨⟨z, _⟩, _⟩ => by rw [z]; exact h
theorem passes_only {X : Cx} {c : Value} {E : L2.St → XK} (h : ∀ σ, PassesAt (L2.CX X.prog X.w) X σ (E σ)) (σ : L2.St) : PassesAt (L2.CX X.prog X.w) X σ (XOnly c E σ) := fun pins H s e s' I z => h σ pins H s e s' I <| by
  obtain ⟨a, B, H', cls, d, y1, fl, y2, ub, y3, y4, y5, y6⟩ := z
  exact ⟨a, B, H', cls, d, y1, fl, y2, ub, y3, y4, y5, y6.2⟩
end
end DL

set_option maxRecDepth 100000
/-! Bi: math.factorial, all, tuples joined and cut, a falling range, borrowed lists, promises of a new list or an exception. -/
namespace L2
open PySem PySem.Spec PyProof.Rows
def rFac : List V → Hp → VK → Prop := fun vs H Q => ∃ a : Int, vs = [.int a] ∧ 0 ≤ a ∧ a ≤ 20000 ∧ Q (.int ((Builtin.Math.factorialNat a.toNat : Nat) : Int)) H
theorem cr_fac {X : Cx} : CallR X (.builtin "math.factorial") rFac := by
  intro pins s σ H vs us Q I r h
  obtain ⟨a, rfl, h0, h1, q⟩ := h
  obtain ⟨u, rfl, ru⟩ := vals1 r
  obtain ⟨t, rfl⟩ := ru
  exact PySem.W.mc_factorial h0 h1 fun _ => ⟨.int _, H, I.tok _, ⟨_, rfl⟩, q⟩
theorem gs_yieldFromC {X : Cx} {t : TYf} {e : Expr} {yp pos : Pos} (he : YfE X e t) (hc : X.calm = true) (hi : interactive X.env = false := by rfl) : GS X (.Expr (.YieldFrom e yp) pos) (tGFrom t) := by
  refine ⟨fun A S ip R n ys s₀ c fs K J gd lv s σ H D g hn k hI ht => ?_⟩
  obtain ⟨acc, cc, r, I⟩ := id hI
  exact (gs_yieldFrom he (I.ok.hd hc) hi).run A S ip R n ys s₀ c fs K J gd lv s σ H D g hn k hI ht
/-- sum of a list or a tuple of ints -/
def rSumQ (K : PySem.W.Frag) : List V → Hp → VK → Prop := fun vs H Q => ∃ (a : Addr) (ns : List Int), vs = [V.ref a] ∧ (SqL K H a (ns.map V.int) ∨ SqT K H a (ns.map V.int)) ∧ Q (.int ns.sum) H
theorem cr_sumQ {X : Cx} (hc : X.calm = true) : CallR X (.builtin "sum") (rSumQ X.K) := by
  intro pins s σ H vs us Q I r h
  obtain ⟨a, ns, rfl, hs, q⟩ := h
  rcases hs with hs | hs
  · exact cr_sum hc pins s σ H _ us Q I r ⟨a, ns, rfl, hs, q⟩
  · obtain ⟨its, rv, ht, _⟩ := I.tuple hs
    rw [Vals.ref1 r]
    obtain ⟨xs, e⟩ := rv.ints.allInts.items
    have hn : numsOf (intItems xs).toList = ns := by rw [← e]; exact rv.ints.numsOf
    rw [nums_intItems] at hn
    rw [e] at ht
    refine PySem.W.ktm_sumG (I.ok.hd hc) ht fun h' tk t' hk => ?_
    rw [preSum_eq, List.take_of_length_le (by simp), hn]
    exact ⟨.int _, H, I.kept hk, ⟨_, rfl⟩, q⟩
end L2
namespace DL
open PySem PySem.Spec PyProof.Rows L2 Evl
theorem passes_no {X : Cx} (σ : L2.St) : PassesAt (L2.CX X.prog X.w) X σ ((fun _ _ _ _ => False : L2.St → XK) σ) := fun pins H s e s' I z => by
  obtain ⟨a, B, H', cls, d, y1, fl, y2, ub, y3, y4, y5, y6⟩ := z
  exact y6.elim
theorem nostop_no {K : PySem.W.Frag} (σ : L2.St) : NoStop K ((fun _ _ _ _ => False : L2.St → XK) σ) := fun _ _ _ h => h.elim
/-- a new open list, or an exception -/
def spNR (S : List Dv → List Dv → Prop) (R : List Dv → Value → Prop) : Sp := fun vs H Q E => ∃ F ds, Ex F H ∧ Reps F ds vs ∧
  ((∃ r, S ds r ∧ ∀ p us F' H', Step NoO F H F' H' → H p = none → F' p = none → H' p = some (.lst us) → Reps F' r us → Q (.ref p) H') ∨ (∃ c, R ds c ∧ ∀ F' H', Step NoO F H F' H' → E c none H'))
theorem spNR_len {S : List Dv → List Dv → Prop} {R : List Dv → Value → Prop} {n : Nat} (h1 : ∀ ds r, S ds r → ds.length = n) (h2 : ∀ ds c, R ds c → ds.length = n) : ∀ vs H Q E, spNR S R vs H Q E → vs.length = n := fun vs H Q E ⟨F, ds, _, r, h⟩ => by
  rw [← r.len]
  rcases h with ⟨r, h, _⟩ | ⟨c, h, _⟩
  · exact h1 _ _ h
  · exact h2 _ _ h
theorem body_NR {S : List Dv → List Dv → Prop} {R : List Dv → Value → Prop} {t : TS} {N : List Str} {vs : List V} {H : Hp} {Q : VK} {E : XK} (h : spNR S R vs H Q E)
    (k : ∀ F ds, ds.length = vs.length → ((∃ r, S ds r ∧ ∀ p us F' H', Step NoO F H F' H' → H p = none → F' p = none → H' p = some (.lst us) → Reps F' r us → Q (.ref p) H') ∨ (∃ c, R ds c ∧ ∀ F' H', Step NoO F H F' H' → E c none H')) →
      OK ⟨NoO, F, H, fun _ => True, fun _ h => h⟩ (vals ds ++ anys (N.length - ds.length)) (t { nx := fun _ H' => Q .non H', rt := Q })) : t { nx := fun _ H' => Q .non H', rt := Q } (L2.start N vs) H := by
  obtain ⟨F, ds, e, r, h⟩ := h
  exact k F ds r.len h F _ H (start_P e r)
/-- a value that needs no heap -/
def Flat {γ : Type} (w : Ty γ) (z : γ) : Prop := ∀ F F' v, w.rep F v z → w.rep F' v z
theorem flat_bool {b : Bool} : Flat tBool b := fun _ _ _ h => h
theorem flat_int {b : Int} : Flat tInt b := fun _ _ _ h => h
theorem flat_non : Flat tNon () := fun _ _ _ h => h
def NotNon {α : Type} (t : Ty α) (x : α) : Prop := ∀ F v, t.rep F v x → v ≠ V.non
section
variable {α β γ : Type} {t : Ty α} {u : Ty β} {w : Ty γ} {x : α} {y : β} {z : γ} {Z : En} {Γ Γ' Γ0 Γ1 Γ2 Γ3 Γ4 : List Slot} {ta tb tc td te : TE} {tt uu : TT} {r r' : R2} {ds es : List Dv} {K : PySem.W.Frag} {D : Ends} {s1 s2 : TS} {i j : Nat} {tr : TA}
theorem on_fac {i : Int} (h0 : 0 ≤ i) (h1 : i ≤ 20000) : OpN rFac [⟨tInt, i⟩] tInt ((Builtin.Math.factorialNat i.toNat : Nat) : Int) := fun F H vs e r Q q => by
  cases r with
  | cons r r' =>
    cases r'
    cases r
    exact ⟨i, rfl, h0, h1, q _ F H (Step.refl e) rfl⟩
theorem al_bl {F : Hp} : ∀ {xs : List Bool} {vs : List V}, Al (fun x v => tBool.rep F v x) xs vs → vs = xs.map V.bl
  | _, _, .nil => rfl
  | _, _, .cons r h => by
    rw [List.map_cons, ← al_bl h]
    cases r
    rfl
theorem den_all {bs : List Bool} (h : DenL ta Γ tBool bs Γ1) : Den (tCB (rAll K) (tCons ta tNil)) Γ tBool (bs.all id) Γ1 := fun Z F σ H hh Q q =>
  h Z F σ H hh _ fun a vs F' H' h' p e r => ⟨a, bs, rfl, sq_of (by rw [e, al_bl r]), q _ F' H' h' p rfl⟩
theorem den_any {bs : List Bool} (h : DenL ta Γ tBool bs Γ1) : Den (tCB (rAny K) (tCons ta tNil)) Γ tBool (bs.any id) Γ1 := fun Z F σ H hh Q q =>
  h Z F σ H hh _ fun a vs F' H' h' p e r => ⟨a, bs, rfl, sq_of (by rw [e, al_bl r]), q _ F' H' h' p rfl⟩
/-! ### tuples -/
theorem op_catTT {xs ys : List α} (hx : xs ≠ []) (hl : xs.length + ys.length ≤ 100000) : Op2 (rCatT K) (tTupl t) xs (tTupl t) ys (tTupl t) (xs ++ ys) := fun F H v1 v2 e r1 r2 Q q => by
  obtain ⟨a, vs, rfl, ha, ra⟩ := r1
  obtain ⟨b, us, rfl, hb, rb⟩ := r2
  have nv : vs ≠ [] := fun z => by
    subst z
    cases ra
    exact hx rfl
  refine ⟨a, b, vs, us, rfl, rfl, st_of (e _ _ ha), st_of (e _ _ hb), nv, sz_of (by rw [← ra.len, ← rb.len]; exact hl), fun z => ?_, fun _ p np => ?_⟩
  · subst z
    cases rb
    rw [List.append_nil] at q
    exact q _ F H (Step.refl e) ⟨a, vs, rfl, ha, ra⟩
  · have k : Step NoO F H (upd F p (.tup (vs ++ us))) (upd H p (.tup (vs ++ us))) := Step.new e np
    exact q _ _ _ k ⟨p, _, rfl, upd_same, (ra.map fun _ _ z => t.mono k.ff z).app (rb.map fun _ _ z => t.mono k.ff z)⟩
theorem den_tuplN {xs : List α} (h : DenA tr Γ ds Γ1) (e : ds = xs.map fun x => ⟨t, x⟩) (hl : ds.length ≤ 100000) : Den (tTup tr) Γ (tTupl t) xs Γ1 := by
  subst e
  exact den_as (den_row h hl) row_tup
theorem den_tuple0 : Den (tTup tNil) Γ (tTupl t) [] Γ := den_tuplN da_nil rfl (Nat.zero_le _)
theorem den_tuple1 (h : Den ta Γ t x Γ1) : Den (tTup (tCons ta tNil)) Γ (tTupl t) [x] Γ1 := den_tuplN (da_cons h da_nil) rfl (by show 1 ≤ 100000; decide)
theorem den_slT {xs : List α} {lo hi : Option Int} {tl th : TO} (ha : Den ta Γ (tTupl t) xs Γ1) (hl : PuO tl Γ1 lo) (hh' : PuO th Γ1 hi) (hw : ¬ (HT.sIx xs.length 0 lo = 0 ∧ HT.sIx xs.length xs.length hi = xs.length)) :
    Den (tSl (rSlT K) ta tl th) Γ (tTupl t) ((xs.drop (HT.sIx xs.length 0 lo)).take (HT.sIx xs.length xs.length hi - HT.sIx xs.length 0 lo)) Γ1 := fun Z F σ H hh Q q =>
  ha Z F σ H hh _ fun v F1 H1 h1 p r => hl Z F1 σ H1 h1 _ fun F2 H2 k2 => hh' Z F2 σ H2 (h1.step k2) _ fun F3 H3 k3 => by
    obtain ⟨a, vs, rfl, e, rr⟩ := r
    have k := k2.trans k3
    refine ⟨a, vs, rfl, st_of ((h1.step k).fh _ _ (k.ff _ _ e)), by rw [← rr.len]; exact hw, fun l nl => ?_⟩
    have kn : Step NoO F3 H3 (upd F3 l (.tup (cutV vs lo hi))) (upd H3 l (.tup (cutV vs lo hi))) := Step.new (h1.step k).fh nl
    refine q _ _ _ ((h1.step k).step kn) ((p.trans (Pres.step k)).trans (Pres.step kn)) ⟨l, _, rfl, upd_same, ?_⟩
    have r3 : Al (fun x v => t.rep (upd F3 l (.tup (cutV vs lo hi))) v x) xs vs := rr.map fun _ _ z => t.mono (k.ff.trans kn.ff) z
    have r4 := (r3.drop (HT.sIx xs.length 0 lo)).take (HT.sIx xs.length xs.length hi - HT.sIx xs.length 0 lo)
    have e1 : cutV vs lo hi = (vs.drop (HT.sIx xs.length 0 lo)).take (HT.sIx xs.length xs.length hi - HT.sIx xs.length 0 lo) := by
      unfold cutV
      rw [← rr.len]
    rw [e1] at r4 ⊢
    exact r4
theorem dn_lst4 {x y z z' : α} (h : Den ta Γ t x Γ1) (h2 : Den tb Γ1 t y Γ2) (h3 : Den tc Γ2 t z Γ3) (h4 : Den td Γ3 t z' Γ4) : DenN (tLst (tCons ta (tCons tb (tCons tc (tCons td tNil))))) Γ ([x, y, z, z'].map fun x => ⟨t, x⟩) Γ4 := dn_lst (da_cons h (da_cons h2 (da_cons h3 (da_cons h4 da_nil)))) (by show 4 ≤ 100000; decide)
/-! ### tests -/
theorem den_chain {a b : Bool} (ha : Den ta Γ t x Γ) (hb : Den tb Γ u y Γ) (hr : Op2 r t x u y tBool a) (hc : Den tc Γ w z Γ) (hr' : Op2 r' u y w z tBool b) : Den (tChain r r' ta tb tc) Γ tBool (a && b) Γ := fun Z F σ H hh Q q =>
  ha Z F σ H hh _ fun v1 F1 H1 h1 p1 r1 => hb Z F1 σ H1 h1 _ fun v2 F2 H2 h2 p2 r2 => hr F2 H2 v1 v2 h2.fh (t.mono p2.ff r1) r2 _ fun v F3 H3 k r3 => ⟨a, r3, by
    have h3 := h2.step k
    have p3 := (p1.trans p2).trans (Pres.step k)
    cases a with
    | true =>
      rw [if_pos rfl]
      refine hc Z F3 σ H3 h3 _ fun v4 F4 H4 h4 p4 r4 => hr' F4 H4 v2 v4 h4.fh (u.mono (k.ff.trans p4.ff) r2) r4 Q fun v5 F5 H5 k5 r5 => ?_
      exact q v5 F5 H5 (h4.step k5) ((p3.trans p4).trans (Pres.step k5)) r5
    | false =>
      rw [if_neg (by decide)]
      exact q _ F3 H3 h3 p3 rfl⟩
theorem ty_tup {xs : List α} : IsTy K (tTupl t) xs (.type "tuple") := fun F H v e r => by
  obtain ⟨a, vs, rfl, h, _⟩ := r
  exact .base (.tup (e _ _ h))
theorem ty_lst {xs : List α} : IsTy K (tList t) xs (.type "list") := fun F H v e r => by
  obtain ⟨a, vs, rfl, h, _⟩ := r
  exact .base (.lst (e _ _ h))
theorem nn_tup {xs : List α} : NotNon (tTupl t) xs := fun F v r z => by
  obtain ⟨a, vs, rfl, h, _⟩ := r
  cases z
theorem den_notN (h : Den ta Γ t x Γ1) (n : NotNon t x) : Den (tNotN ta) Γ tBool true Γ1 := fun Z F σ H hh Q q => h Z F σ H hh _ fun v F1 H1 h1 p1 r1 => by
  have e : (!decide (v = V.non)) = true := by simp [n _ _ r1]
  rw [e]
  exact q _ F1 H1 h1 p1 rfl
theorem den_notNN (h : Den ta Γ tNon () Γ1) : Den (tNotN ta) Γ tBool false Γ1 := fun Z F σ H hh Q q => h Z F σ H hh _ fun v F1 H1 h1 p1 r1 => by
  cases r1
  exact q _ F1 H1 h1 p1 rfl
theorem den_isN (h : Den ta Γ t x Γ1) (n : NotNon t x) : Den (tIsN ta) Γ tBool false Γ1 := fun Z F σ H hh Q q => h Z F σ H hh _ fun v F1 H1 h1 p1 r1 => by
  have e : (decide (v = V.non)) = false := by simp [n _ _ r1]
  rw [e]
  exact q _ F1 H1 h1 p1 rfl
theorem den_isNN (h : Den ta Γ tNon () Γ1) : Den (tIsN ta) Γ tBool true Γ1 := fun Z F σ H hh Q q => h Z F σ H hh _ fun v F1 H1 h1 p1 r1 => by
  cases r1
  exact q _ F1 H1 h1 p1 rfl
theorem den_eqNil (ha : DenN ta Γ [] Γ1) (hb : DenN tb Γ1 [] Γ2) : Den (tOp (rEqD K) ta tb) Γ tBool true Γ2 := fun Z F σ H hh Q q =>
  ha Z F σ H hh _ fun a vs F1 H1 h1 p1 na fa hla ra => hb Z F1 σ H1 h1 _ fun b us F2 H2 h2 p2 nb fb hlb rb => by
    have no : ∀ i, ¬ OwnAt Γ1 σ i a := fun i w => hh.notOwn na i (p1.ow i a w)
    obtain ⟨_, k⟩ := p2.keep a _ hla fa (fun _ z => nomatch z) no
    cases ra
    cases rb
    exact ⟨.list [], .list [], .lst (sq_of k) .nil, .lst (sq_of hlb) .nil, by decide +kernel, by decide +kernel, q _ F2 H2 h2 (p1.trans p2) rfl⟩
/-! ### falling ranges -/
theorem s_forDown {S : Type} {i : Int} (s0 : S) (G : S → List Slot) (I : Nat → S → Prop) (h : DenA tr Γ [⟨tInt, i⟩, ⟨tInt, -1⟩, ⟨tInt, -1⟩] Γ1) (hn : i ≤ 1000000) (hm : -1000000 ≤ i) (h0 : I 0 s0) (e0 : Wk Γ1 (G s0))
    (hs : ∀ (k : Nat) s, (k : Int) ≤ i → I k s → OK Z ((G s).set j (.val ⟨tInt, i - (k : Int)⟩)) (s1 { D with nx := LoopAt Z G I (k + 1), ct := LoopAt Z G I (k + 1), bk := D.nx }))
    (hd : ∀ s, I (i + 1).toNat s → OK Z (G s) D.nx) : OK Z Γ (tFor (iRng3 tr) (gName j) s1 D) := fun F σ H hh => by
  refine h Z F σ H hh _ fun vs F1 H1 h1 p r => ?_
  cases r with
  | cons r q => cases q with
    | cons r2 q => cases q with
      | cons r3 q =>
        cases q
        cases r
        cases r2
        cases r3
        refine ⟨i, -1, -1, (i - -1).toNat, rfl, RgC.neg (by omega) (by omega) (by omega) (by omega), for_rangeC (LoopAt Z G I) ⟨s0, F1, h0, h1.weak e0⟩ ?_ ?_⟩
        · rintro k σ' H' hk ⟨s, F', hi, hs'⟩
          have e : i + (k : Int) * (-1) = i - (k : Int) := by omega
          rw [e]
          exact hs k s (by omega) hi F' _ H' (hs'.set j rfl)
        · rintro σ' H' ⟨s, F', hi, hs'⟩
          rw [show i - -1 = i + 1 from by omega] at hi
          exact hd s hi F' σ' H' hs'
/-! ### calls -/
/-- the owned list of slot i is read by a def that gives a plain value back -/
theorem den_callBr {sp : Sp} {E : XK} {xs : List α} (e : Γ[i]? = some (.lst t xs)) (h : DenA tr Γ ds Γ1) (e1 : Γ1[i]? = some (.lst t xs)) (hs : SpV sp (⟨tList t, xs⟩ :: ds) w z) (fl : Flat w z) : Den (tCall sp [] E (tCons (tVar i) tr)) Γ w z Γ1 := fun Z F σ H hh Q q => by
  obtain ⟨a, h1, _, _⟩ := hh.owned e rfl
  refine ⟨_, h1, ?_⟩
  refine h Z F σ H hh _ fun vs F1 H1 h2 p1 r1 => ?_
  obtain ⟨a', h1', ⟨n1, us, hu, ru⟩, _⟩ := h2.owned e1 rfl
  rw [h1] at h1'
  cases h1'
  rw [List.append_nil]
  have ff : Ex F1 (upd F1 a (.lst us)) := Ex.new n1
  refine hs (upd F1 a (.lst us)) H1 _ (fun b o q => ?_) (.cons ⟨a, us, rfl, upd_same, ru.map fun _ _ z => t.mono ff z⟩ (r1.mono ff)) Q E fun v F' H' k rv => ?_
  · by_cases zz : b = a
    · rw [zz, upd_same] at q
      cases q
      rw [zz]
      exact hu
    · rw [upd_ne zz] at q
      exact h2.fh b o q
  · have st : Step NoO F1 H1 F1 H' := by
      refine ⟨Ex.refl F1, (ff.trans k.ff).trans k.fh, fun b o q n => ?_⟩
      by_cases zz : b = a
      · subst zz
        rw [hu] at q
        cases q
        have e2 := k.fh b _ (k.ff b _ upd_same)
        exact ⟨.inl n, ⟨_, e2⟩, fun _ => e2⟩
      · have n2 : upd F1 a (.lst us) b = none := by rw [upd_ne zz]; exact n
        obtain ⟨_, h3, k3⟩ := k.keep b o q n2
        exact ⟨.inl n, h3, k3⟩
    exact q v F1 H' (h2.step st) (p1.trans (Pres.step st)) (fl _ _ _ rv)
/-- the same, what follows the pool changes it, too -/
theorem den_callM2 {S : List Dv → List Dv → List Dv → Dv → Prop} {E : XK} {ps0 ps ps' : List Dv} {oa ob : Option Addr} (e : Γ[i]? = some (.own ob ps0)) (h : DenA tr Γ ds Γ0) (e0 : Γ0[i]? = some (.own oa ps)) (hs : S ps ds ps' ⟨w, z⟩) (e' : Γ0.set i (.own oa ps') = Γ1) :
    Den (tCall (spM S) [] E (tCons (tVar i) tr)) Γ w z Γ1 := fun Z F σ H hh Q q => by
  obtain ⟨a, h1, _, o1⟩ := hh.owned e rfl
  refine ⟨_, h1, ?_⟩
  refine h Z F σ H hh _ fun vs F1 H1 h2 p1 r1 => ?_
  obtain ⟨a', h1', ⟨n1, ad, us, hu, ru⟩, o2⟩ := h2.owned e0 rfl
  rw [h1] at h1'
  cases h1'
  rw [List.append_nil]
  refine ⟨F1, a, us, vs, ps, ds, rfl, h2.fh, n1, hu, ru, r1, ps', ⟨w, z⟩, hs, fun v F' H' us' k n' hu' ru' rv => ?_⟩
  have k0 : Step NoO F1 H1 F' (upd H' a (.lst us)) := by
    refine ⟨k.ff, fun b o q => ?_, fun b o q n => ?_⟩
    · have : b ≠ a := fun z => by rw [z, n'] at q; cases q
      rw [upd_ne this]
      exact k.fh b o q
    · obtain ⟨n2, hn2, kk⟩ := k.keep b o q n
      by_cases zz : b = a
      · subst zz
        rw [hu] at q
        cases q
        exact ⟨n2, ⟨_, upd_same⟩, fun _ => upd_same⟩
      · rw [upd_ne zz]
        exact ⟨n2, hn2, fun _ => kk zz⟩
  have h3 := h2.step k0
  have o3 : OwnAt Γ0 σ i a := o2
  have h4 := h3.mut (s := .own oa ps') (o := .lst us') o3 ⟨n', ad, us', upd_same, ru'⟩
  have ee : upd (upd H' a (.lst us)) a (.lst us') = H' := by
    rw [upd_upd]
    funext b
    unfold upd
    split
    · rename_i zz
      rw [zz, hu']
    · rfl
  rw [ee, e'] at h4
  have ow : ∀ j b, OwnAt Γ1 σ j b → OwnAt Γ0 σ j b := fun j b wo => by
    subst e'
    by_cases zz : i = j
    · subst zz
      exact ⟨⟨_, e0, rfl⟩, wo.2⟩
    · obtain ⟨⟨s, e1, e2⟩, e3⟩ := wo
      rw [List.getElem?_set_ne zz] at e1
      exact ⟨⟨s, e1, e2⟩, e3⟩
  have pp : Pres Γ0 Γ1 σ F1 H1 F' H' := ⟨k.ff, fun b o q n nt no => by
    obtain ⟨n2, _, kk⟩ := k.keep b o q n
    have e2 := kk fun zz => no i (zz ▸ o2)
    refine ⟨n2.elim id fun ⟨vs, z⟩ => ?_, e2⟩
    have e3 := k.fh b _ z
    rw [e2] at e3
    cases e3
    exact absurd rfl (nt vs), ow, fun b o q => by
    cases qf : F1 b with
    | none => exact (k.keep b o q qf).2.1
    | some o' => exact ⟨o', k.fh b o' (k.ff b o' qf)⟩⟩
  exact q v F' H' h4 (p1.trans pp) rv
theorem dn_callR {S : List Dv → List Dv → Prop} {R : List Dv → Value → Prop} {E : XK} (h : DenA tr Γ ds Γ1) (hs : S ds es) : DenN (tCall (spNR S R) [] E tr) Γ es Γ1 := fun Z F σ H hh Q q =>
  h Z F σ H hh _ fun vs F1 H1 h1 p1 r1 => by
    rw [List.append_nil]
    exact ⟨F1, ds, h1.fh, r1, .inl ⟨es, hs, fun p us F' H' k np fp hp rr => q p us F' H' (h1.step k) (p1.trans (Pres.step k)) (p1.new np) fp hp rr⟩⟩
theorem bots_callV {sp : Sp} {E : L2.St → XK} {c : Value} (h : DenA tr Γ ds Γ1) (hs : SpX sp ds c) : BotS (tCallS sp E tr) Γ Γ1 E c := fun Z F σ H hh e Q =>
  h Z F σ H hh _ fun vs F1 H1 h1 p1 r1 => hs F1 H1 vs h1.fh r1 Q (E σ) fun F3 H3 k => e F3 H3 (h1.step k)
theorem spNR_x {S : List Dv → List Dv → Prop} {R : List Dv → Value → Prop} {c : Value} (h : R ds c) : SpX (spNR S R) ds c := fun F H vs e r Q E q => ⟨F, ds, e, r, .inr ⟨c, h, q⟩⟩
theorem bot_callNR {S : List Dv → List Dv → Prop} {R : List Dv → Value → Prop} {E : XK} {c : Value} (h : DenA tr Γ ds Γ1) (hs : R ds c) : Bot (tCall (spNR S R) [] E tr) Γ Γ1 E c := bot_call h (spNR_x hs)
/-- an owned list of ours is given back -/
theorem s_retOP {F0 H0 : Hp} {Q : VK} {rs : List Dv} {xs : List α} (hZ : Z.F = F0 ∧ Z.H = H0 ∧ Z.O = NoO) (hD : D.rt = Q) (q : ∀ p us F' H', Step NoO F0 H0 F' H' → H0 p = none → F' p = none → H' p = some (.lst us) → Reps F' rs us → Q (.ref p) H') (e : Γ[i]? = some (.lst t xs)) (er : rs = xs.map fun x => ⟨t, x⟩) : OK Z Γ (tRet (tVar i) D) :=
  s_retO e fun F σ H p vs hh np fp hp rr => by
    obtain ⟨z1, z2, z3⟩ := hZ
    rw [hD]
    refine q p vs F H ?_ ?_ fp hp (by rw [er]; exact al_unmap rr)
    · rw [← z1, ← z2, ← z3]
      exact hh.st
    · rcases np with np | np
      · rw [z3] at np
        exact np.elim
      · rw [← z2]
        exact np
/-- [.. for .. in zip([], g(..))] -/
theorem dn_lcZ {S : List Dv → List Dv → Prop} {R : List Dv → Value → Prop} {tz : TE} {g : TG} {own : List Nat} (hz : DenN tz Γ [] Γ1) (h : DenA tr Γ1 ds Γ2) (hs : (∃ ys, S ds ys) ∨ ∃ c, R ds c) : DenN (tLc (iZg K tz (spG S R) [] tr) g tt te own) Γ [] Γ2 := fun Z F σ H hh Q q =>
  hz Z F σ H hh _ fun a vs F1 H1 h1 p1 na fa hla ra => by
    cases ra
    refine ⟨a, rfl, ?_⟩
    refine h Z F1 σ H1 h1 _ fun vs F2 H2 h2 p2 r2 => ?_
    have no : ∀ i, ¬ OwnAt Γ1 σ i a := fun i w => hh.notOwn na i (p1.ow i a w)
    obtain ⟨fa2, k⟩ := p2.keep a _ hla fa (fun _ z => nomatch z) no
    refine ⟨⟨F2, ds, h2.fh, by rw [List.append_nil]; exact r2, ?_⟩, sq_of k, fun D nD => ⟨fun _ _ H' => H' = upd H2 D (.lst []), ⟨0, rfl⟩, fun i m H' e => .inl ?_⟩⟩
    · rcases hs with ⟨ys, hs⟩ | ⟨c, hs⟩
      · exact .inl ⟨ys, hs, fun _ _ _ _ _ => trivial⟩
      · exact .inr ⟨c, hs, fun _ _ _ => trivial⟩
    · subst e
      have nea : a ≠ D := ne_of_none k nD
      refine ⟨sq_of (by rw [upd_ne nea]; exact k), ?_⟩
      exact new_q (H := H) (Γ' := Γ2) q h2 (p1.trans p2) nD .nil
/-! ### comprehensions without a test, by a function -/
theorem dt_yes : DenT tYes Γ true Γ := fun Z F σ H hh Q q => q F H hh Pres.refl
theorem dn_lcT1 {tl : TE} {xs : List α} (f : α → β) (h : Den tl Γ (tTupl t) xs Γ0) (hf : Γ0[j]? = some .any) (hl : xs.length < 50000) (hs : ∀ (n : Nat) x, xs[n]? = some x → Den te (Γ0.set j (.val ⟨t, x⟩)) u (f x) (Γ0.set j (.val ⟨t, x⟩))) :
    DenN (tLc (iTup K tl) (gName j) tYes te [j]) Γ ((xs.map f).map fun y => ⟨u, y⟩) Γ0 := by
  have key := dn_lcT (K := K) (j := j) (te := te) (tt := tYes) (u := u) (fun _ => Γ0) (fun n => (xs.take n).map f) h (fun _ => hf) hl rfl fun n x hx => ⟨true, _, dt_yes, fun _ => ⟨f x, hs n x hx, by
    rw [List.take_add_one, hx, List.map_append] <;> rfl⟩, fun z => nomatch z⟩
  rw [List.take_length] at key
  exact key
theorem dn_lcL1 {tl : TE} {xs : List α} (f : α → β) (h : Den tl Γ (tList t) xs Γ0) (hf : Γ0[j]? = some .any) (hl : xs.length < 50000) (hs : ∀ (n : Nat) x, xs[n]? = some x → Den te (Γ0.set j (.val ⟨t, x⟩)) u (f x) (Γ0.set j (.val ⟨t, x⟩))) :
    DenN (tLc (iList K tl) (gName j) tYes te [j]) Γ ((xs.map f).map fun y => ⟨u, y⟩) Γ0 := by
  have key := dn_lcL (K := K) (j := j) (te := te) (tt := tYes) (u := u) (fun _ => Γ0) (fun n => (xs.take n).map f) h (fun _ => hf) hl rfl fun n x hx => ⟨true, _, dt_yes, fun _ => ⟨f x, hs n x hx, by
    rw [List.take_add_one, hx, List.map_append] <;> rfl⟩, fun z => nomatch z⟩
  rw [List.take_length] at key
  exact key
theorem dn_lcR1 {m : Int} (f : Nat → β) (h : DenA tr Γ [⟨tInt, m⟩] Γ0) (hf : Γ0[j]? = some .any) (hl : m < 50000) (hm : -50000 ≤ m) (hs : ∀ n : Nat, (n : Int) < m → Den te (Γ0.set j (.val ⟨tInt, (n : Int)⟩)) u (f n) (Γ0.set j (.val ⟨tInt, (n : Int)⟩))) :
    DenN (tLc (iRng1 tr) (gName j) tYes te [j]) Γ (((List.range m.toNat).map f).map fun y => ⟨u, y⟩) Γ0 :=
  dn_lcR (j := j) (te := te) (tt := tYes) (u := u) (fun _ => Γ0) (fun n => (List.range n).map f) h (fun _ => hf) hl hm rfl fun n hn => ⟨true, _, dt_yes, fun _ => ⟨f n, hs n hn, by
    rw [List.range_succ, List.map_append] <;> rfl⟩, fun z => nomatch z⟩
theorem den_sumQ {xs : List Int} (h : DenQ ta Γ tInt xs Γ1) : Den (tCB (rSumQ K) (tCons ta tNil)) Γ tInt xs.sum Γ1 := den_sum h
theorem ma_den {X : List Slot → Dv → Prop} (h : Den te Γ t x Γ1) (hx : X Γ1 ⟨t, x⟩) : DenMA te Γ X := fun Z F σ H hh Q q => h Z F σ H hh _ fun v F' H' h' p r => q Γ1 ⟨t, x⟩ hx v F' H' h' r
theorem den_to (h : Den te Γ t x Γ1) (e : Γ1 = Γ2) : Den te Γ t x Γ2 := e ▸ h
theorem dt_to {b : Bool} (h : DenT tt Γ b Γ1) (e : Γ1 = Γ2) : DenT tt Γ b Γ2 := e ▸ h
theorem da_to (h : DenA tr Γ ds Γ1) (e : Γ1 = Γ2) : DenA tr Γ ds Γ2 := e ▸ h
/-! ### ends and ifs -/
theorem s_endP {P : L2.St → Hp → Prop} {F0 H0 : Hp} {Q : VK} {d : Dv} (hZ : Z.F = F0 ∧ Z.H = H0 ∧ Z.O = NoO) (hP : ∀ σ H, Q .non H → P σ H) (q : ∀ v F' H', Step NoO F0 H0 F' H' → d.rep F' v → Q v H') (e : d = ⟨tNon, ()⟩) : OK Z Γ P := fun F σ H hh => by
  obtain ⟨z1, z2, z3⟩ := hZ
  subst e
  refine hP σ H (q .non F H ?_ rfl)
  rw [← z1, ← z2, ← z3]
  exact hh.st
/-- if t: x = e, and what holds behind it -/
theorem s_ifJ1 {X : List Slot → Prop} (h : ∃ b Γ1, DenT tt Γ b Γ1 ∧ (b = true → ∃ x Γ2, Den te Γ1 t x Γ2 ∧ X (Γ2.set i (.val ⟨t, x⟩))) ∧ (b = false → X Γ1)) (k : ∀ Γ', X Γ' → OK Z Γ' D.nx) : OK Z Γ (tIfS tt (tAsg te (gName i)) tNext D) := by
  obtain ⟨b, Γ1, ht, h1, h2⟩ := h
  refine s_if ht (fun hb => ?_) fun hb => s_nx (k _ (h2 hb))
  obtain ⟨x, Γ2, hd, hx⟩ := h1 hb
  exact s_set hd (k _ hx)
/-- if t: x = e else: x = e' -/
theorem s_ifJ2 {X : List Slot → Prop} (h : ∃ b Γ1, DenT tt Γ b Γ1 ∧ (b = true → ∃ x Γ2, Den te Γ1 t x Γ2 ∧ X (Γ2.set i (.val ⟨t, x⟩))) ∧ (b = false → ∃ x Γ2, Den ta Γ1 t x Γ2 ∧ X (Γ2.set i (.val ⟨t, x⟩)))) (k : ∀ Γ', X Γ' → OK Z Γ' D.nx) : OK Z Γ (tIfS tt (tAsg te (gName i)) (tAsg ta (gName i)) D) := by
  obtain ⟨b, Γ1, ht, h1, h2⟩ := h
  refine s_if ht (fun hb => ?_) fun hb => ?_
  · obtain ⟨x, Γ2, hd, hx⟩ := h1 hb
    exact s_set hd (k _ hx)
  · obtain ⟨x, Γ2, hd, hx⟩ := h2 hb
    exact s_set hd (k _ hx)
end
section
variable {W : Wd} {x qual : Str} {params : Arguments} {body : List Stmt} {scope : Scope} {f : Addr} {fd : FuncData} {N ps : List Str} {k : Nat} {sp : Sp}
/-- a promise that nobody asks for -/
theorem defOk_no (F : FunD W.K x qual params body scope [] [] f fd) (g : W.mg x = some (.ref f)) (S : FnScope N ps scope)
    (hbind : ∀ (kV doc pm : Value) (an : Option Addr) (cdv ct : Value) (us : List Value), us.length = ps.length → bindArgs (PySem.W.fnOf x qual params body scope .none kV doc pm an cdv ct) ⟨us, []⟩ = pure (ps.zip us))
    (no : ∀ vs H Q E, ¬ sp vs H Q E) : DefOk W x (k + 1) ps sp := defOk_of F g S (fun vs H Q E h => (no vs H Q E h).elim) hbind fun _ _ _ _ H vs Q E _ h => (no vs H Q E h).elim
end
end DL

set_option maxRecDepth 100000
/-! Bt: an own exception whose __init__ stands in a class above it and says super().__init__(text). -/
namespace L2
open PySem PySem.Spec PyProof.Rows PySem.W NdefX LamX
/-- D: the class of the def, C: the class of the instance -/
structure SupC (K : PySem.W.Frag) (D C : Addr) : Prop where
  sub : PySem.W.mroIn K C (.ref D) = some true
  alo : ks_superIn K C D "__init__" = some (some (.builtin "ValueError.__init__"))
  ve : PySem.W.subIn K (.ref C) (.type "ValueError") = some true
  op : nsIn K cStatics "thirdparty.any" = some none
  dcl : (clsIn K D).isSome = true
/-- the def's frame: its own name, its code, the cell of its class, the first name -/
structure SupX (X : Cx) (D : Addr) : Prop where
  ks : X.env.kindOf "super" = some .globalImplicit
  kc : X.env.kindOf "__class__" = some .free
  ksf : X.env.kindOf "self" = some .local
  fn : ∃ (f : Addr) (oc : Value) (od : Option Addr) (sl : Array (Option Value)) (fd : FuncData) (ar : Arg), X.env.func = some f ∧ X.K.lookup f = some ⟨oc, od, .func fd, sl⟩ ∧ (fd.params.posonlyargs ++ fd.params.args).head? = some ar ∧ ar.arg = "self"
  cd : ∃ (c0 : Addr) (oc : Value) (od : Option Addr) (sl : Array (Option Value)) (vs : Array Value) (file : Str) (tf : Tok), X.env.code = .ref c0 ∧ X.K.lookup c0 = some ⟨oc, od, .fields vs, sl⟩ ∧ vs[2]? = some (.str file tf) ∧ ((X.prog.main.file : Str) == file) = true
  tp : (X.prog.main.scope.names.lookup ("super" : Str)).isSome = false
  ce : ∃ (cl : Addr) (oc : Value) (od : Option Addr) (sl : Array (Option Value)), X.env.cells.lookup ("__class__" : Str) = some cl ∧ X.K.lookup cl = some ⟨oc, od, .cell (some (.ref D)), sl⟩
  mg : X.mg "super" = none
  nm : X.N[0]? = some ("self" : Str)
section
variable {X : Cx} {pins : List (Addr × Obj)} {σ : St} {H : Hp} {s : Shared} {D C a : Addr} {body : List Stmt} {p0 p1 p2 p3 pos : Pos} {z : Str} {j : Nat} {Q : Value → Shared → Prop}
theorem super_init {pl : Sem Bool} (he : eval (.Call (.Attribute (.Call (.Name "super" p0) [] [] p1) "__init__" p2) [.Constant (.str z) j p3] [] pos) X.env = ((attributeBase (.Call (.Name "super" p0) [] [] p1) "__init__" X.env (eval (.Call (.Name "super" p0) [] [] p1) X.env)) >>= fun ov => standAt p2.atName >>= fun _ => holding [ov] (getMethod ov "__init__" pl) >>= fun y => callWith pos y.1 y.2 (backTo pos (starEach [.Constant (.str z) j p3] X.env)) [])) (G : SupX X D) (S : SupC X.K D C) (T : OexC X.K C) (I : Inv X pins σ H s) (ea : H a = some (exo a C none)) (hσ : σ[0]? = some (some (.ref a))) (h : ∀ s', Inv X pins σ H s' → Q .none s') :
    PySem.wpAt (model X.prog X.w) X.A (.func body X.env) (eval (.Call (.Attribute (.Call (.Name "super" p0) [] [] p1) "__init__" p2) [.Constant (.str z) j p3] [] pos) X.env) Q X.xe s := by
  obtain ⟨f, foc, fod, fsl, fd, ar, g1, g2, g3, g4⟩ := G.fn
  obtain ⟨c0, coc, cod, csl, cvs, file, tf, g5, g6, g7, g8⟩ := G.cd
  obtain ⟨cl, loc, lod, lsl, g9, g10⟩ := G.ce
  obtain ⟨mb, b1, b2⟩ := I.mod.blt
  obtain ⟨m, hn, hl⟩ := I.loc
  obtain ⟨u, ru, lk⟩ := hl 0 "self" (.ref a) G.nm hσ (.inl G.ksf)
  obtain rfl : u = Value.ref a := ru
  have hself : m "self" = some (.ref a) := by
    rcases lk with ⟨_, q⟩ | ⟨q, _⟩
    · exact q
    · rw [G.ksf] at q
      rcases q with q | q <;> cases q
  obtain ⟨cdD, hcD⟩ := Option.isSome_iff_exists.mp S.dcl
  obtain ⟨oD, hD1, hD2⟩ : ∃ oD, s.heap.get? D = some oD ∧ oD.data = .cls cdD := by
    unfold clsIn at hcD
    split at hcD
    · rename_i ho
      cases hcD
      exact ⟨_, I.kIn _ _ ho, rfl⟩
    · cases hcD
  obtain ⟨nm, q, N, bs, bm, sn, sub, ab, col, dd, k0, k1, k2, k3, k5, hC, hbm⟩ := T.cls
  obtain ⟨cdC, hcC⟩ : ∃ cd, clsIn X.K C = some cd := by
    unfold clsIn
    rw [hC]
    exact ⟨_, rfl⟩
  have alo : alongIn X.K "__init__" ((cdC.mro.dropWhile (· != .ref D)).drop 1) = some (some (.builtin "ValueError.__init__")) := by
    have := S.alo
    unfold ks_superIn at this
    rw [hcC] at this
    exact this
  refine ks_wpAt_MethodCall (pl := pl) ?_ he
  refine ks_wpAt_super_base (env := X.env) G.ks G.kc (by decide) g1 (I.kIn _ _ g2) rfl g3 g5 (I.kIn _ _ g6) rfl g7 g8 G.tp ?_
  refine ks_loadName_global I.ok.kind G.ks (Calls.loadGlobal_builtin (by rw [I.ok.glob]; exact I.mod.glob.keeps I.bk) G.mg (by rw [I.ok.blt]; exact b1.keeps I.bk) ((b2 "super" (by decide)).trans (by rfl : bootBuiltins "super" = some (.type "super"))) ⟨rfl, ?_⟩)
  refine wpAny_loadName_free I.ok.kind G.kc g9 ⟨_, I.kIn _ _ g10, rfl⟩ ?_
  rw [g4]
  refine wpAny_loadName_local I.ok.kind G.ksf hn hself ?_
  obtain ⟨t1, ho⟩ := exo_at I.hok ea
  obtain ⟨hp, g, d, t, os⟩ := s
  have nC : a ≠ C := ks_ne I.kIn (InstAt.mk ho rfl rfl trivial : InstAt hp a _ C none) hcC
  refine ks_wpAny_isType_cls hD1 hD2 ⟨rfl, ?_⟩
  refine ks_wpAny_call_super hD1 hD2 ho rfl (fun c z => by cases z) (looks_mroIn I.kIn S.sub) fun h' e' k => ?_
  have I2 : Inv X pins σ H ⟨h', g, d, t, os⟩ := I.kept (t' := t) k
  have inst : InstAt h' a _ C none := ⟨k _ _ ho, rfl, rfl, trivial⟩
  refine kxs_getMethod kxs_ValueError (K := X.K) e' (looks_opaque I2.kIn S.op) (l₀ := cdC.mro) (fun A Q E s k q => wpAny_bind ((looks_clsIn I2.kIn hcC) A _ E s k (wpAny_pure q))) rfl I2.kIn alo (inst.type.andThen (looks_subIn I2.kIn S.ve)) nC (by decide) ?_
  have hu : (h'.push (kxs_mw "ValueError.__init__" a)).get? h'.objs.size = some (kxs_mw "ValueError.__init__" a) := Heap.get?_push_size _ rfl
  have I3 := ClX.pin_new I2 (a := h'.objs.size) (o := kxs_mw "ValueError.__init__" a) (h' := h'.push (kxs_mw "ValueError.__init__" a)) (t' := t + 1) (fun b o e => Heap.get?_push_of_some _ e) (Nat.le_refl _) hu (fun v e => by cases e)
  refine kxs_callWith (i := "ValueError.__init__") (x := a) rfl (Calls.evalArgs_plain ?_)
  have pa : PA X [.Constant (.str z) j p3] (tCons (tC (.str z)) tNil) := pa_cons pe_str pa_nil
  refine thn (pa.run pos _ _ σ H (fun vs H1 => vs = [V.str z] ∧ H1 = H) I3 ⟨rfl, rfl⟩) fun us s1 ⟨vs, H1, I4, rv, e1, e2⟩ => ?_
  subst e1 e2
  have hu1 := ClX.pin_at I4
  have I5 := ClX.unpin I4
  have lus : us.length ≤ sizeLine := by
    rw [← Paired.length rv, sizeLine_eq]
    show 1 ≤ _
    decide
  refine ⟨hu1, ?_⟩
  obtain ⟨t2, ho2⟩ := exo_at I5.hok ea
  have hC2 := I5.kIn _ _ hC
  obtain ⟨hp2, g', d', t', os'⟩ := s1
  have fin : ∀ h3, (∀ b o, b ≠ a → hp2.get? b = some o → h3.get? b = some o) → h3.get? a = some (excObj C hp2.objs.size none .none) → h3.get? hp2.objs.size = some (excTup us) → Q .none ⟨h3, g', d', t', os'⟩ := fun h3 k3 hx _ => by
    have J := I5.write (t' := t') (x := a) (e := a) (o := exo a C none) (by rw [ea]; exact True.intro) (.inl rfl) k3 ⟨_, hx⟩ (exo_ok hx)
    have eu : upd H1 a (exo a C none) = H1 := funext fun b => by
      by_cases hb : b = a
      · rw [hb, upd_same, ea]
      · exact upd_ne hb
    rw [eu] at J
    exact h _ J
  refine wpAny_call (codeAny_of_tree (?_ : wpAny _ X.A.in1 (callAny (.ref h'.objs.size) ⟨us, []⟩) _ _ _))
  unfold callAny
  refine wpAny_bind (wpAny_load hu1 ?_)
  have d1 : (Value.type "method-wrapper" == Value.type "method" || Value.type "method-wrapper" == Value.type "builtin_function_or_method" || Value.type "method-wrapper" == Value.type "method-wrapper") = true := by decide
  simp only [d1, if_true]
  refine KFB.if_so (by decide) ?_
  refine wpAny_bind (check_bound_init PySem.F.excBase_ValueError.toExcCallFacts hC2 ho2 rfl ?_)
  refine wpAny_bind (wpAny_pure (wpAny_pure ⟨plainId_quiet PySem.F.excBase_ValueError.init.plain _, codeAny_builtin PySem.F.excBase_ValueError.initEntry ?_⟩))
  exact exc_init_tree (cls := .ref C) (t0 := t2) (dv := none) (c2 := .none) (c3 := .none) (b4 := .bool false) ho2 lus fin
end
/-- what the written part holds of the def F at f, its class D -/
structure CloD (P : Program) (K : PySem.W.Frag) (F : NF) (D f : Addr) (fd : FuncData) : Prop where
  lk : ∃ (oc : Value) (od : Option Addr) (sl : Array (Option Value)) (doc pm ctv : Value), fd = F.fd doc pm ctv ∧ K.lookup f = some ⟨oc, od, .func fd, sl⟩
  cd : PySem.W.codeIn K (.ref F.c) F.qual = true
  cl : ∃ (cc : Addr) (oc : Value) (od : Option Addr) (sl : Array (Option Value)), F.cl = [(("__class__" : Str), cc)] ∧ K.lookup cc = some ⟨oc, od, .cell (some (.ref D)), sl⟩
  co : ∃ (oc : Value) (od : Option Addr) (sl : Array (Option Value)) (vs : Array Value) (file : Str) (tf : Tok), K.lookup F.c = some ⟨oc, od, .fields vs, sl⟩ ∧ vs[2]? = some (.str file tf) ∧ ((P.main.file : Str) == file) = true
  tp : (P.main.scope.names.lookup ("super" : Str)).isSome = false
/-- __init__(self, text) of such a class: the text is kept -/
def spBT (K : PySem.W.Frag) (D : Addr) : Sp := fun vs H Q _ => ∃ (a C : Addr) (z : Str), vs = [.ref a, .str z] ∧ OexC K C ∧ SupC K D C ∧ PySem.W.findIn K (.ref C) "text" = some none ∧ H a = some (exo a C none) ∧
  ∀ dx, H dx = none → dx ≠ a → Q .non (upd (upd H dx (exd dx [("text", .str z)])) a (exo a C (some dx)))
abbrev NBT : List Str := ["self", "text", "__class__"]
theorem bt_ok {W : DL.Wd} {F : NF} {D f : Addr} {fd : FuncData} {k : Nat} {p0 p1 p2 p3 p4 p5 p6 p7 p8 pos : Pos} {z : Str} {j : Nat} (c : CloD W.P W.K F D f fd) (hs : NScope NBT ["self", "text"] ["__class__"] F.scope) (hks : F.scope.names.lookup ("super" : Str) = some .globalImplicit)
    (hmg : W.mg "super" = none) (hpar : ∃ ar : Arg, (F.params.posonlyargs ++ F.params.args).head? = some ar ∧ ar.arg = "self")
    (hbd : F.body = [.Expr (.Call (.Attribute (.Call (.Name "super" p0) [] [] p1) "__init__" p2) [.Constant (.str z) j p3] [] pos) p4, .Assign [.Attribute (.Name "self" p5) "text" p6] (.Name "text" p7) p8])
    (he : ∀ env : Env, ∃ pl : Sem Bool, eval (.Call (.Attribute (.Call (.Name "super" p0) [] [] p1) "__init__" p2) [.Constant (.str z) j p3] [] pos) env = ((attributeBase (.Call (.Name "super" p0) [] [] p1) "__init__" env (eval (.Call (.Name "super" p0) [] [] p1) env)) >>= fun ov => standAt p2.atName >>= fun _ => holding [ov] (getMethod ov "__init__" pl) >>= fun y => callWith pos y.1 y.2 (backTo pos (starEach [.Constant (.str z) j p3] env)) []))
    (hsw : ∀ env : Env, swapsWith (.Name "text" p7) (some (.Attribute (.Name "self" p5) "text" p6)) p8.line env = pure false) :
    FnOk W.P W.w W.K W.mg W.base (L2.CX W.P W.w) (k + 1) f fd ["self", "text"] (spBT W.K D) := by
  refine ⟨fun vs H Q E ⟨_, _, _, e, _⟩ => by rw [e] <;> rfl, fun A outer s H args us vs Q E hr e0 hb r hsp => ?_⟩
  obtain ⟨a, C, zt, rfl, T, S, fi, ea, q⟩ := hsp
  obtain ⟨oc, od, sl, doc, pm, ctv, efd, lk⟩ := c.lk
  subst efd
  obtain ⟨cc, cco, cod, csl, ecl, lcc⟩ := c.cl
  obtain ⟨o1, o2, o3, cvs, file, tf, lco, hv2, hfile⟩ := c.co
  have KX : W.K.In s.heap := e0.mod.kin.keeps fun b o e => (e0.bs b o e).1
  have lim : s.heap.NoLimit := e0.mod.nolimit.keeps fun b o e => (e0.bs b o e).1
  have CA : CellsAt F.cl ["__class__"] [some (.ref D)] s.heap H := by
    have hb1 := (e0.bs cc _ (e0.mod.kin _ _ lcc)).2
    have hcell : s.heap.IsCell cc (some (.ref D)) := ⟨_, KX _ _ lcc, rfl⟩
    refine ⟨rfl, fun y c' e => ?_, fun x y c' e1 e2 => ?_, fun i y e => ?_⟩
    · rw [ecl, List.lookup_cons] at e
      split at e
      · cases e
        exact ⟨hb1, _, hcell⟩
      · cases e
    · rw [ecl, List.lookup_cons] at e1 e2
      split at e1
      · rename_i q1
        split at e2
        · rename_i q2
          exact (beq_iff_eq.mp q1).trans (beq_iff_eq.mp q2).symm
        · cases e2
      · cases e1
    · cases i with
      | zero =>
        cases e
        refine ⟨cc, by rw [ecl, List.lookup_cons]; simp, fun v hv => ?_⟩
        cases hv
        exact ⟨.ref D, rfl, hcell⟩
      | succ i => simp at e
  have hloc : ∀ y ∈ (["self", "text"] : List Str).zip us, F.scope.names.lookup y.1 = some .local := fun ⟨n, _⟩ hy => hs.par n (List.of_mem_zip hy).1
  refine ks_codeAny_call_defAt (body := F.body) hr.depth (KX _ _ lk) rfl lim (PySem.W.codeRec_of KX c.cd) rfl hb hs.nocell hloc (fun h₁ hns kp => ?_) hs.co hs.gen hs.kind
  have I : Inv (ncx (L2.CX W.P W.w) W.P W.w W.K W.mg W.base NBT F f A outer s H E) [] (startF NBT [.ref a, .str zt] [some (.ref D)]) H { s with heap := h₁, toks := s.toks + ((["self", "text"] : List Str).zip us).length } := inv_startN hs hr.hd e0 rfl r CA hns kp
  obtain ⟨ar, ha1, ha2⟩ := hpar
  have G : SupX (ncx (L2.CX W.P W.w) W.P W.w W.K W.mg W.base NBT F f A outer s H E) D := ⟨hks, hs.frk _ (by simp), hs.par _ (by simp), ⟨f, oc, od, sl, _, ar, rfl, lk, ha1, ha2⟩, ⟨F.c, o1, o2, o3, cvs, file, tf, rfl, lco, hv2, hfile⟩, c.tp, ⟨cc, cco, cod, csl, by
    show F.cl.lookup _ = _
    rw [ecl, List.lookup_cons]
    simp, lcc⟩, hmg, rfl⟩
  rw [hbd]
  obtain ⟨pl, he⟩ := he (callEnv (F.fd doc pm ctv) s.heap.objs.size f)
  have hint : interactive (callEnv (F.fd doc pm ctv) s.heap.objs.size f) = false := by
    have hk := hs.kind
    show (F.scope.kind == ScopeKind.module && _) = false
    rw [hk]
    rfl
  refine ks_wpAt_execs_cons (ks_wpAt_Expr_any (super_init (pl := pl) he G S T I ea rfl fun s2 I2 => ?_) hint)
  refine wpAt_of_wpAny ?_
  have ps : PSs (ncx (L2.CX W.P W.w) W.P W.w W.K W.mg W.base NBT F f A outer s H E) [.Assign [.Attribute (.Name "self" p5) "text" p6] (.Name "text" p7) p8] (tOst W.K "text" (tVar 0) (tVar 1)) :=
    pss_one (ps_ost (pv 0 rfl (.inl (hs.par _ (by simp)))) (pv 1 rfl (.inl (hs.par _ (by simp)))) (hsw _))
  refine wpAny_mono (ps.run [] s2 _ H { nx := fun _ H' => Q .non H', rt := Q } I2 ?_) (fun fl s' hs' => ?_) fun e s' hs' => hs'
  · exact ⟨.str zt, rfl, .ref a, rfl, a, C, rfl, T, fi, .inl ⟨ea, fun dx nd ne => q dx nd ne⟩⟩
  · have fin : ∀ {σ' : L2.St} {H' : Hp} {v : V} {u : Value}, Inv (ncx (L2.CX W.P W.w) W.P W.w W.K W.mg W.base NBT F f A outer s H E) [] σ' H' s' → L2.RelV v u → Q v H' → CE outer W.P W.w H s Q u s' :=
      fun {σ' H' v u} J rv q => ⟨v, H', J.os, J.bare, J.base, J.hok, rv, q⟩
    cases fl with
    | ret u =>
      obtain ⟨v, σ', H', J, rv, q⟩ := hs'
      exact fin J rv q
    | next =>
      obtain ⟨σ', H', J, q⟩ := hs'
      exact fin (v := V.non) (u := Value.none) J rfl q
    | brk =>
      obtain ⟨_, _, _, q⟩ := hs'
      exact False.elim q
    | cont =>
      obtain ⟨_, _, _, q⟩ := hs'
      exact False.elim q
end L2

set_option maxRecDepth 100000
/-! Te: methods of texts over typed data; divmod; xs[::-1]. -/
namespace L2
open PySem PySem.Spec PyProof.Rows
/-- a short text times an int -/
def rMulS : R2 := fun x y H Q => ∃ (z : Str) (i : Int), x = .str z ∧ y = .int i ∧ z.length ≤ 16 ∧ 0 ≤ i ∧ i ≤ 1048576 ∧ Q (.str (Txt.mul z i)) H
theorem op_mulTxt {X : Cx} : OpR X (binaryOp .Mult) rMulS := by
  intro pins s σ H x y v u Q I rx ry h
  obtain ⟨z, i, rfl, rfl, h1, h2, h3, q⟩ := h
  obtain ⟨t, rfl⟩ := rx
  obtain ⟨t', rfl⟩ := ry
  exact PySem.W.KXi.mul rfl h1 (by omega) (by omega) fun tk k _ _ => ⟨.str (Txt.mul z i), H, I.tok k, ⟨tk, rfl⟩, q⟩
end L2
namespace DL
open PySem PySem.Spec PyProof.Rows L2 Evl
abbrev txt (l : List Nat) : Str := ⟨l.toArray⟩
theorem txt_tl (z : Str) : txt (TL.tl z) = z := TL.mk_tl z
def parL (c : Nat) (l : List Nat) : List Nat × List Nat × List Nat := match TL.par [c] [] l with
  | some (a, b) => (a, [c], b)
  | none => (l, [], [])
theorem par_txt {c : Nat} {l : List Nat} : Txt.partition (txt l) (txt [c]) = (txt (parL c l).1, txt (parL c l).2.1, txt (parL c l).2.2) := by
  have h := TL.partition_par (txt l) (txt [c]) (show ([c] : List Nat) ≠ [] by simp)
  rw [h]
  unfold parL
  show (match TL.par [c] [] l with | some (a, b) => _ | none => _) = _
  cases TL.par [c] [] l with
  | none => rfl
  | some p => rfl
theorem parL_no {c : Nat} {l : List Nat} (h : c ∉ l) : parL c l = (l, [], []) := by
  unfold parL
  rw [TL.par_none1 (S := []) h]
theorem parL_at {c : Nat} {a b : List Nat} (h : c ∉ a) : parL c (a ++ c :: b) = (a, [c], b) := by
  unfold parL
  have e := TL.par_part1 (s := c) (S := []) (p := a) (rest := b) (acc := []) h
  have e2 : a ++ ([c] ++ b) = a ++ c :: b := rfl
  rw [e2] at e
  rw [e]
  rfl
def splL (c : Nat) (l : List Nat) : List (List Nat) := TL.spl [c] 0 [] l
theorem spl_txt {c : Nat} {l : List Nat} (hc : c < 256) : Txt.split (txt l) (txt [c]) = (splL c l).map txt := by
  have hk : ((txt [c] : Str).cps.all (· < 256)) = true := by simp [hc]
  have h := TL.split_spl (txt l) (txt [c]) (show ([c] : List Nat) ≠ [] by simp) (TL.kind_ok hk)
  apply TL.map_tl_inj
  rw [h, List.map_map]
  show TL.spl [c] 0 [] l = _
  have e : (TL.tl ∘ txt) = id := rfl
  rw [e, List.map_id]
  rfl
/-- the first place of c, or -1 -/
def findC (c : Nat) : List Nat → Int
  | [] => -1
  | x :: r => if x = c then 0 else if findC c r = -1 then -1 else findC c r + 1
theorem findC_spec (c : Nat) : ∀ l : List Nat, (findC c l = -1 ∧ c ∉ l) ∨ ∃ i : Nat, findC c l = (i : Int) ∧ l[i]? = some c ∧ ∀ k, k < i → l[k]? ≠ some c
  | [] => .inl ⟨rfl, by simp⟩
  | x :: r => by
    unfold findC
    by_cases h : x = c
    · rw [if_pos h]
      exact .inr ⟨0, rfl, by simp [h], fun k hk => by omega⟩
    · rw [if_neg h]
      rcases findC_spec c r with ⟨e, n⟩ | ⟨i, e, g, m⟩
      · rw [if_pos e]
        refine .inl ⟨rfl, fun z => ?_⟩
        rcases List.mem_cons.mp z with z | z
        · exact h z.symm
        · exact n z
      · rw [if_neg (by omega), e]
        refine .inr ⟨i + 1, by omega, by simpa using g, fun k hk => ?_⟩
        cases k with
        | zero => simpa using h
        | succ k => simpa using m k (by omega)
theorem find_txt {c : Nat} {l : List Nat} : Txt.find (txt l) (txt [c]) = findC c l := by
  have key : ∀ i, StrLaws.At (txt l) ⟨#[c]⟩ (txt l).length i ↔ l[i]? = some c := fun i => StrLaws.subAt_one (txt l) c i
  rcases find_whole (txt l) (txt [c]) with ⟨e, n⟩ | ⟨i, e, a, b⟩
  · rcases findC_spec c l with ⟨e2, _⟩ | ⟨j, e2, g, _⟩
    · rw [e, e2]
    · exact absurd ((key j).mpr g) (n j)
  · rcases findC_spec c l with ⟨e2, n2⟩ | ⟨j, e2, g, m⟩
    · exact absurd (List.mem_of_getElem? ((key i).mp a)) n2
    · have : i = j := by
        rcases Nat.lt_trichotomy i j with z | z | z
        · exact absurd ((key i).mp a) (m i z)
        · exact z
        · exact absurd ((key j).mpr g) (b j z)
      rw [e, e2, this]
def joinT (s : List Nat) (ls : List (List Nat)) : List Nat := TL.joinL s ls
theorem join_txt {s : List Nat} {ls : List (List Nat)} : Txt.join (txt s) (ls.map txt) = txt (joinT s ls) := by
  rw [TL.join_eq]
  apply TL.ext_tl
  rw [TL.tl_join, List.map_map]
  have e : (TL.tl ∘ txt) = id := rfl
  rw [e, List.map_id]
  rfl
theorem joinT_nil : ∀ ls : List (List Nat), joinT [] ls = ls.flatten
  | [] => rfl
  | [x] => by simp [joinT, TL.joinL]
  | x :: y :: r => by
    have := joinT_nil (y :: r)
    unfold joinT at *
    simp [TL.joinL, this]
section
variable {α β γ : Type} {t : Ty α} {u : Ty β} {w : Ty γ} {x : α} {y : β} {z : γ} {Z : En} {Γ Γ' Γ0 Γ1 Γ2 Γ3 : List Slot} {ta tb tc te : TE} {r r' : R2} {ds es : List Dv} {K : PySem.W.Frag} {l m : List Nat} {c : Nat} {i j : Int} {tr : TA}
abbrev rPartS : V → List V → Hp → VK → Prop := fun x xs H Q => ∃ a b, x = .str a ∧ xs = [.str b] ∧ (b.length == 0) = false ∧ a.length ≤ sizeLine ∧
    ∀ p, H p = none → Q (.ref p) (upd H p (.tup [.str (Txt.partition a b).1, .str (Txt.partition a b).2.1, .str (Txt.partition a b).2.2]))
theorem den_part (ha : Den ta Γ tTxt l Γ1) (hb : Den tb Γ1 tTxt [c] Γ2) (hl : l.length ≤ 100000) : Den (tBM K "str" rPartS ta (tCons tb tNil)) Γ (tTri tTxt tTxt tTxt) (parL c l) Γ2 := fun Z F σ H hh Q q =>
  ha Z F σ H hh _ fun v F1 H1 h1 p1 r1 => by
    cases r1
    refine ⟨rfl, hb Z F1 σ H1 h1 _ fun v2 F2 H2 h2 p2 r2 => ?_⟩
    cases r2
    refine ⟨_, _, rfl, rfl, by rfl, sz_of (by rw [TL.len_tl]; exact hl), fun p np => ?_⟩
    have e := par_txt (c := c) (l := l)
    rw [show (⟨#[c]⟩ : Str) = txt [c] from rfl, e]
    have k : Step NoO F2 H2 (upd F2 p _) (upd H2 p (.tup [.str (txt (parL c l).1), .str (txt (parL c l).2.1), .str (txt (parL c l).2.2)])) := Step.new h2.fh np
    exact q _ _ _ (h2.step k) ((p1.trans p2).trans (Pres.step k)) ⟨p, _, _, _, rfl, upd_same, rfl, rfl, rfl⟩
theorem den_find (ha : Den ta Γ tTxt l Γ1) (hb : Den tb Γ1 tTxt [c] Γ2) : Den (tBM K "str" (fun x xs H Q => ∃ a b, x = .str a ∧ xs = [.str b] ∧ Q (.int (Txt.find a b)) H) ta (tCons tb tNil)) Γ tInt (findC c l) Γ2 := fun Z F σ H hh Q q =>
  ha Z F σ H hh _ fun v F1 H1 h1 p1 r1 => by
    cases r1
    refine ⟨rfl, hb Z F1 σ H1 h1 _ fun v2 F2 H2 h2 p2 r2 => ?_⟩
    cases r2
    refine ⟨_, _, rfl, rfl, ?_⟩
    have e := find_txt (c := c) (l := l)
    rw [show (⟨#[c]⟩ : Str) = txt [c] from rfl, e]
    exact q _ F2 H2 h2 (p1.trans p2) rfl
theorem dn_split (ha : Den ta Γ tTxt l Γ1) (hb : Den tb Γ1 tTxt [c] Γ2) (hl : l.length ≤ 99000) (hc : c < 256) : DenN (tBM K "str" (fun x xs H Q => ∃ a b, x = .str a ∧ xs = [.str b] ∧ (b.length == 0) = false ∧ a.length + 2 ≤ sizeLine ∧ rNewStrs (Txt.split a b) H Q) ta (tCons tb tNil)) Γ ((splL c l).map fun y => ⟨tTxt, y⟩) Γ2 := fun Z F σ H hh Q q =>
  ha Z F σ H hh _ fun v F1 H1 h1 p1 r1 => by
    cases r1
    refine ⟨rfl, hb Z F1 σ H1 h1 _ fun v2 F2 H2 h2 p2 r2 => ?_⟩
    cases r2
    refine ⟨_, _, rfl, rfl, by rfl, sz_of (n := l.length + 2) (by omega) |> fun z => by rw [TL.len_tl]; exact z, fun p np => ?_⟩
    have e := spl_txt (l := l) hc
    rw [show (⟨#[c]⟩ : Str) = txt [c] from rfl, e]
    refine new_q (H := H) (Γ' := Γ2) q h2 (p1.trans p2) np ?_
    rw [List.map_map]
    have key : ∀ ls : List (List Nat), Reps F2 (ls.map fun y => (⟨tTxt, y⟩ : Dv)) (ls.map (V.str ∘ txt)) := fun ls => by
      induction ls with
      | nil => exact .nil
      | cons a ls ih => exact .cons rfl ih
    exact key _
theorem den_join {ls : List (List Nat)} (ha : Den ta Γ tTxt m Γ1) (hb : DenL tb Γ1 tTxt ls Γ2) (hl : (ls.map List.length).sum + ls.length * m.length ≤ 16777216) :
    Den (tBM K "str" (fun x xs H Q => ∃ a p, ∃ ys : List Str, x = .str a ∧ xs = [.ref p] ∧ (SqL K H p (ys.map V.str) ∨ SqT K H p (ys.map V.str)) ∧ (ys.map (·.length)).sum + ys.length * a.length ≤ 16777216 ∧ Q (.str (Txt.join a ys)) H) ta (tCons tb tNil)) Γ tTxt (joinT m ls) Γ2 := fun Z F σ H hh Q q =>
  ha Z F σ H hh _ fun v F1 H1 h1 p1 r1 => by
    cases r1
    refine ⟨rfl, hb Z F1 σ H1 h1 _ fun a vs F2 H2 h2 p2 e r2 => ?_⟩
    have ev : ∀ {ls : List (List Nat)} {vs : List V}, Al (fun x v => tTxt.rep F2 v x) ls vs → vs = (ls.map txt).map V.str := by
      intro ls vs h
      induction h with
      | nil => rfl
      | cons r _ ih =>
        rw [List.map_cons, List.map_cons, ← ih]
        cases r
        rfl
    refine ⟨_, a, ls.map txt, rfl, rfl, .inl (sq_of (by rw [e, ev r2])), ?_, ?_⟩
    · rw [List.map_map, List.length_map]
      have e3 : ((fun s : Str => s.length) ∘ txt) = List.length := by
        funext l
        exact TL.len_tl _
      rw [e3, TL.len_tl]
      exact hl
    · rw [show (⟨m.toArray⟩ : Str) = txt m from rfl, join_txt]
      exact q _ F2 H2 h2 (p1.trans p2) rfl
theorem den_divmod (ha : Den ta Γ tInt i Γ1) (hb : Den tb Γ1 tInt j Γ2) (h0 : 0 < j) (h1 : j.natAbs.log2 < 9000) : Den (tCB (fun xs H Q => ∃ i j, xs = [.int i, .int j] ∧ CDivP i j ∧ ∀ p, H p = none → Q (.ref p) (upd H p (.tup [.int (i / j), .int (i % j)]))) (tCons ta (tCons tb tNil))) Γ (tPair tInt tInt) (i / j, i % j) Γ2 := fun Z F σ H hh Q q =>
  ha Z F σ H hh _ fun v F1 H1 h1' p1 r1 => hb Z F1 σ H1 h1' _ fun v2 F2 H2 h2 p2 r2 => by
    cases r1
    cases r2
    refine ⟨i, j, rfl, ⟨h0, PyProof.noPylong_of_log2 h1⟩, fun p np => ?_⟩
    have k : Step NoO F2 H2 (upd F2 p _) (upd H2 p (.tup [.int (i / j), .int (i % j)])) := Step.new h2.fh np
    exact q _ _ _ (h2.step k) ((p1.trans p2).trans (Pres.step k)) ⟨p, _, _, rfl, upd_same, rfl, rfl⟩
theorem dn_rev {xs : List α} (ha : DenL ta Γ t xs Γ1) : DenN (tRevL K ta) Γ (xs.reverse.map fun x => ⟨t, x⟩) Γ1 := fun Z F σ H hh Q q =>
  ha Z F σ H hh _ fun a vs F1 H1 h1 p1 e r => ⟨a, vs, rfl, sq_of e, fun p np => new_q (H := H) (Γ' := Γ1) q h1 p1 np (al_unmap r.rev)⟩
def mulT (l : List Nat) (i : Int) : List Nat := TL.tl (Txt.mul (txt l) i)
theorem op2_mulT (h1 : l.length ≤ 16) (h2 : 0 ≤ i) (h3 : i ≤ 1048576) : Op2 rMulS tTxt l tInt i tTxt (mulT l i) := fun F H v1 v2 e r1 r2 Q q => by
  cases r1
  cases r2
  exact ⟨_, i, rfl, rfl, by rw [TL.len_tl]; exact h1, h2, h3, q _ F H (Step.refl e) (by show V.str _ = V.str _; rw [show (⟨(mulT l i).toArray⟩ : Str) = txt (TL.tl (Txt.mul (txt l) i)) from rfl, txt_tl])⟩
def zfT (l : List Nat) (i : Int) : List Nat := TL.tl (Txt.zfill (txt l) i)
theorem den_zfill (ha : Den ta Γ tTxt l Γ1) (hb : Den tb Γ1 tInt i Γ2) (hp : PadOk i = true) : Den (tBM K "str" (fun x xs H Q => ∃ (a : Str) (i : Int), x = .str a ∧ xs = [.int i] ∧ PadOk i = true ∧ Q (.str (Txt.zfill a i)) H) ta (tCons tb tNil)) Γ tTxt (zfT l i) Γ2 := fun Z F σ H hh Q q =>
  ha Z F σ H hh _ fun v F1 H1 h1 p1 r1 => by
    cases r1
    refine ⟨rfl, hb Z F1 σ H1 h1 _ fun v2 F2 H2 h2 p2 r2 => ?_⟩
    cases r2
    exact ⟨_, i, rfl, rfl, hp, q _ F2 H2 h2 (p1.trans p2) (by show V.str _ = V.str _; rw [show (⟨(zfT l i).toArray⟩ : Str) = txt (TL.tl (Txt.zfill (txt l) i)) from rfl, txt_tl])⟩
end
end DL

set_option maxRecDepth 100000
/-! Rx: a raise of an own exception that keeps a text; it is caught, asked for its classes, its text read. -/
namespace L2
open PySem PySem.Spec PySem.Calls PyProof.Rows PySem.W
section
variable {K : Frag} {D : Addr}
/-- the class of an exception with its dict, asked through __class__ -/
theorem askClass {prog : Program} {w : World} {A : Around} {E : Value → Shared → Prop} {s : Shared} {x : Addr} {ox od : Obj} {Q : Option Value → Shared → Prop} (T : ExcC K D) (X : K.In s.heap) (I : InstAt s.heap x ox D (some od)) (h : Q (some (.ref D)) { s with toks := s.toks + 1 }) :
    wpAny (model prog w) A (getAttr? (.ref x) "__class__") Q E s := by
  have cl : (clsIn K D).isSome = true := by
    obtain ⟨cd, hc, _⟩ := any_some T.hd
    rw [hc] <;> rfl
  have hf : findObj K D (some od) "__class__" = some (.bind (.builtin "getset_descriptor.__get__") (.builtin "object.__class__")) := findObj_data cl T.ha T.hn T.ht
  obtain ⟨hp, g, d, t, os⟩ := s
  have tyx := I.type (M := model prog w)
  have lg := looks_findIn (M := model prog w) X T.hg
  have lk := looks_findIn (M := model prog w) X T.hk
  have lf := looks_find (M := model prog w) X I hf
  have isx : Looks (model prog w) hp (isInstance (.ref x) (.type "BaseException")) true := tyx.andThen (looks_subIn X T.hs)
  have n0 : (false && onTheHeap (Value.builtin "BaseException.__getattribute__")) = false := rfl
  have n2 : (Value.builtin "BaseException.__getattribute__" == Value.builtin "object.__getattribute__") = false := by decide +kernel
  have n1 : (onTheHeap (Value.ref D) && Value.builtin "BaseException.__getattribute__" == Value.builtin "object.__getattribute__") = false := (congrArg (fun b => onTheHeap (Value.ref D) && b) n2).trans rfl
  unfold getAttr? getAttrBy? getAttrBy
  refine wpAny_bind (wpAny_mkText (wpAny_bind (wpAny_attempt (wpAny_holding (wpAny_bind (tyx.at (wpAny_bind (lg.at ?_))))))))
  change wpAny _ _ (if (onTheHeap (Value.ref D) && Value.builtin "BaseException.__getattribute__" == Value.builtin "object.__getattribute__") = true then _ else _) _ _ _
  rw [n1, if_neg Bool.false_ne_true]
  unfold getAttrByItsOwn hookBefore
  refine wpAny_bind ?_
  have oh : onTheHeap (Value.ref D) = true := rfl
  rw [if_pos oh]
  refine lk.at (wpAny_bind (wpAny_attempt (wpAny_holding ?_)))
  unfold callGetattribute
  rw [n0, if_neg Bool.false_ne_true]
  unfold boundAndCalled
  rw [PySem.F.excAttr_ValueError.ga.bind (.ref x)]
  refine wpAny_bind (wpAny_pure ?_)
  change wpAny _ _ (call (.builtin "BaseException.__getattribute__") [.ref x, .str "__class__" t]) _ _ _
  refine wpAny_call (codeAny_call_builtin PySem.F.excAttr_ValueError.ga.plain PySem.F.entry_bexc_ga (@check_slot (model prog w) _ _ ⟨hp, g, d, t + 1, os⟩ "BaseException.__getattribute__" "BaseException" "__getattribute__" (.ref x) [.str "__class__" t] [] _ (by decide +kernel) (by decide +kernel) isx (PySem.F.args_bexc_ga (.ref x) (.str "__class__" t)) ?_))
  unfold Builtin.«object.__getattribute__»
  refine wpAny_bind (wpAny_of_eq (a := ((Value.ref x : Value), [Value.str "__class__" t])) (by first | rfl | (simp only [slotArgs]; rfl)) ?_)
  refine wpAny_bind (wpAny_pure (wpAny_bind (tyx.at (wpAny_bind (lf.at ?_)))))
  change wpAny _ _ (holding [Value.builtin "object.__class__"] (call (.builtin "getset_descriptor.__get__") [.builtin "object.__class__", .ref x, .ref D]) >>= ret) _ _ _
  refine wpAny_bind (wpAny_holding (wpAny_call (class_get (s := ⟨hp, g, d, t + 1, os⟩) (ox := ox) (od := some od) X I T.hm ?_)))
  refine wpAny_pure ?_
  change wpAny _ _ (handedOut (.ref D)) _ _ _
  rw [handedOut_of (v := .ref D) rfl]
  first | exact wpAny_pure (wpAny_pure h) | exact wpAny_pure h | exact wpAny_pure (wpAny_bind (wpAny_pure (wpAny_pure h)))
theorem kitx_excD {x : Addr} {ox : Obj} (T : ExcC K D) : KitX K (.ref x) (.ref D) (fun h => ∃ od, InstAt h x ox D (some od)) := by
  obtain ⟨cdD, hcD, _⟩ := any_some T.hd
  obtain ⟨c', d', sl', hl⟩ : ∃ c' d' sl', K.lookup D = some ⟨c', d', .cls cdD, sl'⟩ := by
    unfold clsIn at hcD
    split at hcD
    · rename_i ho
      cases hcD
      exact ⟨_, _, _, ho⟩
    · cases hcD
  refine ⟨fun _ _ _ ⟨_, I⟩ => I.type, fun _ _ X _ => ?_, fun h tp dd its n sl X htp => ?_, fun X ⟨_, I⟩ k => askClass T X I k⟩
  · intro A' Q' E' s' k q
    unfold isType loadHead
    exact wpAny_bind (wpAny_loadPart (k _ _ (X _ _ hl)) (wpAny_pure q))
  · refine Bool.eq_false_iff.mpr fun q => ?_
    cases Value.ref.inj (beq_iff_eq.mp q)
    cases (X _ _ hl).symm.trans htp
/-- isinstance(e, c), e the exception that the suite holds, with its dict -/
def rIsED (K : PySem.W.Frag) (D a dd : Addr) : List V → Hp → VK → Prop := fun xs H Q => ∃ (c : V) (cv : Value) (b : Bool) (fs : List (Str × V)), xs = [.ref a, c] ∧ (∀ u, RelV c u → u = cv) ∧ PySem.W.kitOne K (.ref D) cv = some b ∧ H dd = some (.xd fs) ∧ Q (.bl b) H
theorem call_isED {X : Cx} {a dd : Addr} {oe : Obj} {pn : List (Addr × Obj)} (C : ExcC X.K D) (hz : Zc (.ref D) (some dd) oe) (hf : ∃ vs, oe.data = .fields vs) : CallR (X.suite a ((a, oe) :: pn)) (.builtin "isinstance") (rIsED X.K D a dd) := by
  intro pins s σ H xs us Q I r h
  obtain ⟨c, cv, b, fs, rfl, hcv, e, ed, q⟩ := h
  obtain ⟨u1, u2, rfl, r1, r2⟩ := vals2 r
  obtain rfl : u1 = Value.ref a := r1
  cases hcv _ r2
  have hget := (I.pin (a, oe) (List.mem_append.mpr (.inl List.mem_cons_self))).1
  obtain ⟨vs, hv⟩ := hf
  have hx : ObjOk X.prog X.w H s.heap dd (.xd fs) := I.hok dd _ ed
  obtain ⟨mA, hns, _⟩ := hx
  obtain ⟨od, ho, _⟩ := lookIn_ns hns
  have J : PySem.W.InstAt s.heap a oe D (some od) := ⟨hget, hz.1, by unfold PySem.W.notCls; rw [hv] <;> rfl, by rw [hz.2]; exact ho⟩
  exact PySem.W.kia_one (kitx_excD C) I.kIn ⟨od, J⟩ e (fun z => nomatch z) fun tk => ⟨.bl b, H, I.kept (t' := tk) fun _ _ z => z, rfl, q⟩
end
end L2
namespace DL
open PySem L2 Evl
/-- a promise: a datum, or an exception of the class at c with a text -/
def spT (S : List Dv → Dv → Prop) (R : List Dv → Addr → List Nat → Prop) : Sp := fun vs H Q E => ∃ F ds, Ex F H ∧ Reps F ds vs ∧
  ((∃ r, S ds r ∧ ∀ v F' H', Step NoO F H F' H' → r.rep F' v → Q v H') ∨ (∃ c z, R ds c z ∧ ∀ d F' H', Step NoO F H F' H' → H d = none → F' d = none → H' d = some (.xd [("text", .str (txt z))]) → E (.ref c) (some d) H'))
theorem spT_len {S : List Dv → Dv → Prop} {R : List Dv → Addr → List Nat → Prop} {n : Nat} (h1 : ∀ ds r, S ds r → ds.length = n) (h2 : ∀ ds c z, R ds c z → ds.length = n) : ∀ vs H Q E, spT S R vs H Q E → vs.length = n := fun vs H Q E ⟨F, ds, _, r, h⟩ => by
  rw [← r.len]
  rcases h with ⟨r, h, _⟩ | ⟨c, z, h, _⟩
  · exact h1 _ _ h
  · exact h2 _ _ _ h
theorem body_T {S : List Dv → Dv → Prop} {R : List Dv → Addr → List Nat → Prop} {t : TS} {N : List Str} {vs : List V} {H : Hp} {Q : VK} {E : XK} (h : spT S R vs H Q E)
    (k : ∀ F ds, ds.length = vs.length → ((∃ r, S ds r ∧ ∀ v F' H', Step NoO F H F' H' → r.rep F' v → Q v H') ∨ (∃ c z, R ds c z ∧ ∀ d F' H', Step NoO F H F' H' → H d = none → F' d = none → H' d = some (.xd [("text", .str (txt z))]) → E (.ref c) (some d) H')) →
      OK ⟨NoO, F, H, fun _ => True, fun _ h => h⟩ (vals ds ++ anys (N.length - ds.length)) (t { nx := fun _ H' => Q .non H', rt := Q })) : t { nx := fun _ H' => Q .non H', rt := Q } (L2.start N vs) H := by
  obtain ⟨F, ds, e, r, h⟩ := h
  exact k F ds r.len h F _ H (start_P e r)
section
variable {α β γ : Type} {t : Ty α} {x : α} {w : Ty γ} {z : γ} {Z : En} {Γ Γ' Γ1 Γ2 : List Slot} {ta te : TE} {tr : TA} {ds : List Dv} {K : PySem.W.Frag} {D : Ends} {i : Nat} {l : List Nat} {c C Dc : Addr}
theorem spT_v {S : List Dv → Dv → Prop} {R : List Dv → Addr → List Nat → Prop} (h : S ds ⟨w, z⟩) : SpV (spT S R) ds w z := fun F H vs e r Q E q => ⟨F, ds, e, r, .inl ⟨⟨w, z⟩, h, q⟩⟩
/-- raise C(text) -/
theorem s_raiseT {E : XK} {F0 H0 : Hp} (hZ : Z.F = F0 ∧ Z.H = H0 ∧ Z.O = NoO) (h : DenA tr Γ [⟨tTxt, l⟩] Γ1) (T : OexC K C) (S : SupC K Dc C) (fi : PySem.W.findIn K (.ref C) "text" = some none)
    (q : ∀ d F' H', Step NoO F0 H0 F' H' → H0 d = none → F' d = none → H' d = some (.xd [("text", .str (txt l))]) → E (.ref C) (some d) H') : OK Z Γ (fun σ H => tMkO C (spBT K Dc) [] tr σ H fun cls d H' => E cls d H') := fun F σ H hh => by
  obtain ⟨z1, z2, z3⟩ := hZ
  refine h Z F σ H hh _ fun vs F1 H1 h1 p1 r1 => ?_
  cases r1 with
  | cons r r' =>
    cases r'
    cases r
    refine ⟨by show 1 ≤ 1000; decide, fun a na => ?_⟩
    refine ⟨a, C, txt l, rfl, T, S, fi, upd_same, fun dx nd ne => ⟨rfl, dx, _, upd_same, by rw [upd_ne ne, upd_same], ?_, ?_⟩⟩
    · rw [upd_ne ne] at nd
      exact nd
    · have nd1 : H1 dx = none := by
        rw [upd_ne ne] at nd
        exact nd
      have e : upd (del (upd (upd (upd H1 a (exo a C none)) dx (exd dx [("text", .str (txt l))])) a (exo a C (some dx))) a) dx (.xd [("text", .str (txt l))]) = upd H1 dx (.xd [("text", .str (txt l))]) := by
        funext b
        by_cases e1 : b = dx
        · rw [e1, upd_same, upd_same]
        · rw [upd_ne e1, upd_ne e1]
          by_cases e2 : b = a
          · rw [e2, del_same, na]
          · rw [del_ne e2, upd_ne e2, upd_ne e1, upd_ne e2]
      rw [e]
      have k := Step.open (o := .xd [("text", .str (txt l))]) h1.fh nd1
      refine q dx F1 _ ?_ (by rw [← z2]; exact h1.fresh nd1) (ex_none h1.fh nd1) upd_same
      rw [← z1, ← z2, ← z3]
      exact (h1.step k).st
/-- an expression that raises such an exception -/
def BotX (te : TE) (Γ Γ' : List Slot) (E : L2.St → XK) (c : Addr) (l : List Nat) : Prop := ∀ (Z : En) F σ H, Holds Z Γ F σ H → (∀ d F' H', Holds Z Γ' F' σ H' → Z.H d = none → F' d = none → H' d = some (.xd [("text", .str (txt l))]) → E σ (.ref c) (some d) H') → ∀ Q : VK, te σ H Q
theorem botx_smeth {S : List Dv → Dv → Prop} {R : List Dv → Addr → List Nat → Prop} {E : L2.St → XK} (h : DenA tr Γ ds Γ1) (hs : R ds c l) : BotX (tSMeth C (spT S R) E (tC (.ref C)) tr) Γ Γ1 E c l := fun Z F σ H hh e Q =>
  ⟨rfl, h Z F σ H hh _ fun vs F1 H1 h1 p1 r1 => ⟨F1, ds, h1.fh, r1, .inr ⟨c, l, hs, fun d F' H' k nd nf hd => e d F' H' (h1.step k) (h1.fresh nd) nf hd⟩⟩⟩
theorem den_smeth {sp : Sp} {E : L2.St → XK} (h : DenA tr Γ ds Γ1) (hs : SpV sp ds w z) : Den (tSMeth C sp E (tC (.ref C)) tr) Γ w z Γ1 := fun Z F σ H hh Q q =>
  ⟨rfl, h Z F σ H hh _ fun vs F1 H1 h1 p1 r1 => hs F1 H1 vs h1.fh r1 Q (E σ) fun v F3 H3 k r3 => q v F3 H3 (h1.step k) (p1.trans (Pres.step k)) r3⟩
theorem s_botXA {E : L2.St → XK} {g : TG} (h : BotX te Γ Γ1 E c l) (e : ∀ d, OK Z Γ1 fun σ H => Z.H d = none → (∃ F, Holds Z Γ1 F σ H ∧ F d = none) → H d = some (.xd [("text", .str (txt l))]) → E σ (.ref c) (some d) H) : OK Z Γ (tAsg te g D) := fun F σ H hh =>
  h Z F σ H hh (fun d F' H' h' nz nf hd => e d F' σ H' h' nz ⟨F', h', nf⟩ hd) _
/-- the exception at a with its frozen dict at d -/
def tExc (a d : Addr) (fs : List (Str × V)) : Ty Unit := ⟨fun F v _ => v = .ref a ∧ F d = some (.xd fs), fun e h => ⟨h.1, e _ _ h.2⟩⟩
theorem zc_ofD {cls cl : Value} {d : Option Addr} {oe : Obj} (h : cls = cl ∧ d = some (d.getD 0)) (z : Zc cls d oe) : Zc cl (some (d.getD 0)) oe := by
  obtain ⟨rfl, e⟩ := h
  rw [← e]
  exact z
/-- it is caught: its dict is frozen from here on -/
theorem s_caughtX {cc : Value} {ts : Addr → Value → Option Addr → TS} {Wout : WX} {d : Addr} (hb : PySem.W.exmOne K (.ref c) cc = some true)
    (h : ∀ a, OK Z (Γ.set i (.val ⟨tExc a d [("text", .str (txt l))], ()⟩)) (ts a (.ref c) (some d) { nx := fun σ' H' => D.nx (σ'.set i none) H', rt := D.rt, bk := fun σ' H' => D.bk (σ'.set i none) H', ct := fun σ' H' => D.ct (σ'.set i none) H' })) :
    OK Z Γ fun σ H => Z.H d = none → (∃ F, Holds Z Γ F σ H ∧ F d = none) → H d = some (.xd [("text", .str (txt l))]) → wAs K cc i ts Wout D (.ref c) (some d) σ H := fun _ σ H _ nz ⟨F, hh, nf⟩ hd => by
  have no : ∀ j, ¬ OwnAt Γ σ j d := fun j w => by
    obtain ⟨s, _, o⟩ := hh.at_ w
    cases s with
    | any => exact o.elim
    | val _ => exact o.elim
    | own _ _ => obtain ⟨_, _, vs, e, _⟩ := o; rw [hd] at e; cases e
    | lst _ _ => obtain ⟨_, vs, e, _⟩ := o; rw [hd] at e; cases e
    | obj _ _ _ => obtain ⟨_, _, dx, vs, _, e, _⟩ := o; rw [hd] at e; cases e
    | dct _ _ => obtain ⟨_, vs, e, _⟩ := o; rw [hd] at e; cases e
  have h1 := hh.freezeP nz no nf hd
  exact ⟨true, hb, fun _ a _ => h a _ _ H (h1.set (d := ⟨tExc a d _, ()⟩) i ⟨rfl, upd_same⟩), fun e => nomatch e⟩
/-- isinstance(e, c) | e.text, in the suite -/
theorem den_isED {a d : Addr} {cv : V} {cw : Value} {b : Bool} {j : Nat} {fs : List (Str × V)} (e1 : Γ[j]? = some (.val ⟨tExc a d fs, ()⟩)) (k : ClsV cv cw) (e : PySem.W.kitOne K (.ref Dc) cw = some b) :
    Den (tCB (rIsED K Dc a d) (tCons (tVar j) (tCons (tC cv) tNil))) Γ tBool b Γ := fun Z F σ H hh Q q => by
  obtain ⟨v, h1, rfl, h2⟩ := hh.val e1
  exact ⟨_, h1, cv, cw, b, fs, rfl, fun u r => k.eq r, e, hh.fh _ _ h2, q _ F H hh Pres.refl rfl⟩
theorem den_xf {a d : Addr} {j : Nat} {fs : List (Str × V)} {f : Str} (e1 : Γ[j]? = some (.val ⟨tExc a d fs, ()⟩)) (e : fs.lookup f = some (.str (txt l))) : Den (tXf a (.ref c) (some d) c f (tVar j)) Γ tTxt l Γ := fun Z F σ H hh Q q => by
  obtain ⟨v, h1, rfl, h2⟩ := hh.val e1
  exact ⟨_, h1, rfl, rfl, d, fs, _, rfl, hh.fh _ _ h2, e, q _ F H hh Pres.refl rfl⟩
end
end DL

set_option maxRecDepth 100000
/-! Ry: static methods and raised texts as facts; comprehensions over texts by a function; mixed lists compared; lists with a draw in them. -/
namespace DL
open PySem PySem.Spec PyProof.Rows L2 Evl
/-- the class at C has a static method that keeps sp -/
def StatOk (W : Wd) (C : Addr) (m : Str) (k : Nat) (ps : List Str) (sp : Sp) : Prop := ∃ f fd, FnOk W.P W.w W.K W.mg W.base (L2.CX W.P W.w) k f fd ps sp ∧ SMet W.K C m f ∧ Binds W.K fd ps []
/-- what `raise C(text)` rests on: D the class of the __init__, f that def -/
structure RaiseT (W : Wd) (x : Str) (C D f : Addr) : Prop where
  g : W.mg x = some (.ref C)
  t : OexC W.K C
  s : SupC W.K D C
  fi : PySem.W.findIn W.K (.ref C) "text" = some none
  iC : PySem.W.findIn W.K (.ref C) "__init__" = some (some (.ref f))
  tI : PySem.W.typeIn W.K (.ref f) = some (.type "function")
section
variable {W : Wd} {x qual : Str} {params : Arguments} {body : List Stmt} {scope : Scope} {f : Addr} {fd : FuncData} {N ps : List Str} {k : Nat} {sp : Sp}
theorem statOk_of {C : Addr} (F : FunD W.K x qual params body scope [] [] f fd) (g : SMet W.K C x f) (S : FnScope N ps scope) (len : ∀ vs H Q E, sp vs H Q E → vs.length = ps.length)
    (hbind : ∀ (kV doc pm : Value) (an : Option Addr) (cdv ct : Value) (us : List Value), us.length = ps.length → bindArgs (PySem.W.fnOf x qual params body scope .none kV doc pm an cdv ct) ⟨us, []⟩ = pure (ps.zip us))
    (hbody : ∀ (cv : Value) (B : Around) (up : List Env) (s : Shared) (H : Hp) (vs : List V) (Q : VK) (E : XK), Room k (B.deeper (envOfC qual scope s.heap.objs.size f cv)) → sp vs H Q E →
      ∃ t, PSs (cxOf (L2.CX W.P W.w) W.P W.w W.K W.mg W.base N qual scope f cv B up s H E) body t ∧ t { nx := fun _ H' => Q .non H', rt := Q } (L2.start N vs) H) : StatOk W C x (k + 1) ps sp :=
  ⟨f, fd, F.ok S len hbody, g, F.bindsN hbind⟩
end
section
variable {α β γ : Type} {t : Ty α} {u : Ty β} {w : Ty γ} {x : α} {y : β} {z : γ} {Z : En} {Γ Γ' Γ0 Γ1 Γ2 Γ3 : List Slot} {ta tb tc te wl : TE} {tt : TT} {tr : TA} {ds es : List Dv} {K : PySem.W.Frag} {D : Ends} {s1 s2 : TS} {i j : Nat} {l m : List Nat}
theorem dn_lcS1 {tl : TE} (f : Nat → β) (h : Den tl Γ tTxt l Γ0) (hf : Γ0[j]? = some .any) (hl : l.length < 50000) (hs : ∀ (n : Nat) c, l[n]? = some c → Den te (Γ0.set j (.val ⟨tTxt, [c]⟩)) u (f c) (Γ0.set j (.val ⟨tTxt, [c]⟩))) :
    DenN (tLc (iStr tl) (gName j) tYes te [j]) Γ ((l.map f).map fun y => ⟨u, y⟩) Γ0 := by
  have h2 := dn_lcS (u := u) (te := te) (tt := tYes) (j := j) (fun _ => Γ0) (fun n => (l.take n).map f) h (fun _ => hf) hl rfl fun n c hc => ⟨true, _, dt_yes, fun _ => ⟨f c, hs n c hc, by
    rw [List.take_add_one, hc, List.map_append] <;> rfl⟩, fun z => nomatch z⟩
  rw [List.take_length] at h2
  exact h2
theorem op2_txtin2 {c : Nat} : Op2 (fun x y H Q => ∃ (c : Nat) (z : Str), x = .str ⟨#[c]⟩ ∧ y = .str z ∧ Q (.bl (decide (c ∈ z.cps.toList))) H) tTxt [c] tTxt l tBool (decide (c ∈ l)) := op2_txtin
theorem den_lit {z : Str} (h : z.cps.toList = l) : Den (tC (.str z)) Γ tTxt l Γ := h ▸ den_txt
/-- mixed lists compared -/
def PdOk (d : Dv) (p : PyData) : Prop := ∀ K F H v, d.rep F v → Dp K H v p
theorem pd_bool {b : Bool} : PdOk ⟨tBool, b⟩ (.bool b) := fun K F H v r => by cases r; exact .bl b
theorem pd_txt : PdOk ⟨tTxt, l⟩ (.str (txt l)) := fun K F H v r => by cases r; exact .str _
theorem dp_all {F H : Hp} : ∀ {ds : List Dv} {ps : List PyData} {vs : List V}, Al PdOk ds ps → Reps F ds vs → DpAll K H vs ps
  | _, _, _, .nil, .nil => .nil
  | _, _, _, .cons h h', .cons r r' => .cons (h K F H _ r) (dp_all h' r')
theorem den_eqH {p q : List PyData} {b : Bool} {oa : Option Addr} (e : Γ[j]? = some (.own oa ds)) (hb : DenN tb Γ es Γ2) (e2 : Γ2[j]? = some (.own oa ds)) (hp : Al PdOk ds p) (hq : Al PdOk es q) (s1 : SeqAt.shaped (.list p) = true) (s2 : SeqAt.shaped (.list q) = true)
    (hv : PyData.eqv (.list p) (.list q) = b) : Den (tOp (rEqD K) (tVar j) tb) Γ tBool b Γ2 := fun Z F σ H hh Q q' => by
  obtain ⟨a, h1, _, _⟩ := hh.owned e rfl
  refine ⟨_, h1, hb Z F σ H hh _ fun c vs F' H' h' p' nc fc hc rr => ?_⟩
  obtain ⟨a', h1', ⟨_, _, us, hu, ru⟩, _⟩ := h'.owned e2 rfl
  rw [h1] at h1'
  cases h1'
  refine ⟨_, _, .lst (sq_of hu) (dp_all hp ru), .lst (sq_of hc) (dp_all hq rr), s1, s2, ?_⟩
  rw [hv]
  exact q' _ F' H' h' p' rfl
theorem cut_lo {c : Int} (h0 : 0 ≤ c) : cutL l (some c) none = l.drop c.toNat := by
  obtain ⟨k, rfl⟩ := Int.eq_ofNat_of_zero_le h0
  unfold cutL
  rw [HT.sIx_nat, HT.sIx_none, Int.toNat_natCast]
  rw [List.take_of_length_le (by rw [List.length_drop]; omega)]
  by_cases h : k ≤ l.length
  · rw [Nat.min_eq_left h]
  · rw [Nat.min_eq_right (by omega), List.drop_length, List.drop_eq_nil_of_le (by omega)]
theorem cut_hi {c : Int} (h0 : 0 ≤ c) : cutL l none (some c) = l.take c.toNat := by
  obtain ⟨k, rfl⟩ := Int.eq_ofNat_of_zero_le h0
  unfold cutL
  rw [HT.sIx_nat, HT.sIx_none, Int.toNat_natCast, List.drop_zero, Nat.sub_zero]
  by_cases h : k ≤ l.length
  · rw [Nat.min_eq_left h]
  · rw [Nat.min_eq_right (by omega), List.take_length, List.take_of_length_le (by omega)]
theorem den_txthi {c : Int} {tlo thi : TO} (ha : Den ta Γ tTxt l Γ1) (hlo : PuO tlo Γ1 none) (hhi : PuO thi Γ1 (some c)) (h0 : 0 ≤ c) (hl : l.length ≤ 100000) : Den (tSl rSlS ta tlo thi) Γ tTxt (l.take c.toNat) Γ1 := cut_hi (l := l) h0 ▸ den_txtsl ha hlo hhi hl
theorem den_txtlo {c : Int} {tlo thi : TO} (ha : Den ta Γ tTxt l Γ1) (hlo : PuO tlo Γ1 (some c)) (hhi : PuO thi Γ1 none) (h0 : 0 ≤ c) (hl : l.length ≤ 100000) : Den (tSl rSlS ta tlo thi) Γ tTxt (l.drop c.toNat) Γ1 := cut_lo (l := l) h0 ▸ den_txtsl ha hlo hhi hl
theorem on_intb {b : Bool} : OpN (fun xs H Q => (∃ i, xs = [.int i] ∧ Q (.int i) H) ∨ ∃ k, xs = [.bl k] ∧ Q (.int (if k then 1 else 0)) H) [⟨tBool, b⟩] tInt (if b then 1 else 0) := fun F H vs e r Q q => by
  cases r with
  | cons r r' =>
    cases r'
    cases r
    exact .inr ⟨b, rfl, q _ F H (Step.refl e) rfl⟩
theorem mulT_len {i : Int} {L N : Nat} (h : l.length ≤ L) (hi : i ≤ (N : Int)) : (mulT l i).length ≤ L * N := by
  have e : (mulT l i).length = (Txt.mul (txt l) i).length := by
    unfold mulT TL.tl
    simp [Str.length]
  rw [e]
  exact len_mul_leN (by rw [TL.len_tl]; exact h) hi
theorem getD_ix {xs : List α} {i : Int} {n : Nat} (h0 : 0 ≤ i) (h : i < (n : Int)) (hn : xs.length = n) (d : α) : xs[i.toNat]? = some (xs.getD i.toNat d) := by
  rw [List.getD_eq_getElem?_getD, List.getElem?_eq_getElem (by omega)] <;> rfl
theorem nn_pair {p : α × β} : NotNon (tPair t u) p := fun F v r z => by
  obtain ⟨a, v1, v2, rfl, h, _⟩ := r
  cases z
theorem den_is {y' : α} (h : Den te Γ t x Γ1) (e : x = y') : Den te Γ t y' Γ1 := e ▸ h
theorem s_retD (h : Den te Γ t x Γ1) (k : ∀ F σ H v, Holds Z Γ1 F σ H → (⟨t, x⟩ : Dv).rep F v → D.rt v H) : OK Z Γ (tRet te D) := fun F σ H hh => h Z F σ H hh _ fun v F' H' h' p r => k F' _ H' v h' r
theorem s_ifNo {a : Bool} (h : DenT tt Γ a Γ1) (e : a = false) (k : OK Z Γ1 (s2 D)) : OK Z Γ (tIfS tt s1 s2 D) := by
  subst e
  exact s_if h (fun z => nomatch z) fun _ => k
theorem s_ifYes {a : Bool} (h : DenT tt Γ a Γ1) (e : a = true) (k : OK Z Γ1 (s1 D)) : OK Z Γ (tIfS tt s1 s2 D) := by
  subst e
  exact s_if h (fun _ => k) fun z => nomatch z
/-- if t: .., joined behind -/
theorem s_ifX {b : Bool} {X : List Slot → Prop} (h : DenT tt Γ b Γ1) (h1 : b = true → ∀ D', (∀ Γ', X Γ' → OK Z Γ' D'.nx) → OK Z Γ1 (s1 D')) (h2 : b = false → X Γ1) (k : ∀ Γ', X Γ' → OK Z Γ' D.nx) : OK Z Γ (tIfS tt s1 tNext D) :=
  s_if h (fun hb => h1 hb D k) fun hb => s_nx (k Γ1 (h2 hb))
/-! ### draws inside -/
theorem ma_max1 {X : List Slot → Dv → Prop} {a : Int} {r : List V → Hp → VK → Prop} (hr : ∀ i, OpN r [⟨tInt, a⟩, ⟨tInt, i⟩] tInt (imax a i)) (h : DenMA tb Γ X) (hX : ∀ Γ' r, X Γ' r → ∃ i : Int, r = ⟨tInt, i⟩) :
    DenMA (tCB r (tCons (tC (.int a)) (tCons tb tNil))) Γ (fun Γ' r => ∃ i : Int, X Γ' ⟨tInt, i⟩ ∧ r = ⟨tInt, imax a i⟩) := fun Z F σ H hh Q q => by
  refine h Z F σ H hh _ fun Γ' r xr v F' H' h' rv => ?_
  obtain ⟨i, rfl⟩ := hX Γ' r xr
  exact hr i F' H' _ h'.fh (.cons rfl (.cons rv .nil)) Q fun v3 F3 H3 k r3 => q Γ' ⟨tInt, imax a i⟩ ⟨i, xr, rfl⟩ v3 F3 H3 (h'.step k) r3
theorem ma_lst2 {X : List Slot → Dv → Prop} (ha : Den ta Γ t x Γ1) (hb : DenMA tb Γ1 X) (hX : ∀ Γ' r, X Γ' r → ∃ y : α, r = ⟨t, y⟩) :
    DenMA (tLst (tCons ta (tCons tb tNil))) Γ (fun Γ' r => ∃ y : α, X Γ' ⟨t, y⟩ ∧ r = ⟨tList t, [x, y]⟩) := fun Z F σ H hh Q q =>
  ha Z F σ H hh _ fun v1 F1 H1 h1 p1 r1 => by
    have pm : ∀ {F F' : Hp}, Ex F F' → t.rep F v1 x → t.rep F' v1 x := fun e h => t.mono e h
    refine hb (Z.more _ pm) F1 σ H1 (h1.more r1) _ fun Γ' r xr v2 F2 H2 h2 r2 => ?_
    obtain ⟨y, rfl⟩ := hX Γ' r xr
    refine ⟨sz_of (n := 2) (by decide), fun p np => ?_⟩
    have k : Step NoO F2 H2 (upd F2 p (.lst [v1, v2])) (upd H2 p (.lst [v1, v2])) := Step.new h2.fh np
    exact q Γ' ⟨tList t, [x, y]⟩ ⟨y, xr, rfl⟩ _ _ _ (h2.less.step k) ⟨p, _, rfl, upd_same, .cons (t.mono k.ff h2.pp.2) (.cons (t.mono k.ff r2) .nil)⟩
theorem ma_cat {X : List Slot → Dv → Prop} {ys : List α} {n : Nat} (ha : DenMA ta Γ X) (hX : ∀ Γ' r, X Γ' r → ∃ xs : List α, r = ⟨tList t, xs⟩ ∧ xs.length ≤ n ∧ Den tb Γ' (tList t) ys Γ') (hl : n + ys.length ≤ 100000) :
    DenMA (tOp rCat ta tb) Γ (fun Γ' r => ∃ xs : List α, X Γ' ⟨tList t, xs⟩ ∧ r = ⟨tList t, xs ++ ys⟩) := fun Z F σ H hh Q q =>
  ha Z F σ H hh _ fun Γ' r xr v1 F1 H1 h1 r1 => by
    obtain ⟨xs, rfl, hn, hb⟩ := hX Γ' r xr
    refine hb Z F1 σ H1 h1 _ fun v2 F2 H2 h2 p2 r2 => ?_
    obtain ⟨a, vs, rfl, e, rr⟩ := (tList t).mono p2.ff r1
    obtain ⟨b, us, rfl, e2, rr2⟩ := r2
    refine ⟨a, b, vs, us, rfl, rfl, h2.fh _ _ e, h2.fh _ _ e2, (by have e3 : xs.length = vs.length := rr.len; have e4 : ys.length = us.length := rr2.len; exact sz_of (by omega)), fun l nl => ?_⟩
    have k : Step NoO F2 H2 (upd F2 l (.lst (vs ++ us))) (upd H2 l (.lst (vs ++ us))) := Step.new h2.fh nl
    exact q Γ' ⟨tList t, xs ++ ys⟩ ⟨xs, xr, rfl⟩ _ _ _ (h2.step k) ⟨l, _, rfl, upd_same, (rr.map fun _ _ z => t.mono k.ff z).app (rr2.map fun _ _ z => t.mono k.ff z)⟩
/-- a loop over such a list that keeps all that it finds -/
theorem s_forMA {X : List Slot → Dv → Prop} (h : DenMA wl Γ X) (hX : ∀ Γ' r, X Γ' r → ∃ xs : List α, r = ⟨tList t, xs⟩ ∧ Γ'[j]? = some .any ∧
    (∀ Z' : En, (∀ {Γ F σ H}, Holds Z' Γ F σ H → Holds Z Γ F σ H) → ∀ n x, xs[n]? = some x → OK Z' (Γ'.set j (.val ⟨t, x⟩)) (s1 { D with nx := LoopAt Z' (fun _ : Unit => Γ') (fun _ _ => True) (n + 1), ct := LoopAt Z' (fun _ : Unit => Γ') (fun _ _ => True) (n + 1), bk := D.nx })) ∧
    OK Z Γ' D.nx) : OK Z Γ (tFor (iList K wl) (gName j) s1 D) := fun F σ H hh => by
  refine h Z F σ H hh _ fun Γ' r xr v F1 H1 h1 r1 => ?_
  obtain ⟨xs, rfl, hj, hs, hd⟩ := hX Γ' r xr
  obtain ⟨a, vs, rfl, e, rr⟩ := r1
  have pm : ∀ {F F' : Hp}, Ex F F' → (F a = some (.lst vs) ∧ Al (fun x v => t.rep F v x) xs vs) → (F' a = some (.lst vs) ∧ Al (fun x v => t.rep F' v x) xs vs) := fun e h => ⟨e _ _ h.1, h.2.map fun _ _ z => t.mono e z⟩
  refine ⟨a, rfl, ⟨vs, sq_of (h1.fh _ _ e)⟩, for_list (K := K) (a := a) (xs := vs) (LoopAt (Z.more _ pm) (fun _ : Unit => Γ') (fun _ _ => True)) ⟨(), F1, trivial, h1.more ⟨e, rr⟩⟩ ?_ ?_ ?_⟩
  · rintro n σ' H' _ ⟨s, F', _, hs'⟩
    exact sq_of (hs'.fh _ _ hs'.pp.2.1)
  · rintro n x σ' H' hx ⟨s, F', hi, hs'⟩
    obtain ⟨y, hy, ry⟩ := hs'.pp.2.2.getR hx
    exact hs (Z.more _ pm) (fun h => h.less) n y hy F' _ H' (hs'.set j ry)
  · rintro σ' H' ⟨s, F', hi, hs'⟩
    exact hd F' σ' H' hs'.less
end
end DL

set_option maxRecDepth 100000
/-! Hx: what a head tells beyond He5's: static methods, classes of errors that keep a text, the def of their __init__ with its class cell. -/
namespace HX
open PySem PySem.Spec PyProof.Rows L2 DL He
/-! ### static methods -/
def q_smet (K : PySem.W.Frag) (x m : Str) : Bool := (PySem.W.readsIn K (ga K x) (.type "type") && eqO (PySem.W.specialIn K (.ref (ga K x)) "__getattribute__") (some (some (.builtin "type.__getattribute__")))) && (He5.wrapB K (ga K x) "staticmethod" "staticmethod.__get__" m && PySem.W.keepIn K (.ref (He5.wf K (ga K x) "staticmethod" m)))
theorem smet_ok {K : PySem.W.Frag} {x m : Str} (h : q_smet K x m = true) : SMet K (ga K x) m (He5.wf K (ga K x) "staticmethod" m) := by
  obtain ⟨h1, h2⟩ := ba h
  obtain ⟨a1, a2⟩ := ba h1
  obtain ⟨b1, b2⟩ := ba h2
  obtain ⟨c1, rest, c2⟩ := He5.wrapB_ok b1
  exact ⟨⟨a1, eqO_ok a2⟩, ⟨_, rest, c1, c2⟩, b2⟩
/-! ### classes of errors -/
def oexB (K : PySem.W.Frag) (C : Addr) : Bool := match K.lookup C with
  | some ⟨.type "type", _, .cls cd, sl⟩ => (match cd.mro, sl.toList with
    | .ref C' :: bm, [_, _, _, _, some (.builtin n), _] => decide (C' = C) && (decide (n = "ValueError.__new__") && (!cd.hasDel && (cd.hasDict && PySem.HandSPX.refsVE bm)))
    | _, _ => false)
  | _ => false
theorem oexB_ok {K : PySem.W.Frag} {C : Addr} (h : oexB K C = true) : ∃ nm q N bs bm sn sub ab col dd k0 k1 k2 k3 k5, K.lookup C = some (excClassObj nm q C N bs bm true sn sub ab col dd k0 k1 k2 k3 k5 "ValueError.__new__") ∧ PySem.HandSPX.refsVE bm = true := by
  unfold oexB at h
  split at h
  · rename_i dd cd sl ho
    split at h
    · rename_i C' bm k0 k1 k2 k3 n k5 e1 e2
      obtain ⟨h1, h⟩ := ba h
      obtain ⟨h2, h⟩ := ba h
      obtain ⟨h3, h⟩ := ba h
      obtain ⟨h4, h5⟩ := ba h
      have es : sl = #[k0, k1, k2, k3, some (.builtin n), k5] := by
        rw [← Array.toArray_toList (xs := sl), e2]
      obtain ⟨nm, bs, mro, ns, q, hd, sn, sub, ab, col, del⟩ := cd
      have j1 : mro = .ref C' :: bm := e1
      have j2 : hd = true := h4
      have j0 : (!del) = true := h3
      have j3 : del = false := by simpa using j0
      clear e1 h h3 h4 j0
      subst j1 j2 j3 es
      rw [of_decide_eq_true h1, of_decide_eq_true h2] at ho
      exact ⟨nm, q, ns, bs, bm, sn, sub, ab, col, dd, k0, k1, k2, k3, k5, ho, h5⟩
    · cases h
  · cases h
def q_oex (K : PySem.W.Frag) (C : Addr) : Bool := oexB K C && (eqO (PySem.W.findIn K (.ref C) "__setattr__") (some (some (.builtin "object.__setattr__"))) && (decide (PySem.W.subIn K (.ref C) (.type "BaseException") = some true) && (decide (PySem.W.typeIn K (.ref C) = some (.type "type")) && PySem.W.keepIn K (.ref C))))
theorem oex_ok {K : PySem.W.Frag} {C : Addr} (h : q_oex K C = true) : OexC K C := by
  obtain ⟨h1, h⟩ := ba h
  obtain ⟨h2, h⟩ := ba h
  obtain ⟨h3, h⟩ := ba h
  obtain ⟨h4, h5⟩ := ba h
  exact ⟨oexB_ok h1, eqO_ok h2, of_decide_eq_true h3, of_decide_eq_true h4, h5⟩
def q_sup (K : PySem.W.Frag) (D C : Addr) : Bool := decide (PySem.W.mroIn K C (.ref D) = some true) && (decide (PySem.W.ks_superIn K C D "__init__" = some (some (.builtin "ValueError.__init__"))) && (decide (PySem.W.subIn K (.ref C) (.type "ValueError") = some true) && (eqO (PySem.W.nsIn K cStatics "thirdparty.any") (some none) && (PySem.W.clsIn K D).isSome)))
theorem sup_ok {K : PySem.W.Frag} {D C : Addr} (h : q_sup K D C = true) : SupC K D C := by
  obtain ⟨h1, h⟩ := ba h
  obtain ⟨h2, h⟩ := ba h
  obtain ⟨h3, h⟩ := ba h
  obtain ⟨h4, h5⟩ := ba h
  exact ⟨of_decide_eq_true h1, of_decide_eq_true h2, of_decide_eq_true h3, eqO_ok h4, h5⟩
/-- x: the class raised, y: the class of the __init__ -/
def q_rt (K : PySem.W.Frag) (x y : Str) : Bool := q_oex K (ga K x) && (q_sup K (ga K y) (ga K x) && (eqO (PySem.W.findIn K (.ref (ga K x)) "text") (some none) && (eqO (PySem.W.findIn K (.ref (ga K x)) "__init__") (some (some (.ref (ma K (ga K y) "__init__")))) && decide (PySem.W.typeIn K (.ref (ma K (ga K y) "__init__")) = some (.type "function")))))
theorem rt_ok {W : Wd} {x y : Str} (g : W.mg x = some (.ref (ga W.K x))) (h : q_rt W.K x y = true) : RaiseT W x (ga W.K x) (ga W.K y) (ma W.K (ga W.K y) "__init__") := by
  obtain ⟨h1, h⟩ := ba h
  obtain ⟨h2, h⟩ := ba h
  obtain ⟨h3, h⟩ := ba h
  obtain ⟨h4, h5⟩ := ba h
  exact ⟨g, oex_ok h1, sup_ok h2, eqO_ok h3, eqO_ok h4, of_decide_eq_true h5⟩
/-! ### a def with the cell of its class -/
abbrev FnV2 : Type := Option (Str × Str × Arguments × FuncBody × Scope × Addr × List Str × Addr)
def fnV2 (K : PySem.W.Frag) (a : Addr) : FnV2 := match K.lookup a with
  | some ⟨_, _, .func fd, _⟩ => some (fd.name, fd.qualname, fd.params, fd.body, fd.scope, fd.globals, fd.closure.map (·.1), fd.builtins)
  | _ => none
structure XD where
  name : Str
  qual : Str
  params : Arguments
  body : List Stmt
  scope : Scope
def XD.val (d : XD) : FnV2 := some (d.name, d.qual, d.params, FuncBody.stmts d.body, d.scope, mainGlobals, [("__class__" : Str)], builtinsNs)
def cellB (K : PySem.W.Frag) (cc D : Addr) : Bool := match K.lookup cc with
  | some ⟨_, _, .cell (some (.ref D')), _⟩ => decide (D' = D)
  | _ => false
def codeB (K : PySem.W.Frag) (c : Addr) (file : Str) : Bool := match K.lookup c with
  | some ⟨_, _, .fields vs, _⟩ => (match (vs[2]? : Option Value) with
    | some (Value.str z _) => file == z
    | _ => false)
  | _ => false
def noneB : Value → Bool
  | .none => true
  | _ => false
def clo1B (K : PySem.W.Frag) (D : Addr) : List (Str × Addr) → Bool
  | [(_, cc)] => cellB K cc D
  | _ => false
def cdB (K : PySem.W.Frag) (q file : Str) : Value → Bool
  | .ref c => PySem.W.codeIn K (.ref c) q && codeB K c file
  | _ => false
def q_clo (K : PySem.W.Frag) (a D : Addr) (q file : Str) : Bool := match K.lookup a with
  | some ⟨_, _, .func fd, _⟩ => (noneB fd.defaults && (noneB fd.kwdefaults && decide (fd.annotations = none))) && (cdB K q file fd.code && clo1B K D fd.closure)
  | _ => false
theorem noneB_ok {v : Value} (h : noneB v = true) : v = .none := by
  cases v <;> first | rfl | cases h
theorem cellB_ok {K : PySem.W.Frag} {cc D : Addr} (h : cellB K cc D = true) : ∃ oc od sl, K.lookup cc = some ⟨oc, od, .cell (some (.ref D)), sl⟩ := by
  unfold cellB at h
  split at h
  · rename_i oc od D' sl ho
    rw [of_decide_eq_true h] at ho
    exact ⟨oc, od, sl, ho⟩
  · cases h
theorem codeB_ok {K : PySem.W.Frag} {c : Addr} {file : Str} (h : codeB K c file = true) : ∃ (oc : Value) (od : Option Addr) (sl : Array (Option Value)) (vs : Array Value) (z : Str) (tf : Tok), K.lookup c = some ⟨oc, od, .fields vs, sl⟩ ∧ vs[2]? = some (.str z tf) ∧ (file == z) = true := by
  unfold codeB at h
  split at h
  · rename_i oc od vs sl ho
    split at h
    · rename_i z tf e
      exact ⟨oc, od, sl, vs, z, tf, ho, e, h⟩
    · cases h
  · cases h
theorem clo_ok {P : Program} {K : PySem.W.Frag} {d : XD} {a D : Addr} (e : fnV2 K a = d.val) (c : q_clo K a D d.qual P.main.file = true) (tp : (P.main.scope.names.lookup ("super" : Str)).isSome = false) :
    ∃ cl cd fd, CloD P K ⟨d.name, d.qual, d.params, d.body, d.scope, cl, cd⟩ D a fd := by
  unfold fnV2 at e
  unfold q_clo at c
  cases q : K.lookup a with
  | none =>
    rw [q] at c
    cases c
  | some o =>
    obtain ⟨oc, od, dt, osl⟩ := o
    rw [q] at c e
    cases dt with
    | func fd =>
      obtain ⟨n1, n2, n3, n4, n5, n6, n7, n8, n9, n10, n11, n12, n13, n14, n15⟩ := fd
      have e2 : (some (n1, n2, n3, n4, n5, n6, n7.map (·.1), n15) : FnV2) = some (d.name, d.qual, d.params, FuncBody.stmts d.body, d.scope, mainGlobals, [("__class__" : Str)], builtinsNs) := e
      simp only [Option.some.injEq, Prod.mk.injEq] at e2
      obtain ⟨h1, h2, h3, h4, h5, h6, h7, h8⟩ := e2
      subst h1 h2 h3 h4 h5 h6 h8
      have c2 : ((noneB n8 && (noneB n9 && decide (n12 = none))) && (cdB K d.qual P.main.file n13 && clo1B K D n7)) = true := c
      obtain ⟨k1, k2⟩ := ba c2
      obtain ⟨k3, k4⟩ := ba k1
      obtain ⟨k5, k6⟩ := ba k4
      obtain ⟨k7, k8⟩ := ba k2
      have e8 := noneB_ok k3
      have e9 := noneB_ok k5
      have e12 := of_decide_eq_true k6
      subst e8 e9 e12
      cases n13 with
      | ref cd =>
        obtain ⟨m1, m2⟩ := ba (show (PySem.W.codeIn K (.ref cd) d.qual && codeB K cd P.main.file) = true from k7)
        cases n7 with
        | nil => cases h7
        | cons p r =>
          cases r with
          | cons p2 r => cases k8
          | nil =>
            obtain ⟨x, cc⟩ := p
            have ex : x = "__class__" := by
              have h7 : [x] = [("__class__" : Str)] := h7
              exact List.cons.inj h7 |>.1
            subst ex
            obtain ⟨b1, b2, b3, b4⟩ := cellB_ok (show cellB K cc D = true from k8)
            exact ⟨[("__class__", cc)], cd, _, ⟨⟨oc, od, osl, n10, n11, n14, rfl, q⟩, m1, ⟨cc, b1, b2, b3, rfl, b4⟩, codeB_ok m2, tp⟩⟩
      | _ => cases k7
    | _ => cases c
theorem clo_binds {P : Program} {K : PySem.W.Frag} {F : NdefX.NF} {D a : Addr} {fd : FuncData} {ps : List Str} (c : CloD P K F D a fd) (h : ∀ (doc pm ctv : Value) (us : List Value), us.length = ps.length → bindArgs (NdefX.NF.fd F doc pm ctv) ⟨us, []⟩ = pure (ps.zip us)) : Binds K fd ps [] := by
  obtain ⟨_, _, _, doc, pm, ctv, e, _⟩ := c.lk
  rw [e]
  exact .all (h doc pm ctv)
end HX

set_option maxRecDepth 100000
namespace LW
open PySem PySem.Spec PyProof.Rows L2 DL GenW
local macro_rules | `(tactic| exists "side") => `(tactic| first | assumption | omega | decide | rfl | (simp only [List.length_cons, List.length_nil, List.length_append]; omega) | (apply mulw_small <;> omega) | (apply divx_small <;> omega) | (apply divx_of; omega; assumption) | (with_reducible apply cpow_small <;> decide))
local macro_rules | `(tactic| exists "s") => `(tactic| ((repeat' (first | rfl | apply And.intro | apply Exists.intro)) <;> (try exists "side")))
local macro_rules | `(tactic| exists "d") => `(tactic| first
  | with_reducible apply den_int
  | with_reducible apply den_bl
  | with_reducible apply den_str
  | with_reducible apply den_non
  | with_reducible apply pu_int
  | with_reducible apply da_nil
  | with_reducible apply po_no
  | ((with_reducible apply den_var); rfl)
  | ((with_reducible apply pu_var); rfl)
  | ((with_reducible apply dl_var); rfl)
  | ((with_reducible apply da_cons) <;> exists "d")
  | ((with_reducible apply po_part) <;> exists "d")
  | (with_reducible apply op_I0)
  | (with_reducible apply op_I0b)
  | ((with_reducible apply op_I); try exists "side")
  | (with_reducible apply op_eqI)
  | (with_reducible apply op_neI)
  | (with_reducible apply op_eqB)
  | (with_reducible apply op_neB)
  | (with_reducible apply op_eqS)
  | (with_reducible apply op_neS)
  | (with_reducible apply DL.un_neg)
  | (with_reducible apply on_int)
  | (with_reducible apply on_abs)
  | (with_reducible apply on_bool)
  | (with_reducible apply on_max)
  | (with_reducible apply on_min)
  | ((with_reducible apply den_ixH); rfl; rfl; decide)
  | ((with_reducible apply den_ixL) <;> exists "d")
  | ((with_reducible apply den_ixLM) <;> exists "d")
  | ((with_reducible apply den_ixT) <;> exists "d")
  | ((with_reducible apply den_op) <;> exists "d")
  | ((with_reducible apply den_un) <;> exists "d")
  | ((with_reducible apply pu_op) <;> exists "d")
  | ((with_reducible apply pu_un) <;> exists "d")
  | ((with_reducible apply den_len) <;> exists "d")
  | ((with_reducible apply den_bits) <;> exists "d")
  | ((with_reducible apply den_cb) <;> exists "d")
  | ((with_reducible apply den_callM); rfl; exists "d"; exists "s"; rfl)
  | ((with_reducible apply den_call); exists "d"; apply spP_v; exists "s")
  | ((with_reducible apply dn_slice) <;> exists "d")
  | ((with_reducible apply den_list) <;> exists "d")
  | (with_reducible apply dn_lst0)
  | ((with_reducible apply dn_lst1) <;> exists "d")
  | ((with_reducible apply dn_lst2) <;> exists "d")
  | ((with_reducible apply dn_lst3) <;> exists "d")
  | ((with_reducible apply dn_cat) <;> exists "d")
  | ((with_reducible apply dn_call); exists "d"; exists "s")
  | ((with_reducible apply dt_test) <;> exists "d")
  | ((with_reducible apply dt_B) <;> exists "d")
  | ((with_reducible apply dt_not) <;> exists "d")
  | ((with_reducible apply dt_and) <;> exists "d")
  | ((with_reducible apply dt_or) <;> exists "d")
  | ((with_reducible apply den_andV) <;> exists "d")
  | ((with_reducible apply den_orV) <;> exists "d")
  | ((with_reducible apply den_notV) <;> exists "d")
  | ((with_reducible apply DenL.q); exists "d")
  | ((with_reducible apply dn_l); exists "d")
  | ((with_reducible apply den_l); exists "d")
  | ((with_reducible apply DenU.q); exists "d")
  | ((with_reducible apply den_u); exists "d")
  | ((with_reducible apply den_n); exists "d"; rfl)
  | exists "side"
  | ((with_reducible intro h_); exists "d"))

local macro_rules | `(tactic| exists "n") => `(tactic| ((try dsimp only [List.set_cons_zero, List.set_cons_succ]); (repeat ((with_reducible apply s_nx); (try dsimp only [List.set_cons_zero, List.set_cons_succ]))); (try with_reducible apply s_seq)))
local macro_rules | `(tactic| exists "if") => `(tactic| ((exists "n"); (with_reducible apply s_if); (exists "d")))
local macro_rules | `(tactic| exists "set") => `(tactic| ((exists "n"); (with_reducible apply s_set); (exists "d")))
local macro_rules | `(tactic| exists "let") => `(tactic| ((exists "n"); (with_reducible apply s_let); (exists "d")))

def top (i : Nat) : Stmt := PySem.Challenge.pw_spotheights_k01_number_texts.main.body.getD i (.Pass ⟨0, 0, 0, 0⟩)
abbrev s__law_pool : Stmt := top 19
abbrev s__law_take : Stmt := top 20
abbrev s_is_short_digits : Stmt := top 14
abbrev s_written_integer : Stmt := top 15
abbrev s_written_number : Stmt := top 16
abbrev s_Ratio___init__ : Stmt := inClass (top 17) 0
abbrev s_Ratio___mul__ : Stmt := inClass (top 17) 5
abbrev s_Ratio___str__ : Stmt := inClass (top 17) 11
abbrev s_Ratio_read : Stmt := inClass (top 17) 14
abbrev s__law_integer : Stmt := top 21
abbrev s__law_common : Stmt := top 22
abbrev s__law_power : Stmt := top 23
abbrev s__law_size : Stmt := top 24
abbrev s__law_lowest : Stmt := top 25
abbrev s__law_drawn : Stmt := top 26
abbrev s__law_written : Stmt := top 27
abbrev s__law_group : Stmt := top 28
abbrev s__law_judged : Stmt := top 29
abbrev s__law_mark : Stmt := top 30
abbrev s__law_long : Stmt := top 31
abbrev s__law_spoilt : Stmt := top 32
abbrev s__law_text : Stmt := top 33
abbrev s__law_right : Stmt := top 34
abbrev s__law_reads : Stmt := top 35
abbrev s__law_fixed : Stmt := top 36
abbrev s_law : Stmt := top 37
abbrev s_BadText___init__ : Stmt := inClass (top 5) 0
/-! the law's numbers: a pool of the script's ints -/
structure Pl where
  gr : List Int
  sm : List Int
  ct : Int
/-- what a pool is -/
structure Pok (p : Pl) : Prop where
  sm : p.sm ≠ []
  lt : ∀ x ∈ p.sm, 0 ≤ x ∧ x < 1000000000000000000
  ct : 0 ≤ p.ct
  gl : p.gr.length ≤ 1000
  sl : p.sm.length ≤ 1000
def pool3 (p : Pl) : List Dv := [⟨tList tInt, p.gr⟩, ⟨tList tInt, p.sm⟩, ⟨tInt, p.ct⟩]
def mix0 (seed c : Int) : Int := (seed * 48271 + c * 69621 + 12345) % 2147483647
def mix1 (m c : Int) : Int := (m * m + c * 40692 + 7) % 2147483399
def mix2 (m seed : Int) : Int := (m * m + seed + 3) % 2147483563
def seedOf (p : Pl) : Int := (p.sm[((p.ct.fdiv 4) % (p.sm.length : Int)).toNat]?).getD 0
/-- one number below m, and the pool behind -/
def take (p : Pl) (m : Int) : Int × Pl :=
  if m < 2 then (0, p) else
  match p.gr with
  | v :: r => (v % m, { p with gr := if 0 < v.fdiv m then v.fdiv m :: r else r })
  | [] => ((mix2 (mix1 (mix0 (seedOf p) p.ct) p.ct) (seedOf p)).fdiv 7 % m, { p with ct := p.ct + 1 })
theorem take_lt {p : Pl} {m : Int} (h : 2 ≤ m) : 0 ≤ (take p m).1 ∧ (take p m).1 < m := by
  unfold take
  rw [if_neg (by omega)]
  split
  · exact ⟨Int.emod_nonneg _ (by omega), Int.emod_lt_of_pos _ (by omega)⟩
  · exact ⟨Int.emod_nonneg _ (by omega), Int.emod_lt_of_pos _ (by omega)⟩
theorem take_ok {p : Pl} {m : Int} (h : Pok p) : Pok (take p m).2 := by
  unfold take
  split
  · exact h
  · split
    · rename_i v r e
      refine ⟨h.sm, h.lt, h.ct, ?_, h.sl⟩
      have := h.gl
      rw [e, List.length_cons] at this
      show (if 0 < v.fdiv m then v.fdiv m :: r else r).length ≤ 1000
      split
      · rw [List.length_cons]
        omega
      · omega
    · exact ⟨h.sm, h.lt, by have := h.ct; show 0 ≤ p.ct + 1; omega, h.gl, h.sl⟩
theorem take_ct {p : Pl} {m : Int} : (take p m).2.ct ≤ p.ct + 1 := by
  unfold take
  split
  · show p.ct ≤ p.ct + 1; omega
  · split
    · show p.ct ≤ p.ct + 1; omega
    · exact Int.le_refl _
def poolSplit (ns : List Int) : List Int × List Int := ((ns.map iabs).filter fun x => decide (1000000000000000000 ≤ x), (ns.map iabs).filter fun x => !decide (1000000000000000000 ≤ x))
/-- the pool of a script -/
def pool (ns : List Int) : Pl := ⟨(poolSplit ns).1, if (poolSplit ns).2 = [] then [((poolSplit ns).1.length : Int)] else (poolSplit ns).2, 0⟩
theorem poolSplit_len (ns : List Int) : (poolSplit ns).1.length ≤ ns.length ∧ (poolSplit ns).2.length ≤ ns.length := by
  unfold poolSplit
  constructor
  · exact Nat.le_trans (List.length_filter_le _ _) (by rw [List.length_map]; exact Nat.le_refl _)
  · exact Nat.le_trans (List.length_filter_le _ _) (by rw [List.length_map]; exact Nat.le_refl _)
theorem take_snoc {α : Type} {xs : List α} {n : Nat} {x : α} (h : xs[n]? = some x) : xs.take (n + 1) = xs.take n ++ [x] := by
  rw [List.take_add_one, h] <;> rfl
theorem poolSplit_yes {ns : List Int} {n : Nat} {x : Int} (h : ns[n]? = some x) (hc : 1000000000000000000 ≤ iabs x) : poolSplit (ns.take (n + 1)) = ((poolSplit (ns.take n)).1 ++ [iabs x], (poolSplit (ns.take n)).2) := by
  rw [take_snoc h]
  unfold poolSplit
  simp [List.filter_append, hc]
theorem poolSplit_no {ns : List Int} {n : Nat} {x : Int} (h : ns[n]? = some x) (hc : ¬ 1000000000000000000 ≤ iabs x) : poolSplit (ns.take (n + 1)) = ((poolSplit (ns.take n)).1, (poolSplit (ns.take n)).2 ++ [iabs x]) := by
  rw [take_snoc h]
  unfold poolSplit
  simp [List.filter_append, hc]
theorem take_low {p : Pl} {m : Int} (h : m < 2) : take p m = (0, p) := by
  unfold take
  rw [if_pos h]
theorem take_yes {v m ct : Int} {r sm : List Int} (h : 2 ≤ m) (hc : 0 < v.fdiv m) : take ⟨v :: r, sm, ct⟩ m = (v % m, ⟨v.fdiv m :: r, sm, ct⟩) := by
  unfold take
  rw [if_neg (by omega)]
  show (v % m, (⟨if 0 < v.fdiv m then v.fdiv m :: r else r, sm, ct⟩ : Pl)) = _
  rw [if_pos hc]
theorem take_no {v m ct : Int} {r sm : List Int} (h : 2 ≤ m) (hc : ¬ 0 < v.fdiv m) : take ⟨v :: r, sm, ct⟩ m = (v % m, ⟨r, sm, ct⟩) := by
  unfold take
  rw [if_neg (by omega)]
  show (v % m, (⟨if 0 < v.fdiv m then v.fdiv m :: r else r, sm, ct⟩ : Pl)) = _
  rw [if_neg hc]
theorem take_nil {m ct : Int} {sm : List Int} (h : 2 ≤ m) : take ⟨[], sm, ct⟩ m = ((mix2 (mix1 (mix0 (seedOf ⟨[], sm, ct⟩) ct) ct) (seedOf ⟨[], sm, ct⟩)).fdiv 7 % m, ⟨[], sm, ct + 1⟩) := by
  unfold take
  rw [if_neg (by omega)]
theorem seed_at {sm : List Int} {ct : Int} (hp : Pok ⟨[], sm, ct⟩) : 0 ≤ ct.fdiv 4 % (sm.length : Int) ∧ sm[(ct.fdiv 4 % (sm.length : Int)).toNat]? = some (seedOf ⟨[], sm, ct⟩) ∧ 0 ≤ seedOf ⟨[], sm, ct⟩ ∧ seedOf ⟨[], sm, ct⟩ < 1000000000000000000 := by
  have hl : 0 < sm.length := List.length_pos_iff.mpr hp.sm
  have h0 : 0 ≤ ct.fdiv 4 % (sm.length : Int) := Int.emod_nonneg _ (by omega)
  have h1 : ct.fdiv 4 % (sm.length : Int) < (sm.length : Int) := Int.emod_lt_of_pos _ (by omega)
  have h2 : (ct.fdiv 4 % (sm.length : Int)).toNat < sm.length := by omega
  have e : sm[(ct.fdiv 4 % (sm.length : Int)).toNat]? = some sm[(ct.fdiv 4 % (sm.length : Int)).toNat] := List.getElem?_eq_getElem h2
  have e2 : seedOf ⟨[], sm, ct⟩ = sm[(ct.fdiv 4 % (sm.length : Int)).toNat] := by
    show (sm[(ct.fdiv 4 % (sm.length : Int)).toNat]?).getD 0 = _
    rw [e] <;> rfl
  rw [e2]
  exact ⟨h0, e, hp.lt _ (List.getElem_mem h2)⟩
theorem emod_r (a : Int) {m : Int} (h : 0 < m) : 0 ≤ a % m ∧ a % m < m := ⟨Int.emod_nonneg _ (by omega), Int.emod_lt_of_pos _ h⟩

abbrev S_take : List Dv → List Dv → List Dv → Dv → Prop := fun ps ds ps' r => ∃ p m, ps = pool3 p ∧ ds = [⟨tInt, m⟩] ∧ Pok p ∧ p.ct < 1000000000 ∧ m.natAbs.log2 < 9000 ∧ ps' = pool3 (take p m).2 ∧ r = ⟨tInt, (take p m).1⟩
abbrev S_pool (K : PySem.W.Frag) : List Dv → List Dv → Prop := fun ds r => ∃ ns : List Int, ds = [⟨tScr K, ns⟩] ∧ ns.length ≤ 63 ∧ r = pool3 (pool ns)
/-! fractions -/
/-- an int of at most n bits -/
def Bd (n : Nat) (x : Int) : Prop := x.natAbs < 2 ^ n
theorem Bd.mono {n m : Nat} {x : Int} (h : Bd n x) (k : n ≤ m) : Bd m x := Nat.lt_of_lt_of_le h (Nat.pow_le_pow_right (by decide) k)
theorem Bd.mul {n m : Nat} {x y : Int} (h : Bd n x) (k : Bd m y) : Bd (n + m) (x * y) := wide_lt h k
theorem Bd.add {n : Nat} {x y : Int} (h : Bd n x) (k : Bd n y) : Bd (n + 1) (x + y) := by
  unfold Bd at *
  rw [Nat.pow_succ]
  omega
theorem Bd.sub {n : Nat} {x y : Int} (h : Bd n x) (k : Bd n y) : Bd (n + 1) (x - y) := by
  unfold Bd at *
  rw [Nat.pow_succ]
  omega
theorem Bd.neg {n : Nat} {x : Int} (h : Bd n x) : Bd n (-x) := by
  unfold Bd at *
  omega
theorem Bd.abs {n : Nat} {x : Int} (h : Bd n x) : Bd n (iabs x) := by
  unfold Bd iabs at *
  split <;> omega
theorem Bd.le {n : Nat} {x y : Int} (h : Bd n y) (k : x.natAbs ≤ y.natAbs) : Bd n x := Nat.lt_of_le_of_lt k h
theorem Bd.one : Bd 1 1 := by
  unfold Bd
  decide
theorem Bd.zero {n : Nat} : Bd n 0 := Nat.pos_of_ne_zero (by simp)
theorem Bd.mulW {n m : Nat} {x y : Int} (h : Bd n x) (k : Bd m y) (hn : 0 < n) (hm : 0 < m) (e : n + m ≤ 1000000) : CMulW x y := wide_mul h k hn hm e
theorem Bd.log {n m : Nat} {x : Int} (h : Bd n x) (hn : 0 < n) (e : n ≤ m) : x.natAbs.log2 < m := Nat.lt_of_lt_of_le (PySem.Flt.log2_lt_of hn h) e
/-- the divisor that lowers n over d -/
def cmn (n d : Int) : Int := if d < 0 then -((Nat.gcd n.natAbs d.natAbs : Nat) : Int) else ((Nat.gcd n.natAbs d.natAbs : Nat) : Int)
def nrm (n d : Int) : Rt := ⟨n.fdiv (cmn n d), d.fdiv (cmn n d)⟩
theorem cmn_ne {n d : Int} (h : d ≠ 0) : cmn n d ≠ 0 := by
  have : Nat.gcd n.natAbs d.natAbs ≠ 0 := fun e => by
    have := Nat.eq_zero_of_gcd_eq_zero_right e
    omega
  unfold cmn
  split <;> omega
theorem cmn_abs (n d : Int) : (cmn n d).natAbs = Nat.gcd n.natAbs d.natAbs := by
  unfold cmn
  split <;> omega
theorem cmn_le {n d : Int} (h : d ≠ 0) : (cmn n d).natAbs ≤ d.natAbs := by
  rw [cmn_abs]
  exact Nat.gcd_le_right _ (by omega)
theorem cmn_dvd_l (n d : Int) : cmn n d ∣ n := by
  refine Int.natAbs_dvd_natAbs.mp ?_
  rw [cmn_abs]
  exact Nat.gcd_dvd_left _ _
theorem cmn_dvd_r (n d : Int) : cmn n d ∣ d := by
  refine Int.natAbs_dvd_natAbs.mp ?_
  rw [cmn_abs]
  exact Nat.gcd_dvd_right _ _
theorem fdiv_of_dvd {a b : Int} (h : b ∣ a) : a.fdiv b = a / b := (Int.fdiv_eq_ediv_of_dvd h)
/-- the lowered pair, times the divisor, is the pair -/
theorem nrm_mul {n d : Int} (h : d ≠ 0) : (nrm n d).top * cmn n d = n ∧ (nrm n d).bot * cmn n d = d := by
  unfold nrm
  constructor
  · show n.fdiv (cmn n d) * cmn n d = n
    rw [fdiv_of_dvd (cmn_dvd_l n d)]
    exact Int.ediv_mul_cancel (cmn_dvd_l n d)
  · show d.fdiv (cmn n d) * cmn n d = d
    rw [fdiv_of_dvd (cmn_dvd_r n d)]
    exact Int.ediv_mul_cancel (cmn_dvd_r n d)
/-- the value -/
theorem nrm_val {n d : Int} (h : d ≠ 0) : (nrm n d).top * d = n * (nrm n d).bot := by
  obtain ⟨h1, h2⟩ := nrm_mul (n := n) h
  generalize (nrm n d).top = t at *
  generalize (nrm n d).bot = b at *
  generalize cmn n d = c at *
  subst h1 h2
  rw [← Int.mul_assoc, Int.mul_right_comm]
theorem nrm_pos {n d : Int} (h : d ≠ 0) : 0 < (nrm n d).bot := by
  obtain ⟨_, h2⟩ := nrm_mul (n := n) h
  have hc := cmn_ne (n := n) h
  have hs : (0 < d → 0 < cmn n d) ∧ (d < 0 → cmn n d < 0) := by
    have := cmn_abs n d
    unfold cmn at *
    split <;> constructor <;> intro <;> first | omega | (split at hc <;> omega)
  rcases Int.lt_or_gt_of_ne h with hd | hd
  · have := hs.2 hd
    apply Int.not_le.mp
    intro hb
    have : 0 ≤ (nrm n d).bot * cmn n d := Int.mul_nonneg_of_nonpos_of_nonpos hb (by omega)
    omega
  · have := hs.1 hd
    apply Int.not_le.mp
    intro hb
    have : (nrm n d).bot * cmn n d ≤ 0 := Int.mul_nonpos_of_nonpos_of_nonneg hb (by omega)
    omega
theorem nrm_cop {n d : Int} (h : d ≠ 0) : Nat.gcd (nrm n d).top.natAbs (nrm n d).bot.natAbs = 1 := by
  have e1 : (nrm n d).top.natAbs = n.natAbs / Nat.gcd n.natAbs d.natAbs := by
    show (n.fdiv (cmn n d)).natAbs = _
    rw [fdiv_of_dvd (cmn_dvd_l n d), Int.natAbs_ediv_of_dvd (cmn_dvd_l n d), cmn_abs]
  have e2 : (nrm n d).bot.natAbs = d.natAbs / Nat.gcd n.natAbs d.natAbs := by
    show (d.fdiv (cmn n d)).natAbs = _
    rw [fdiv_of_dvd (cmn_dvd_r n d), Int.natAbs_ediv_of_dvd (cmn_dvd_r n d), cmn_abs]
  rw [e1, e2]
  exact Nat.coprime_div_gcd_div_gcd (Nat.gcd_pos_of_pos_right _ (by omega))
theorem nrm_top_le {n d : Int} : (nrm n d).top.natAbs ≤ n.natAbs := by
  show (n.fdiv (cmn n d)).natAbs ≤ _
  rw [fdiv_of_dvd (cmn_dvd_l n d), Int.natAbs_ediv_of_dvd (cmn_dvd_l n d)]
  exact Nat.div_le_self _ _
theorem nrm_bot_le {n d : Int} : (nrm n d).bot.natAbs ≤ d.natAbs := by
  show (d.fdiv (cmn n d)).natAbs ≤ _
  rw [fdiv_of_dvd (cmn_dvd_r n d), Int.natAbs_ediv_of_dvd (cmn_dvd_r n d)]
  exact Nat.div_le_self _ _

/-! the mirrors -/
theorem value_of {t b n d a c : Int} (h : d ≠ 0) (h1 : t * d = n * b) (h2 : n * c = a * d) : t * c = a * b := by
  have : (t * c - a * b) * d = 0 := by grind
  rcases Int.mul_eq_zero.mp this with h | h <;> omega
structure Rb (q : Rt) : Prop where
  t : Bd 1500 q.top
  b : Bd 1500 q.bot
  n : q.bot ≠ 0
theorem Bd.nat {n : Nat} {x : Int} (h : Bd n x) : x.natAbs < 2 ^ n := h
theorem nrm_bd {n : Nat} {a b : Int} (h : Bd n a) (k : Bd n b) : Bd n (nrm a b).top ∧ Bd n (nrm a b).bot := ⟨Bd.le h nrm_top_le, Bd.le k nrm_bot_le⟩
theorem nrm_rb {a b : Int} (h : Bd 1500 a) (k : Bd 1500 b) (z : b ≠ 0) : Rb (nrm a b) := ⟨(nrm_bd h k).1, (nrm_bd h k).2, by
  have := nrm_pos (n := a) z
  omega⟩
theorem bt_mulW {x y : Int} (h : Bd 1500 x) (k : Bd 1500 y) : CMulW x y := h.mulW k (by decide) (by decide) (by decide)
theorem bt_mul {x y : Int} (h : Bd 1500 x) (k : Bd 1500 y) : Bd 4000 (x * y) := (h.mul k).mono (by decide)
theorem bt_add {x y z w : Int} (h : Bd 1500 x) (k : Bd 1500 y) (h' : Bd 1500 z) (k' : Bd 1500 w) : Bd 4000 (x * y + z * w) := ((h.mul k).add (h'.mul k')).mono (by decide)
theorem bt_sub {x y z w : Int} (h : Bd 1500 x) (k : Bd 1500 y) (h' : Bd 1500 z) (k' : Bd 1500 w) : Bd 4000 (x * y - z * w) := ((h.mul k).sub (h'.mul k')).mono (by decide)
theorem bt_add1 {x z w : Int} (h : Bd 1500 x) (h' : Bd 1500 z) (k' : Bd 1500 w) : Bd 4000 (x + z * w) := Bd.mono (n := 3001) (m := 4000) (Bd.add (n := 3000) (Bd.mono (n := 1500) (m := 3000) h (by decide)) (Bd.mul (n := 1500) (m := 1500) h' k')) (by decide)
theorem bt_sub1 {x z w : Int} (h : Bd 1500 x) (h' : Bd 1500 z) (k' : Bd 1500 w) : Bd 4000 (x - z * w) := Bd.mono (n := 3001) (m := 4000) (Bd.sub (n := 3000) (Bd.mono (n := 1500) (m := 3000) h (by decide)) (Bd.mul (n := 1500) (m := 1500) h' k')) (by decide)
theorem bt_one {x : Int} (h : Bd 1500 x) : Bd 4000 x := h.mono (by decide)
theorem mul_ne {x y : Int} (h : x ≠ 0) (k : y ≠ 0) : x * y ≠ 0 := Int.mul_ne_zero h k
def addR (p q : Rt) : Rt := nrm (p.top * q.bot + q.top * p.bot) (p.bot * q.bot)
def addI (p : Rt) (i : Int) : Rt := nrm (p.top + i * p.bot) p.bot
def subR (p q : Rt) : Rt := nrm (p.top * q.bot - q.top * p.bot) (p.bot * q.bot)
def subI (p : Rt) (i : Int) : Rt := nrm (p.top - i * p.bot) p.bot
def mulR (p q : Rt) : Rt := nrm (p.top * q.top) (p.bot * q.bot)
def mulI (p : Rt) (i : Int) : Rt := nrm (p.top * i) p.bot
def negR (p : Rt) : Rt := nrm (-p.top) p.bot
def absR (p : Rt) : Rt := nrm (iabs p.top) p.bot
def overR (p q : Rt) : Rt := nrm (p.top * q.bot) (p.bot * q.top)
def overI (p : Rt) (i : Int) : Rt := nrm p.top (p.bot * i)
def signR (p : Rt) : Int := if p.top < 0 then -1 else if p.top > 0 then 1 else 0
abbrev S_init : List Dv → List (Str × Dv) → Prop := fun ds fs => ∃ n d, ds = [⟨tInt, n⟩, ⟨tInt, d⟩] ∧ d ≠ 0 ∧ Bd 4000 n ∧ Bd 4000 d ∧ fs = [(("top" : Str), (⟨tInt, (nrm n d).top⟩ : Dv)), (("bottom" : Str), (⟨tInt, (nrm n d).bot⟩ : Dv))]
abbrev R_init (Z : Addr) : List Dv → Value → Prop := fun ds c => ∃ n, ds = [⟨tInt, n⟩, ⟨tInt, 0⟩] ∧ c = .ref Z
abbrev S_two (C : Addr) (fR : Rt → Rt → Rt) (fI : Rt → Int → Rt) : List Dv → Dv → Prop := fun ds r => (∃ p q, ds = [⟨tRat C, p⟩, ⟨tRat C, q⟩] ∧ Rb p ∧ Rb q ∧ r = ⟨tRat C, fR p q⟩) ∨ (∃ p i, ds = [⟨tRat C, p⟩, ⟨tInt, i⟩] ∧ Rb p ∧ Bd 1500 i ∧ r = ⟨tRat C, fI p i⟩)
abbrev S_twoI (C : Addr) (fI : Rt → Int → Rt) : List Dv → Dv → Prop := fun ds r => ∃ p i, ds = [⟨tRat C, p⟩, ⟨tInt, i⟩] ∧ Rb p ∧ Bd 1500 i ∧ r = ⟨tRat C, fI p i⟩
abbrev S_oneR (C : Addr) (g : Rt → Rt) : List Dv → Dv → Prop := fun ds r => ∃ p, ds = [⟨tRat C, p⟩] ∧ Rb p ∧ r = ⟨tRat C, g p⟩
abbrev S_eq (C : Addr) : List Dv → Dv → Prop := fun ds r => (∃ p q, ds = [⟨tRat C, p⟩, ⟨tRat C, q⟩] ∧ r = ⟨tBool, decide (p.top = q.top) && decide (p.bot = q.bot)⟩) ∨ (∃ p i, ds = [⟨tRat C, p⟩, ⟨tInt, i⟩] ∧ r = ⟨tBool, decide (p.top = i) && decide (p.bot = 1)⟩)
abbrev S_bool (C : Addr) : List Dv → Dv → Prop := fun ds r => ∃ p, ds = [⟨tRat C, p⟩] ∧ r = ⟨tBool, p.top != 0⟩
abbrev S_over (C : Addr) : List Dv → Dv → Prop := fun ds r => (∃ p q, ds = [⟨tRat C, p⟩, ⟨tRat C, q⟩] ∧ Rb p ∧ Rb q ∧ q.top ≠ 0 ∧ r = ⟨tRat C, overR p q⟩) ∨ (∃ p i, ds = [⟨tRat C, p⟩, ⟨tInt, i⟩] ∧ Rb p ∧ Bd 1500 i ∧ i ≠ 0 ∧ r = ⟨tRat C, overI p i⟩)
abbrev R_over (C Z : Addr) : List Dv → Value → Prop := fun ds c => (∃ p q, ds = [⟨tRat C, p⟩, ⟨tRat C, q⟩] ∧ Rb p ∧ Rb q ∧ q.top = 0 ∧ c = .ref Z) ∨ (∃ p, ds = [⟨tRat C, p⟩, ⟨tInt, 0⟩] ∧ Rb p ∧ c = .ref Z)
abbrev S_sign (C : Addr) : List Dv → Dv → Prop := fun ds r => ∃ p, ds = [⟨tRat C, p⟩] ∧ r = ⟨tInt, signR p⟩
abbrev S_cmp (C : Addr) : List Dv → Dv → Prop := fun ds r => ∃ p q, ds = [⟨tRat C, p⟩, ⟨tRat C, q⟩] ∧ Rb p ∧ Rb q ∧ r = ⟨tInt, signR (subR p q)⟩
abbrev S_isint : List Dv → Dv → Prop := fun ds r => ∃ i : Int, ds = [⟨tInt, i⟩] ∧ r = ⟨tBool, true⟩
theorem cmn_div {m n d : Int} (h : d ≠ 0) (hb : Bd 4000 d) : CDivX m (cmn n d) := ⟨cmn_ne h, Bd.log (n := 4000) (m := 9000) (Bd.le hb (cmn_le h)) (by decide) (by decide)⟩
/-! the numbers that the law draws -/
def sizeLoop (p : Pl) : Nat → Int × Pl
  | 0 => (0, p)
  | n + 1 => ((sizeLoop p n).1 * (10 : Int) ^ (9 : Int).toNat + (take (sizeLoop p n).2 ((10 : Int) ^ (9 : Int).toNat)).1, (take (sizeLoop p n).2 ((10 : Int) ^ (9 : Int).toNat)).2)
def size (p : Pl) : Int × Pl :=
  if (take p 4).1 = 0 then take (take p 4).2 10 else if (take p 4).1 = 1 then take (take p 4).2 1000 else if (take p 4).1 = 2 then take (take p 4).2 ((10 : Int) ^ (60 : Int).toNat)
  else ((sizeLoop (take p 4).2 7).1 % (10 : Int) ^ (60 : Int).toNat, (sizeLoop (take p 4).2 7).2)
theorem p9 : (10 : Int) ^ (9 : Int).toNat = 1000000000 := by decide
theorem p60 : (10 : Int) ^ (60 : Int).toNat = 1000000000000000000000000000000000000000000000000000000000000 := by decide +kernel
theorem p30 : (10 : Int) ^ (30 : Int).toNat = 1000000000000000000000000000000 := by decide +kernel
theorem p58 : (10 : Int) ^ (58 : Int).toNat = 10000000000000000000000000000000000000000000000000000000000 := by decide +kernel
theorem sizeLoop_ok {p : Pl} (h : Pok p) : ∀ n, Pok (sizeLoop p n).2 ∧ (sizeLoop p n).2.ct ≤ p.ct + n ∧ 0 ≤ (sizeLoop p n).1 ∧ (sizeLoop p n).1 < 1000000000 ^ n
  | 0 => ⟨h, by show p.ct ≤ p.ct + ((0 : Nat) : Int); omega, Int.le_refl 0, by show (0 : Int) < 1000000000 ^ 0; decide⟩
  | n + 1 => by
    obtain ⟨h1, h2, h3, h4⟩ := sizeLoop_ok h n
    have t1 := take_lt (p := (sizeLoop p n).2) (m := (10 : Int) ^ (9 : Int).toNat) (by rw [p9]; decide)
    have t2 := take_ct (p := (sizeLoop p n).2) (m := (10 : Int) ^ (9 : Int).toNat)
    refine ⟨take_ok h1, ?_, ?_, ?_⟩
    · show (take (sizeLoop p n).2 ((10 : Int) ^ (9 : Int).toNat)).2.ct ≤ p.ct + ((n + 1 : Nat) : Int)
      omega
    · show 0 ≤ (sizeLoop p n).1 * (10 : Int) ^ (9 : Int).toNat + (take (sizeLoop p n).2 ((10 : Int) ^ (9 : Int).toNat)).1
      rw [p9] at t1 ⊢
      omega
    · show (sizeLoop p n).1 * (10 : Int) ^ (9 : Int).toNat + (take (sizeLoop p n).2 ((10 : Int) ^ (9 : Int).toNat)).1 < 1000000000 ^ (n + 1)
      rw [p9] at t1 ⊢
      rw [Int.pow_succ]
      omega
theorem size_ok {p : Pl} (h : Pok p) : Pok (size p).2 ∧ (size p).2.ct ≤ p.ct + 8 ∧ 0 ≤ (size p).1 ∧ (size p).1 < (10 : Int) ^ (60 : Int).toNat := by
  have c1 := take_ct (p := p) (m := 4)
  have o1 := take_ok (m := 4) h
  unfold size
  split
  · have := take_ct (p := (take p 4).2) (m := 10)
    have l := take_lt (p := (take p 4).2) (m := 10) (by decide)
    rw [p60]
    exact ⟨take_ok o1, by omega, l.1, by omega⟩
  · split
    · have := take_ct (p := (take p 4).2) (m := 1000)
      have l := take_lt (p := (take p 4).2) (m := 1000) (by decide)
      rw [p60]
      exact ⟨take_ok o1, by omega, l.1, by omega⟩
    · split
      · have := take_ct (p := (take p 4).2) (m := (10 : Int) ^ (60 : Int).toNat)
        have l := take_lt (p := (take p 4).2) (m := (10 : Int) ^ (60 : Int).toNat) (by rw [p60]; decide)
        exact ⟨take_ok o1, by omega, l.1, l.2⟩
      · obtain ⟨h1, h2, _, _⟩ := sizeLoop_ok o1 7
        refine ⟨h1, by show (sizeLoop (take p 4).2 7).2.ct ≤ _; omega, Int.emod_nonneg _ (by rw [p60]; decide), Int.emod_lt_of_pos _ (by rw [p60]; decide)⟩
theorem bd_of {n : Nat} {x m : Int} (h0 : 0 ≤ x) (h : x < m) (hm : m ≤ 2 ^ n) : Bd n x := by
  unfold Bd
  have : ((2 ^ n : Nat) : Int) = (2 : Int) ^ n := by simp
  omega
theorem size_bd {p : Pl} (h : Pok p) : Bd 200 (size p).1 := bd_of (size_ok h).2.2.1 (size_ok h).2.2.2 (by rw [p60]; decide +kernel)
theorem bd_fdiv {n : Nat} {a b : Int} (h : Bd n a) : Bd n (a.fdiv b) := Bd.le h (Int.natAbs_fdiv_le_natAbs a b)
theorem bd_emod {n m : Nat} {a b : Int} (h : Bd n b) (hb : b ≠ 0) : Bd n (a % b) := by
  unfold Bd at *
  have h0 := Int.emod_nonneg a hb
  have h1 : a % b < b.natAbs := Int.emod_lt a hb
  omega
theorem bd_max {n : Nat} {a b : Int} (h : Bd n a) (k : Bd n b) : Bd n (imax a b) := by
  unfold imax
  split
  · exact k
  · exact h
/-! Euclid -/
structure Eu (g L : Nat) (n : Nat) (s : Int × Int) : Prop where
  a : 0 ≤ s.1
  b : 0 ≤ s.2
  ab : Bd 4000 s.1
  bb : Bd 4000 s.2
  g : Nat.gcd s.1.natAbs s.2.natAbs = g
  lt : 1 ≤ n → s.2 < s.1
  pr : 1 ≤ n → s.1 * s.2 * 2 ^ (n - 1) < 2 ^ (2 * L)
  st : n = 0 → s.2 < 2 ^ L
theorem eu_next {g L n : Nat} {s : Int × Int} (h : Eu g L n s) (hz : s.2 ≠ 0) : Eu g L (n + 1) (s.2, s.1 % s.2) := by
  obtain ⟨a, b⟩ := s
  have ha : 0 ≤ a := h.a
  have hb : 0 ≤ b := h.b
  have hz : b ≠ 0 := hz
  have h0 : 0 ≤ a % b := Int.emod_nonneg a hz
  have h1 : a % b < b := Int.emod_lt_of_pos a (by omega)
  refine ⟨hb, h0, h.bb, bd_emod (m := 0) h.bb hz, ?_, fun _ => h1, fun _ => ?_, fun e => by omega⟩
  · have e : (a % b).natAbs = a.natAbs % b.natAbs := by
      obtain ⟨x, rfl⟩ := Int.eq_ofNat_of_zero_le ha
      obtain ⟨y, rfl⟩ := Int.eq_ofNat_of_zero_le hb
      rw [← Int.natCast_emod]
      rfl
    show Nat.gcd b.natAbs (a % b).natAbs = g
    rw [e, Nat.gcd_comm, ← Nat.gcd_rec, Nat.gcd_comm]
    exact h.g
  · show b * (a % b) * 2 ^ n < 2 ^ (2 * L)
    cases n with
    | zero =>
      have hl := h.st rfl
      have e : (2 : Int) ^ (2 * L) = 2 ^ L * 2 ^ L := by rw [Nat.two_mul, Int.pow_add]
      have : b * (a % b) < b * b ∨ b * (a % b) ≤ b * b := .inr (Int.mul_le_mul_of_nonneg_left (by omega) hb)
      have h3 : b * (a % b) < b * b := Int.mul_lt_mul_of_pos_left h1 (by omega)
      have h4 : b * b ≤ 2 ^ L * 2 ^ L := Int.mul_le_mul (by omega) (by omega) hb (by omega)
      rw [e, Int.pow_zero, Int.mul_one]
      omega
    | succ n =>
      have hl := h.pr (by omega)
      have hlt : b < a := h.lt (by omega)
      have hl : a * b * 2 ^ n < 2 ^ (2 * L) := hl
      have h5 : 2 * (a % b) ≤ a := by
        have e := Int.mul_ediv_add_emod a b
        have hq : 1 ≤ a / b := by
          have := Int.ediv_mul_le a hz
          have h6 : 1 ≤ a / b := (Int.le_ediv_iff_mul_le (by omega)).mpr (by omega)
          omega
        have : b * 1 ≤ b * (a / b) := Int.mul_le_mul_of_nonneg_left hq hb
        omega
      have hp : (0 : Int) ≤ 2 ^ n := Int.pow_nonneg (by decide)
      have h7 : b * (2 * (a % b)) ≤ b * a := Int.mul_le_mul_of_nonneg_left h5 hb
      have h8 : b * (2 * (a % b)) * 2 ^ n ≤ b * a * 2 ^ n := Int.mul_le_mul_of_nonneg_right h7 hp
      have e : b * (a % b) * 2 ^ (n + 1) = b * (2 * (a % b)) * 2 ^ n := by
        rw [Int.pow_succ]
        grind
      rw [e]
      have : b * a * 2 ^ n = a * b * 2 ^ n := by rw [Int.mul_comm b a]
      omega
theorem eu_end {g L n : Nat} {s : Int × Int} (h : Eu g L n s) (hn : n = 2 * L + 2) : s.2 = 0 := by
  have h1 := h.pr (by omega)
  have h2 := h.lt (by omega)
  have hb := h.b
  apply Int.not_lt.mp |> fun f => Int.le_antisymm (f ?_) hb
  intro hp
  have ha : 0 < s.1 := by omega
  have : 1 ≤ s.1 * s.2 := Int.mul_pos ha hp
  have e : n - 1 = 2 * L + 1 := by omega
  rw [e] at h1
  have hq : (0 : Int) < 2 ^ (2 * L) := Int.pow_pos (by decide)
  have h3 : 1 * 2 ^ (2 * L + 1) ≤ s.1 * s.2 * 2 ^ (2 * L + 1) := Int.mul_le_mul_of_nonneg_right this (by rw [Int.pow_succ]; omega)
  rw [Int.pow_succ] at h3 h1
  omega
theorem eu_done {g L n : Nat} {s : Int × Int} (h : Eu g L n s) (hz : s.2 = 0) : s.1 = ((g : Nat) : Int) := by
  have := h.g
  rw [hz] at this
  have ha := h.a
  simp at this
  omega
theorem intBits_lt (x : Int) : x.natAbs < 2 ^ Builtin.Int.intBits x := by
  unfold Builtin.Int.intBits
  split
  · rename_i h
    have : x = 0 := by simpa using h
    subst this
    decide
  · rename_i h
    exact Nat.lt_log2_self
theorem intBits_le {n : Nat} {x : Int} (h : Bd n x) (hn : 0 < n) : Builtin.Int.intBits x ≤ n := by
  unfold Builtin.Int.intBits
  split
  · omega
  · have := PySem.Flt.log2_lt_of hn h
    omega
theorem eu_start {a b : Int} (ha : Bd 4000 a) (hb : Bd 4000 b) : Eu (Nat.gcd a.natAbs b.natAbs) (Builtin.Int.intBits (iabs b)) 0 (iabs a, iabs b) := by
  have e : ∀ x : Int, 0 ≤ iabs x ∧ (iabs x).natAbs = x.natAbs := fun x => by
    unfold iabs
    split <;> omega
  refine ⟨(e a).1, (e b).1, ha.abs, hb.abs, by show Nat.gcd (iabs a).natAbs (iabs b).natAbs = _; rw [(e a).2, (e b).2], fun h => by omega, fun h => by omega, fun _ => ?_⟩
  have := intBits_lt (iabs b)
  have e2 : ((2 ^ (Builtin.Int.intBits (iabs b)) : Nat) : Int) = (2 : Int) ^ (Builtin.Int.intBits (iabs b)) := by simp
  have := (e b).1
  show iabs b < _
  omega
theorem b30 : Bd 100 ((10 : Int) ^ (30 : Int).toNat) := by
  rw [p30]
  unfold Bd
  decide
theorem imax_pos {x : Int} : 1 ≤ imax 1 x := by
  unfold imax
  split <;> omega
theorem m30 {x : Int} : Bd 100 (x % (10 : Int) ^ (30 : Int).toNat) := bd_emod (m := 0) b30 (by rw [p30]; decide)
theorem bd1 {n : Nat} (h : 1 ≤ n) : Bd n 1 := Bd.one.mono h
theorem bd_small {n : Nat} {x : Int} (h0 : 0 ≤ x) (h : x < 128) (hn : 7 ≤ n) : Bd n x := (bd_of (n := 7) (m := 128) h0 h (by decide)).mono hn
abbrev S_common : List Dv → Dv → Prop := fun ds r => ∃ a b, ds = [⟨tInt, a⟩, ⟨tInt, b⟩] ∧ Bd 4000 a ∧ Bd 4000 b ∧ r = ⟨tInt, ((Nat.gcd a.natAbs b.natAbs : Nat) : Int)⟩
abbrev S_size : List Dv → List Dv → List Dv → Dv → Prop := fun ps ds ps' r => ∃ p, ps = pool3 p ∧ ds = [] ∧ Pok p ∧ p.ct < 900000000 ∧ ps' = pool3 (size p).2 ∧ r = ⟨tInt, (size p).1⟩
abbrev P_fr : Pl → List Dv → List Dv → Prop := fun p ps ds => ps = pool3 p ∧ ds = [] ∧ Pok p ∧ p.ct < 800000000
abbrev S_fr : Pl → List Dv → Dv → Prop := fun p ps' r => ∃ (p' : Pl) (ab : Int × Int), ps' = pool3 p' ∧ r = ⟨tPair tInt tInt, ab⟩ ∧ Pok p' ∧ p'.ct ≤ p.ct + 50 ∧ Bd 300 ab.1 ∧ Bd 300 ab.2 ∧ ab.2 ≠ 0
abbrev P_se : Pl × (Int × Int) → List Dv → List Dv → Prop := fun g ps ds => ps = pool3 g.1 ∧ ds = [⟨tPair tInt tInt, g.2⟩] ∧ Pok g.1 ∧ g.1.ct < 700000000 ∧ Bd 300 g.2.1 ∧ Bd 300 g.2.2 ∧ g.2.2 ≠ 0
abbrev S_se : Pl × (Int × Int) → List Dv → Dv → Prop := fun g ps' r => ∃ (p' : Pl) (ab : Int × Int), ps' = pool3 p' ∧ r = ⟨tPair tInt tInt, ab⟩ ∧ Pok p' ∧ p'.ct ≤ g.1.ct + 100 ∧ Bd 300 ab.1 ∧ Bd 300 ab.2 ∧ ab.2 ≠ 0
abbrev S_be : Pl × (Int × Int) → List Dv → Dv → Prop := fun g ps' r => ∃ (p' : Pl) (i : Int), ps' = pool3 p' ∧ r = ⟨tInt, i⟩ ∧ Pok p' ∧ p'.ct ≤ g.1.ct + 100 ∧ Bd 300 i
theorem lt58 {x : Int} (h : iabs x < (10 : Int) ^ (58 : Int).toNat) : Bd 200 x := by
  rw [p58] at h
  unfold Bd
  unfold iabs at h
  have e : (2 : Nat) ^ 200 = 1606938044258990275541962092341162602522202993782792835301376 := by decide
  rw [e]
  split at h <;> omega
theorem pow9_le {n : Nat} (h : n ≤ 8) : (1000000000 : Int) ^ n ≤ 1000000000 ^ 8 := by
  rcases (show n = 0 ∨ n = 1 ∨ n = 2 ∨ n = 3 ∨ n = 4 ∨ n = 5 ∨ n = 6 ∨ n = 7 ∨ n = 8 by omega) with rfl | rfl | rfl | rfl | rfl | rfl | rfl | rfl | rfl <;> decide +kernel
/-! written forms -/
open NumText in
theorem num_back {g : List Nat} (h : AllDigits g) (hz : g.length = 1 ∨ ∃ c r, g = c :: r ∧ 49 ≤ c) : TL.numL (digitsVal g) = g := by
  have hn : ∃ n, g.length = n + 1 ∧ (n = 0 ∨ ∃ c r, g = c :: r ∧ 49 ≤ c) := by
    rcases hz with hz | ⟨c, r, e, hc⟩
    · exact ⟨0, hz, .inl rfl⟩
    · exact ⟨r.length, by rw [e]; rfl, .inr ⟨c, r, e, hc⟩⟩
  obtain ⟨n, e1, e2⟩ := hn
  unfold TL.numL
  rw [toDigits_digitsVal n g e1 h e2, List.map_map]
  have : ∀ l : List Nat, AllDigits l → l.map (Char.toNat ∘ Char.ofNat) = l := by
    intro l
    induction l with
    | nil => intro _; rfl
    | cons c r ih =>
      intro h
      have hc := h.head
      rw [List.map_cons, ih h.tail]
      have : (Char.toNat ∘ Char.ofNat) c = c := by
        show (Char.ofNat c).toNat = c
        have hv : c.isValidChar := .inl (by omega)
        unfold Char.ofNat
        rw [dif_pos hv]
        rfl
      rw [this]
  exact this g h
open NumText in
theorem val_ltN : ∀ (n : Nat) {g : List Nat}, g.length = n → AllDigits g → digitsVal g < 10 ^ n
  | 0, g, e, _ => by
    rw [List.eq_nil_of_length_eq_zero e]
    decide
  | n + 1, g, e, h => by
    have hne : g ≠ [] := by intro z; rw [z] at e; simp at e
    have eg := List.dropLast_concat_getLast hne
    generalize g.dropLast = i at eg
    generalize g.getLast hne = c at eg
    subst eg
    have li : i.length = n := by rw [List.length_append, List.length_singleton] at e; omega
    have h1 := val_ltN n li fun d hd => h d (List.mem_append_left _ hd)
    have hc := h c (List.mem_append_right _ (List.mem_singleton.mpr rfl))
    rw [digitsVal_snoc, Nat.pow_succ]
    omega
open NumText in
theorem val_lt {g : List Nat} (h : AllDigits g) : digitsVal g < 10 ^ g.length := val_ltN _ rfl h
/-- a fraction in lowest terms, written -/
def tailN (q : Int) : List Nat := if q = 1 then [] else 47 :: TL.numL q.toNat
def wrN (p q : Int) : List Nat := intL p ++ tailN q
structure Low (p q : Int) : Prop where
  pos : 0 < q
  cop : Nat.gcd p.natAbs q.natAbs = 1
/-- l is the written form of p / q, of at most 60 digits each -/
structure Canon (l : List Nat) (p q : Int) : Prop where
  low : Low p q
  eq : l = wrN p q
  lp : (TL.numL p.natAbs).length ≤ 60
  lq : (TL.numL q.toNat).length ≤ 60
theorem num47 (n : Nat) : 47 ∉ TL.numL n := TL.numL_free (.inl (by decide))
theorem num45 (n : Nat) : 45 ∉ TL.numL n := TL.numL_free (.inl (by decide))
/-- the text behind its sign -/
def bodyL (l : List Nat) : List Nat := if l.take 1 = [45] then l.drop 1 else l
theorem take1_num {n : Nat} {r : List Nat} : (TL.numL n ++ r).take 1 ≠ [45] := fun h => by
  have hne := TL.numL_ne n
  have hm := num45 n
  cases e : TL.numL n with
  | nil => exact hne e
  | cons c t =>
    rw [e] at h hm
    have h : [c] = [45] := h
    cases h
    exact hm (List.mem_cons_self ..)
theorem wr_body {p q : Int} : (p < 0 ∧ (wrN p q).take 1 = [45] ∧ bodyL (wrN p q) = TL.numL p.natAbs ++ tailN q) ∨ (0 ≤ p ∧ (wrN p q).take 1 ≠ [45] ∧ bodyL (wrN p q) = TL.numL p.natAbs ++ tailN q) := by
  unfold wrN intL
  by_cases h : p < 0
  · rw [if_pos h]
    refine .inl ⟨h, rfl, ?_⟩
    unfold bodyL
    rw [if_pos (show List.take 1 (45 :: TL.numL p.natAbs ++ tailN q) = [45] from rfl)]
    rfl
  · rw [if_neg h]
    refine .inr ⟨by omega, take1_num, ?_⟩
    unfold bodyL
    rw [if_neg take1_num]
theorem tail_no {q : Int} (h : q = 1) : tailN q = [] := if_pos h
theorem tail_yes {q : Int} (h : q ≠ 1) : tailN q = 47 :: TL.numL q.toNat := if_neg h
/-- the law's groups of a written form -/
theorem wr_groups {p q : Int} : splL 47 (TL.numL p.natAbs ++ tailN q) = if q = 1 then [TL.numL p.natAbs] else [TL.numL p.natAbs, TL.numL q.toNat] := by
  by_cases h : q = 1
  · rw [if_pos h, tail_no h, List.append_nil]
    exact TL.spl_last1 (acc := []) (num47 _)
  · rw [if_neg h, tail_yes h]
    have e := TL.spl_part1 (s := 47) (S := []) (p := TL.numL p.natAbs) (rest := TL.numL q.toNat) (acc := []) (num47 _)
    have e2 := TL.spl_last1 (s := 47) (S := []) (p := TL.numL q.toNat) (acc := []) (num47 _)
    show TL.spl [47] 0 [] (TL.numL p.natAbs ++ ([47] ++ TL.numL q.toNat)) = _
    have e3 : TL.spl [47] 0 [] (TL.numL p.natAbs ++ ([47] ++ TL.numL q.toNat)) = ([] ++ TL.numL p.natAbs) :: TL.spl [47] 0 [] (TL.numL q.toNat) := e
    rw [e3, e2]
    rfl
/-- cut and joined again -/
theorem spl_first : ∀ (l acc : List Nat), ∃ g gs, TL.spl [47] 0 acc l = (acc ++ g) :: gs ∧ 47 ∉ g ∧ ((gs = [] ∧ l = g) ∨ ∃ r, gs = TL.spl [47] 0 [] r ∧ l = g ++ 47 :: r)
  | [], acc => ⟨[], [], by rw [TL.spl_nil, List.append_nil], by simp, .inl ⟨rfl, rfl⟩⟩
  | c :: r, acc => by
    by_cases h : c = 47
    · subst h
      refine ⟨[], TL.spl [47] 0 [] r, ?_, by simp, .inr ⟨r, rfl, rfl⟩⟩
      rw [TL.spl_hit (by rfl), List.append_nil]
      rfl
    · obtain ⟨g, gs, e, n, k⟩ := spl_first r (acc ++ [c])
      refine ⟨c :: g, gs, ?_, ?_, ?_⟩
      · rw [TL.spl_miss (TL.pre_of_head [] r h), e, List.append_assoc]
        rfl
      · intro z
        rcases List.mem_cons.mp z with z | z
        · exact h z.symm
        · exact n z
      · rcases k with ⟨k1, k2⟩ | ⟨s, k1, k2⟩
        · exact .inl ⟨k1, by rw [k2]⟩
        · exact .inr ⟨s, k1, by rw [k2]; rfl⟩
theorem spl_back {l : List Nat} : (∃ g, splL 47 l = [g] ∧ l = g ∧ 47 ∉ g) ∨ (∃ g h, splL 47 l = [g, h] ∧ l = g ++ 47 :: h ∧ 47 ∉ g ∧ 47 ∉ h) ∨ (∃ g h r, splL 47 l = g :: h :: r ∧ r ≠ []) := by
  obtain ⟨g, gs, e, n, k⟩ := spl_first l []
  rw [List.nil_append] at e
  rcases k with ⟨k1, k2⟩ | ⟨r, k1, k2⟩
  · exact .inl ⟨g, by unfold splL; rw [e, k1], k2, n⟩
  · obtain ⟨g2, gs2, e2, n2, k'⟩ := spl_first r []
    rw [List.nil_append] at e2
    rcases k' with ⟨k3, k4⟩ | ⟨r2, k3, k4⟩
    · exact .inr (.inl ⟨g, g2, by unfold splL; rw [e, k1, e2, k3], by rw [k2, k4], n, n2⟩)
    · obtain ⟨g3, gs3, e3, _⟩ := spl_first r2 []
      exact .inr (.inr ⟨g, g2, gs2, by unfold splL; rw [e, k1, e2], by rw [k3, e3]; simp⟩)
/-- what the law makes of a group -/
def isD (l : List Nat) : Bool := l.all fun c => decide (48 ≤ c) && decide (c ≤ 57)
theorem isD_iff {l : List Nat} : isD l = true ↔ NumText.AllDigits l := by
  unfold isD NumText.AllDigits
  simp
def grpL (l : List Nat) : Int := if l.length < 1 ∨ 60 < l.length ∨ (1 < l.length ∧ l.take 1 = [48]) then -1 else if isD l = true then ((NumText.digitsVal l : Nat) : Int) else -1
theorem grp_num {n : Nat} (h : (TL.numL n).length ≤ 60) : grpL (TL.numL n) = (n : Int) := by
  have hz : ¬ (1 < (TL.numL n).length ∧ (TL.numL n).take 1 = [48]) := by
    rintro ⟨h1, h2⟩
    have hd := TL.numL_digits n
    by_cases hn : n < 10
    · rw [TL.numL_lt hn] at h1
      simp at h1
    · cases e : TL.numL n with
      | nil => exact TL.numL_ne n e
      | cons c r =>
        rw [e] at h2 hd
        have h2 : [c] = [48] := h2
        cases h2
        have hv := TL.numL_val n
        rw [e, NumText.digitsVal_zero] at hv
        have hlt := val_lt hd.tail
        rw [hv] at hlt
        have hk : 0 < r.length := by
          rcases Nat.eq_zero_or_pos r.length with z | z
          · rw [e, List.length_cons, z] at h1
            omega
          · exact z
        have := TL.numL_len hk hlt
        rw [e, List.length_cons] at this
        omega
  have hne : ¬ (TL.numL n).length < 1 := by
    have := List.length_pos_iff.mpr (TL.numL_ne n)
    omega
  unfold grpL
  rw [if_neg (by rintro (h1 | h1 | h1); exact hne h1; omega; exact hz h1), if_pos (isD_iff.mpr (TL.numL_digits n)), TL.numL_val]
theorem grp_back {g : List Nat} (h : 0 ≤ grpL g) : TL.numL (grpL g).toNat = g ∧ g.length ≤ 60 := by
  unfold grpL at h ⊢
  split at h
  · omega
  · rename_i hc
    split at h
    · rename_i hd
      rw [if_neg hc, if_pos hd, Int.toNat_natCast]
      have h1 : ¬ g.length < 1 := fun z => hc (.inl z)
      have h2 : ¬ 60 < g.length := fun z => hc (.inr (.inl z))
      have h3 : ¬ (1 < g.length ∧ g.take 1 = [48]) := fun z => hc (.inr (.inr z))
      refine ⟨num_back (isD_iff.mp hd) ?_, by omega⟩
      cases e : g with
      | nil => rw [e] at h1; exact absurd (by decide) h1
      | cons c r =>
        by_cases hr : r = []
        · exact .inl (by rw [hr]; rfl)
        · refine .inr ⟨c, r, rfl, ?_⟩
          have hc2 := (isD_iff.mp hd) c (by rw [e]; exact List.mem_cons_self ..)
          have : c ≠ 48 := fun z => h3 ⟨by rw [e, List.length_cons]; have := List.length_pos_iff.mpr hr; omega, by rw [e, z]; rfl⟩
          omega
    · omega
theorem grp_nn {g : List Nat} : grpL g = -1 ∨ 0 ≤ grpL g := by
  unfold grpL
  split
  · exact .inl rfl
  · split
    · exact .inr (by omega)
    · exact .inl rfl
open Classical in
/-- the fraction that a text is the written form of -/
noncomputable def canL (l : List Nat) : Option (Int × Int) := if h : ∃ x : Int × Int, Canon l x.1 x.2 then some h.choose else none
theorem canon_uniq {l : List Nat} {p q p' q' : Int} (a : Canon l p q) (b : Canon l p' q') : p = p' ∧ q = q' := by
  have e : wrN p q = wrN p' q' := a.eq.symm.trans b.eq
  have a0 := a.low.pos
  have b0 := b.low.pos
  have hb : TL.numL p.natAbs ++ tailN q = TL.numL p'.natAbs ++ tailN q' ∧ (p < 0 ↔ p' < 0) := by
    rcases wr_body (p := p) (q := q) with ⟨h1, h2, h3⟩ | ⟨h1, h2, h3⟩ <;> rcases wr_body (p := p') (q := q') with ⟨g1, g2, g3⟩ | ⟨g1, g2, g3⟩
    · exact ⟨by rw [← h3, ← g3, e], by omega⟩
    · rw [e] at h2; exact absurd h2 g2
    · rw [← e] at g2; exact absurd g2 h2
    · exact ⟨by rw [← h3, ← g3, e], by omega⟩
  have eg := wr_groups (p := p) (q := q)
  rw [hb.1, wr_groups] at eg
  by_cases h : q = 1 <;> by_cases g : q' = 1
  · rw [if_pos h, if_pos g] at eg
    simp at eg
    have := TL.numL_inj eg
    exact ⟨by have := hb.2; omega, by omega⟩
  · rw [if_pos h, if_neg g] at eg
    simp at eg
  · rw [if_neg h, if_pos g] at eg
    simp at eg
  · rw [if_neg h, if_neg g] at eg
    simp at eg
    have e1 := TL.numL_inj eg.1
    have e2 := TL.numL_inj eg.2
    exact ⟨by have := hb.2; omega, by omega⟩
theorem can_yes {l : List Nat} {p q : Int} (a : Canon l p q) : canL l = some (p, q) := by
  have h : ∃ x : Int × Int, Canon l x.1 x.2 := ⟨(p, q), a⟩
  unfold canL
  rw [dif_pos h]
  obtain ⟨e1, e2⟩ := canon_uniq h.choose_spec a
  exact congrArg some (Prod.ext e1 e2)
theorem can_no {l : List Nat} (h : ∀ p q, ¬ Canon l p q) : canL l = none := by
  unfold canL
  rw [dif_neg (fun ⟨x, hx⟩ => h x.1 x.2 hx)]
theorem can_get {l : List Nat} {p q : Int} (h : canL l = some (p, q)) : Canon l p q := by
  unfold canL at h
  split at h
  · rename_i hx
    have := hx.choose_spec
    rw [Option.some.inj h] at this
    exact this
  · cases h
/-- the law's way to a fraction -/
theorem can_one {l g : List Nat} (hs : bodyL l = g) (h0 : 0 ≤ grpL g) (h47 : 47 ∉ g) (hn : bodyL l = l ∨ grpL g ≠ 0) : canL l = some (if bodyL l = l then grpL g else -grpL g, 1) := by
  obtain ⟨e1, e2⟩ := grp_back h0
  apply can_yes
  have hd := NumText.AllDigits
  have low : ∀ p : Int, Low p 1 := fun p => ⟨by decide, by simp⟩
  split
  · rename_i hb
    refine ⟨low _, ?_, ?_, by rw [TL.numL_lt (by decide)]; decide⟩
    · unfold wrN intL
      rw [if_neg (by omega), tail_no rfl, List.append_nil, show (grpL g).natAbs = (grpL g).toNat from by omega, e1, ← hs, hb]
    · rw [show (grpL g).natAbs = (grpL g).toNat from by omega, e1]
      exact e2
  · rename_i hb
    have hne : grpL g ≠ 0 := hn.resolve_left hb
    have ht : l.take 1 = [45] := by
      refine Decidable.byContradiction fun z => hb ?_
      unfold bodyL
      rw [if_neg z]
    refine ⟨low _, ?_, ?_, by rw [TL.numL_lt (by decide)]; decide⟩
    · unfold wrN intL
      rw [if_pos (by omega), tail_no rfl, List.append_nil, show (-grpL g).natAbs = (grpL g).toNat from by omega, e1, ← hs]
      unfold bodyL
      rw [if_pos ht]
      cases l with
      | nil => cases ht
      | cons c r =>
        have ht : [c] = [45] := ht
        cases ht
        rfl
    · rw [show (-grpL g).natAbs = (grpL g).toNat from by omega, e1]
      exact e2
theorem can_two {l g h : List Nat} (hs : bodyL l = g ++ 47 :: h) (h0 : 0 ≤ grpL g) (h1 : 2 ≤ grpL h) (hc : Nat.gcd (grpL g).natAbs (grpL h).natAbs = 1) : canL l = some (if bodyL l = l then grpL g else -grpL g, grpL h) := by
  obtain ⟨e1, e2⟩ := grp_back h0
  obtain ⟨f1, f2⟩ := grp_back (g := h) (by omega)
  have hne : grpL g ≠ 0 := fun z => by
    rw [z] at hc
    simp at hc
    omega
  apply can_yes
  split
  · rename_i hb
    refine ⟨⟨by omega, hc⟩, ?_, ?_, by rw [f1]; exact f2⟩
    · unfold wrN intL
      rw [if_neg (by omega), tail_yes (by omega), show (grpL g).natAbs = (grpL g).toNat from by omega, e1, f1, ← hs, hb]
    · rw [show (grpL g).natAbs = (grpL g).toNat from by omega, e1]
      exact e2
  · rename_i hb
    have ht : l.take 1 = [45] := by
      refine Decidable.byContradiction fun z => hb ?_
      unfold bodyL
      rw [if_neg z]
    refine ⟨⟨by omega, by rw [Int.natAbs_neg]; exact hc⟩, ?_, ?_, by rw [f1]; exact f2⟩
    · unfold wrN intL
      rw [if_pos (by omega), tail_yes (by omega), show (-grpL g).natAbs = (grpL g).toNat from by omega, e1, f1, List.cons_append, ← hs]
      unfold bodyL
      rw [if_pos ht]
      cases l with
      | nil => cases ht
      | cons c r =>
        have ht : [c] = [45] := ht
        cases ht
        rfl
    · rw [show (-grpL g).natAbs = (grpL g).toNat from by omega, e1]
      exact e2
/-- what a written form gives on the law's way -/
theorem canon_groups {l : List Nat} {p q : Int} (a : Canon l p q) : (p < 0 ↔ bodyL l ≠ l) ∧ ((q = 1 ∧ splL 47 (bodyL l) = [TL.numL p.natAbs]) ∨ (q ≠ 1 ∧ splL 47 (bodyL l) = [TL.numL p.natAbs, TL.numL q.toNat])) ∧ grpL (TL.numL p.natAbs) = (p.natAbs : Int) ∧ grpL (TL.numL q.toNat) = q := by
  have a0 := a.low.pos
  have e := a.eq
  refine ⟨?_, ?_, grp_num a.lp, (grp_num a.lq).trans (by omega)⟩
  · rcases wr_body (p := p) (q := q) with ⟨h1, h2, h3⟩ | ⟨h1, h2, h3⟩
    · rw [← e] at h2
      refine ⟨fun _ z => ?_, fun _ => h1⟩
      unfold bodyL at z
      rw [if_pos h2] at z
      have := congrArg List.length z
      cases l with
      | nil => cases h2
      | cons c r => simp at this
    · rw [← e] at h2
      refine ⟨fun z => by omega, fun z => absurd ?_ z⟩
      unfold bodyL
      rw [if_neg h2]
  · have eb : bodyL l = TL.numL p.natAbs ++ tailN q := by
      rw [e]
      rcases wr_body (p := p) (q := q) with ⟨_, _, h3⟩ | ⟨_, _, h3⟩ <;> exact h3
    rw [eb, wr_groups]
    by_cases h : q = 1
    · exact .inl ⟨h, if_pos h⟩
    · exact .inr ⟨h, if_neg h⟩
/-! the program's way -/
def shortB (l : List Nat) : Bool := decide (1 ≤ l.length) && decide (l.length ≤ 60) && isD l
theorem in_dg {c : Nat} {z : Str} (hz : z.cps.toList = [48, 49, 50, 51, 52, 53, 54, 55, 56, 57]) : decide (c ∈ z.cps.toList) = (decide (48 ≤ c) && decide (c ≤ 57)) := by
  rw [hz]
  by_cases h : 48 ≤ c ∧ c ≤ 57
  · have : c = 48 ∨ c = 49 ∨ c = 50 ∨ c = 51 ∨ c = 52 ∨ c = 53 ∨ c = 54 ∨ c = 55 ∨ c = 56 ∨ c = 57 := by omega
    simp [h, this]
  · have : ¬ (c = 48 ∨ c = 49 ∨ c = 50 ∨ c = 51 ∨ c = 52 ∨ c = 53 ∨ c = 54 ∨ c = 55 ∨ c = 56 ∨ c = 57) := by omega
    simp only [List.mem_cons, List.not_mem_nil, or_false, this, decide_false]
    simp
    omega
theorem find_dg (c : Nat) : findC c [48, 49, 50, 51, 52, 53, 54, 55, 56, 57] = if 48 ≤ c ∧ c ≤ 57 then (c : Int) - 48 else -1 := by
  by_cases h : 48 ≤ c ∧ c ≤ 57
  · rw [if_pos h]
    have : c = 48 ∨ c = 49 ∨ c = 50 ∨ c = 51 ∨ c = 52 ∨ c = 53 ∨ c = 54 ∨ c = 55 ∨ c = 56 ∨ c = 57 := by omega
    rcases this with rfl | rfl | rfl | rfl | rfl | rfl | rfl | rfl | rfl | rfl <;> decide
  · rw [if_neg h]
    rcases findC_spec c [48, 49, 50, 51, 52, 53, 54, 55, 56, 57] with ⟨e, _⟩ | ⟨i, _, e, _⟩
    · exact e
    · have hm := List.mem_of_getElem? e
      simp only [List.mem_cons, List.not_mem_nil, or_false] at hm
      omega
/-- the digits of r, k of them -/
def padD : Nat → Nat → List Nat
  | 0, _ => []
  | k + 1, r => padD k (r / 10) ++ [48 + r % 10]
theorem num_cat {a : Nat} (ha : 1 ≤ a) : ∀ (k r : Nat), r < 10 ^ k → TL.numL (a * 10 ^ k + r) = TL.numL a ++ padD k r
  | 0, r, h => by
    have : r = 0 := by simpa using h
    subst this
    simp [padD]
  | k + 1, r, h => by
    rw [Nat.pow_succ] at h
    have hp : 1 ≤ 10 ^ k := Nat.pow_pos (by decide)
    have h2 : 10 ≤ a * 10 ^ (k + 1) + r := by
      have : 1 * 10 ≤ a * 10 ^ (k + 1) := Nat.mul_le_mul ha (by rw [Nat.pow_succ]; omega)
      omega
    have e1 : (a * 10 ^ (k + 1) + r) / 10 = a * 10 ^ k + r / 10 := by
      have : a * 10 ^ (k + 1) = 10 * (a * 10 ^ k) := by rw [Nat.pow_succ]; grind
      omega
    have e2 : (a * 10 ^ (k + 1) + r) % 10 = r % 10 := by
      have : a * 10 ^ (k + 1) = 10 * (a * 10 ^ k) := by rw [Nat.pow_succ]; grind
      omega
    rw [TL.numL_step h2, e1, e2, num_cat ha k (r / 10) (by omega), List.append_assoc]
    rfl
theorem padD_len : ∀ (k r : Nat), (padD k r).length = k
  | 0, _ => rfl
  | k + 1, r => by
    show (padD k (r / 10) ++ [_]).length = k + 1
    rw [List.length_append, padD_len k]
    rfl
theorem padD_zero : ∀ k, padD k 0 = List.replicate k 48
  | 0 => rfl
  | k + 1 => by
    show padD k (0 / 10) ++ [48 + 0 % 10] = _
    rw [Nat.zero_div, padD_zero k, List.replicate_succ']
theorem padD_rep : ∀ (k r : Nat), r < 10 ^ (k + 1) → padD (k + 1) r = List.replicate (k + 1 - (TL.numL r).length) 48 ++ TL.numL r := by
  intro k
  induction k with
  | zero =>
    intro r h
    have h : r < 10 := by simpa using h
    rw [TL.numL_lt h]
    show [] ++ [48 + r % 10] = _
    rw [Nat.mod_eq_of_lt h]
    rfl
  | succ k ih =>
    intro r h
    by_cases hr : r < 10
    · show padD (k + 1) (r / 10) ++ [48 + r % 10] = _
      rw [Nat.div_eq_of_lt hr, padD_zero, Nat.mod_eq_of_lt hr, TL.numL_lt hr]
      rfl
    · show padD (k + 1) (r / 10) ++ [48 + r % 10] = _
      have hb : r / 10 < 10 ^ (k + 1) := by
        have e : 10 ^ (k + 1 + 1) = 10 ^ (k + 1) * 10 := Nat.pow_succ _ _
        omega
      have en := TL.numL_step (n := r) (by omega)
      have el : (TL.numL r).length = (TL.numL (r / 10)).length + 1 := by
        rw [en, List.length_append]
        rfl
      rw [ih (r / 10) hb, el, List.append_assoc, ← en]
      congr 2
      omega
theorem zf_pad {r : Nat} (h : r < 10 ^ 60) : zfT (TL.numL r) 60 = padD 60 r := by
  have hl : (TL.numL r).length ≤ 60 := TL.numL_len (by decide) h
  have hne := TL.numL_ne r
  have hd := TL.numL_digits r
  unfold zfT Txt.zfill
  rw [padD_rep 59 r h]
  have e0 : (txt (TL.numL r)).length = (TL.numL r).length := TL.len_tl _
  by_cases h60 : (60 : Int) ≤ ((txt (TL.numL r)).length : Int)
  · rw [if_pos h60]
    rw [e0] at h60
    have : 59 + 1 - (TL.numL r).length = 0 := by omega
    rw [this]
    rfl
  · rw [if_neg h60]
    have hp : ∀ (x : Str) (m : Nat), (∀ c, x.cps[0]? = some c → c ≠ 43 ∧ c ≠ 45) → TL.tl (PySem.zfilled x m) = List.replicate m 48 ++ TL.tl x := by
      intro x m hc
      unfold PySem.zfilled
      split
      · rename_i h1
        exact absurd rfl (hc _ h1).1
      · rename_i h1
        exact absurd rfl (hc _ h1).2
      · show (Array.replicate m 48 ++ x.cps ++ Array.replicate 0 48).toList = _
        simp [TL.tl]
    rw [hp]
    · show List.replicate ((60 : Int).toNat - (txt (TL.numL r)).length) 48 ++ TL.numL r = _
      rw [e0]
      rfl
    · intro c hc
      have hm : c ∈ TL.numL r := by
        have : (txt (TL.numL r)).cps[0]? = (TL.numL r)[0]? := by simp [txt]
        rw [this] at hc
        exact List.mem_of_getElem? hc
      have := hd c hm
      omega
/-- what a written form gives on the program's way -/
theorem canon_parts {l : List Nat} {p q : Int} (a : Canon l p q) : parL 47 l = (intL p, if q = 1 then [] else [47], if q = 1 then [] else TL.numL q.toNat) := by
  rw [a.eq]
  have h47 : 47 ∉ intL p := by
    unfold intL
    split
    · intro z
      rcases List.mem_cons.mp z with z | z
      · cases z
      · exact num47 _ z
    · exact num47 _
  unfold wrN
  by_cases h : q = 1
  · rw [tail_no h, List.append_nil, parL_no h47, if_pos h, if_pos h]
  · rw [tail_yes h, parL_at h47, if_neg h, if_neg h]
theorem int_body {p : Int} : (p < 0 ∧ (intL p).take 1 = [45] ∧ (intL p).drop 1 = TL.numL p.natAbs) ∨ (0 ≤ p ∧ (intL p).take 1 ≠ [45] ∧ intL p = TL.numL p.natAbs) := by
  unfold intL
  by_cases h : p < 0
  · rw [if_pos h]
    exact .inl ⟨h, rfl, rfl⟩
  · rw [if_neg h]
    refine .inr ⟨by omega, ?_, rfl⟩
    have := take1_num (n := p.natAbs) (r := [])
    rw [List.append_nil] at this
    exact this
theorem short_num {n : Nat} (h : (TL.numL n).length ≤ 60) : shortB (TL.numL n) = true := by
  unfold shortB
  have h1 := List.length_pos_iff.mpr (TL.numL_ne n)
  simp [h, isD_iff.mpr (TL.numL_digits n)]
  omega
theorem short_parts {l : List Nat} (h : shortB l = true) : 1 ≤ l.length ∧ l.length ≤ 60 ∧ isD l = true := by
  unfold shortB at h
  simp at h
  exact ⟨by have := h.1.1; omega, h.1.2, h.2⟩
theorem nrm_low {p q : Int} (h : Low p q) : nrm p q = ⟨p, q⟩ := by
  obtain ⟨h0, h1⟩ := h
  unfold nrm cmn
  rw [if_neg (by omega), h1]
  show (⟨p.fdiv 1, q.fdiv 1⟩ : Rt) = _
  rw [Int.fdiv_one, Int.fdiv_one]
/-- the text as the program takes it: the sign, the digits ahead of /, those behind it -/
def sgP (l : List Nat) : Int := if (parL 47 l).1.take 1 = [45] then -1 else 1
def tpP (l : List Nat) : List Nat := if (parL 47 l).1.take 1 = [45] then (parL 47 l).1.drop 1 else (parL 47 l).1
def btP (l : List Nat) : List Nat := if (parL 47 l).2.1 = [] then [49] else (parL 47 l).2.2
theorem canon_prog {l : List Nat} {p q : Int} (a : Canon l p q) : tpP l = TL.numL p.natAbs ∧ btP l = TL.numL q.toNat ∧ sgP l * (p.natAbs : Int) = p := by
  have e := canon_parts a
  unfold tpP btP sgP
  rw [e]
  refine ⟨?_, ?_, ?_⟩
  · rcases int_body (p := p) with ⟨_, h2, h3⟩ | ⟨_, h2, h3⟩
    · simp only
      rw [if_pos h2, h3]
    · simp only
      rw [if_neg h2, ← h3]
  · by_cases h : q = 1
    · simp only [if_pos h]
      rw [if_pos trivial, h]
      decide +kernel
    · simp only [if_neg h]
      rw [if_neg (by simp)]
  · rcases int_body (p := p) with ⟨h1, h2, _⟩ | ⟨h1, h2, _⟩
    · simp only
      rw [if_pos h2]
      omega
    · simp only
      rw [if_neg h2]
      omega
theorem no_short {l : List Nat} (h : ¬ (shortB (tpP l) = true ∧ shortB (btP l) = true ∧ NumText.digitsVal (btP l) ≠ 0)) : canL l = none := can_no fun p q a => by
  obtain ⟨e1, e2, _⟩ := canon_prog a
  apply h
  rw [e1, e2, TL.numL_val]
  have := a.low.pos
  exact ⟨short_num a.lp, short_num a.lq, by omega⟩
def fdP (l : List Nat) : Rt := nrm (sgP l * ((NumText.digitsVal (tpP l) : Nat) : Int)) ((NumText.digitsVal (btP l) : Nat) : Int)
theorem no_same {l : List Nat} (h : wrN (fdP l).top (fdP l).bot ≠ l) : canL l = none := can_no fun p q a => by
  obtain ⟨e1, e2, e3⟩ := canon_prog a
  apply h
  unfold fdP
  have := a.low.pos
  rw [e1, e2, TL.numL_val, TL.numL_val, e3, show ((q.toNat : Nat) : Int) = q by omega, nrm_low a.low]
  exact a.eq.symm
theorem yes_same {l : List Nat} (h : wrN (fdP l).top (fdP l).bot = l) (h1 : shortB (tpP l) = true) (h2 : shortB (btP l) = true) (h3 : NumText.digitsVal (btP l) ≠ 0) : canL l = some ((fdP l).top, (fdP l).bot) := by
  have hz : ((NumText.digitsVal (btP l) : Nat) : Int) ≠ 0 := by omega
  obtain ⟨_, a2, a3⟩ := short_parts h1
  obtain ⟨_, b2, b3⟩ := short_parts h2
  have v1 := val_lt (isD_iff.mp a3)
  have v2 := val_lt (isD_iff.mp b3)
  have w1 : NumText.digitsVal (tpP l) < 10 ^ 60 := Nat.lt_of_lt_of_le v1 (Nat.pow_le_pow_right (by decide) a2)
  have w2 : NumText.digitsVal (btP l) < 10 ^ 60 := Nat.lt_of_lt_of_le v2 (Nat.pow_le_pow_right (by decide) b2)
  have hs : sgP l = 1 ∨ sgP l = -1 := by
    unfold sgP
    split
    · exact .inr rfl
    · exact .inl rfl
  have t1 : (fdP l).top.natAbs ≤ NumText.digitsVal (tpP l) := by
    refine Nat.le_trans nrm_top_le ?_
    rw [Int.natAbs_mul]
    rcases hs with e | e <;> rw [e] <;> simp
  have t2 : (fdP l).bot.natAbs ≤ NumText.digitsVal (btP l) := Nat.le_trans nrm_bot_le (by simp)
  have hp : 0 < (fdP l).bot := nrm_pos hz
  exact can_yes ⟨⟨hp, nrm_cop hz⟩, h.symm, TL.numL_len (by decide) (by omega), TL.numL_len (by decide) (by omega)⟩
/-! signs -/
def Chr (l : List Nat) : Prop := ∀ c ∈ l, c < 256
theorem chr_app {a b : List Nat} (h : Chr a) (k : Chr b) : Chr (a ++ b) := fun c hc => by
  rcases List.mem_append.mp hc with z | z
  · exact h c z
  · exact k c z
theorem chr_take {a : List Nat} {n : Nat} (h : Chr a) : Chr (a.take n) := fun c hc => h c (List.mem_of_mem_take hc)
theorem chr_drop {a : List Nat} {n : Nat} (h : Chr a) : Chr (a.drop n) := fun c hc => h c (List.mem_of_mem_drop hc)
theorem chr_num (n : Nat) : Chr (TL.numL n) := fun c hc => by
  have := TL.numL_digits n c hc
  omega
theorem chr_cons {c : Nat} {l : List Nat} (h : c < 256) (k : Chr l) : Chr (c :: l) := fun d hd => by
  rcases List.mem_cons.mp hd with z | z
  · omega
  · exact k d z
theorem chr_nil : Chr [] := fun c hc => by simp at hc
theorem chr_intL (x : Int) : Chr (intL x) := by
  unfold intL
  split
  · exact chr_cons (by decide) (chr_num _)
  · exact chr_num _
theorem chr_wr (p q : Int) : Chr (wrN p q) := by
  unfold wrN
  refine chr_app (chr_intL p) ?_
  unfold tailN
  split
  · exact chr_nil
  · exact chr_cons (by decide) (chr_num _)
theorem chr_pick {xs : List (List Nat)} {i : Nat} (h : ∀ x ∈ xs, Chr x) : Chr (xs.getD i []) := by
  rw [List.getD_eq_getElem?_getD]
  cases e : xs[i]? with
  | none => exact chr_nil
  | some x => exact h x (List.mem_of_getElem? e)
theorem chr_one {tb : List Nat} {i : Nat} (h : Chr tb) : Chr [tb.getD i 0] := by
  refine chr_cons ?_ chr_nil
  rw [List.getD_eq_getElem?_getD]
  cases e : tb[i]? with
  | none => decide
  | some x => exact h x (List.mem_of_getElem? e)
theorem chr_mul {l : List Nat} {i : Int} (h : Chr l) : Chr (mulT l i) := by
  have key : ∀ (k : Nat) (acc : Array Nat), Chr acc.toList → Chr ((List.replicate k l.toArray).foldl (· ++ ·) acc).toList := by
    intro k
    induction k with
    | zero => intro acc ha; exact ha
    | succ k ih =>
      intro acc ha
      rw [List.replicate_succ, List.foldl_cons]
      apply ih
      rw [Array.toList_append]
      exact chr_app ha h
  unfold mulT TL.tl
  show Chr (Txt.mul (txt l) i).cps.toList
  unfold Txt.mul
  split
  · exact chr_nil
  · split
    · exact h
    · exact key _ _ chr_nil
theorem chr_flat {ls : List (List Nat)} (h : ∀ x ∈ ls, Chr x) : Chr (joinT [] ls) := by
  rw [joinT_nil]
  intro c hc
  obtain ⟨x, hx, hc⟩ := List.mem_flatten.mp hc
  exact h x hx c hc
theorem chr_of {l : List Nat} (h : (l.all fun c => decide (c < 256)) = true) : Chr l := fun c hc => of_decide_eq_true (List.all_eq_true.mp h c hc)
theorem chr_ok {l : List Nat} (h : Chr l) : PyData.strOk (txt l) = true := by
  show (l.toArray.all fun c => decide (c < 0x110000)) = true
  simp
  intro c hc
  have := h c hc
  omega
/-! promises -/
theorem pool_ok {ns : List Int} (h : ns.length ≤ 63) : Pok (pool ns) ∧ (pool ns).ct = 0 := by
  have hl := poolSplit_len ns
  have hn : ∀ x ∈ (poolSplit ns).2, 0 ≤ x ∧ x < 1000000000000000000 := fun x hx => by
    unfold poolSplit at hx
    obtain ⟨h1, h2⟩ := List.mem_filter.mp hx
    obtain ⟨y, _, rfl⟩ := List.mem_map.mp h1
    have : 0 ≤ iabs y := by
      unfold iabs
      split <;> omega
    simp at h2
    omega
  refine ⟨⟨?_, ?_, Int.le_refl 0, by show (poolSplit ns).1.length ≤ 1000; omega, ?_⟩, rfl⟩
  · show (if (poolSplit ns).2 = [] then [((poolSplit ns).1.length : Int)] else (poolSplit ns).2) ≠ []
    split
    · exact fun e => nomatch e
    · assumption
  · show ∀ x ∈ (if (poolSplit ns).2 = [] then [((poolSplit ns).1.length : Int)] else (poolSplit ns).2), 0 ≤ x ∧ x < 1000000000000000000
    split
    · intro x hx
      rw [List.mem_singleton.mp hx]
      omega
    · exact hn
  · show (if (poolSplit ns).2 = [] then [((poolSplit ns).1.length : Int)] else (poolSplit ns).2).length ≤ 1000
    split
    · show 1 ≤ 1000; decide
    · omega
abbrev S_law (K : PySem.W.Frag) : List Dv → Dv → Prop := fun ds r => ∃ ns : List Int, ds = [⟨tScr K, ns⟩] ∧ ns.length ≤ 63 ∧ r = ⟨tBool, true⟩
abbrev dgT : List Nat := [48, 49, 50, 51, 52, 53, 54, 55, 56, 57]
abbrev M60 : Int := 1000000000000000000000000000000000000000000000000000000000000
theorem m60 : M60 = (10 : Int) ^ 60 := by decide +kernel
/-- an int of at most 120 digits -/
def W120 (x : Int) : Prop := x.natAbs < 10 ^ 120
abbrev S_short : List Dv → Dv → Prop := fun ds r => ∃ l, ds = [⟨tTxt, l⟩] ∧ l.length ≤ 40000 ∧ r = ⟨tBool, shortB l⟩
abbrev S_wi : List Dv → Dv → Prop := fun ds r => ∃ n : Nat, ds = [⟨tInt, (n : Int)⟩] ∧ n < 10 ^ 120 ∧ r = ⟨tTxt, TL.numL n⟩
abbrev S_wn : List Dv → Dv → Prop := fun ds r => ∃ p q : Int, ds = [⟨tInt, p⟩, ⟨tInt, q⟩] ∧ W120 p ∧ W120 q ∧ 0 < q ∧ r = ⟨tTxt, wrN p q⟩
abbrev S_str (C : Addr) : List Dv → Dv → Prop := fun ds r => ∃ p, ds = [⟨tRat C, p⟩] ∧ W120 p.top ∧ W120 p.bot ∧ 0 < p.bot ∧ r = ⟨tTxt, wrN p.top p.bot⟩
abbrev S_read (C : Addr) : List Dv → Dv → Prop := fun ds r => ∃ l a b, ds = [⟨tTxt, l⟩] ∧ l.length ≤ 40000 ∧ canL l = some (a, b) ∧ r = ⟨tRat C, ⟨a, b⟩⟩
abbrev R_read (B : Addr) : List Dv → Addr → List Nat → Prop := fun ds c z => ∃ l, ds = [⟨tTxt, l⟩] ∧ l.length ≤ 40000 ∧ canL l = none ∧ c = B ∧ z = l
theorem isD_in (l : List Nat) : (l.map fun c => decide (c ∈ dgT)).all id = isD l := by
  unfold isD
  rw [List.all_map]
  congr 1
  funext c
  exact in_dg (z := ⟨#[48, 49, 50, 51, 52, 53, 54, 55, 56, 57]⟩) rfl
theorem w_split {n : Nat} (h : 10 ^ 60 ≤ n) (h2 : n < 10 ^ 120) : 1 ≤ n / 10 ^ 60 ∧ n / 10 ^ 60 < 10 ^ 60 ∧ n % 10 ^ 60 < 10 ^ 60 ∧ TL.numL n = TL.numL (n / 10 ^ 60) ++ zfT (TL.numL (n % 10 ^ 60)) 60 := by
  have h1 : 1 ≤ n / 10 ^ 60 := (Nat.le_div_iff_mul_le (Nat.pow_pos (by decide))).mpr (by omega)
  have h3 : n % 10 ^ 60 < 10 ^ 60 := Nat.mod_lt _ (Nat.pow_pos (by decide))
  refine ⟨h1, ?_, h3, ?_⟩
  · apply Nat.div_lt_of_lt_mul
    have : (10 : Nat) ^ 120 = 10 ^ 60 * 10 ^ 60 := by rw [← Nat.pow_add]
    omega
  · rw [zf_pad h3, ← num_cat h1 60 _ h3, Nat.mul_comm, Nat.div_add_mod]
theorem lg60 {m : Nat} (h : m < 10 ^ 60) : ((m : Nat) : Int).natAbs.log2 < 1920 := by
  rw [Int.natAbs_natCast]
  have h2 : m < 2 ^ 200 := Nat.lt_of_lt_of_le h (by decide +kernel)
  exact Nat.lt_of_lt_of_le (PySem.Flt.log2_lt_of (by decide) h2) (by decide)
theorem len60 {m : Nat} (h : m < 10 ^ 60) : (TL.numL m).length ≤ 60 := TL.numL_len (by decide) h
theorem dm60 (n : Nat) : ((n : Int) / M60, (n : Int) % M60) = (((n / 10 ^ 60 : Nat) : Int), ((n % 10 ^ 60 : Nat) : Int)) := by
  rw [m60, Int.natCast_ediv, Int.natCast_emod] <;> rfl
theorem intL_nat (n : Nat) : intL (n : Int) = TL.numL n := by
  unfold intL
  rw [if_neg (by omega)]
  rfl
theorem m60_nat : ((10 ^ 60 : Nat) : Int) = M60 := by decide +kernel
theorem zf_len {m : Nat} (h : m < 10 ^ 60) : (zfT (TL.numL m) 60).length = 60 := by
  rw [zf_pad h, padD_len]
theorem iabs_nat (p : Int) : iabs p = ((p.natAbs : Nat) : Int) := by
  unfold iabs
  split <;> omega
theorem pow60 : (10 : Nat) ^ 60 ≤ 2 ^ 200 := by decide +kernel
theorem short_val {l : List Nat} (h : shortB l = true) : NumText.digitsVal l < 10 ^ 60 ∧ l ≠ [] ∧ l.length ≤ 60 ∧ digs l = true := by
  obtain ⟨a1, a2, a3⟩ := short_parts h
  have v1 := val_lt (isD_iff.mp a3)
  refine ⟨Nat.lt_of_lt_of_le v1 (Nat.pow_le_pow_right (by decide) a2), fun z => ?_, a2, a3⟩
  rw [z] at a1
  exact absurd a1 (by decide)
theorem sg_one (l : List Nat) : sgP l = 1 ∨ sgP l = -1 := by
  unfold sgP
  split
  · exact .inr rfl
  · exact .inl rfl
theorem bd_v {n : Nat} (h : n < 10 ^ 60) : Bd 200 ((n : Nat) : Int) := by
  unfold Bd
  rw [Int.natAbs_natCast]
  exact Nat.lt_of_lt_of_le h pow60
theorem w_of {x : Int} {n : Nat} (h : n < 10 ^ 60) (k : x.natAbs ≤ n) : W120 x := by
  unfold W120
  have : (10 : Nat) ^ 60 ≤ 10 ^ 120 := Nat.pow_le_pow_right (by decide) (by decide)
  omega
theorem sg_abs {l : List Nat} {n : Nat} : (sgP l * (n : Int)).natAbs = n := by
  rw [Int.natAbs_mul]
  rcases sg_one l with e | e <;> rw [e] <;> simp
theorem fd_ok {l : List Nat} (h1 : shortB (tpP l) = true) (h2 : shortB (btP l) = true) (h3 : NumText.digitsVal (btP l) ≠ 0) : Bd 4000 (sgP l * ((NumText.digitsVal (tpP l) : Nat) : Int)) ∧ Bd 4000 ((NumText.digitsVal (btP l) : Nat) : Int) ∧ W120 (fdP l).top ∧ W120 (fdP l).bot ∧ 0 < (fdP l).bot := by
  have v1 := (short_val h1).1
  have v2 := (short_val h2).1
  refine ⟨?_, (bd_v v2).mono (by decide), w_of v1 (Nat.le_trans nrm_top_le (by rw [sg_abs]; exact Nat.le_refl _)), w_of v2 (Nat.le_trans nrm_bot_le (by simp)), nrm_pos (by omega)⟩
  refine Bd.mono (n := 200) ?_ (by decide)
  unfold Bd
  rw [sg_abs]
  exact Nat.lt_of_lt_of_le v1 pow60
theorem first47 : ∀ l : List Nat, 47 ∉ l ∨ ∃ a b, l = a ++ 47 :: b ∧ 47 ∉ a
  | [] => .inl (by simp)
  | c :: r => by
    by_cases h : c = 47
    · subst h
      exact .inr ⟨[], r, rfl, by simp⟩
    · rcases first47 r with n | ⟨a, b, e, n⟩
      · refine .inl fun z => ?_
        rcases List.mem_cons.mp z with z | z
        · exact h z.symm
        · exact n z
      · refine .inr ⟨c :: a, b, by rw [e]; rfl, fun z => ?_⟩
        rcases List.mem_cons.mp z with z | z
        · exact h z.symm
        · exact n z
theorem par_len (l : List Nat) : (parL 47 l).1.length ≤ l.length ∧ (parL 47 l).2.2.length ≤ l.length ∧ ((parL 47 l).2.1 = [] ∨ (parL 47 l).2.1 = [47]) := by
  rcases first47 l with h | ⟨a, b, e, n⟩
  · rw [parL_no h]
    exact ⟨Nat.le_refl _, Nat.zero_le _, .inl rfl⟩
  · rw [e, parL_at n]
    refine ⟨?_, ?_, .inr rfl⟩
    · simp
    · simp
      omega
/-! the law's numbers -/
theorem bd_pow {m : Nat} (h : m ≤ 60) : Bd 220 ((10 : Int) ^ m) := by
  unfold Bd
  have e : ((10 : Int) ^ m).natAbs = 10 ^ m := by rw [Int.natAbs_pow] <;> rfl
  rw [e]
  exact Nat.lt_of_le_of_lt (Nat.pow_le_pow_right (by decide) h) (by decide +kernel)
abbrev S_power : List Dv → Dv → Prop := fun ds r => ∃ m : Nat, ds = [⟨tInt, 10⟩, ⟨tInt, (m : Int)⟩] ∧ m ≤ 60 ∧ r = ⟨tInt, (10 : Int) ^ m⟩
abbrev P_draw : Pl → List Dv → List Dv → Prop := fun p ps ds => ps = pool3 p ∧ ds = [] ∧ Pok p ∧ p.ct < 900000000
abbrev S_sz : Pl → List Dv → Dv → Prop := fun p ps' r => ∃ (p' : Pl) (x : Nat), ps' = pool3 p' ∧ r = ⟨tInt, (x : Int)⟩ ∧ Pok p' ∧ p'.ct ≤ p.ct + 10 ∧ x < 10 ^ 60
abbrev S_low : List Dv → Dv → Prop := fun ds r => ∃ a b : Int, ds = [⟨tInt, a⟩, ⟨tInt, b⟩] ∧ Bd 4000 a ∧ Bd 4000 b ∧ 0 < b ∧ r = ⟨tPair tInt tInt, ((nrm a b).top, (nrm a b).bot)⟩
/-- at most 60 digits, lowest terms -/
structure Lw (ab : Int × Int) : Prop where
  low : Low ab.1 ab.2
  a : ab.1.natAbs < 10 ^ 60
  b : ab.2.natAbs < 10 ^ 60
abbrev S_drawn : Pl → List Dv → Dv → Prop := fun p ps' r => ∃ (p' : Pl) (ab : Int × Int), ps' = pool3 p' ∧ r = ⟨tPair tInt tInt, ab⟩ ∧ Pok p' ∧ p'.ct ≤ p.ct + 30 ∧ Lw ab
abbrev S_written : List Dv → Dv → Prop := fun ds r => ∃ ab : Int × Int, ds = [⟨tPair tInt tInt, ab⟩] ∧ W120 ab.1 ∧ W120 ab.2 ∧ 0 < ab.2 ∧ r = ⟨tTxt, wrN ab.1 ab.2⟩
theorem cmn_pos {a b : Int} (h : 0 < b) : cmn a b = ((Nat.gcd a.natAbs b.natAbs : Nat) : Int) := by
  unfold cmn
  rw [if_neg (by omega)]
theorem sz_at {x : Int} (h0 : 0 ≤ x) (h : x < M60) : ∃ n : Nat, x = (n : Int) ∧ n < 10 ^ 60 := ⟨x.toNat, by omega, by have := m60_nat; omega⟩
structure Szl (p : Pl) (n : Nat) (s : Int × Pl) : Prop where
  ok : Pok s.2
  ct : s.2.ct ≤ p.ct + n
  lo : 0 ≤ s.1
  hi : s.1 < 1000000000 ^ n
theorem w120_log {x : Int} (h : W120 x) : x.natAbs.log2 < 1920 := by
  have h2 : x.natAbs < 2 ^ 400 := Nat.lt_of_lt_of_le h (by decide +kernel)
  exact Nat.lt_of_lt_of_le (PySem.Flt.log2_lt_of (by decide) h2) (by decide)
theorem lw_of {a b : Int} {n m : Nat} (hn : n < 10 ^ 60) (hm : m < 10 ^ 60) (ha : a.natAbs ≤ n) (hb : b.natAbs ≤ m) (h0 : 0 < b) : Lw ((nrm a b).top, (nrm a b).bot) :=
  ⟨⟨nrm_pos (by omega), nrm_cop (by omega)⟩, Nat.lt_of_le_of_lt nrm_top_le (by omega), Nat.lt_of_le_of_lt nrm_bot_le (by omega)⟩
theorem Lw.w (h : Lw ab) : W120 ab.1 ∧ W120 ab.2 := ⟨w_of h.a (Nat.le_refl _), w_of h.b (Nat.le_refl _)⟩
theorem take_rg {p : Pl} {m : Int} : 0 ≤ (take p m).1 ∧ (1 ≤ m → (take p m).1 < m) := by
  by_cases h : 2 ≤ m
  · exact ⟨(take_lt h).1, fun _ => (take_lt h).2⟩
  · rw [take_low (by omega)]
    exact ⟨Int.le_refl 0, fun h1 => by show (0 : Int) < m; omega⟩
theorem sz_sm {x : Int} (h0 : 0 ≤ x) (h : x < 1000) : ∃ n : Nat, x = (n : Int) ∧ n < 10 ^ 60 := sz_at h0 (Int.lt_trans h (by decide))
theorem sz_pw {x : Int} {m : Nat} (h0 : 0 ≤ x) (h : x < 9) (hm : m ≤ 59) : ∃ n : Nat, (1 + x) * (10 : Int) ^ m = (n : Int) ∧ n < 10 ^ 60 := by
  obtain ⟨k, rfl⟩ := Int.eq_ofNat_of_zero_le h0
  refine ⟨(1 + k) * 10 ^ m, by simp, ?_⟩
  have h1 : 1 + k ≤ 9 := by omega
  have h2 : 10 ^ m ≤ 10 ^ 59 := Nat.pow_le_pow_right (by decide) hm
  exact Nat.lt_of_le_of_lt (Nat.mul_le_mul h1 h2) (by decide +kernel)
theorem szl_next {p : Pl} {n : Nat} {s : Int × Pl} (h : Szl p n s) : Szl p (n + 1) (s.1 * 1000000000 + (take s.2 1000000000).1, (take s.2 1000000000).2) := by
  have t := take_lt (p := s.2) (m := 1000000000) (by decide)
  have c := take_ct (p := s.2) (m := 1000000000)
  have := h.lo
  have hi := h.hi
  have ct := h.ct
  refine ⟨take_ok h.ok, by show (take s.2 1000000000).2.ct ≤ _; omega, by show 0 ≤ s.1 * 1000000000 + _; omega, ?_⟩
  show s.1 * 1000000000 + _ < _
  rw [Int.pow_succ]
  omega
abbrev P_draw2 : Pl → List Dv → List Dv → Prop := fun p ps ds => ps = pool3 p ∧ ds = [] ∧ Pok p ∧ p.ct < 800000000
abbrev S_group : List Dv → Dv → Prop := fun ds r => ∃ l, ds = [⟨tTxt, l⟩] ∧ l.length ≤ 40000 ∧ r = ⟨tInt, grpL l⟩
def judD : Option (Int × Int) → Dv
  | none => ⟨tNon, ()⟩
  | some ab => ⟨tPair tInt tInt, ab⟩
abbrev S_judged : List Dv → Dv → Prop := fun ds r => ∃ l, ds = [⟨tTxt, l⟩] ∧ l.length ≤ 40000 ∧ r = judD (canL l)
theorem isD_take {l : List Nat} {n c : Nat} (h : isD (l.take n) = true) (hc : l[n]? = some c) : (48 ≤ c ∧ c ≤ 57 → isD (l.take (n + 1)) = true ∧ ((NumText.digitsVal (l.take (n + 1)) : Nat) : Int) = ((NumText.digitsVal (l.take n) : Nat) : Int) * 10 + ((c : Int) - 48)) ∧ (¬ (48 ≤ c ∧ c ≤ 57) → isD l = false) := by
  refine ⟨fun hd => ?_, fun hd => ?_⟩
  · rw [take_snoc hc]
    refine ⟨?_, ?_⟩
    · unfold isD at *
      rw [List.all_append, h]
      simp
      omega
    · rw [NumText.digitsVal_snoc]
      omega
  · refine Bool.eq_false_iff.mpr fun z => hd ?_
    have := (isD_iff.mp z) c (List.mem_of_getElem? hc)
    omega
theorem grp_bd {g : List Nat} : Bd 4000 (grpL g) := by
  rcases grp_nn (g := g) with h | h
  · rw [h]
    exact bd1 (n := 4000) (by decide) |>.neg
  · obtain ⟨e1, e2⟩ := grp_back h
    refine Bd.mono (n := 200) ?_ (by decide)
    unfold Bd
    have hv := TL.numL_val (grpL g).toNat
    rw [e1] at hv
    have hd : NumText.AllDigits g := by
      rw [← e1]
      exact TL.numL_digits _
    have := val_lt hd
    have h3 : NumText.digitsVal g < 10 ^ 60 := Nat.lt_of_lt_of_le this (Nat.pow_le_pow_right (by decide) e2)
    have := pow60
    omega
theorem spl_head (l : List Nat) : ∃ g gs, splL 47 l = g :: gs ∧ g.length ≤ l.length ∧ (gs = [] ∨ ∃ h hs, gs = h :: hs ∧ h.length ≤ l.length) := by
  obtain ⟨g, gs, e, _, k⟩ := spl_first l []
  rw [List.nil_append] at e
  refine ⟨g, gs, e, ?_, ?_⟩
  · rcases k with ⟨_, rfl⟩ | ⟨r, _, rfl⟩
    · exact Nat.le_refl _
    · rw [List.length_append]
      omega
  · rcases k with ⟨k1, _⟩ | ⟨r, k1, k2⟩
    · exact .inl k1
    · obtain ⟨g2, gs2, e2, _, k'⟩ := spl_first r []
      rw [List.nil_append] at e2
      refine .inr ⟨g2, gs2, k1.trans e2, ?_⟩
      have : g2.length ≤ r.length := by
        rcases k' with ⟨_, rfl⟩ | ⟨r2, _, rfl⟩
        · exact Nat.le_refl _
        · rw [List.length_append]
          omega
      rw [k2, List.length_append, List.length_cons]
      omega
theorem bodyL_len (l : List Nat) : (bodyL l).length ≤ l.length := by
  unfold bodyL
  split
  · rw [List.length_drop]
    omega
  · omega
/-- a text without a written form on the law's way -/
theorem jud_many {l g h : List Nat} {r : List (List Nat)} (e : splL 47 (bodyL l) = g :: h :: r) (hr : r ≠ []) : canL l = none := can_no fun p q a => by
  obtain ⟨_, k, _⟩ := canon_groups a
  rw [e] at k
  rcases k with ⟨_, k⟩ | ⟨_, k⟩
  · cases k
  · injection k with _ k
    injection k with _ k
    exact hr k
theorem jud_neg {l g : List Nat} {gs : List (List Nat)} (e : splL 47 (bodyL l) = g :: gs) (h : grpL g < 0) : canL l = none := can_no fun p q a => by
  obtain ⟨_, k, k2, _⟩ := canon_groups a
  rw [e] at k
  have : g = TL.numL p.natAbs := by
    rcases k with ⟨_, k⟩ | ⟨_, k⟩ <;> exact (List.cons.inj k).1
  rw [this, k2] at h
  omega
theorem jud_zero {l g : List Nat} {gs : List (List Nat)} (e : splL 47 (bodyL l) = g :: gs) (h : grpL g = 0) (hb : bodyL l ≠ l) : canL l = none := can_no fun p q a => by
  obtain ⟨k0, k, k2, _⟩ := canon_groups a
  rw [e] at k
  have : g = TL.numL p.natAbs := by
    rcases k with ⟨_, k⟩ | ⟨_, k⟩ <;> exact (List.cons.inj k).1
  rw [this, k2] at h
  have := k0.mpr hb
  omega
theorem jud_low {l g h : List Nat} (e : splL 47 (bodyL l) = [g, h]) (hc : grpL h < 2 ∨ Nat.gcd (grpL g).natAbs (grpL h).natAbs ≠ 1) : canL l = none := can_no fun p q a => by
  obtain ⟨_, k, k2, k3⟩ := canon_groups a
  rw [e] at k
  rcases k with ⟨_, k⟩ | ⟨hq, k⟩
  · cases k
  · injection k with e1 k
    injection k with e2 k
    rw [e1, e2, k2, k3] at hc
    have := a.low.pos
    rcases hc with hc | hc
    · omega
    · have h2 := a.low.cop
      rw [Int.natAbs_natCast] at hc
      exact hc h2
def mk1T : List Nat := [32, 33, 34, 35, 36, 38, 39, 40, 41, 42, 43, 44, 45, 46, 47, 48, 49, 50, 51, 52, 53, 54, 55, 56, 57, 58, 59, 60, 61, 62, 63, 64, 65, 66, 67, 68, 69, 70, 71, 72, 73, 74, 75, 76, 77, 78, 79, 80, 81, 82, 83, 84, 85, 86, 87, 88, 89, 90, 91, 92, 93, 94, 95]
def mk2T : List Nat := [96, 97, 98, 99, 100, 101, 102, 103, 104, 105, 106, 107, 108, 109, 110, 111, 112, 113, 114, 115, 116, 117, 118, 119, 120, 121, 122, 123, 124, 125, 126, 10, 9]
abbrev mkT : List Nat := mk1T ++ mk2T
theorem mkT_len : mkT.length = 96 := by decide +kernel
abbrev S_mark : List Dv → List Dv → List Dv → Dv → Prop := fun ps ds ps' r => ∃ p, ps = pool3 p ∧ ds = [] ∧ Pok p ∧ p.ct < 1000000000 ∧ ps' = pool3 (take p 96).2 ∧ r = ⟨tTxt, [mkT.getD (take p 96).1.toNat 0]⟩
/-- drawn marks -/
def mkL (tb : List Nat) (m : Int) (p : Pl) : Nat → List (List Nat) × Pl
  | 0 => ([], p)
  | n + 1 => ((mkL tb m p n).1 ++ [[tb.getD (take (mkL tb m p n).2 m).1.toNat 0]], (take (mkL tb m p n).2 m).2)
theorem mkL_chr {tb : List Nat} {m : Int} {p : Pl} (h : Chr tb) : ∀ n, ∀ x ∈ (mkL tb m p n).1, Chr x
  | 0, x, hx => by simp [mkL] at hx
  | n + 1, x, hx => by
    rcases List.mem_append.mp (show x ∈ (mkL tb m p n).1 ++ [_] from hx) with z | z
    · exact mkL_chr h n x z
    · rw [List.mem_singleton.mp z]
      exact chr_one h
theorem chr_mk : Chr mkT := chr_of (by decide +kernel)
theorem chr_ds : Chr [48, 49, 50, 51, 52, 53, 54, 55, 56, 57, 45, 47] := chr_of (by decide +kernel)
theorem mkL_ok {tb : List Nat} {m : Int} {p : Pl} (h : Pok p) : ∀ n, Pok (mkL tb m p n).2 ∧ (mkL tb m p n).2.ct ≤ p.ct + n ∧ (mkL tb m p n).1.length = n ∧ ((mkL tb m p n).1.map List.length).sum = n
  | 0 => ⟨h, by show p.ct ≤ p.ct + ((0 : Nat) : Int); omega, rfl, rfl⟩
  | n + 1 => by
    obtain ⟨h1, h2, h3, h4⟩ := mkL_ok h n
    have c := take_ct (p := (mkL tb m p n).2) (m := m)
    refine ⟨take_ok h1, ?_, ?_, ?_⟩
    · show (take (mkL tb m p n).2 m).2.ct ≤ _
      omega
    · show ((mkL tb m p n).1 ++ [_]).length = n + 1
      rw [List.length_append, h3]
      rfl
    · show (((mkL tb m p n).1 ++ [_]).map List.length).sum = n + 1
      rw [List.map_append, List.sum_append, h4]
      rfl
theorem join_len {ls : List (List Nat)} : (joinT [] ls).length = (ls.map List.length).sum := by
  rw [joinT_nil, List.length_flatten]
abbrev S_tx (n : Nat) : Pl → List Dv → Dv → Prop := fun p ps' r => ∃ (p' : Pl) (l : List Nat), ps' = pool3 p' ∧ r = ⟨tTxt, l⟩ ∧ Pok p' ∧ p'.ct ≤ p.ct + 200 ∧ l.length ≤ n ∧ Chr l
abbrev P_pair : Pl × (Int × Int) → List Dv → List Dv → Prop := fun g ps ds => ps = pool3 g.1 ∧ ds = [⟨tPair tInt tInt, g.2⟩] ∧ Pok g.1 ∧ g.1.ct < 700000000 ∧ Lw g.2
abbrev S_txp (n : Nat) : Pl × (Int × Int) → List Dv → Dv → Prop := fun g ps' r => ∃ (p' : Pl) (l : List Nat), ps' = pool3 p' ∧ r = ⟨tTxt, l⟩ ∧ Pok p' ∧ p'.ct ≤ g.1.ct + 300 ∧ l.length ≤ n ∧ Chr l
def manyT : List Int := [59, 60, 61, 62, 70, 120, 500, 5000]
theorem many_rg {i : Nat} (h : i < 8) : 59 ≤ manyT.getD i 0 ∧ manyT.getD i 0 ≤ 5000 := by
  rcases (show i = 0 ∨ i = 1 ∨ i = 2 ∨ i = 3 ∨ i = 4 ∨ i = 5 ∨ i = 6 ∨ i = 7 by omega) with rfl | rfl | rfl | rfl | rfl | rfl | rfl | rfl <;> decide
theorem intL_len10 {x : Int} (h0 : 1 ≤ x) (h : x ≤ 1000000000) : 1 ≤ (intL x).length ∧ (intL x).length ≤ 10 := by
  have e : (10 : Nat) ^ 10 = 10000000000 := by decide
  have k : (TL.numL x.natAbs).length ≤ 10 := TL.numL_len (by decide) (by omega)
  unfold intL
  rw [if_neg (by omega)]
  exact ⟨List.length_pos_iff.mpr (TL.numL_ne _), k⟩
theorem pick_len {xs : List (List Nat)} {n i : Nat} (h : ∀ x ∈ xs, x.length ≤ n) : (xs.getD i []).length ≤ n := by
  rw [List.getD_eq_getElem?_getD]
  cases e : xs[i]? with
  | none => exact Nat.zero_le _
  | some x => exact h x (List.mem_of_getElem? e)
theorem wr_len {p q : Int} (h : p.natAbs < 10 ^ 60) (k : q.natAbs < 10 ^ 60) (h0 : 0 < q) : (wrN p q).length ≤ 122 ∧ 1 ≤ (wrN p q).length := by
  have l1 := len60 h
  have l2 := len60 (m := q.toNat) (by omega)
  have l3 := List.length_pos_iff.mpr (TL.numL_ne p.natAbs)
  have e : (intL p).length ≤ 61 ∧ 1 ≤ (intL p).length := by
    unfold intL
    split
    · rw [List.length_cons]
      omega
    · omega
  have e2 : (tailN q).length ≤ 61 := by
    unfold tailN
    split
    · exact Nat.zero_le _
    · rw [List.length_cons]
      omega
  unfold wrN
  rw [List.length_append]
  omega
theorem findC_rg {c : Nat} {l : List Nat} : -1 ≤ findC c l ∧ findC c l ≤ (l.length : Int) := by
  rcases findC_spec c l with ⟨e, _⟩ | ⟨i, e, g, _⟩
  · rw [e]
    omega
  · rw [e]
    have := (List.getElem?_eq_some_iff.mp g).1
    omega
theorem intL_bd {x : Int} {n : Nat} (h : x.natAbs < 10 ^ n) (hn : 1 ≤ n) : (intL x).length ≤ n + 1 := by
  have := TL.numL_len (n := x.natAbs) (k := n) (by omega) h
  unfold intL
  split
  · rw [List.length_cons]
    omega
  · omega
theorem fac_bd2 {x f : Int} (h : x.natAbs < 10 ^ 60) (h0 : 0 ≤ f) (h1 : f < 10) : (x * f).natAbs < 10 ^ 61 := by
  rw [Int.natAbs_mul]
  have : f.natAbs < 10 := by omega
  have e : (10 : Nat) ^ 61 = 10 ^ 60 * 10 := by decide +kernel
  rw [e]
  exact Nat.mul_lt_mul'' h this
abbrev P_spo : Pl × (Int × Int) → List Dv → List Dv → Prop := P_pair
abbrev dsT : List Nat := [48, 49, 50, 51, 52, 53, 54, 55, 56, 57, 45, 47]
abbrev S_right (C : Addr) : List Dv → Dv → Prop := fun ds r => ∃ (ab : Int × Int) (l : List Nat), ds = [⟨tRat C, ⟨ab.1, ab.2⟩⟩, ⟨tPair tInt tInt, ab⟩, ⟨tTxt, l⟩] ∧ W120 ab.1 ∧ W120 ab.2 ∧ 0 < ab.2 ∧ l = wrN ab.1 ab.2 ∧ r = ⟨tBool, true⟩
abbrev S_reads : List Dv → Dv → Prop := fun ds r => ∃ l : List Nat, ds = [⟨tTxt, l⟩, judD (canL l)] ∧ l.length ≤ 40000 ∧ Chr l ∧ r = ⟨tBool, true⟩
def fixT : List (List Nat) := ([[], [45], [47], [43, 49], [45, 48], [48, 48], [48, 49], [45, 48, 49], [48, 47, 49], [48, 47, 50], [45, 48, 47, 49], [49, 47, 49], [51, 47, 49], [52, 47, 50], [45, 54, 47, 52]] ++ [[49, 47, 48], [48, 47, 48], [49, 47, 48, 50], [49, 47, 45, 50], [49, 47, 43, 50], [32, 49], [49, 32], [49, 32, 47, 50], [49, 10], [49, 46, 48], [49, 101, 49], [49, 95, 48], [49, 47, 47, 50]]) ++ [[49, 47, 50, 47, 51], [45, 45, 49]]
theorem fix_len {l : List Nat} (h : l ∈ fixT) : l.length ≤ 10 := by
  have : fixT.all (fun l => decide (l.length ≤ 10)) = true := by decide +kernel
  exact of_decide_eq_true (List.all_eq_true.mp this l h)
theorem fix_chr {l : List Nat} (h : l ∈ fixT) : Chr l := by
  have : fixT.all (fun l => l.all fun c => decide (c < 256)) = true := by decide +kernel
  exact chr_of (List.all_eq_true.mp this l h)
abbrev S_fixed : List Dv → List Dv → Prop := fun ds r => ds = [] ∧ r = fixT.map fun l => ⟨tTxt, l⟩
abbrev P_text : Pl × (Int × Int) → List Dv → List Dv → Prop := fun g ps ds => ps = pool3 g.1 ∧ ds = [⟨tPair tInt tInt, g.2⟩] ∧ Pok g.1 ∧ g.1.ct < 600000000 ∧ Lw g.2
abbrev S_txq (n : Nat) : Pl × (Int × Int) → List Dv → Dv → Prop := fun g ps' r => ∃ (p' : Pl) (l : List Nat), ps' = pool3 p' ∧ r = ⟨tTxt, l⟩ ∧ Pok p' ∧ p'.ct ≤ g.1.ct + 400 ∧ l.length ≤ n ∧ Chr l
theorem lt60 {n : Nat} (h : (TL.numL n).length ≤ 60) : n < 10 ^ 60 := by
  have hv := val_lt (TL.numL_digits n)
  rw [TL.numL_val] at hv
  exact Nat.lt_of_lt_of_le hv (Nat.pow_le_pow_right (by decide) h)
theorem shaped5 {l : List Nat} (h : Chr l) : SeqAt.shaped (.list [.bool true, .bool true, .bool true, .bool false, .str (txt l)]) = true := by
  simp [SeqAt.shaped, PyData.canLay0, PyData.canLayAll0, PyData.depth, PyData.depthAll, chr_ok h]
theorem Lw.pos (h : Lw ab) : 0 < ab.2 := h.low.pos
theorem Lw.bd (h : Lw ab) : Bd 200 ab.1 ∧ Bd 200 ab.2 := ⟨Nat.lt_of_lt_of_le h.a pow60, Nat.lt_of_lt_of_le h.b pow60⟩
theorem Lw.nrm (h : Lw ab) : nrm ab.1 ab.2 = ⟨ab.1, ab.2⟩ := nrm_low h.low
theorem Lw.can (h : Lw ab) : canL (wrN ab.1 ab.2) = some ab := by
  have h1 := h.b
  have h2 := h.pos
  exact can_yes ⟨h.low, rfl, len60 h.a, len60 (m := ab.2.toNat) (by omega)⟩
theorem w_mul {a b x : Int} (h : a.natAbs < 10 ^ 60) (k : b.natAbs < 10 ^ 60) (hx : x.natAbs ≤ (a * b).natAbs) : W120 x := by
  unfold W120
  rw [Int.natAbs_mul] at hx
  have e : (10 : Nat) ^ 120 = 10 ^ 60 * 10 ^ 60 := by rw [← Nat.pow_add]
  rw [e]
  exact Nat.lt_of_le_of_lt hx (Nat.mul_lt_mul'' h k)
theorem wrN_len {p q : Int} (h : W120 p) (k : W120 q) (h0 : 0 < q) : (wrN p q).length ≤ 300 := by
  have l1 := intL_bd (n := 120) h (by decide)
  have l2 : (TL.numL q.toNat).length ≤ 120 := TL.numL_len (by decide) (by unfold W120 at k; omega)
  unfold wrN tailN
  rw [List.length_append]
  split
  · show _ + 0 ≤ _
    omega
  · rw [List.length_cons]
    omega
theorem lit_0 {Γ : List Slot} : Den (tC (.str "-")) Γ tTxt [45] Γ := den_lit (by decide +kernel)
theorem lit_1 {Γ : List Slot} : Den (tC (.str "/")) Γ tTxt [47] Γ := den_lit (by decide +kernel)
theorem lit_2 {Γ : List Slot} : Den (tC (.str "")) Γ tTxt [] Γ := den_lit (by decide +kernel)
theorem lit_3 {Γ : List Slot} : Den (tC (.str "0")) Γ tTxt [48] Γ := den_lit (by decide +kernel)
theorem lit_4 {Γ : List Slot} : Den (tC (.str "1")) Γ tTxt [49] Γ := den_lit (by decide +kernel)
theorem lit_5 {Γ : List Slot} : Den (tC (.str "0123456789")) Γ tTxt [48, 49, 50, 51, 52, 53, 54, 55, 56, 57] Γ := den_lit (by decide +kernel)
theorem lit_6 {Γ : List Slot} : Den (tC (.str " !\"#$&'()*+,-./0123456789:;<=>?@ABCDEFGHIJKLMNOPQRSTUVWXYZ[\\]^_")) Γ tTxt [32, 33, 34, 35, 36, 38, 39, 40, 41, 42, 43, 44, 45, 46, 47, 48, 49, 50, 51, 52, 53, 54, 55, 56, 57, 58, 59, 60, 61, 62, 63, 64, 65, 66, 67, 68, 69, 70, 71, 72, 73, 74, 75, 76, 77, 78, 79, 80, 81, 82, 83, 84, 85, 86, 87, 88, 89, 90, 91, 92, 93, 94, 95] Γ := den_lit (by decide +kernel)
theorem lit_7 {Γ : List Slot} : Den (tC (.str "`abcdefghijklmnopqrstuvwxyz{|}~\n\t")) Γ tTxt [96, 97, 98, 99, 100, 101, 102, 103, 104, 105, 106, 107, 108, 109, 110, 111, 112, 113, 114, 115, 116, 117, 118, 119, 120, 121, 122, 123, 124, 125, 126, 10, 9] Γ := den_lit (by decide +kernel)
theorem lit_8 {Γ : List Slot} : Den (tC (.str "0123456789-/")) Γ tTxt [48, 49, 50, 51, 52, 53, 54, 55, 56, 57, 45, 47] Γ := den_lit (by decide +kernel)
theorem lit_9 {Γ : List Slot} : Den (tC (.str "/7")) Γ tTxt [47, 55] Γ := den_lit (by decide +kernel)
theorem lit_10 {Γ : List Slot} : Den (tC (.str "7/")) Γ tTxt [55, 47] Γ := den_lit (by decide +kernel)
theorem lit_11 {Γ : List Slot} : Den (tC (.str "/0")) Γ tTxt [47, 48] Γ := den_lit (by decide +kernel)
theorem lit_12 {Γ : List Slot} : Den (tC (.str "/1")) Γ tTxt [47, 49] Γ := den_lit (by decide +kernel)
theorem lit_13 {Γ : List Slot} : Den (tC (.str "/2")) Γ tTxt [47, 50] Γ := den_lit (by decide +kernel)
theorem lit_14 {Γ : List Slot} : Den (tC (.str "/-2")) Γ tTxt [47, 45, 50] Γ := den_lit (by decide +kernel)
theorem lit_15 {Γ : List Slot} : Den (tC (.str "+")) Γ tTxt [43] Γ := den_lit (by decide +kernel)
theorem lit_16 {Γ : List Slot} : Den (tC (.str " ")) Γ tTxt [32] Γ := den_lit (by decide +kernel)
theorem lit_17 {Γ : List Slot} : Den (tC (.str "\t")) Γ tTxt [9] Γ := den_lit (by decide +kernel)
theorem lit_18 {Γ : List Slot} : Den (tC (.str "\n")) Γ tTxt [10] Γ := den_lit (by decide +kernel)
theorem lit_19 {Γ : List Slot} : Den (tC (.str ".0")) Γ tTxt [46, 48] Γ := den_lit (by decide +kernel)
theorem lit_20 {Γ : List Slot} : Den (tC (.str "e1")) Γ tTxt [101, 49] Γ := den_lit (by decide +kernel)
theorem lit_21 {Γ : List Slot} : Den (tC (.str "_0")) Γ tTxt [95, 48] Γ := den_lit (by decide +kernel)
theorem lit_22 {Γ : List Slot} : Den (tC (.str "+1")) Γ tTxt [43, 49] Γ := den_lit (by decide +kernel)
theorem lit_23 {Γ : List Slot} : Den (tC (.str "-0")) Γ tTxt [45, 48] Γ := den_lit (by decide +kernel)
theorem lit_24 {Γ : List Slot} : Den (tC (.str "00")) Γ tTxt [48, 48] Γ := den_lit (by decide +kernel)
theorem lit_25 {Γ : List Slot} : Den (tC (.str "01")) Γ tTxt [48, 49] Γ := den_lit (by decide +kernel)
theorem lit_26 {Γ : List Slot} : Den (tC (.str "-01")) Γ tTxt [45, 48, 49] Γ := den_lit (by decide +kernel)
theorem lit_27 {Γ : List Slot} : Den (tC (.str "0/1")) Γ tTxt [48, 47, 49] Γ := den_lit (by decide +kernel)
theorem lit_28 {Γ : List Slot} : Den (tC (.str "0/2")) Γ tTxt [48, 47, 50] Γ := den_lit (by decide +kernel)
theorem lit_29 {Γ : List Slot} : Den (tC (.str "-0/1")) Γ tTxt [45, 48, 47, 49] Γ := den_lit (by decide +kernel)
theorem lit_30 {Γ : List Slot} : Den (tC (.str "1/1")) Γ tTxt [49, 47, 49] Γ := den_lit (by decide +kernel)
theorem lit_31 {Γ : List Slot} : Den (tC (.str "3/1")) Γ tTxt [51, 47, 49] Γ := den_lit (by decide +kernel)
theorem lit_32 {Γ : List Slot} : Den (tC (.str "4/2")) Γ tTxt [52, 47, 50] Γ := den_lit (by decide +kernel)
theorem lit_33 {Γ : List Slot} : Den (tC (.str "-6/4")) Γ tTxt [45, 54, 47, 52] Γ := den_lit (by decide +kernel)
theorem lit_34 {Γ : List Slot} : Den (tC (.str "1/0")) Γ tTxt [49, 47, 48] Γ := den_lit (by decide +kernel)
theorem lit_35 {Γ : List Slot} : Den (tC (.str "0/0")) Γ tTxt [48, 47, 48] Γ := den_lit (by decide +kernel)
theorem lit_36 {Γ : List Slot} : Den (tC (.str "1/02")) Γ tTxt [49, 47, 48, 50] Γ := den_lit (by decide +kernel)
theorem lit_37 {Γ : List Slot} : Den (tC (.str "1/-2")) Γ tTxt [49, 47, 45, 50] Γ := den_lit (by decide +kernel)
theorem lit_38 {Γ : List Slot} : Den (tC (.str "1/+2")) Γ tTxt [49, 47, 43, 50] Γ := den_lit (by decide +kernel)
theorem lit_39 {Γ : List Slot} : Den (tC (.str " 1")) Γ tTxt [32, 49] Γ := den_lit (by decide +kernel)
theorem lit_40 {Γ : List Slot} : Den (tC (.str "1 ")) Γ tTxt [49, 32] Γ := den_lit (by decide +kernel)
theorem lit_41 {Γ : List Slot} : Den (tC (.str "1 /2")) Γ tTxt [49, 32, 47, 50] Γ := den_lit (by decide +kernel)
theorem lit_42 {Γ : List Slot} : Den (tC (.str "1\n")) Γ tTxt [49, 10] Γ := den_lit (by decide +kernel)
theorem lit_43 {Γ : List Slot} : Den (tC (.str "1.0")) Γ tTxt [49, 46, 48] Γ := den_lit (by decide +kernel)
theorem lit_44 {Γ : List Slot} : Den (tC (.str "1e1")) Γ tTxt [49, 101, 49] Γ := den_lit (by decide +kernel)
theorem lit_45 {Γ : List Slot} : Den (tC (.str "1_0")) Γ tTxt [49, 95, 48] Γ := den_lit (by decide +kernel)
theorem lit_46 {Γ : List Slot} : Den (tC (.str "1//2")) Γ tTxt [49, 47, 47, 50] Γ := den_lit (by decide +kernel)
theorem lit_47 {Γ : List Slot} : Den (tC (.str "1/2/3")) Γ tTxt [49, 47, 50, 47, 51] Γ := den_lit (by decide +kernel)
theorem lit_48 {Γ : List Slot} : Den (tC (.str "--1")) Γ tTxt [45, 45, 49] Γ := den_lit (by decide +kernel)

theorem fix_cat : fixT = ([[], [45], [47], [43, 49], [45, 48], [48, 48], [48, 49], [45, 48, 49], [48, 47, 49], [48, 47, 50], [45, 48, 47, 49], [49, 47, 49], [51, 47, 49], [52, 47, 50], [45, 54, 47, 52]] ++ [[49, 47, 48], [48, 47, 48], [49, 47, 48, 50], [49, 47, 45, 50], [49, 47, 43, 50], [32, 49], [49, 32], [49, 32, 47, 50], [49, 10], [49, 46, 48], [49, 101, 49], [49, 95, 48], [49, 47, 47, 50]]) ++ [[49, 47, 50, 47, 51], [45, 45, 49]] := rfl


local macro_rules | `(tactic| exists "chr") => `(tactic| first | assumption | (exact chr_intL _) | (exact chr_one chr_mk) | (apply chr_app <;> exists "chr") | (apply chr_take; exists "chr") | (apply chr_drop; exists "chr") | exact chr_of rfl)

local macro_rules | `(tactic| exists "side") => `(tactic| first | assumption | (apply bt_mulW <;> assumption) | (apply bt_mul <;> assumption) | (apply bt_add <;> assumption) | (apply bt_sub <;> assumption) | (apply bt_add1 <;> assumption) | (apply bt_sub1 <;> assumption) | (apply bt_one; assumption) | (apply mul_ne <;> assumption) | (apply Bd.neg; assumption) | (apply Bd.abs; assumption))
local macro_rules | `(tactic| exists "sl") => `(tactic| first | (refine Or.inl ?_; exists "s"; done) | (exists "s"))
local macro_rules | `(tactic| exists "sr") => `(tactic| first | (refine Or.inr ?_; exists "s"; done) | (exists "s"))
local macro_rules | `(tactic| exists "d") => `(tactic| first
  | ((with_reducible apply den_isi); (exists "d"); constructor; (first | exact ty_int | exact ty_bool | exact ty_rat (by assumption)); (first | exact kit_self | exact RatW.ni (by assumption) | exact kit_ty (r := false) (by decide +kernel) | exact kit_ty (r := true) (by decide +kernel)))
  | ((with_reducible apply den_fld); (exists "d"); (first | exact fld_top (by assumption) | exact fld_bot (by assumption)))
  | ((with_reducible apply den_make0); (exists "d"); (exists "s"); exact mk_rat)
  | ((with_reducible apply den_make (es := [⟨tInt, 1⟩])); (exists "d"); exact (fun _ => .cons rfl .nil); (exists "s"); exact mk_rat)
  | ((with_reducible apply den_makeS); (exists "d"); (exists "s"); exact mk_rat)
  | ((with_reducible apply den_meth); (exists "d"); exact ins_rat; (exists "d"); (apply spP_v); first | (refine Or.inl ?_; exists "s"; done) | (refine Or.inr ?_; exists "s"; done) | exists "s")
  | ((with_reducible apply op2_own); exists "sl")
  | ((with_reducible apply op2_ownI); exists "sr")
  | ((with_reducible apply op2_ownR); exists "sr")
  | ((with_reducible apply op1_own); exists "s")
  | ((with_reducible apply on_own1); exists "s")
  | ((with_reducible apply op2_eq); exists "sl")
  | ((with_reducible apply op2_eqI); exists "sr")
  | ((with_reducible apply on_ownB); exists "s")
  | (with_reducible apply on_gcd)
  | ((with_reducible apply den_tup2) <;> exists "d")
  | ((with_reducible apply den_fst); exists "d")
  | ((with_reducible apply den_snd); exists "d"))

local macro_rules | `(tactic| exists "side") => `(tactic| (decide +kernel))
local macro_rules | `(tactic| exists "ifset") => `(tactic| ((exists "n"); (with_reducible apply s_ifSet); (exists "d"); rfl; (intro h_; exists "d"); dsimp only [List.set_cons_zero, List.set_cons_succ]))


local macro_rules | `(tactic| exists "side") => `(tactic| (simp only [List.length_append, List.length_take, List.length_drop, List.length_cons, List.length_nil]; omega))
local macro_rules | `(tactic| exists "side") => `(tactic| assumption)
local macro_rules | `(tactic| exists "d") => `(tactic| first
  | ((with_reducible apply op2_txtcat); exists "side")
  | (with_reducible apply op2_txteq)
  | (with_reducible apply op2_txtne)
  | (with_reducible apply op2_txtin2)
  | ((with_reducible apply on_txtlen); exists "side")
  | ((with_reducible apply on_strint); exists "side")
  | (with_reducible apply on_strstr)
  | ((with_reducible apply on_ownStr); exists "s")
  | ((with_reducible apply den_txthi); exists "d"; (with_reducible apply po_no); exists "d"; exists "side"; exists "side")
  | ((with_reducible apply den_txtlo); exists "d"; exists "d"; (with_reducible apply po_no); exists "side"; exists "side")
  | ((with_reducible apply den_chain) <;> exists "d")
  | (with_reducible apply lit_0)
  | (with_reducible apply lit_1)
  | (with_reducible apply lit_2)
  | (with_reducible apply lit_3)
  | (with_reducible apply lit_4)
  | (with_reducible apply lit_5)
  | (with_reducible apply lit_6)
  | (with_reducible apply lit_7)
  | (with_reducible apply lit_8)
  | (with_reducible apply lit_9)
  | (with_reducible apply lit_10)
  | (with_reducible apply lit_11)
  | (with_reducible apply lit_12)
  | (with_reducible apply lit_13)
  | (with_reducible apply lit_14)
  | (with_reducible apply lit_15)
  | (with_reducible apply lit_16)
  | (with_reducible apply lit_17)
  | (with_reducible apply lit_18)
  | (with_reducible apply lit_19)
  | (with_reducible apply lit_20)
  | (with_reducible apply lit_21)
  | (with_reducible apply lit_22)
  | (with_reducible apply lit_23)
  | (with_reducible apply lit_24)
  | (with_reducible apply lit_25)
  | (with_reducible apply lit_26)
  | (with_reducible apply lit_27)
  | (with_reducible apply lit_28)
  | (with_reducible apply lit_29)
  | (with_reducible apply lit_30)
  | (with_reducible apply lit_31)
  | (with_reducible apply lit_32)
  | (with_reducible apply lit_33)
  | (with_reducible apply lit_34)
  | (with_reducible apply lit_35)
  | (with_reducible apply lit_36)
  | (with_reducible apply lit_37)
  | (with_reducible apply lit_38)
  | (with_reducible apply lit_39)
  | (with_reducible apply lit_40)
  | (with_reducible apply lit_41)
  | (with_reducible apply lit_42)
  | (with_reducible apply lit_43)
  | (with_reducible apply lit_44)
  | (with_reducible apply lit_45)
  | (with_reducible apply lit_46)
  | (with_reducible apply lit_47)
  | (with_reducible apply lit_48))

local macro_rules | `(tactic| exists "d") => `(tactic| ((with_reducible apply den_isED); rfl; constructor; (first | exact kit_self | assumption)))
local macro_rules | `(tactic| exists "d") => `(tactic| ((with_reducible apply den_xf); rfl; rfl))

section
variable {W : Wd} {f : Addr} {fd : FuncData} {C_Ratio C_ZeroDivisor C_SpotError C_BadText C_BadNumber C_BadPolynomial C_BadQuestion C_BadLine a_BadText_init a_Ratio_mul a_Ratio_rmul a_Ratio_str : Addr}
theorem sc__law_pool : FnScope ["script", "greats", "smalls", "cell"] ["script"] (defScope s__law_pool) := ⟨rfl, rfl, rfl, by decide +kernel, rfl, by decide +kernel, by decide +kernel⟩
set_option maxHeartbeats 4000000 in
theorem ok__law_pool (F : FunD W.K "_law_pool" "_law_pool" (defArgs s__law_pool) (defBody s__law_pool) (defScope s__law_pool) [] [] f fd)(g : W.mg "_law_pool" = some (.ref f))
    (z_int : W.mg "int" = none)
    (z_abs : W.mg "abs" = none)
    (z_len : W.mg "len" = none) : DefOk W "_law_pool" 1 ["script"] (spN (S_pool W.K)) := by
  refine defOk_of F g sc__law_pool (spN_len (n := 1) fun ds r ⟨_, e, _⟩ => by rw [e]; rfl) (fun _ _ _ _ _ _ us hl => match us, hl with | [_], _ => rfl) (fun cdv A outer s H vs Q E hr h => ⟨_, (pss_cons (ps_set (i := 1) sc__law_pool.nd rfl (Or.inl rfl) (pe_lst pa_nil))
    (pss_cons (ps_set (i := 2) sc__law_pool.nd rfl (Or.inl rfl) (pe_lst pa_nil))
    (pss_cons (ps_for (passes_of rfl) rfl (pi_list (pv 0)) (pg_name (i := 3) sc__law_pool.nd rfl (Or.inl rfl)) (pss_one (ps_if (pt_cmpR op_ge (pe_callB call_abs (by rfl) z_abs (by decide +kernel) (pa_cons (pe_callTy call_int1 (by rfl) z_int (by decide +kernel) (pa_cons (pv 3) pa_nil)) pa_nil)) (pe_op op_pow pe_int pe_int) (nomark _)) (pss_one (ps_expr (pe_bm PySem.F.plainAttrs_list PySem.F.slot_list_append PySem.F.type_list_append mt_append (pv 1) (pa_cons (pe_callB call_abs (by rfl) z_abs (by decide +kernel) (pa_cons (pe_callTy call_int1 (by rfl) z_int (by decide +kernel) (pa_cons (pv 3) pa_nil)) pa_nil)) pa_nil)))) (pss_one (ps_expr (pe_bm PySem.F.plainAttrs_list PySem.F.slot_list_append PySem.F.type_list_append mt_append (pv 2) (pa_cons (pe_callB call_abs (by rfl) z_abs (by decide +kernel) (pa_cons (pe_callTy call_int1 (by rfl) z_int (by decide +kernel) (pa_cons (pv 3) pa_nil)) pa_nil)) pa_nil)))))))
    (pss_cons (ps_if (pt_cmpR op_eq (pe_callB call_len_seq (by rfl) z_len PySem.boot_len (pa_cons (pv 2) pa_nil)) pe_int (nomark _)) (pss_one (ps_expr (pe_bm PySem.F.plainAttrs_list PySem.F.slot_list_append PySem.F.type_list_append mt_append (pv 2) (pa_cons (pe_callB call_len_seq (by rfl) z_len PySem.boot_len (pa_cons (pv 1) pa_nil)) pa_nil)))) pss_nil)
    (pss_one (ps_ret (pe_lst (pa_cons (pv 1) (pa_cons (pv 2) (pa_cons pe_int pa_nil)))))))))), ?_⟩)
  refine body_N h fun F ds r _ hS q => ?_
  obtain ⟨ns, rfl, hl, rfl⟩ := hS
  refine (show OK _ [_, _, _, _] _ from ?_)
  exists "n"
  apply s_setN (t := tInt) (xs := [])
  · exists "d"
  exists "n"
  apply s_setN (t := tInt) (xs := [])
  · exists "d"
  exists "n"
  refine s_forScr (s0 := (([], []) : List Int × List Int)) (fun s => [.val ⟨tScr W.K, ns⟩, .lst tInt s.1, .lst tInt s.2, .any]) (fun n s => s = poolSplit (ns.take n)) (by exists "d") rfl (by exact Wk.refl _) ?_ ?_
  · intro Z' hZ n x s hx hs
    subst hs
    have hn : n < 63 := by
      have := (List.getElem?_eq_some_iff.mp hx).1
      omega
    have l1 := poolSplit_len (ns.take n)
    have l2 : (ns.take n).length ≤ n := by
      rw [List.length_take]
      omega
    exists "if"
    · intro hc
      have hc : 1000000000000000000 ≤ iabs x := of_decide_eq_true hc
      exists "n"
      apply s_app
      · rfl
      · exists "d"
      · rfl
      · show (poolSplit (ns.take n)).1.length < 100000
        omega
      exists "n"
      apply s_next (poolSplit (ns.take (n + 1)))
      · rfl
      rw [poolSplit_yes hx hc]
      exact .cons (.inr rfl) (.cons (.inr rfl) (.cons (.inr rfl) (.cons (.inl rfl) .nil)))
    · intro hc
      have hc : ¬ 1000000000000000000 ≤ iabs x := of_decide_eq_false hc
      exists "n"
      apply s_app
      · rfl
      · exists "d"
      · rfl
      · show (poolSplit (ns.take n)).2.length < 100000
        omega
      exists "n"
      apply s_next (poolSplit (ns.take (n + 1)))
      · rfl
      rw [poolSplit_no hx hc]
      exact .cons (.inr rfl) (.cons (.inr rfl) (.cons (.inr rfl) (.cons (.inl rfl) .nil)))
  · intro s hs
    subst hs
    rw [List.take_length]
    exists "if"
    · intro hc
      have e0 : (poolSplit ns).2 = [] := by
        have := of_decide_eq_true hc
        have h0 : (poolSplit ns).2.length = 0 := by omega
        exact List.eq_nil_of_length_eq_zero h0
      exists "n"
      apply s_app
      · rfl
      · exists "d"
      · rfl
      · show (poolSplit ns).2.length < 100000
        rw [e0]
        decide
      have ep : pool ns = ⟨(poolSplit ns).1, [((poolSplit ns).1.length : Int)], 0⟩ := by
        unfold pool
        rw [if_pos e0]
      rw [ep] at q
      exists "n"
      refine s_freeze (i := 1) (t := tInt) rfl (fun _ _ _ _ z => z) ?_
      refine s_freeze (i := 2) (t := tInt) rfl (fun _ _ _ _ z => z) ?_
      apply s_retNP ⟨rfl, rfl, rfl⟩ rfl q
      · with_reducible apply dn_lst
        · exists "d"
        · show 3 ≤ 100000; decide
      · show pool3 _ = _
        rw [e0]
        rfl
    · intro hc
      have e0 : (poolSplit ns).2 ≠ [] := fun e => by
        rw [e] at hc
        exact absurd hc (by decide)
      have ep : pool ns = ⟨(poolSplit ns).1, (poolSplit ns).2, 0⟩ := by
        unfold pool
        rw [if_neg e0]
      rw [ep] at q
      exists "n"
      refine s_freeze (i := 1) (t := tInt) rfl (fun _ _ _ _ z => z) ?_
      refine s_freeze (i := 2) (t := tInt) rfl (fun _ _ _ _ z => z) ?_
      apply s_retNP ⟨rfl, rfl, rfl⟩ rfl q
      · with_reducible apply dn_lst
        · exists "d"
        · show 3 ≤ 100000; decide
      · rfl

theorem sc__law_take : FnScope ["pool", "most", "value", "rest", "count", "seed", "mixed"] ["pool", "most"] (defScope s__law_take) := ⟨rfl, rfl, rfl, by decide +kernel, rfl, by decide +kernel, by decide +kernel⟩
set_option maxHeartbeats 4000000 in
theorem ok__law_take (F : FunD W.K "_law_take" "_law_take" (defArgs s__law_take) (defBody s__law_take) (defScope s__law_take) [] [] f fd)(g : W.mg "_law_take" = some (.ref f))
    (z_len : W.mg "len" = none)
    (z_list : W.mg "list" = none)
    (z_int : W.mg "int" = none) : DefOk W "_law_take" 1 ["pool", "most"] (spM S_take) := by
  refine defOk_of F g sc__law_take (spM_len (n := 1) fun ps ds ps' r ⟨_, _, _, e, _⟩ => by rw [e]; rfl) (fun _ _ _ _ _ _ us hl => match us, hl with | [_, _], _ => rfl) (fun cdv A outer s H vs Q E hr h => ⟨_, (pss_cons (ps_if (pt_cmpR op_lt (pv 1) pe_int (nomark _)) (pss_one (ps_ret pe_int)) pss_nil)
    (pss_cons (ps_if (pt_cmpR op_gt (pe_callB call_len_seq (by rfl) z_len PySem.boot_len (pa_cons (pe_ix ix_list (pv 0) pe_int (fun _ _ => rfl)) pa_nil)) pe_int (nomark _)) (pss_cons (ps_set (i := 2) sc__law_take.nd rfl (Or.inl rfl) (pe_ix ix_list (pe_ix ix_list (pv 0) pe_int (fun _ _ => rfl)) pe_int (fun _ _ => rfl)))
    (pss_cons (ps_set (i := 3) sc__law_take.nd rfl (Or.inl rfl) (pe_callTy call_list_of (by rfl) z_list (by decide +kernel) (pa_cons (pe_slice sl_list (pe_ix ix_list (pv 0) pe_int (fun _ _ => rfl)) (po_some pe_int) po_none) pa_nil)))
    (pss_cons (ps_if (pt_cmpR op_gt (pe_op op_fdivX (pv 2) (pv 1)) pe_int (nomark _)) (pss_one (ps_set (i := 3) sc__law_take.nd rfl (Or.inl rfl) (pe_op op_cat (pe_lst (pa_cons (pe_op op_fdivX (pv 2) (pv 1)) pa_nil)) (pv 3)))) pss_nil)
    (pss_cons (ps_asg (pv 3) (pg_sub (pv 0) pe_int set_list))
    (pss_one (ps_ret (pe_op op_mod (pe_callTy call_int1 (by rfl) z_int (by decide +kernel) (pa_cons (pv 2) pa_nil)) (pv 1)))))))) pss_nil)
    (pss_cons (ps_set (i := 4) sc__law_take.nd rfl (Or.inl rfl) (pe_ix ix_list (pv 0) pe_int (fun _ _ => rfl)))
    (pss_cons (ps_asg (pe_op op_add (pv 4) pe_int) (pg_sub (pv 0) pe_int set_list))
    (pss_cons (ps_set (i := 5) sc__law_take.nd rfl (Or.inl rfl) (pe_ix ix_list (pe_ix ix_list (pv 0) pe_int (fun _ _ => rfl)) (pe_op op_mod (pe_callTy call_int1 (by rfl) z_int (by decide +kernel) (pa_cons (pe_op op_fdivX (pv 4) pe_int) pa_nil)) (pe_callB call_len_seq (by rfl) z_len PySem.boot_len (pa_cons (pe_ix ix_list (pv 0) pe_int (fun _ _ => rfl)) pa_nil))) (fun _ _ => rfl)))
    (pss_cons (ps_set (i := 6) sc__law_take.nd rfl (Or.inl rfl) (pe_op op_mod (pe_callTy call_int1 (by rfl) z_int (by decide +kernel) (pa_cons (pe_op op_add (pe_op op_add (pe_op op_mulW (pv 5) pe_int) (pe_op op_mulW (pv 4) pe_int)) pe_int) pa_nil)) pe_int))
    (pss_cons (ps_set (i := 6) sc__law_take.nd rfl (Or.inl rfl) (pe_op op_mod (pe_callTy call_int1 (by rfl) z_int (by decide +kernel) (pa_cons (pe_op op_add (pe_op op_add (pe_op op_mulW (pv 6) (pv 6)) (pe_op op_mulW (pv 4) pe_int)) pe_int) pa_nil)) pe_int))
    (pss_cons (ps_set (i := 6) sc__law_take.nd rfl (Or.inl rfl) (pe_op op_mod (pe_callTy call_int1 (by rfl) z_int (by decide +kernel) (pa_cons (pe_op op_add (pe_op op_add (pe_op op_mulW (pv 6) (pv 6)) (pv 5)) pe_int) pa_nil)) pe_int))
    (pss_one (ps_ret (pe_op op_mod (pe_callTy call_int1 (by rfl) z_int (by decide +kernel) (pa_cons (pe_op op_fdivX (pv 6) pe_int) pa_nil)) (pv 1)))))))))))), ?_⟩)
  refine body_M h fun F a ps ds ps' r _ hS q => ?_
  obtain ⟨p, m, rfl, rfl, hp, hc, hm, rfl, rfl⟩ := hS
  refine (show OK _ [_, _, _, _, _, _, _] _ from ?_)
  exists "if"
  · intro hb
    rw [take_low (of_decide_eq_true hb)] at q
    apply s_retM ⟨rfl, rfl, rfl⟩ rfl q
    · exists "d"
    · rfl
    · rfl
  intro hb
  have hb : 2 ≤ m := by
    have := of_decide_eq_false hb
    omega
  obtain ⟨gr, sm, ct⟩ := p
  cases gr with
  | cons v r =>
    exists "if"
    rotate_left
    · intro hb
      exact absurd (of_decide_eq_false hb) (by simp)
    intro _
    exists "set"
    exists "let"
    intro rest hrest
    have hrest : rest = r := by
      rw [hrest]
      simp [HT.sIx]
    subst hrest
    have hl : rest.length ≤ 1000 := by
      have := hp.gl
      rw [List.length_cons] at this
      omega
    exists "if"
    · intro hc
      rw [take_yes hb (of_decide_eq_true hc)] at q
      exists "set"
      exists "n"
      apply s_setIxH
      · exists "d"
      · rfl
      · decide
      · show 0 < 3; decide
      exists "n"
      apply s_retM ⟨rfl, rfl, rfl⟩ rfl q
      · exists "d"
      · rfl
      · rfl
    · intro hc
      rw [take_no hb (of_decide_eq_false hc)] at q
      exists "n"
      apply s_setIxH
      · exists "d"
      · rfl
      · decide
      · show 0 < 3; decide
      exists "n"
      apply s_retM ⟨rfl, rfl, rfl⟩ rfl q
      · exists "d"
      · rfl
      · rfl
  | nil =>
    obtain ⟨x0, xs, x1, x2⟩ := seed_at hp
    rw [take_nil hb] at q
    generalize hseed : seedOf ⟨[], sm, ct⟩ = seed at *
    have hct : 0 ≤ ct := hp.ct
    have hsl : 0 < (sm.length : Int) := by
      have := List.length_pos_iff.mpr (show sm ≠ [] from hp.sm)
      omega
    have hc : ct < 1000000000 := hc
    exists "if"
    · intro hb
      exact absurd (of_decide_eq_true hb) (by simp)
    intro _
    exists "set"
    exists "n"
    apply s_setIxH
    · exists "d"
    · rfl
    · decide
    · show 2 < 3; decide
    exists "set"
    exists "let"
    intro m0 h0
    have b0 := emod_r (seed * 48271 + ct * 69621 + 12345) (m := 2147483647) (by decide)
    rw [← h0] at b0
    exists "let"
    intro m1 h1
    have b1 := emod_r (m0 * m0 + ct * 40692 + 7) (m := 2147483399) (by decide)
    rw [← h1] at b1
    exists "let"
    intro m2 h2
    have b2 := emod_r (m1 * m1 + seed + 3) (m := 2147483563) (by decide)
    rw [← h2] at b2
    have e : mix2 (mix1 (mix0 seed ct) ct) seed = m2 := by
      rw [h2, h1, h0] <;> rfl
    rw [e] at q
    exists "n"
    apply s_retM ⟨rfl, rfl, rfl⟩ rfl q
    · exists "d"
    · rfl
    · rfl

theorem sc_is_short_digits : FnScope ["text", "mark"] ["text"] (defScope s_is_short_digits) := ⟨rfl, rfl, rfl, by decide +kernel, rfl, by decide +kernel, by decide +kernel⟩
set_option maxHeartbeats 4000000 in
theorem ok_is_short_digits (F : FunD W.K "is_short_digits" "is_short_digits" (defArgs s_is_short_digits) (defBody s_is_short_digits) (defScope s_is_short_digits) [] [] f fd)(g : W.mg "is_short_digits" = some (.ref f))
    (z_len : W.mg "len" = none)
    (c_MOST_DIGITS : ∃ t, W.mg "MOST_DIGITS" = some (.int 60 t))
    (c_DIGITS : ∃ t, W.mg "DIGITS" = some (.str "0123456789" t))
    (z_all : W.mg "all" = none) : DefOk W "is_short_digits" 1 ["text"] (spP S_short NoR) := by
  obtain ⟨t_c_MOST_DIGITS, c_MOST_DIGITS⟩ := c_MOST_DIGITS
  obtain ⟨t_c_DIGITS, c_DIGITS⟩ := c_DIGITS
  refine defOk_of F g sc_is_short_digits (spP_len (n := 1) (fun ds r h => by obtain ⟨_, rfl, _⟩ := h; rfl) (fun _ _ h => h.elim)) (fun _ _ _ _ _ _ us hl => match us, hl with | [_], _ => rfl) (fun cdv A outer s H vs Q E hr h => ⟨_, (pss_cons (ps_if (pt_not (pt_chain op_le op_le pe_int (pe_callB call_len_str (by rfl) z_len PySem.boot_len (pa_cons (pv 0) pa_nil)) (pe_glob (v := .int 60) rfl c_MOST_DIGITS ⟨_, rfl⟩))) (pss_one (ps_ret pe_bl)) pss_nil)
    (pss_one (ps_ret (pe_callB (cr_all rfl) (by rfl) z_all (by decide +kernel) (pa_cons (pe_lc (own := [("mark", 1)]) (g := gName 1) (tt := tYes) rfl sc_is_short_digits.nd (pi_str (pv 0)) (blkOk_by (N := ["text", "mark"]) (sc := defScope s_is_short_digits) (by decide +kernel)) (fun _ _ _ _ _ => pg_name (i := 1) sc_is_short_digits.nd rfl (Or.inl rfl)) (fun _ _ _ _ _ => pts_nil) (fun _ _ _ _ _ => (pe_cmpR op_in_sign (pv 1) (pe_glob (v := .str "0123456789") rfl c_DIGITS ⟨_, rfl⟩) rfl))) pa_nil))))), ?_⟩)
  refine body_P h fun F ds _ hS => ?_
  rcases hS with ⟨r, ⟨l, rfl, hl, rfl⟩, q⟩ | ⟨c, hR, _⟩
  rotate_left
  · exact hR.elim
  
  refine (show OK _ [_, _] _ from ?_)
  exists "if"
  · intro hc
    have e : shortB l = false := by
      unfold shortB
      rw [show (decide (1 ≤ l.length) && decide (l.length ≤ 60)) = false by simp at hc ⊢; omega]
      rfl
    rw [e] at q
    exists "n"
    apply s_retP ⟨rfl, rfl, rfl⟩ rfl q
    · exists "d"
    · rfl
  intro hc
  exists "n"
  apply s_retP ⟨rfl, rfl, rfl⟩ rfl q
  · apply den_all
    apply dn_l
    apply dn_lcS1 (u := tBool) (l := l) (fun c => decide (c ∈ dgT))
    · exists "d"
    · rfl
    · omega
    · intro n c hn
      exists "d"
  · show (⟨tBool, _⟩ : Dv) = ⟨tBool, _⟩
    rw [isD_in]
    unfold shortB
    rw [show (decide (1 ≤ l.length) && decide (l.length ≤ 60)) = true by simp at hc ⊢; omega]
    rfl

theorem sc_written_integer : FnScope ["number", "pieces", "rest"] ["number"] (defScope s_written_integer) := ⟨rfl, rfl, rfl, by decide +kernel, rfl, by decide +kernel, by decide +kernel⟩
set_option maxHeartbeats 4000000 in
theorem ok_written_integer (F : FunD W.K "written_integer" "written_integer" (defArgs s_written_integer) (defBody s_written_integer) (defScope s_written_integer) [] [] f fd)(g : W.mg "written_integer" = some (.ref f))
    (c_PIECE : ∃ t, W.mg "PIECE" = some (.int 1000000000000000000000000000000000000000000000000000000000000 t))
    (z_divmod : W.mg "divmod" = none)
    (z_str : W.mg "str" = none)
    (c_MOST_DIGITS : ∃ t, W.mg "MOST_DIGITS" = some (.int 60 t)) : DefOk W "written_integer" 1 ["number"] (spP S_wi NoR) := by
  obtain ⟨t_c_PIECE, c_PIECE⟩ := c_PIECE
  obtain ⟨t_c_MOST_DIGITS, c_MOST_DIGITS⟩ := c_MOST_DIGITS
  refine defOk_of F g sc_written_integer (spP_len (n := 1) (fun ds r h => by obtain ⟨_, rfl, _⟩ := h; rfl) (fun _ _ h => h.elim)) (fun _ _ _ _ _ _ us hl => match us, hl with | [_], _ => rfl) (fun cdv A outer s H vs Q E hr h => ⟨_, (pss_cons (ps_set (i := 1) sc_written_integer.nd rfl (Or.inl rfl) (pe_lst pa_nil))
    (pss_cons (ps_while (passes_of rfl) (pt_cmpR op_ge (pv 0) (pe_glob (v := .int 1000000000000000000000000000000000000000000000000000000000000) rfl c_PIECE ⟨_, rfl⟩) (nomark _)) (pss_cons (ps_asg (pe_callB call_divmodW (by rfl) z_divmod (by decide +kernel) (pa_cons (pv 0) (pa_cons (pe_glob (v := .int 1000000000000000000000000000000000000000000000000000000000000) rfl c_PIECE ⟨_, rfl⟩) pa_nil))) (pg_tup (by rfl) (pgs_cons (pg_name (i := 0) sc_written_integer.nd rfl (Or.inl rfl)) (pgs_cons (pg_name (i := 2) sc_written_integer.nd rfl (Or.inl rfl)) pgs_nil))))
    (pss_one (ps_expr (pe_bm PySem.F.plainAttrs_list PySem.F.slot_list_append PySem.F.type_list_append mt_append (pv 1) (pa_cons (pe_bm PySem.F.plainAttrs_str PySem.F.slot_str_zfill PySem.F.type_str_zfill mt_zfill (pe_callTy call_str_int (by rfl) z_str (by decide +kernel) (pa_cons (pv 2) pa_nil)) (pa_cons (pe_glob (v := .int 60) rfl c_MOST_DIGITS ⟨_, rfl⟩) pa_nil)) pa_nil))))))
    (pss_cons (ps_expr (pe_bm PySem.F.plainAttrs_list PySem.F.slot_list_append PySem.F.type_list_append mt_append (pv 1) (pa_cons (pe_callTy call_str_int (by rfl) z_str (by decide +kernel) (pa_cons (pv 0) pa_nil)) pa_nil)))
    (pss_one (ps_ret (pe_bm PySem.F.plainAttrs_str PySem.F.slot_str_join PySem.F.type_str_join mt_join pe_str (pa_cons (pe_revL (pv 1)) pa_nil))))))), ?_⟩)
  refine body_P h fun F ds _ hS => ?_
  rcases hS with ⟨r, ⟨n, rfl, hn, rfl⟩, q⟩ | ⟨c, hR, _⟩
  rotate_left
  · exact hR.elim
  
  refine (show OK _ [_, _, _] _ from ?_)
  exists "n"
  apply s_setN (t := tTxt) (xs := [])
  · exists "d"
  exists "n"
  refine s_while (S := Bool) false (fun s => if s = true then [.val ⟨tInt, ((n / 10 ^ 60 : Nat) : Int)⟩, .lst tTxt [zfT (TL.numL (n % 10 ^ 60)) 60], .any] else [.val ⟨tInt, (n : Int)⟩, .lst tTxt [], .any]) (fun s => s = true → 10 ^ 60 ≤ n) (fun s => if s = true then 0 else 1) (fun z => nomatch z) (Wk.refl _) ?_
  intro s hs
  cases s with
  | false =>
    refine ⟨decide ((n : Int) ≥ M60), [.val ⟨tInt, (n : Int)⟩, .lst tTxt [], .any], ?_, ?_, ?_⟩
    · refine (show DenT _ [_, _, _] _ _ from ?_)
      exists "d"
    · intro hc
      have hc : M60 ≤ (n : Int) := of_decide_eq_true hc
      have hc : 10 ^ 60 ≤ n := by
        have e := m60_nat
        omega
      obtain ⟨w1, w2, w3, w4⟩ := w_split hc hn
      have hk1 := lg60 w3
      exists "n"
      apply s_unp2 (t := tInt) (u := tInt) (z := (((n / 10 ^ 60 : Nat) : Int), ((n % 10 ^ 60 : Nat) : Int)))
      · rw [← dm60]
        apply den_divmod
        · exists "d"
        · exists "d"
        · decide
        · decide +kernel
      exists "n"
      apply s_app
      · rfl
      · apply den_zfill (l := TL.numL (n % 10 ^ 60)) (i := 60)
        · rw [← intL_nat]
          exists "d"
        · exists "d"
        · decide +kernel
      · rfl
      · decide
      exists "n"
      exact fun F σ H hh => ⟨true, F, fun _ => hc, by decide, hh.weak (.cons (.inr rfl) (.cons (.inr rfl) (.cons (.inl rfl) .nil)))⟩
    · intro hc
      have hc : ¬ M60 ≤ (n : Int) := of_decide_eq_false hc
      have hc : n < 10 ^ 60 := by
        have e := m60_nat
        omega
      have hk1 := lg60 hc
      have hl := len60 hc
      exists "n"
      apply s_app
      · rfl
      · exists "d"
      · rfl
      · first | decide | (show 1 < 100000; decide)
      exists "n"
      apply s_retP ⟨rfl, rfl, rfl⟩ rfl q
      · apply den_join
        · exists "d"
        · apply dn_l
          apply dn_rev
          exists "d"
        · show (([intL (n : Int)].reverse).map List.length).sum + _ ≤ _
          rw [intL_nat]
          simp only [List.reverse_cons, List.reverse_nil, List.nil_append, List.cons_append, List.map_cons, List.map_nil, List.sum_cons, List.sum_nil, List.length_cons, List.length_nil]
          omega
      · show _ = (⟨tTxt, joinT [] [intL (n : Int)]⟩ : Dv)
        rw [intL_nat, joinT_nil]
        simp
  | true =>
    have hc := hs rfl
    obtain ⟨w1, w2, w3, w4⟩ := w_split hc hn
    have hk1 := lg60 w2
    have hl := len60 w2
    have hz := zf_len w3
    refine ⟨decide (((n / 10 ^ 60 : Nat) : Int) ≥ M60), [.val ⟨tInt, ((n / 10 ^ 60 : Nat) : Int)⟩, .lst tTxt [zfT (TL.numL (n % 10 ^ 60)) 60], .any], ?_, ?_, ?_⟩
    · refine (show DenT _ [_, _, _] _ _ from ?_)
      exists "d"
    · intro hc
      have hc : M60 ≤ ((n / 10 ^ 60 : Nat) : Int) := of_decide_eq_true hc
      have e := m60_nat
      omega
    · intro _
      exists "n"
      apply s_app
      · rfl
      · exists "d"
      · rfl
      · first | decide | (show 1 < 100000; decide)
      exists "n"
      apply s_retP ⟨rfl, rfl, rfl⟩ rfl q
      · apply den_join
        · exists "d"
        · apply dn_l
          apply dn_rev
          exists "d"
        · show (([zfT (TL.numL (n % 10 ^ 60)) 60, intL ((n / 10 ^ 60 : Nat) : Int)].reverse).map List.length).sum + _ ≤ _
          rw [intL_nat]
          simp only [List.reverse_cons, List.reverse_nil, List.nil_append, List.cons_append, List.map_cons, List.map_nil, List.sum_cons, List.sum_nil, List.length_cons, List.length_nil]
          omega
      · show _ = (⟨tTxt, joinT [] [intL ((n / 10 ^ 60 : Nat) : Int), zfT (TL.numL (n % 10 ^ 60)) 60]⟩ : Dv)
        rw [intL_nat, joinT_nil, w4]
        simp

theorem sc_written_number : FnScope ["top", "bottom", "text"] ["top", "bottom"] (defScope s_written_number) := ⟨rfl, rfl, rfl, by decide +kernel, rfl, by decide +kernel, by decide +kernel⟩
set_option maxHeartbeats 4000000 in
theorem ok_written_number (F : FunD W.K "written_number" "written_number" (defArgs s_written_number) (defBody s_written_number) (defScope s_written_number) [] [] f fd)(g : W.mg "written_number" = some (.ref f))
    (z_abs : W.mg "abs" = none)
    (h_written_integer : DefOk W "written_integer" 1 ["number"] (spP S_wi NoR)) : DefOk W "written_number" 2 ["top", "bottom"] (spP S_wn NoR) := by
  obtain ⟨f_written_integer, fd_written_integer, G_written_integer, g_written_integer, k_written_integer, b_written_integer⟩ := h_written_integer
  refine defOk_of F g sc_written_number (spP_len (n := 2) (fun ds r h => by obtain ⟨_, _, rfl, _⟩ := h; rfl) (fun _ _ h => h.elim)) (fun _ _ _ _ _ _ us hl => match us, hl with | [_, _], _ => rfl) (fun cdv A outer s H vs Q E hr h => ⟨_, (pss_cons (ps_set (i := 2) sc_written_number.nd rfl (Or.inl rfl) (pe_call G_written_integer (hr.mono (by decide)) rfl g_written_integer k_written_integer b_written_integer .nil passL (pa_cons (pe_callB call_abs (by rfl) z_abs (by decide +kernel) (pa_cons (pv 0) pa_nil)) pa_nil)))
    (pss_cons (ps_if (pt_cmpR op_lt (pv 0) pe_int (nomark _)) (pss_one (ps_set (i := 2) sc_written_number.nd rfl (Or.inl rfl) (pe_op op_add_str pe_str (pv 2)))) pss_nil)
    (pss_cons (ps_if (pt_cmpR op_eq (pv 1) pe_int (nomark _)) (pss_one (ps_ret (pv 2))) pss_nil)
    (pss_one (ps_ret (pe_op op_add_str (pe_op op_add_str (pv 2) pe_str) (pe_call G_written_integer (hr.mono (by decide)) rfl g_written_integer k_written_integer b_written_integer .nil passL (pa_cons (pv 1) pa_nil)))))))), ?_⟩)
  refine body_P h fun F ds _ hS => ?_
  rcases hS with ⟨r, ⟨p, z, rfl, hp, hz, h0, rfl⟩, q⟩ | ⟨c, hR, _⟩
  rotate_left
  · exact hR.elim
  
  have lp : (TL.numL p.natAbs).length ≤ 120 := TL.numL_len (by decide) hp
  have lz : (TL.numL z.toNat).length ≤ 120 := TL.numL_len (by decide) (by unfold W120 at hz; omega)
  refine (show OK _ [_, _, _] _ from ?_)
  exists "n"
  apply s_set (t := tTxt) (x := TL.numL p.natAbs)
  · apply den_call
    · exists "d"
    · exact spP_v ⟨p.natAbs, by rw [iabs_nat], hp, rfl⟩
  exists "n"
  apply s_ifSet
  · exists "d"
  · rfl
  · intro _
    exists "d"
  dsimp only [List.set_cons_zero, List.set_cons_succ]
  intro y hy
  have hy : y = intL p := by
    unfold intL
    rcases hy with ⟨a, b⟩ | ⟨a, b⟩
    · have a := of_decide_eq_true a
      rw [b, if_pos a]
      rfl
    · have a := of_decide_eq_false a
      rw [b, if_neg a]
  subst hy
  have ly : (intL p).length ≤ 121 := by
    unfold intL
    split
    · rw [List.length_cons]
      omega
    · omega
  exists "if"
  · intro h1
    have h1 := of_decide_eq_true h1
    have e : wrN p z = intL p := by
      unfold wrN
      rw [tail_no h1, List.append_nil]
    rw [e] at q
    exists "n"
    apply s_retP ⟨rfl, rfl, rfl⟩ rfl q
    · exists "d"
    · rfl
  intro h1
  have h1 := of_decide_eq_false h1
  have e : wrN p z = (intL p ++ [47]) ++ TL.numL z.toNat := by
    unfold wrN
    rw [tail_yes h1, List.append_assoc]
    rfl
  rw [e] at q
  exists "n"
  apply s_retP ⟨rfl, rfl, rfl⟩ rfl q
  · apply den_op
    · exists "d"
    · apply den_call
      · exists "d"
      · exact spP_v ⟨z.toNat, by rw [Int.toNat_of_nonneg (by omega)], by unfold W120 at hz; omega, rfl⟩
    · apply op2_txtcat
      rw [List.length_append]
      show _ + 1 + _ ≤ _
      omega
  · rfl

theorem sc_Ratio___init__ : FnScope ["self", "top", "bottom", "common"] ["self", "top", "bottom"] (defScope s_Ratio___init__) := ⟨rfl, rfl, rfl, by decide +kernel, rfl, by decide +kernel, by decide +kernel⟩
set_option maxHeartbeats 4000000 in
theorem ok_Ratio___init__ (F : FunD W.K "__init__" "Ratio.__init__" (defArgs s_Ratio___init__) (defBody s_Ratio___init__) (defScope s_Ratio___init__) [.int 1] [] f fd)(g : Mk W.K C_Ratio f)
    (xc_ZeroDivisor : ExcOk W "ZeroDivisor" C_ZeroDivisor)
    (q_gcd : W.mg "gcd" = some (.builtin "math.gcd"))
    (RW_ : RatW W.K C_Ratio) : InitOkD W C_Ratio 1 ["self", "top", "bottom"] (spI C_Ratio S_init (R_init C_ZeroDivisor)) [.int 1] := by
  refine initOkD_of F g sc_Ratio___init__ (spI_len (n := 2) (fun ds r ⟨_, _, e, _⟩ => by rw [e]; rfl) (fun ds r ⟨_, e, _⟩ => by rw [e]; rfl)) (by decide) (fun _ _ _ _ _ _ _ us its hl hl2 => match us, its, hl, hl2 with | [_, _, _], [_], _, _ => ⟨_, rfl, rfl⟩) (fun _ _ _ _ _ _ _ us its hl hl2 => match us, its, hl, hl2 with | [_, _], [_], _, _ => ⟨_, rfl, rfl⟩) (fun cdv A outer s H vs Q E hr h => ⟨_, (pss_cons (ps_if (pt_cmpR op_eq (pv 2) pe_int (nomark _)) (pss_one (ps_raise rfl (takes_of rfl rfl rfl rfl) (pmk_own PySem.F.excBase_ValueError xc_ZeroDivisor.x xc_ZeroDivisor.g xc_ZeroDivisor.k (raises_own xc_ZeroDivisor.b xc_ZeroDivisor.t) rfl))) pss_nil)
    (pss_cons (ps_set (i := 3) sc_Ratio___init__.nd rfl (Or.inl rfl) (pe_callBfun cr_gcd rfl q_gcd (pa_cons (pv 1) (pa_cons (pv 2) pa_nil))))
    (pss_cons (ps_if (pt_cmpR op_lt (pv 2) pe_int (nomark _)) (pss_one (ps_set (i := 3) sc_Ratio___init__.nd rfl (Or.inl rfl) (pe_un un_neg (pv 3)))) pss_nil)
    (pss_cons (ps_fld (pv 0) (pe_op op_fdivX (pv 1) (pv 3)) rfl)
    (pss_one (ps_fld (pv 0) (pe_op op_fdivX (pv 2) (pv 3)) rfl)))))), ?_⟩)
  refine body_I h fun F x ds _ hS => ?_
  rcases hS with ⟨fs, hS, q⟩ | ⟨c, hR, q⟩
  · obtain ⟨n, d, rfl, hd, hn, hb, rfl⟩ := hS
    refine (show OK _ [_, _, _, _] _ from ?_)
    exists "if"
    · intro hc
      exact absurd (of_decide_eq_true hc) hd
    intro _
    exists "set"
    exists "if"
    · intro hc
      have hc := of_decide_eq_true hc
      have e : cmn n d = -((Nat.gcd n.natAbs d.natAbs : Nat) : Int) := if_pos hc
      have z1 : CDivX n (-((Nat.gcd n.natAbs d.natAbs : Nat) : Int)) := by rw [← e]; exact cmn_div hd hb
      have z2 : CDivX d (-((Nat.gcd n.natAbs d.natAbs : Nat) : Int)) := by rw [← e]; exact cmn_div hd hb
      have ef : nrm n d = ⟨n.fdiv (-((Nat.gcd n.natAbs d.natAbs : Nat) : Int)), d.fdiv (-((Nat.gcd n.natAbs d.natAbs : Nat) : Int))⟩ := by rw [← e]; rfl
      rw [ef] at q
      exists "set"
      exists "n"
      apply s_fld
      · exists "d"
      · rfl
      · exact RW_.cls
      · exact RW_.nt
      · decide
      exists "n"
      apply s_fld
      · exists "d"
      · rfl
      · exact RW_.cls
      · exact RW_.nb
      · exact (by decide : 1 < 1000)
      exists "n"
      exact s_endI ⟨rfl, rfl, rfl⟩ (fun σ H h => h) q (by rfl)
    · intro hc
      have hc := of_decide_eq_false hc
      have e : cmn n d = ((Nat.gcd n.natAbs d.natAbs : Nat) : Int) := if_neg hc
      have z1 : CDivX n (((Nat.gcd n.natAbs d.natAbs : Nat) : Int)) := by rw [← e]; exact cmn_div hd hb
      have z2 : CDivX d (((Nat.gcd n.natAbs d.natAbs : Nat) : Int)) := by rw [← e]; exact cmn_div hd hb
      have ef : nrm n d = ⟨n.fdiv (((Nat.gcd n.natAbs d.natAbs : Nat) : Int)), d.fdiv (((Nat.gcd n.natAbs d.natAbs : Nat) : Int))⟩ := by rw [← e]; rfl
      rw [ef] at q
      exists "n"
      apply s_fld
      · exists "d"
      · rfl
      · exact RW_.cls
      · exact RW_.nt
      · decide
      exists "n"
      apply s_fld
      · exists "d"
      · rfl
      · exact RW_.cls
      · exact RW_.nb
      · exact (by decide : 1 < 1000)
      exists "n"
      exact s_endI ⟨rfl, rfl, rfl⟩ (fun σ H h => h) q (by rfl)
  · obtain ⟨n, rfl, rfl⟩ := hR
    refine (show OK _ [_, _, _, _] _ from ?_)
    exists "if"
    · intro _
      exists "n"
      exact s_raise ⟨rfl, rfl, rfl⟩ q (fun σ H h => h)
    · intro hc
      exact absurd rfl (of_decide_eq_false hc)

theorem sc_Ratio___mul__ : FnScope ["self", "other"] ["self", "other"] (defScope s_Ratio___mul__) := ⟨rfl, rfl, rfl, by decide +kernel, rfl, by decide +kernel, by decide +kernel⟩
set_option maxHeartbeats 4000000 in
theorem ok_Ratio___mul__ (F : FunD W.K "__mul__" "Ratio.__mul__" (defArgs s_Ratio___mul__) (defBody s_Ratio___mul__) (defScope s_Ratio___mul__) [] [] f fd)
    (gc_Ratio : W.mg "Ratio" = some (.ref C_Ratio))
    (z_isinstance : W.mg "isinstance" = none)
    (RW_ : RatW W.K C_Ratio)
    (h_Ratio_init : InitOkD W C_Ratio 1 ["self", "top", "bottom"] (spI C_Ratio S_init (R_init C_ZeroDivisor)) [.int 1])
    (z_int : W.mg "int" = none) : FnAt W f 3 ["self", "other"] (spP (S_two C_Ratio mulR mulI) NoR) := by
  obtain ⟨f_Ratio_init, fd_Ratio_init, ds_Ratio_init, G_Ratio_init, M_Ratio, b_Ratio_init, bD_Ratio, vD_Ratio⟩ := h_Ratio_init
  refine fnAt_of F sc_Ratio___mul__ (spP_len (n := 2) (fun ds r h => by rcases h with ⟨_, _, rfl, _⟩ | ⟨_, _, rfl, _⟩ <;> rfl) (fun _ _ h => h.elim)) (fun _ _ _ _ _ _ us hl => match us, hl with | [_, _], _ => rfl) (fun cdv A outer s H vs Q E hr h => ⟨_, (pss_cons (ps_if (pt_val (pe_callB call_isi (by rfl) z_isinstance (by decide +kernel) (pa_cons (pv 1) (pa_cons (pe_glob (v := .ref C_Ratio) rfl gc_Ratio rfl) pa_nil)))) (pss_one (ps_ret (pe_make M_Ratio G_Ratio_init (hr.mono (by decide)) (by rfl) gc_Ratio b_Ratio_init .nil (passes_call (takes_of rfl rfl rfl rfl) (fun _ _ _ _ h => h)) (pa_cons (pe_op op_mulW (pe_fld (pv 0) rfl) (pe_fld (pv 1) rfl)) (pa_cons (pe_op op_mulW (pe_fld (pv 0) rfl) (pe_fld (pv 1) rfl)) pa_nil))))) pss_nil)
    (pss_cons (ps_if (pt_val (pe_callB call_isi (by rfl) z_isinstance (by decide +kernel) (pa_cons (pv 1) (pa_cons (pe_bltn (v := .ty "int") (u := .type "int") (by rfl) z_int (by decide +kernel) rfl) pa_nil)))) (pss_one (ps_ret (pe_make M_Ratio G_Ratio_init (hr.mono (by decide)) (by rfl) gc_Ratio b_Ratio_init .nil (passes_call (takes_of rfl rfl rfl rfl) (fun _ _ _ _ h => h)) (pa_cons (pe_op op_mulW (pe_fld (pv 0) rfl) (pv 1)) (pa_cons (pe_fld (pv 0) rfl) pa_nil))))) pss_nil)
    (pss_one ps_dead))), ?_⟩)
  refine body_P h fun F ds _ hS => ?_
  rcases hS with ⟨r, ⟨p, p2, rfl, hp, hq, rfl⟩ | ⟨p, i, rfl, hp, hi, rfl⟩, q⟩ | ⟨c, hR, _⟩
  · refine (show OK _ [_, _] _ from ?_)
    obtain ⟨pt, pb, pn⟩ := hp
    obtain ⟨qt, qb, qn⟩ := hq
    exists "if"
    rotate_left
    · intro hc; cases hc
    intro _
    exists "n"
    apply s_retP ⟨rfl, rfl, rfl⟩ rfl q
    · exists "d"
    · rfl
  · refine (show OK _ [_, _] _ from ?_)
    obtain ⟨pt, pb, pn⟩ := hp
    exists "if"
    · intro hc; cases hc
    intro _
    exists "if"
    rotate_left
    · intro hc; cases hc
    intro _
    exists "n"
    apply s_retP ⟨rfl, rfl, rfl⟩ rfl q
    · exists "d"
    · rfl
  · exact hR.elim

theorem sc_Ratio___str__ : FnScope ["self"] ["self"] (defScope s_Ratio___str__) := ⟨rfl, rfl, rfl, by decide +kernel, rfl, by decide +kernel, by decide +kernel⟩
set_option maxHeartbeats 4000000 in
theorem ok_Ratio___str__ (F : FunD W.K "__str__" "Ratio.__str__" (defArgs s_Ratio___str__) (defBody s_Ratio___str__) (defScope s_Ratio___str__) [] [] f fd)
    (h_written_number : DefOk W "written_number" 2 ["top", "bottom"] (spP S_wn NoR))
    (z_str : W.mg "str" = none)
    (RW_ : RatW W.K C_Ratio) : FnAt W f 3 ["self"] (spP (S_str C_Ratio) NoR) := by
  obtain ⟨f_written_number, fd_written_number, G_written_number, g_written_number, k_written_number, b_written_number⟩ := h_written_number
  refine fnAt_of F sc_Ratio___str__ (spP_len (n := 1) (fun ds r h => by obtain ⟨_, rfl, _⟩ := h; rfl) (fun _ _ h => h.elim)) (fun _ _ _ _ _ _ us hl => match us, hl with | [_], _ => rfl) (fun cdv A outer s H vs Q E hr h => ⟨_, (pss_one (ps_ret (pe_callTy SkE.call_str_str (by rfl) z_str (by decide +kernel) (pa_cons (pe_call G_written_number (hr.mono (by decide)) rfl g_written_number k_written_number b_written_number .nil passL (pa_cons (pe_fld (pv 0) rfl) (pa_cons (pe_fld (pv 0) rfl) pa_nil))) pa_nil)))), ?_⟩)
  refine body_P h fun F ds _ hS => ?_
  rcases hS with ⟨r, ⟨p, rfl, h1, h2, h3, rfl⟩, q⟩ | ⟨c, hR, _⟩
  rotate_left
  · exact hR.elim
  
  refine (show OK _ [_] _ from ?_)
  exists "n"
  apply s_retP ⟨rfl, rfl, rfl⟩ rfl q
  · exists "d"
  · rfl

theorem sc_Ratio_read : FnScope ["text", "top", "slash", "bottom", "sign", "found"] ["text"] (defScope s_Ratio_read) := ⟨rfl, rfl, rfl, by decide +kernel, rfl, by decide +kernel, by decide +kernel⟩
set_option maxHeartbeats 4000000 in
theorem ok_Ratio_read (F : FunD W.K "read" "Ratio.read" (defArgs s_Ratio_read) (defBody s_Ratio_read) (defScope s_Ratio_read) [] [] f fd)(g : SMet W.K C_Ratio "read" f)
    (h_is_short_digits : DefOk W "is_short_digits" 1 ["text"] (spP S_short NoR))
    (z_int : W.mg "int" = none)
    (h_BadText_init : FnAt W a_BadText_init 2 ["self", "text"] (spBT W.K C_BadText))
    (rt_BadNumber : RaiseT W "BadNumber" C_BadNumber C_BadText a_BadText_init)
    (RW_ : RatW W.K C_Ratio)
    (h_Ratio_init : InitOkD W C_Ratio 1 ["self", "top", "bottom"] (spI C_Ratio S_init (R_init C_ZeroDivisor)) [.int 1])
    (gc_Ratio : W.mg "Ratio" = some (.ref C_Ratio))
    (O_Ratio_str : OwnM W.K C_Ratio "__str__" a_Ratio_str)
    (h_Ratio_str : FnAt W a_Ratio_str 3 ["self"] (spP (S_str C_Ratio) NoR))
    (z_str : W.mg "str" = none) : StatOk W C_Ratio "read" 6 ["text"] (spT (S_read C_Ratio) (R_read C_BadNumber)) := by
  obtain ⟨f_is_short_digits, fd_is_short_digits, G_is_short_digits, g_is_short_digits, k_is_short_digits, b_is_short_digits⟩ := h_is_short_digits
  obtain ⟨fd_BadText_init, G_BadText_init, b_BadText_init⟩ := h_BadText_init
  obtain ⟨f_Ratio_init, fd_Ratio_init, ds_Ratio_init, G_Ratio_init, M_Ratio, b_Ratio_init, bD_Ratio, vD_Ratio⟩ := h_Ratio_init
  obtain ⟨fd_Ratio_str, G_Ratio_str, b_Ratio_str⟩ := h_Ratio_str
  refine statOk_of F g sc_Ratio_read (spT_len (n := 1) (fun ds r h => by obtain ⟨_, _, _, rfl, _⟩ := h; rfl) (fun ds c z h => by obtain ⟨_, rfl, _⟩ := h; rfl)) (fun _ _ _ _ _ _ us hl => match us, hl with | [_], _ => rfl) (fun cdv A outer s H vs Q E hr h => ⟨_, (pss_cons (ps_asg (pe_bm PySem.F.plainAttrs_str PySem.F.slot_str_partition PySem.F.type_str_partition mt_partition (pv 0) (pa_cons pe_str pa_nil)) (pg_tup (by rfl) (pgs_cons (pg_name (i := 1) sc_Ratio_read.nd rfl (Or.inl rfl)) (pgs_cons (pg_name (i := 2) sc_Ratio_read.nd rfl (Or.inl rfl)) (pgs_cons (pg_name (i := 3) sc_Ratio_read.nd rfl (Or.inl rfl)) pgs_nil)))))
    (pss_cons (ps_set (i := 4) sc_Ratio_read.nd rfl (Or.inl rfl) pe_int)
    (pss_cons (ps_if (pt_cmpR op_eq (pe_slice sl_str (pv 1) po_none (po_some pe_int)) pe_str (nomark _)) (pss_cons (ps_set (i := 4) sc_Ratio_read.nd rfl (Or.inl rfl) (pe_un un_neg pe_int))
    (pss_one (ps_set (i := 1) sc_Ratio_read.nd rfl (Or.inl rfl) (pe_slice sl_str (pv 1) (po_some pe_int) po_none)))) pss_nil)
    (pss_cons (ps_if (pt_cmpR op_eq (pv 2) pe_str (nomark _)) (pss_one (ps_set (i := 3) sc_Ratio_read.nd rfl (Or.inl rfl) pe_str)) pss_nil)
    (pss_cons (ps_if (PW.pt (pw_or (pt_not (pt_val (pe_call G_is_short_digits (hr.mono (by decide)) rfl g_is_short_digits k_is_short_digits b_is_short_digits .nil passL (pa_cons (pv 1) pa_nil)))) (pw_or (pt_not (pt_val (pe_call G_is_short_digits (hr.mono (by decide)) rfl g_is_short_digits k_is_short_digits b_is_short_digits .nil passL (pa_cons (pv 3) pa_nil)))) (pw_or1 (pt_cmpR op_eq (pe_callTy call_int_str (by rfl) z_int (by decide +kernel) (pa_cons (pv 3) pa_nil)) pe_int (nomark _)))))) (pss_one (ps_raise rfl (takes_of rfl rfl rfl rfl) (pmk_oex rt_BadNumber.t rt_BadNumber.iC rt_BadNumber.tI G_BadText_init (hr.mono (by decide)) b_BadText_init .nil passL (by rfl) rt_BadNumber.g (pa_cons (pv 0) pa_nil)))) pss_nil)
    (pss_cons (ps_set (i := 5) sc_Ratio_read.nd rfl (Or.inl rfl) (pe_make M_Ratio G_Ratio_init (hr.mono (by decide)) (by rfl) gc_Ratio b_Ratio_init .nil (passes_call (takes_of rfl rfl rfl rfl) (fun _ _ _ _ h => h)) (pa_cons (pe_op op_mulW (pv 4) (pe_callTy call_int_str (by rfl) z_int (by decide +kernel) (pa_cons (pv 1) pa_nil))) (pa_cons (pe_callTy call_int_str (by rfl) z_int (by decide +kernel) (pa_cons (pv 3) pa_nil)) pa_nil))))
    (pss_cons (ps_if (pt_cmpR op_ne (pe_callTy (call_ownStr O_Ratio_str G_Ratio_str b_Ratio_str passL (hr.mono (by decide))) (by rfl) z_str (by decide +kernel) (pa_cons (pv 5) pa_nil)) (pv 0) (nomark _)) (pss_one (ps_raise rfl (takes_of rfl rfl rfl rfl) (pmk_oex rt_BadNumber.t rt_BadNumber.iC rt_BadNumber.tI G_BadText_init (hr.mono (by decide)) b_BadText_init .nil passL (by rfl) rt_BadNumber.g (pa_cons (pv 0) pa_nil)))) pss_nil)
    (pss_one (ps_ret (pv 5)))))))))), ?_⟩)
  refine body_T h fun F ds _ hS => ?_
  have key : ∃ l, ds = [⟨tTxt, l⟩] ∧ l.length ≤ 40000 ∧ (∀ a b, canL l = some (a, b) → ∀ v F' H', DL.Step NoO F H F' H' → (⟨tRat C_Ratio, ⟨a, b⟩⟩ : Dv).rep F' v → Q v H') ∧ (canL l = none → ∀ d F' H', DL.Step NoO F H F' H' → H d = none → F' d = none → H' d = some (.xd [("text", .str (txt l))]) → E (.ref C_BadNumber) (some d) H') := by
    rcases hS with ⟨r, ⟨l, a, b, rfl, hl, hc, rfl⟩, q⟩ | ⟨c, z, ⟨l, rfl, hl, hc, rfl, rfl⟩, q⟩
    · refine ⟨l, rfl, hl, fun a' b' e => ?_, fun e => ?_⟩
      · rw [hc] at e
        cases e
        exact q
      · rw [hc] at e
        cases e
    · refine ⟨_, rfl, hl, fun a' b' e => ?_, fun e => q⟩
      rw [hc] at e
      cases e
  obtain ⟨l, rfl, hl, q1, q2⟩ := key
  obtain ⟨hp1, hp2, _⟩ := par_len l
  refine (show OK _ [_, _, _, _, _, _] _ from ?_)
  exists "n"
  apply s_unp3 (t := tTxt) (u := tTxt) (w := tTxt) (z := parL 47 l)
  · apply den_part
    · exists "d"
    · exists "d"
    · omega
  exists "set"
  exists "n"
  refine s_ifX (X := fun Γ' => Γ' = [.val ⟨tTxt, l⟩, .val ⟨tTxt, tpP l⟩, .val ⟨tTxt, (parL 47 l).2.1⟩, .val ⟨tTxt, (parL 47 l).2.2⟩, .val ⟨tInt, sgP l⟩, .any]) (b := decide ((parL 47 l).1.take 1 = [45])) (Γ1 := [.val ⟨tTxt, l⟩, .val ⟨tTxt, (parL 47 l).1⟩, .val ⟨tTxt, (parL 47 l).2.1⟩, .val ⟨tTxt, (parL 47 l).2.2⟩, .val ⟨tInt, 1⟩, .any]) ?_ ?_ ?_ ?_
  · refine dt_is (a := decide (List.take (1 : Int).toNat (parL 47 l).1 = [45])) ?_ rfl
    exists "d"
  · intro hb D' k'
    have hb := of_decide_eq_true hb
    exists "set"
    exists "n"
    apply s_set (t := tTxt) (x := List.drop (1 : Int).toNat (parL 47 l).1)
    · exists "d"
    exists "n"
    apply k'
    have e1 : tpP l = (parL 47 l).1.drop 1 := if_pos hb
    have e2 : sgP l = -1 := if_pos hb
    rw [e1, e2]
    rfl
  · intro hb
    have hb := of_decide_eq_false hb
    have e1 : tpP l = (parL 47 l).1 := if_neg hb
    have e2 : sgP l = 1 := if_neg hb
    rw [e1, e2]
  rintro Γ' rfl
  have lt : (tpP l).length ≤ 40000 := by
    unfold tpP
    split
    · rw [List.length_drop]
      omega
    · omega
  exists "n"
  apply s_ifSet
  · exists "d"
  · rfl
  · intro _
    exists "d"
  dsimp only [List.set_cons_zero, List.set_cons_succ]
  intro y hy
  have hy : y = btP l := by
    unfold btP
    rcases hy with ⟨a, b⟩ | ⟨a, b⟩
    · have a := of_decide_eq_true a
      rw [b, if_pos a]
    · have a := of_decide_eq_false a
      rw [b, if_neg a]
  subst hy
  have lb : (btP l).length ≤ 40000 := by
    unfold btP
    split
    · decide
    · omega
  exists "n"
  apply s_if (b := !shortB (tpP l) || (!shortB (btP l) || decide (((NumText.digitsVal (btP l) : Nat) : Int) = 0)))
  · apply dt_or
    · exists "d"
    · intro _
      apply dt_or
      · exists "d"
      · intro hb
        have hb : shortB (btP l) = true := by
          cases h : shortB (btP l) with
          | true => rfl
          | false => rw [h] at hb; cases hb
        obtain ⟨v1, v2, v3, v4⟩ := short_val hb
        apply dt_test
        apply den_op
        · apply den_cb
          · exists "d"
          · exact on_intstr v4 v2 (by omega)
        · exists "d"
        · exists "d"
  · intro hb
    exists "n"
    exact s_raiseT ⟨rfl, rfl, rfl⟩ (da_cons (den_var rfl) da_nil) rt_BadNumber.t rt_BadNumber.s rt_BadNumber.fi (q2 (no_short fun ⟨x1, x2, x3⟩ => by
        rw [x1, x2] at hb
        have := of_decide_eq_true (show decide (((NumText.digitsVal (btP l) : Nat) : Int) = 0) = true from hb)
        omega))
  intro hb
  have hx : shortB (tpP l) = true ∧ shortB (btP l) = true ∧ NumText.digitsVal (btP l) ≠ 0 := by
    cases h1 : shortB (tpP l) with
    | false => rw [h1] at hb; cases hb
    | true => cases h2 : shortB (btP l) with
      | false => rw [h1, h2] at hb; cases hb
      | true =>
        rw [h1, h2] at hb
        have := of_decide_eq_false (show decide (((NumText.digitsVal (btP l) : Nat) : Int) = 0) = false from hb)
        exact ⟨rfl, rfl, by omega⟩
  obtain ⟨x1, x2, x3⟩ := hx
  obtain ⟨v1, v2, v3, v4⟩ := short_val x1
  obtain ⟨w1, w2, w3, w4⟩ := short_val x2
  obtain ⟨f1, f2, f3, f4, f5⟩ := fd_ok x1 x2 x3
  exists "n"
  apply s_set (t := tRat C_Ratio) (x := fdP l)
  · apply den_make0 (ds := [⟨tInt, sgP l * ((NumText.digitsVal (tpP l) : Nat) : Int)⟩, ⟨tInt, ((NumText.digitsVal (btP l) : Nat) : Int)⟩])
    · apply da_cons
      · apply den_op
        · exists "d"
        · apply den_cb
          · exists "d"
          · exact on_intstr v4 v2 (by omega)
        · apply op_I
          exact Bd.mulW (n := 2) (m := 200) (by unfold Bd; rcases sg_one l with e | e <;> rw [e] <;> decide) (bd_v v1) (by decide) (by decide) (by decide)
      · apply da_cons
        · apply den_cb
          · exists "d"
          · exact on_intstr w4 w2 (by omega)
        · exists "d"
    · exact ⟨_, _, rfl, by omega, f1, f2, rfl⟩
    · exact mk_rat
  exists "n"
  apply s_if (b := !decide (wrN (fdP l).top (fdP l).bot = l))
  · exists "d"
  · intro hb
    have hb : wrN (fdP l).top (fdP l).bot ≠ l := by simpa using hb
    exists "n"
    exact s_raiseT ⟨rfl, rfl, rfl⟩ (da_cons (den_var rfl) da_nil) rt_BadNumber.t rt_BadNumber.s rt_BadNumber.fi (q2 (no_same hb))
  intro hb
  have hb : wrN (fdP l).top (fdP l).bot = l := by simpa using hb
  exists "n"
  apply s_retP ⟨rfl, rfl, rfl⟩ rfl (q1 _ _ (yes_same hb x1 x2 x3))
  · exists "d"
  · rfl

theorem sc__law_integer : FnScope ["thing"] ["thing"] (defScope s__law_integer) := ⟨rfl, rfl, rfl, by decide +kernel, rfl, by decide +kernel, by decide +kernel⟩
set_option maxHeartbeats 4000000 in
theorem ok__law_integer (F : FunD W.K "_law_integer" "_law_integer" (defArgs s__law_integer) (defBody s__law_integer) (defScope s__law_integer) [] [] f fd)(g : W.mg "_law_integer" = some (.ref f))
    (z_int : W.mg "int" = none)
    (z_isinstance : W.mg "isinstance" = none)
    (z_bool : W.mg "bool" = none)
    (RW_ : RatW W.K C_Ratio) : DefOk W "_law_integer" 3 ["thing"] (spP S_isint NoR) := by
  refine defOk_of F g sc__law_integer (spP_len (n := 1) (fun ds r h => by obtain ⟨_, rfl, _⟩ := h; rfl) (fun _ _ h => h.elim)) (fun _ _ _ _ _ _ us hl => match us, hl with | [_], _ => rfl) (fun cdv A outer s H vs Q E hr h => ⟨_, (pss_one (ps_ret (pe_and (pe_callB call_isi (by rfl) z_isinstance (by decide +kernel) (pa_cons (pv 0) (pa_cons (pe_bltn (v := .ty "int") (u := .type "int") (by rfl) z_int (by decide +kernel) rfl) pa_nil))) (pe_one (pe_not (pe_callB call_isi (by rfl) z_isinstance (by decide +kernel) (pa_cons (pv 0) (pa_cons (pe_bltn (v := .ty "bool") (u := .type "bool") (by rfl) z_bool (by decide +kernel) rfl) pa_nil)))))))), ?_⟩)
  refine body_P h fun F ds _ hS => ?_
  rcases hS with ⟨r, ⟨i, rfl, rfl⟩, q⟩ | ⟨c, hR, _⟩
  · refine (show OK _ [_] _ from ?_)
    exists "n"
    apply s_retP ⟨rfl, rfl, rfl⟩ rfl q
    · exists "d"
    · rfl
  · exact hR.elim

theorem sc__law_common : FnScope ["one", "two", "k", "rest"] ["one", "two"] (defScope s__law_common) := ⟨rfl, rfl, rfl, by decide +kernel, rfl, by decide +kernel, by decide +kernel⟩
set_option maxHeartbeats 4000000 in
theorem ok__law_common (F : FunD W.K "_law_common" "_law_common" (defArgs s__law_common) (defBody s__law_common) (defScope s__law_common) [] [] f fd)(g : W.mg "_law_common" = some (.ref f))
    (z_abs : W.mg "abs" = none)
    (z_range : W.mg "range" = none)
    (z_int : W.mg "int" = none)
    (RW_ : RatW W.K C_Ratio) : DefOk W "_law_common" 3 ["one", "two"] (spP S_common NoR) := by
  refine defOk_of F g sc__law_common (spP_len (n := 2) (fun ds r h => by obtain ⟨_, _, rfl, _⟩ := h; rfl) (fun _ _ h => h.elim)) (fun _ _ _ _ _ _ us hl => match us, hl with | [_, _], _ => rfl) (fun cdv A outer s H vs Q E hr h => ⟨_, (pss_cons (ps_set (i := 0) sc__law_common.nd rfl (Or.inl rfl) (pe_callB call_abs (by rfl) z_abs (by decide +kernel) (pa_cons (pv 0) pa_nil)))
    (pss_cons (ps_set (i := 1) sc__law_common.nd rfl (Or.inl rfl) (pe_callB call_abs (by rfl) z_abs (by decide +kernel) (pa_cons (pv 1) pa_nil)))
    (pss_cons (ps_for (passes_of rfl) rfl (pi_range1 (by rfl) z_range (pa_cons (pe_op op_add (pe_op op_mulW pe_int (pe_bits (pv 1))) pe_int) pa_nil)) (pg_name (i := 2) sc__law_common.nd rfl (Or.inl rfl)) (pss_cons (ps_if (pt_cmpR op_eq (pv 1) pe_int (nomark _)) (pss_one (ps_ret (pv 0))) pss_nil)
    (pss_cons (ps_set (i := 3) sc__law_common.nd rfl (Or.inl rfl) (pe_op op_mod (pe_callTy call_int1 (by rfl) z_int (by decide +kernel) (pa_cons (pv 0) pa_nil)) (pv 1)))
    (pss_cons (ps_set (i := 0) sc__law_common.nd rfl (Or.inl rfl) (pv 1))
    (pss_one (ps_set (i := 1) sc__law_common.nd rfl (Or.inl rfl) (pv 3)))))))
    (pss_one (ps_ret (pv 0)))))), ?_⟩)
  refine body_P h fun F ds _ hS => ?_
  rcases hS with ⟨r, ⟨a, b, rfl, ha, hb, rfl⟩, q⟩ | ⟨c, hR, _⟩
  · refine (show OK _ [_, _, _, _] _ from ?_)
    exists "set"
    exists "set"
    exists "n"
    have hE := eu_start ha hb
    have hL : Builtin.Int.intBits (iabs b) ≤ 4000 := intBits_le hb.abs (by decide)
    apply s_forR (iabs a, iabs b) (fun s => [.val ⟨tInt, s.1⟩, .val ⟨tInt, s.2⟩, .any, .any]) (fun n s => Eu (Nat.gcd a.natAbs b.natAbs) (Builtin.Int.intBits (iabs b)) n s)
    · exists "d"
    · omega
    · omega
    · exact hE
    · exact Wk.refl _
    · intro k s hk hs
      exists "if"
      · intro hz
        have hz := of_decide_eq_true hz
        exists "n"
        apply s_retP ⟨rfl, rfl, rfl⟩ rfl q
        · exists "d"
        · rw [← eu_done hs hz] <;> rfl
      · intro hz
        have hz := of_decide_eq_false hz
        have hp : 0 < s.2 := by
          have := hs.b
          omega
        exists "set"
        exists "set"
        exists "set"
        exists "n"
        apply s_next (s.2, s.1 % s.2)
        · exact eu_next hs hz
        · exact .cons (.inr rfl) (.cons (.inr rfl) (.cons (.inl rfl) (.cons (.inl rfl) .nil)))
    · intro s hs
      exists "n"
      apply s_retP ⟨rfl, rfl, rfl⟩ rfl q
      · exists "d"
      · rw [← eu_done hs (eu_end hs (by omega))] <;> rfl
  · exact hR.elim

theorem sc__law_power : FnScope ["base", "many", "found", "k"] ["base", "many"] (defScope s__law_power) := ⟨rfl, rfl, rfl, by decide +kernel, rfl, by decide +kernel, by decide +kernel⟩
set_option maxHeartbeats 4000000 in
theorem ok__law_power (F : FunD W.K "_law_power" "_law_power" (defArgs s__law_power) (defBody s__law_power) (defScope s__law_power) [] [] f fd)(g : W.mg "_law_power" = some (.ref f))
    (z_range : W.mg "range" = none) : DefOk W "_law_power" 1 ["base", "many"] (spP S_power NoR) := by
  refine defOk_of F g sc__law_power (spP_len (n := 2) (fun ds r h => by obtain ⟨_, rfl, _⟩ := h; rfl) (fun _ _ h => h.elim)) (fun _ _ _ _ _ _ us hl => match us, hl with | [_, _], _ => rfl) (fun cdv A outer s H vs Q E hr h => ⟨_, (pss_cons (ps_set (i := 2) sc__law_power.nd rfl (Or.inl rfl) pe_int)
    (pss_cons (ps_for (passes_of rfl) rfl (pi_range1 (by rfl) z_range (pa_cons (pv 1) pa_nil)) (pg_name (i := 3) sc__law_power.nd rfl (Or.inl rfl)) (pss_one (ps_set (i := 2) sc__law_power.nd rfl (Or.inl rfl) (pe_op op_mulW (pv 2) (pv 0)))))
    (pss_one (ps_ret (pv 2))))), ?_⟩)
  refine body_P h fun F ds _ hS => ?_
  rcases hS with ⟨r, ⟨m, rfl, hm, rfl⟩, q⟩ | ⟨c, hR, _⟩
  rotate_left
  · exact hR.elim
  
  refine (show OK _ [_, _, _, _] _ from ?_)
  exists "set"
  exists "n"
  apply s_forR (0 : Nat) (fun k => [.val ⟨tInt, 10⟩, .val ⟨tInt, (m : Int)⟩, .val ⟨tInt, (10 : Int) ^ k⟩, .any]) (fun i k => i = k)
  · exists "d"
  · omega
  · omega
  · rfl
  · exact Wk.refl _
  · intro k s hk hs
    subst hs
    have hw : CMulW ((10 : Int) ^ k) 10 := Bd.mulW (n := 220) (m := 8) (bd_pow (by omega)) (by unfold Bd; decide) (by decide) (by decide) (by decide)
    exists "n"
    apply s_set (t := tInt)
    · apply den_op
      · exists "d"
      · exists "d"
      · apply op_I
        exact hw
    exists "n"
    refine s_next (k + 1) rfl ?_
    rw [Int.pow_succ]
    exact .cons (.inr rfl) (.cons (.inr rfl) (.cons (.inr rfl) (.cons (.inl rfl) .nil)))
  · intro s hs
    subst hs
    rw [Int.toNat_natCast]
    exists "n"
    apply s_retP ⟨rfl, rfl, rfl⟩ rfl q
    · exists "d"
    · rfl

theorem sc__law_size : FnScope ["pool", "kind", "number", "k"] ["pool"] (defScope s__law_size) := ⟨rfl, rfl, rfl, by decide +kernel, rfl, by decide +kernel, by decide +kernel⟩
set_option maxHeartbeats 4000000 in
theorem ok__law_size (F : FunD W.K "_law_size" "_law_size" (defArgs s__law_size) (defBody s__law_size) (defScope s__law_size) [] [] f fd)(g : W.mg "_law_size" = some (.ref f))
    (h__law_take : DefOk W "_law_take" 1 ["pool", "most"] (spM S_take))
    (h__law_power : DefOk W "_law_power" 1 ["base", "many"] (spP S_power NoR))
    (z_range : W.mg "range" = none)
    (z_int : W.mg "int" = none) : DefOk W "_law_size" 2 ["pool"] (spMA P_draw S_sz) := by
  obtain ⟨f__law_take, fd__law_take, G__law_take, g__law_take, k__law_take, b__law_take⟩ := h__law_take
  obtain ⟨f__law_power, fd__law_power, G__law_power, g__law_power, k__law_power, b__law_power⟩ := h__law_power
  refine defOk_of F g sc__law_size (spMA_len (n := 0) fun g ps ds h => by rw [h.2.1]; rfl) (fun _ _ _ _ _ _ us hl => match us, hl with | [_], _ => rfl) (fun cdv A outer s H vs Q E hr h => ⟨_, (pss_cons (ps_set (i := 1) sc__law_size.nd rfl (Or.inl rfl) (pe_call G__law_take (hr.mono (by decide)) rfl g__law_take k__law_take b__law_take .nil passL (pa_cons (pv 0) (pa_cons pe_int pa_nil))))
    (pss_cons (ps_if (pt_cmpR op_eq (pv 1) pe_int (nomark _)) (pss_one (ps_ret (pe_call G__law_take (hr.mono (by decide)) rfl g__law_take k__law_take b__law_take .nil passL (pa_cons (pv 0) (pa_cons pe_int pa_nil))))) pss_nil)
    (pss_cons (ps_if (pt_cmpR op_eq (pv 1) pe_int (nomark _)) (pss_one (ps_ret (pe_call G__law_take (hr.mono (by decide)) rfl g__law_take k__law_take b__law_take .nil passL (pa_cons (pv 0) (pa_cons pe_int pa_nil))))) pss_nil)
    (pss_cons (ps_if (pt_cmpR op_eq (pv 1) pe_int (nomark _)) (pss_one (ps_ret (pe_call G__law_take (hr.mono (by decide)) rfl g__law_take k__law_take b__law_take .nil passL (pa_cons (pv 0) (pa_cons (pe_op op_pow pe_int pe_int) pa_nil))))) pss_nil)
    (pss_cons (ps_if (pt_cmpR op_eq (pv 1) pe_int (nomark _)) (pss_one (ps_ret (pe_op op_mulW (pe_op op_add pe_int (pe_call G__law_take (hr.mono (by decide)) rfl g__law_take k__law_take b__law_take .nil passL (pa_cons (pv 0) (pa_cons pe_int pa_nil)))) (pe_call G__law_power (hr.mono (by decide)) rfl g__law_power k__law_power b__law_power .nil passL (pa_cons pe_int (pa_cons (pe_call G__law_take (hr.mono (by decide)) rfl g__law_take k__law_take b__law_take .nil passL (pa_cons (pv 0) (pa_cons pe_int pa_nil))) pa_nil)))))) pss_nil)
    (pss_cons (ps_set (i := 2) sc__law_size.nd rfl (Or.inl rfl) pe_int)
    (pss_cons (ps_for (passes_of rfl) rfl (pi_range1 (by rfl) z_range (pa_cons pe_int pa_nil)) (pg_name (i := 3) sc__law_size.nd rfl (Or.inl rfl)) (pss_one (ps_set (i := 2) sc__law_size.nd rfl (Or.inl rfl) (pe_op op_add (pe_op op_mulW (pv 2) (pe_op op_pow pe_int pe_int)) (pe_call G__law_take (hr.mono (by decide)) rfl g__law_take k__law_take b__law_take .nil passL (pa_cons (pv 0) (pa_cons (pe_op op_pow pe_int pe_int) pa_nil)))))))
    (pss_one (ps_ret (pe_op op_mod (pe_callTy call_int1 (by rfl) z_int (by decide +kernel) (pa_cons (pv 2) pa_nil)) (pe_op op_pow pe_int pe_int))))))))))), ?_⟩)
  refine body_MA h fun F a ps ds p _ hS q => ?_
  obtain ⟨rfl, rfl, o0, hc⟩ := hS
  refine (show OK _ [_, _, _, _] _ from ?_)
  have b0 : p.ct < 1000000000 := by omega
  have o1 := take_ok (m := 5) o0
  have c1 := take_ct (p := p) (m := 5)
  exists "let"
  intro kind hk
  generalize (take p 5).2 = p1 at *
  have b1 : p1.ct < 1000000000 := by omega
  exists "if"
  · intro _
    have t2 := take_lt (p := p1) (m := 10) (by decide)
    have o2 := take_ok (m := 10) o1
    have c2 := take_ct (p := p1) (m := 10)
    obtain ⟨x, hx, hx2⟩ := sz_sm t2.1 (by omega)
    exists "n"
    apply s_retD
    · exists "d"
    intro F1 σ1 H1 v1 hh rv
  
    exact ret_MA ⟨rfl, rfl, rfl⟩ (q _ _ ⟨_, x, rfl, by rw [hx], o2, by omega, hx2⟩) rfl hh rv
  intro _
  exists "if"
  · intro _
    have t2 := take_lt (p := p1) (m := 1000) (by decide)
    have o2 := take_ok (m := 1000) o1
    have c2 := take_ct (p := p1) (m := 1000)
    obtain ⟨x, hx, hx2⟩ := sz_sm t2.1 (by omega)
    exists "n"
    apply s_retD
    · exists "d"
    intro F1 σ1 H1 v1 hh rv
  
    exact ret_MA ⟨rfl, rfl, rfl⟩ (q _ _ ⟨_, x, rfl, by rw [hx], o2, by omega, hx2⟩) rfl hh rv
  intro _
  exists "if"
  · intro _
    have t2 := take_lt (p := p1) (m := (10 : Int) ^ (60 : Int).toNat) (by rw [p60]; decide)
    have o2 := take_ok (m := (10 : Int) ^ (60 : Int).toNat) o1
    have c2 := take_ct (p := p1) (m := (10 : Int) ^ (60 : Int).toNat)
    obtain ⟨x, hx, hx2⟩ := sz_at t2.1 (by have := t2.2; rw [p60] at this; exact this)
    exists "n"
    apply s_retD
    · exists "d"
    intro F1 σ1 H1 v1 hh rv
  
    exact ret_MA ⟨rfl, rfl, rfl⟩ (q _ _ ⟨_, x, rfl, by rw [hx], o2, by omega, hx2⟩) rfl hh rv
  intro _
  exists "if"
  · intro _
    have t2 := take_lt (p := p1) (m := 9) (by decide)
    have o2 := take_ok (m := 9) o1
    have c2 := take_ct (p := p1) (m := 9)
    generalize hp2 : (take p1 9).2 = p2 at *
    have b2 : p2.ct < 1000000000 := by omega
    have t3 := take_lt (p := p2) (m := 60) (by decide)
    have o3 := take_ok (m := 60) o2
    have c3 := take_ct (p := p2) (m := 60)
    obtain ⟨m, hm⟩ := Int.eq_ofNat_of_zero_le t3.1
    have hm2 : m ≤ 59 := by omega
    obtain ⟨x, hx, hx2⟩ := sz_pw t2.1 t2.2 hm2
    exists "n"
    apply s_retD (t := tInt) (x := (1 + (take p1 9).1) * (10 : Int) ^ m)
    · apply den_op
      · apply den_op
        · exists "d"
        · refine den_callM (oa := some a) (ps := pool3 p1) (ps' := pool3 p2) (ds := [⟨tInt, 9⟩]) rfl ?_ ⟨_, _, rfl, rfl, o1, b1, by decide, by rw [hp2], rfl⟩ rfl
          exists "d"
        · exists "d"
      · apply den_call (ds := [⟨tInt, 10⟩, ⟨tInt, (m : Int)⟩])
        · apply da_cons
          · exists "d"
          · apply da_cons
            · rw [← hm]
              exists "d"
            · exists "d"
        · exact spP_v ⟨m, rfl, by omega, rfl⟩
      · apply op_I
        exact Bd.mulW (n := 8) (m := 220) (by unfold Bd; omega) (bd_pow (by omega)) (by decide) (by decide) (by decide)
    intro F1 σ1 H1 v1 hh rv
    exact ret_MA ⟨rfl, rfl, rfl⟩ (q _ _ ⟨_, x, rfl, by rw [hx], o3, by omega, hx2⟩) rfl hh rv
  intro _
  exists "set"
  exists "n"
  apply s_forR ((0, p1) : Int × Pl) (fun s => [.own (some a) (pool3 s.2), .val ⟨tInt, kind⟩, .val ⟨tInt, s.1⟩, .any]) (fun n s => Szl p1 n s)
  · exists "d"
  · decide
  · decide
  · exact ⟨o1, by show p1.ct ≤ p1.ct + ((0 : Nat) : Int); omega, Int.le_refl 0, by show (0 : Int) < 1000000000 ^ 0; decide⟩
  · exact Wk.refl _
  · intro n s hn hs
    obtain ⟨l1, l2, l3, l4⟩ := hs
    have hb : Bd 1500 s.1 := (bd_of (n := 240) (m := 1000000000 ^ 8) l3 (Int.lt_of_lt_of_le l4 (pow9_le (by omega))) (by decide +kernel)).mono (by decide)
    have h9 : Bd 1500 ((10 : Int) ^ (9 : Int).toNat) := by
      rw [p9]
      exact bd_of (n := 30) (m := 1000000001) (by decide) (by decide) (by decide) |>.mono (by decide)
    have l6 : s.2.ct < 1000000000 := by omega
    exists "set"
    exists "n"
    apply s_next (s.1 * 1000000000 + (take s.2 1000000000).1, (take s.2 1000000000).2)
    · exact szl_next ⟨l1, l2, l3, l4⟩
    · rw [p9]
      exact .cons (.inr rfl) (.cons (.inr rfl) (.cons (.inr rfl) (.cons (.inl rfl) .nil)))
  · intro s hs
    obtain ⟨l1, l2, l3, l4⟩ := hs
    have l2 : s.2.ct ≤ p1.ct + ((7 : Nat) : Int) := l2
    have e0 : 0 ≤ s.1 % (10 : Int) ^ (60 : Int).toNat := Int.emod_nonneg _ (by rw [p60]; decide)
    have e1 : s.1 % (10 : Int) ^ (60 : Int).toNat < M60 := by
      have := Int.emod_lt_of_pos s.1 (b := (10 : Int) ^ (60 : Int).toNat) (by rw [p60]; decide)
      rw [p60] at this ⊢
      exact this
    obtain ⟨x, hx, hx2⟩ := sz_at e0 e1
    exists "n"
    apply s_retD
    · exists "d"
    intro F1 σ1 H1 v1 hh rv
  
    exact ret_MA ⟨rfl, rfl, rfl⟩ (q _ _ ⟨_, x, rfl, by rw [hx], l1, by omega, hx2⟩) rfl hh rv

theorem sc__law_lowest : FnScope ["above", "below", "common"] ["above", "below"] (defScope s__law_lowest) := ⟨rfl, rfl, rfl, by decide +kernel, rfl, by decide +kernel, by decide +kernel⟩
set_option maxHeartbeats 4000000 in
theorem ok__law_lowest (F : FunD W.K "_law_lowest" "_law_lowest" (defArgs s__law_lowest) (defBody s__law_lowest) (defScope s__law_lowest) [] [] f fd)(g : W.mg "_law_lowest" = some (.ref f))
    (h__law_common : DefOk W "_law_common" 3 ["one", "two"] (spP S_common NoR)) : DefOk W "_law_lowest" 4 ["above", "below"] (spP S_low NoR) := by
  obtain ⟨f__law_common, fd__law_common, G__law_common, g__law_common, k__law_common, b__law_common⟩ := h__law_common
  refine defOk_of F g sc__law_lowest (spP_len (n := 2) (fun ds r h => by obtain ⟨_, _, rfl, _⟩ := h; rfl) (fun _ _ h => h.elim)) (fun _ _ _ _ _ _ us hl => match us, hl with | [_, _], _ => rfl) (fun cdv A outer s H vs Q E hr h => ⟨_, (pss_cons (ps_set (i := 2) sc__law_lowest.nd rfl (Or.inl rfl) (pe_call G__law_common (hr.mono (by decide)) rfl g__law_common k__law_common b__law_common .nil passL (pa_cons (pv 0) (pa_cons (pv 1) pa_nil))))
    (pss_one (ps_ret (pe_tup (pa_cons (pe_op op_fdivX (pv 0) (pv 2)) (pa_cons (pe_op op_fdivX (pv 1) (pv 2)) pa_nil)))))), ?_⟩)
  refine body_P h fun F ds _ hS => ?_
  rcases hS with ⟨r, ⟨u, v, rfl, hu, hv, h0, rfl⟩, q⟩ | ⟨c, hR, _⟩
  rotate_left
  · exact hR.elim
  
  have z1 : CDivX u (cmn u v) := cmn_div (by omega) hv
  have z2 : CDivX v (cmn u v) := cmn_div (by omega) hv
  refine (show OK _ [_, _, _] _ from ?_)
  exists "n"
  apply s_set (t := tInt) (x := cmn u v)
  · rw [cmn_pos h0]
    exists "d"
  exists "n"
  apply s_retP ⟨rfl, rfl, rfl⟩ rfl q
  · exists "d"
  · rfl

theorem sc__law_drawn : FnScope ["pool", "above", "below"] ["pool"] (defScope s__law_drawn) := ⟨rfl, rfl, rfl, by decide +kernel, rfl, by decide +kernel, by decide +kernel⟩
set_option maxHeartbeats 4000000 in
theorem ok__law_drawn (F : FunD W.K "_law_drawn" "_law_drawn" (defArgs s__law_drawn) (defBody s__law_drawn) (defScope s__law_drawn) [] [] f fd)(g : W.mg "_law_drawn" = some (.ref f))
    (h__law_size : DefOk W "_law_size" 2 ["pool"] (spMA P_draw S_sz))
    (h__law_take : DefOk W "_law_take" 1 ["pool", "most"] (spM S_take))
    (z_max : W.mg "max" = none)
    (h__law_lowest : DefOk W "_law_lowest" 4 ["above", "below"] (spP S_low NoR)) : DefOk W "_law_drawn" 5 ["pool"] (spMA P_draw2 S_drawn) := by
  obtain ⟨f__law_size, fd__law_size, G__law_size, g__law_size, k__law_size, b__law_size⟩ := h__law_size
  obtain ⟨f__law_take, fd__law_take, G__law_take, g__law_take, k__law_take, b__law_take⟩ := h__law_take
  obtain ⟨f__law_lowest, fd__law_lowest, G__law_lowest, g__law_lowest, k__law_lowest, b__law_lowest⟩ := h__law_lowest
  refine defOk_of F g sc__law_drawn (spMA_len (n := 0) fun g ps ds h => by rw [h.2.1]; rfl) (fun _ _ _ _ _ _ us hl => match us, hl with | [_], _ => rfl) (fun cdv A outer s H vs Q E hr h => ⟨_, (pss_cons (ps_set (i := 1) sc__law_drawn.nd rfl (Or.inl rfl) (pe_call G__law_size (hr.mono (by decide)) rfl g__law_size k__law_size b__law_size .nil passL (pa_cons (pv 0) pa_nil)))
    (pss_cons (ps_set (i := 2) sc__law_drawn.nd rfl (Or.inl rfl) pe_int)
    (pss_cons (ps_if (pt_cmpR op_eq (pe_call G__law_take (hr.mono (by decide)) rfl g__law_take k__law_take b__law_take .nil passL (pa_cons (pv 0) (pa_cons pe_int pa_nil))) pe_int (nomark _)) (pss_one (ps_set (i := 2) sc__law_drawn.nd rfl (Or.inl rfl) (pe_callB (call_max2 rfl) (by rfl) z_max (by decide +kernel) (pa_cons pe_int (pa_cons (pe_call G__law_size (hr.mono (by decide)) rfl g__law_size k__law_size b__law_size .nil passL (pa_cons (pv 0) pa_nil)) pa_nil))))) pss_nil)
    (pss_cons (ps_if (pt_cmpR op_eq (pe_call G__law_take (hr.mono (by decide)) rfl g__law_take k__law_take b__law_take .nil passL (pa_cons (pv 0) (pa_cons pe_int pa_nil))) pe_int (nomark _)) (pss_one (ps_set (i := 1) sc__law_drawn.nd rfl (Or.inl rfl) (pe_un un_neg (pv 1)))) pss_nil)
    (pss_one (ps_ret (pe_call G__law_lowest (hr.mono (by decide)) rfl g__law_lowest k__law_lowest b__law_lowest .nil passL (pa_cons (pv 1) (pa_cons (pv 2) pa_nil))))))))), ?_⟩)
  refine body_MA h fun F a ps ds p _ hS q => ?_
  obtain ⟨rfl, rfl, o0, hc⟩ := hS
  refine (show OK _ [_, _, _] _ from ?_)
  exists "n"
  refine s_setA (den_callMA p rfl (by exists "d") ⟨rfl, rfl, o0, by have hc : p.ct < 800000000 := hc; omega⟩) ?_
  rintro Γ' r ⟨ps', ⟨p1, n, rfl, rfl, o1, c1, hn⟩, rfl⟩
  dsimp only [List.set_cons_zero, List.set_cons_succ]
  have b1 : p1.ct < 1000000000 := by omega
  exists "set"
  exists "n"
  have o2 := take_ok (m := 2) o1
  have c2 := take_ct (p := p1) (m := 2)
  apply s_ifX (X := fun Γ' => ∃ (p' : Pl) (b : Nat), Γ' = [.own (some a) (pool3 p'), .val ⟨tInt, (n : Int)⟩, .val ⟨tInt, (b : Int)⟩] ∧ Pok p' ∧ p'.ct ≤ p.ct + 25 ∧ 1 ≤ b ∧ b < 10 ^ 60)
  · exists "d"
  · intro _ D' k'
    exists "n"
    refine s_setA (ma_max1 (fun i => on_max) (den_callMA (take p1 2).2 rfl (by exists "d") ⟨rfl, rfl, o2, by show (take p1 2).2.ct < 900000000; have hc : p.ct < 800000000 := hc; omega⟩) (fun Γ' r ⟨_, ⟨_, x, _, e, _⟩, _⟩ => ⟨_, e⟩)) ?_
    rintro Γ' r ⟨i, ⟨ps', ⟨p3, x, rfl, e, o3, c3, hx⟩, rfl⟩, rfl⟩
    cases e
    dsimp only [List.set_cons_zero, List.set_cons_succ]
    apply k'
    have c3 : p3.ct ≤ (take p1 2).2.ct + 10 := c3
    refine ⟨p3, (imax 1 (x : Int)).toNat, ?_, o3, by omega, ?_⟩
    · rw [Int.toNat_of_nonneg (by have := imax_pos (x := (x : Int)); omega)]
    · unfold imax
      split <;> omega
  · intro _
    exact ⟨_, 1, rfl, o2, by omega, by decide, by decide⟩
  rintro Γ' ⟨p4, m, rfl, o4, c4, m1, m2⟩
  have b4 : p4.ct < 1000000000 := by omega
  have o5 := take_ok (m := 2) o4
  have c5 := take_ct (p := p4) (m := 2)
  exists "n"
  apply s_ifSet
  · exists "d"
  · rfl
  · intro _
    exists "d"
  dsimp only [List.set_cons_zero, List.set_cons_succ]
  intro y hy
  have hy : y.natAbs ≤ n := by
    rcases hy with ⟨_, rfl⟩ | ⟨_, rfl⟩ <;> omega
  have by_ : Bd 4000 y := Bd.mono (n := 200) (Nat.lt_of_le_of_lt hy (Nat.lt_of_lt_of_le hn pow60)) (by decide)
  have bm_ : Bd 4000 (m : Int) := (bd_v m2).mono (by decide)
  exists "n"
  apply s_retD
  · apply den_call
    · exists "d"
    · exact spP_v ⟨y, (m : Int), rfl, by_, bm_, by omega, rfl⟩
  intro F1 σ1 H1 v1 hh rv
  exact ret_MA ⟨rfl, rfl, rfl⟩ (q _ _ ⟨_, _, rfl, rfl, o5, by omega, lw_of hn m2 hy (by omega) (by omega)⟩) rfl hh rv

theorem sc__law_written : FnScope ["pair"] ["pair"] (defScope s__law_written) := ⟨rfl, rfl, rfl, by decide +kernel, rfl, by decide +kernel, by decide +kernel⟩
set_option maxHeartbeats 4000000 in
theorem ok__law_written (F : FunD W.K "_law_written" "_law_written" (defArgs s__law_written) (defBody s__law_written) (defScope s__law_written) [] [] f fd)(g : W.mg "_law_written" = some (.ref f))
    (z_str : W.mg "str" = none) : DefOk W "_law_written" 1 ["pair"] (spP S_written NoR) := by
  refine defOk_of F g sc__law_written (spP_len (n := 1) (fun ds r h => by obtain ⟨_, rfl, _⟩ := h; rfl) (fun _ _ h => h.elim)) (fun _ _ _ _ _ _ us hl => match us, hl with | [_], _ => rfl) (fun cdv A outer s H vs Q E hr h => ⟨_, (pss_cons (ps_if (pt_cmpR op_eq (pe_ix ix_tup (pv 0) pe_int (fun _ _ => rfl)) pe_int (nomark _)) (pss_one (ps_ret (pe_callTy call_str_int (by rfl) z_str (by decide +kernel) (pa_cons (pe_ix ix_tup (pv 0) pe_int (fun _ _ => rfl)) pa_nil)))) pss_nil)
    (pss_one (ps_ret (pe_op op_add_str (pe_op op_add_str (pe_callTy call_str_int (by rfl) z_str (by decide +kernel) (pa_cons (pe_ix ix_tup (pv 0) pe_int (fun _ _ => rfl)) pa_nil)) pe_str) (pe_callTy call_str_int (by rfl) z_str (by decide +kernel) (pa_cons (pe_ix ix_tup (pv 0) pe_int (fun _ _ => rfl)) pa_nil)))))), ?_⟩)
  refine body_P h fun F ds _ hS => ?_
  rcases hS with ⟨r, ⟨ab, rfl, h1, h2, h3, rfl⟩, q⟩ | ⟨c, hR, _⟩
  rotate_left
  · exact hR.elim
  
  obtain ⟨u, v⟩ := ab
  have l1 := w120_log h1
  have l2 := w120_log h2
  have k1 : (intL u).length ≤ 121 := by
    have := TL.numL_len (n := u.natAbs) (k := 120) (by decide) h1
    unfold intL
    split
    · rw [List.length_cons]
      omega
    · omega
  have k2 : (intL v).length ≤ 121 := by
    have := TL.numL_len (n := v.natAbs) (k := 120) (by decide) h2
    unfold intL
    split
    · rw [List.length_cons]
      omega
    · omega
  refine (show OK _ [_] _ from ?_)
  exists "if"
  · intro hb
    have hb : v = 1 := of_decide_eq_true hb
    have e : wrN u v = intL u := by
      unfold wrN
      rw [tail_no hb, List.append_nil]
    rw [show wrN (u, v).1 (u, v).2 = intL u from e] at q
    exists "n"
    apply s_retP ⟨rfl, rfl, rfl⟩ rfl q
    · exists "d"
    · rfl
  intro hb
  have hb : v ≠ 1 := of_decide_eq_false hb
  have e : wrN u v = (intL u ++ [47]) ++ intL v := by
    have h3 : 0 < v := h3
    unfold wrN
    rw [tail_yes hb, List.append_assoc, show intL v = TL.numL v.toNat by rw [← intL_nat, Int.toNat_of_nonneg (by omega)]]
    rfl
  rw [show wrN (u, v).1 (u, v).2 = _ from e] at q
  exists "n"
  apply s_retP ⟨rfl, rfl, rfl⟩ rfl q
  · apply den_op
    · exists "d"
    · exists "d"
    · apply op2_txtcat
      rw [List.length_append]
      show (intL u).length + 1 + (intL v).length ≤ _
      omega
  · rfl

theorem sc__law_group : FnScope ["text", "value", "mark", "place"] ["text"] (defScope s__law_group) := ⟨rfl, rfl, rfl, by decide +kernel, rfl, by decide +kernel, by decide +kernel⟩
set_option maxHeartbeats 4000000 in
theorem ok__law_group (F : FunD W.K "_law_group" "_law_group" (defArgs s__law_group) (defBody s__law_group) (defScope s__law_group) [] [] f fd)(g : W.mg "_law_group" = some (.ref f))
    (z_len : W.mg "len" = none) : DefOk W "_law_group" 1 ["text"] (spP S_group NoR) := by
  refine defOk_of F g sc__law_group (spP_len (n := 1) (fun ds r h => by obtain ⟨_, rfl, _⟩ := h; rfl) (fun _ _ h => h.elim)) (fun _ _ _ _ _ _ us hl => match us, hl with | [_], _ => rfl) (fun cdv A outer s H vs Q E hr h => ⟨_, (pss_cons (ps_if (PW.pt (pw_or (pt_cmpR op_lt (pe_callB call_len_str (by rfl) z_len PySem.boot_len (pa_cons (pv 0) pa_nil)) pe_int (nomark _)) (pw_or (pt_cmpR op_gt (pe_callB call_len_str (by rfl) z_len PySem.boot_len (pa_cons (pv 0) pa_nil)) pe_int (nomark _)) (pw_or1 (PW.pt (pw_and (pt_cmpR op_gt (pe_callB call_len_str (by rfl) z_len PySem.boot_len (pa_cons (pv 0) pa_nil)) pe_int (nomark _)) (pw_and1 (pt_cmpR op_eq (pe_ix ix_str (pv 0) pe_int (fun _ _ => rfl)) pe_str (nomark _))))))))) (pss_one (ps_ret (pe_un un_neg pe_int))) pss_nil)
    (pss_cons (ps_set (i := 1) sc__law_group.nd rfl (Or.inl rfl) pe_int)
    (pss_cons (ps_for (passes_of rfl) rfl (pi_str (pv 0)) (pg_name (i := 2) sc__law_group.nd rfl (Or.inl rfl)) (pss_cons (ps_set (i := 3) sc__law_group.nd rfl (Or.inl rfl) (pe_bm PySem.F.plainAttrs_str PySem.F.slot_str_find PySem.F.type_str_find mt_find pe_str (pa_cons (pv 2) pa_nil)))
    (pss_cons (ps_if (pt_cmpR op_lt (pv 3) pe_int (nomark _)) (pss_one (ps_ret (pe_un un_neg pe_int))) pss_nil)
    (pss_one (ps_set (i := 1) sc__law_group.nd rfl (Or.inl rfl) (pe_op op_add (pe_op op_mulW (pv 1) pe_int) (pv 3)))))))
    (pss_one (ps_ret (pv 1)))))), ?_⟩)
  refine body_P h fun F ds _ hS => ?_
  rcases hS with ⟨r, ⟨l, rfl, hl, rfl⟩, q⟩ | ⟨c, hR, _⟩
  rotate_left
  · exact hR.elim
  
  refine (show OK _ [_, _, _, _] _ from ?_)
  have hb0 : ∀ b : Bool, (b = true ↔ (l.length < 1 ∨ 60 < l.length ∨ (1 < l.length ∧ l.take 1 = [48]))) → b = (decide ((l.length : Int) < 1) || (decide ((l.length : Int) > 60) || (decide ((l.length : Int) > 1) && decide (l.take 1 = [48])))) := fun b hb => by
    rw [Bool.eq_iff_iff, hb]
    have e1 : ((l.length : Int) < 1) = (l.length < 1) := propext (by omega)
    have e2 : ((l.length : Int) > 60) = (60 < l.length) := propext (by omega)
    have e3 : ((l.length : Int) > 1) = (1 < l.length) := propext (by omega)
    simp only [Bool.or_eq_true, Bool.and_eq_true, decide_eq_true_eq, e1, e2, e3]
  exists "n"
  apply s_if (b := decide ((l.length : Int) < 1) || (decide ((l.length : Int) > 60) || (decide ((l.length : Int) > 1) && decide (l.take 1 = [48]))))
  · apply dt_or
    · exists "d"
    intro _
    apply dt_or
    · exists "d"
    intro _
    apply dt_and
    · exists "d"
    intro h1
    have h1 := of_decide_eq_true h1
    cases l with
    | nil => exact absurd h1 (by decide)
    | cons c r =>
      refine dt_is (a := decide ([c] = [48])) ?_ rfl
      apply dt_test
      apply den_op
      · apply den_op
        · exists "d"
        · exists "d"
        · exact op2_txtix (by decide) (by omega) rfl
      · exists "d"
      · exists "d"
  · intro hb
    have hb : l.length < 1 ∨ 60 < l.length ∨ (1 < l.length ∧ l.take 1 = [48]) := by
      have := (hb0 (decide (l.length < 1 ∨ 60 < l.length ∨ (1 < l.length ∧ l.take 1 = [48]))) (by simp)).trans hb
      exact of_decide_eq_true this
    have e : grpL l = -1 := if_pos hb
    rw [e] at q
    exists "n"
    apply s_retP ⟨rfl, rfl, rfl⟩ rfl q
    · exists "d"
    · rfl
  intro hb
  have hb : ¬ (l.length < 1 ∨ 60 < l.length ∨ (1 < l.length ∧ l.take 1 = [48])) := by
    have := (hb0 (decide (l.length < 1 ∨ 60 < l.length ∨ (1 < l.length ∧ l.take 1 = [48]))) (by simp)).trans hb
    exact of_decide_eq_false this
  have hl60 : l.length ≤ 60 := by omega
  exists "set"
  exists "n"
  apply s_forS (l := l) (0 : Int) (fun s => [.val ⟨tTxt, l⟩, .val ⟨tInt, s⟩, .any, .any]) (fun n s => isD (l.take n) = true ∧ s = ((NumText.digitsVal (l.take n) : Nat) : Int))
  · exists "d"
  · exact ⟨rfl, rfl⟩
  · exact Wk.refl _
  · intro n c s hc hs
    obtain ⟨hs1, hs2⟩ := hs
    obtain ⟨d1, d2⟩ := isD_take hs1 hc
    have hv : Bd 200 s := by
      rw [hs2]
      apply bd_v
      exact Nat.lt_of_lt_of_le (val_lt (isD_iff.mp hs1)) (Nat.pow_le_pow_right (by decide) (by rw [List.length_take]; omega))
    exists "n"
    apply s_set (t := tInt) (x := findC c dgT)
    · apply den_find
      · exists "d"
      · exists "d"
    exists "if"
    · intro hb2
      have hb2 := of_decide_eq_true hb2
      have hn : ¬ (48 ≤ c ∧ c ≤ 57) := fun z => by
        rw [find_dg, if_pos z] at hb2
        omega
      have e : grpL l = -1 := (if_neg hb).trans (if_neg (by rw [d2 hn]; decide))
      rw [e] at q
      exists "n"
      apply s_retP ⟨rfl, rfl, rfl⟩ rfl q
      · exists "d"
      · rfl
    intro hb2
    have hb2 := of_decide_eq_false hb2
    have hy : 48 ≤ c ∧ c ≤ 57 := by
      refine Decidable.byContradiction fun z => hb2 ?_
      rw [find_dg, if_neg z]
      decide
    obtain ⟨d3, d4⟩ := d1 hy
    have hf : findC c dgT = (c : Int) - 48 := by rw [find_dg, if_pos hy]
    exists "n"
    apply s_set (t := tInt) (x := s * 10 + findC c dgT)
    · apply den_op
      · apply den_op
        · exists "d"
        · exists "d"
        · apply op_I
          exact Bd.mulW (n := 200) (m := 8) hv (by unfold Bd; decide) (by decide) (by decide) (by decide)
      · exists "d"
      · exists "d"
    exists "n"
    refine s_next _ ⟨d3, ?_⟩ (.cons (.inr rfl) (.cons (.inr rfl) (.cons (.inl rfl) (.cons (.inl rfl) .nil))))
    rw [hf, d4, hs2]
  · intro s hs
    rw [List.take_length] at hs
    have e : grpL l = s := (if_neg hb).trans ((if_pos hs.1).trans hs.2.symm)
    rw [e] at q
    exists "n"
    apply s_retP ⟨rfl, rfl, rfl⟩ rfl q
    · exists "d"
    · rfl

theorem sc__law_judged : FnScope ["text", "body", "groups", "above", "below"] ["text"] (defScope s__law_judged) := ⟨rfl, rfl, rfl, by decide +kernel, rfl, by decide +kernel, by decide +kernel⟩
set_option maxHeartbeats 4000000 in
theorem ok__law_judged (F : FunD W.K "_law_judged" "_law_judged" (defArgs s__law_judged) (defBody s__law_judged) (defScope s__law_judged) [] [] f fd)(g : W.mg "_law_judged" = some (.ref f))
    (h__law_group : DefOk W "_law_group" 1 ["text"] (spP S_group NoR))
    (z_len : W.mg "len" = none)
    (h__law_common : DefOk W "_law_common" 3 ["one", "two"] (spP S_common NoR)) : DefOk W "_law_judged" 4 ["text"] (spP S_judged NoR) := by
  obtain ⟨f__law_group, fd__law_group, G__law_group, g__law_group, k__law_group, b__law_group⟩ := h__law_group
  obtain ⟨f__law_common, fd__law_common, G__law_common, g__law_common, k__law_common, b__law_common⟩ := h__law_common
  refine defOk_of F g sc__law_judged (spP_len (n := 1) (fun ds r h => by obtain ⟨_, rfl, _⟩ := h; rfl) (fun _ _ h => h.elim)) (fun _ _ _ _ _ _ us hl => match us, hl with | [_], _ => rfl) (fun cdv A outer s H vs Q E hr h => ⟨_, (pss_cons (ps_set (i := 1) sc__law_judged.nd rfl (Or.inl rfl) (pv 0))
    (pss_cons (ps_if (pt_cmpR op_eq (pe_slice sl_str (pv 0) po_none (po_some pe_int)) pe_str (nomark _)) (pss_one (ps_set (i := 1) sc__law_judged.nd rfl (Or.inl rfl) (pe_slice sl_str (pv 0) (po_some pe_int) po_none))) pss_nil)
    (pss_cons (ps_set (i := 2) sc__law_judged.nd rfl (Or.inl rfl) (pe_bm PySem.F.plainAttrs_str PySem.F.slot_str_split PySem.F.type_str_split mt_split (pv 1) (pa_cons pe_str pa_nil)))
    (pss_cons (ps_set (i := 3) sc__law_judged.nd rfl (Or.inl rfl) (pe_call G__law_group (hr.mono (by decide)) rfl g__law_group k__law_group b__law_group .nil passL (pa_cons (pe_ix ix_list (pv 2) pe_int (fun _ _ => rfl)) pa_nil)))
    (pss_cons (ps_if (PW.pt (pw_or (pt_cmpR op_gt (pe_callB call_len_seq (by rfl) z_len PySem.boot_len (pa_cons (pv 2) pa_nil)) pe_int (nomark _)) (pw_or1 (pt_cmpR op_lt (pv 3) pe_int (nomark _))))) (pss_one (ps_ret pe_non)) pss_nil)
    (pss_cons (ps_set (i := 4) sc__law_judged.nd rfl (Or.inl rfl) pe_int)
    (pss_cons (ps_if (pt_cmpR op_eq (pe_callB call_len_seq (by rfl) z_len PySem.boot_len (pa_cons (pv 2) pa_nil)) pe_int (nomark _)) (pss_cons (ps_set (i := 4) sc__law_judged.nd rfl (Or.inl rfl) (pe_call G__law_group (hr.mono (by decide)) rfl g__law_group k__law_group b__law_group .nil passL (pa_cons (pe_ix ix_list (pv 2) pe_int (fun _ _ => rfl)) pa_nil)))
    (pss_one (ps_if (PW.pt (pw_or (pt_cmpR op_lt (pv 4) pe_int (nomark _)) (pw_or1 (pt_cmpR op_ne (pe_call G__law_common (hr.mono (by decide)) rfl g__law_common k__law_common b__law_common .nil passL (pa_cons (pv 3) (pa_cons (pv 4) pa_nil))) pe_int (nomark _))))) (pss_one (ps_ret pe_non)) pss_nil))) pss_nil)
    (pss_cons (ps_if (pt_cmpR op_eq (pv 1) (pv 0) (nomark _)) (pss_one (ps_ret (pe_tup (pa_cons (pv 3) (pa_cons (pv 4) pa_nil))))) pss_nil)
    (pss_cons (ps_if (pt_cmpR op_eq (pv 3) pe_int (nomark _)) (pss_one (ps_ret pe_non)) pss_nil)
    (pss_one (ps_ret (pe_tup (pa_cons (pe_un un_neg (pv 3)) (pa_cons (pv 4) pa_nil)))))))))))))), ?_⟩)
  refine body_P h fun F ds _ hS => ?_
  rcases hS with ⟨r, ⟨l, rfl, hl, rfl⟩, q⟩ | ⟨c, hR, _⟩
  rotate_left
  · exact hR.elim
  
  have lb := bodyL_len l
  refine (show OK _ [_, _, _, _, _] _ from ?_)
  exists "set"
  exists "n"
  apply s_ifSet (x' := l.drop 1) (b := decide (l.take 1 = [45])) (Γ1 := [.val ⟨tTxt, l⟩, .val ⟨tTxt, l⟩, .any, .any, .any])
  · refine dt_is (a := decide (List.take (1 : Int).toNat l = [45])) ?_ rfl
    exists "d"
  · rfl
  · intro _
    refine (show Den _ _ tTxt (List.drop (1 : Int).toNat l) _ from ?_)
    exists "d"
  dsimp only [List.set_cons_zero, List.set_cons_succ]
  intro y hy
  have hy : y = bodyL l := by
    unfold bodyL
    rcases hy with ⟨a, b⟩ | ⟨a, b⟩
    · have a := of_decide_eq_true a
      rw [b, if_pos a]
    · have a := of_decide_eq_false a
      rw [b, if_neg a]
  subst hy
  exists "n"
  apply s_setN (t := tTxt) (xs := splL 47 (bodyL l))
  · apply dn_split
    · exists "d"
    · exists "d"
    · omega
    · decide
  obtain ⟨g0, gs0, e0, e1, e2⟩ := spl_head (bodyL l)
  have hx0 : (splL 47 (bodyL l))[(0 : Int).toNat]? = some g0 := by
    rw [e0] <;> rfl
  exists "n"
  apply s_set (t := tInt) (x := grpL g0)
  · apply den_call
    · exists "d"
    · exact spP_v ⟨g0, rfl, by omega, rfl⟩
  exists "if"
  · intro hb
    have hb : 2 < (splL 47 (bodyL l)).length ∨ grpL g0 < 0 := by
      simp at hb
      omega
    have e : canL l = none := by
      rcases hb with hb | hb
      · rcases e2 with e2 | ⟨h, hs, e2, _⟩
        · rw [e0, e2] at hb
          simp at hb
        · rw [e2] at e0
          refine jud_many e0 fun z => ?_
          rw [e0, z] at hb
          exact absurd hb (by simp)
      · exact jud_neg e0 hb
    rw [e] at q
    exists "n"
    apply s_retP ⟨rfl, rfl, rfl⟩ rfl q
    · exists "d"
    · rfl
  intro hb
  have hb : (splL 47 (bodyL l)).length ≤ 2 ∧ 0 ≤ grpL g0 := by
    simp at hb
    omega
  obtain ⟨hb1, hb2⟩ := hb
  exists "set"
  rcases spl_back (l := bodyL l) with ⟨g, es, eg, n1⟩ | ⟨g, h, es, eg, n1, n2⟩ | ⟨g, h, r, es, hr⟩
  rotate_left 2
  · exfalso
    rw [es] at hb1
    have := List.length_pos_iff.mpr hr
    simp only [List.length_cons] at hb1
    omega
  · have : g = g0 := by
      rw [es] at e0
      exact (List.cons.inj e0).1
    subst this
    exists "n"
    apply s_ifNo (a := decide (((splL 47 (bodyL l)).length : Int) = 2))
    · exists "d"
    · rw [es] <;> rfl
    exists "if"
    · intro hb
      have hb : bodyL l = l := of_decide_eq_true hb
      have e : canL l = some (grpL g, 1) := (can_one eg hb2 n1 (by first | exact .inl hb | exact .inr hz)).trans (by rw [if_pos hb])
      rw [e] at q
      exists "n"
      apply s_retP ⟨rfl, rfl, rfl⟩ rfl q
      · exists "d"
      · rfl
    intro hb
    have hb : bodyL l ≠ l := of_decide_eq_false hb
    exists "if"
    · intro hz
      have hz := of_decide_eq_true hz
      rw [jud_zero es hz hb] at q
      exists "n"
      apply s_retP ⟨rfl, rfl, rfl⟩ rfl q
      · exists "d"
      · rfl
    intro hz
    have hz := of_decide_eq_false hz
    have e : canL l = some (-grpL g, 1) := (can_one eg hb2 n1 (by first | exact .inl hb | exact .inr hz)).trans (by rw [if_neg hb])
    rw [e] at q
    exists "n"
    apply s_retP ⟨rfl, rfl, rfl⟩ rfl q
    · exists "d"
    · rfl
  · have : g = g0 := by
      rw [es] at e0
      exact (List.cons.inj e0).1
    subst this
    have hx1 : (splL 47 (bodyL l))[(1 : Int).toNat]? = some h := by
      rw [es] <;> rfl
    have lh : h.length ≤ 40000 := by
      have := congrArg List.length eg
      rw [List.length_append, List.length_cons] at this
      omega
    have bg : Bd 4000 (grpL g) := grp_bd
    have bh : Bd 4000 (grpL h) := grp_bd
    exists "n"
    apply s_ifYes (a := decide (((splL 47 (bodyL l)).length : Int) = 2))
    · exists "d"
    · rw [es] <;> rfl
    exists "n"
    apply s_set (t := tInt) (x := grpL h)
    · apply den_call
      · exists "d"
      · exact spP_v ⟨h, rfl, lh, rfl⟩
    exists "if"
    · intro hc
      have hc : grpL h < 2 ∨ Nat.gcd (grpL g).natAbs (grpL h).natAbs ≠ 1 := by
        simp at hc
        omega
      rw [jud_low es hc] at q
      exists "n"
      apply s_retP ⟨rfl, rfl, rfl⟩ rfl q
      · exists "d"
      · rfl
    intro hc
    have hc : 2 ≤ grpL h ∧ Nat.gcd (grpL g).natAbs (grpL h).natAbs = 1 := by
      simp at hc
      omega
    exists "if"
    · intro hb
      have hb : bodyL l = l := of_decide_eq_true hb
      have e : canL l = some (grpL g, grpL h) := (can_two eg hb2 hc.1 hc.2).trans (by rw [if_pos hb])
      rw [e] at q
      exists "n"
      apply s_retP ⟨rfl, rfl, rfl⟩ rfl q
      · exists "d"
      · rfl
    intro hb
    have hb : bodyL l ≠ l := of_decide_eq_false hb
    exists "if"
    · intro hz
      have hz := of_decide_eq_true hz
      rw [jud_zero es hz hb] at q
      exists "n"
      apply s_retP ⟨rfl, rfl, rfl⟩ rfl q
      · exists "d"
      · rfl
    intro hz
    have hz := of_decide_eq_false hz
    have e : canL l = some (-grpL g, grpL h) := (can_two eg hb2 hc.1 hc.2).trans (by rw [if_neg hb])
    rw [e] at q
    exists "n"
    apply s_retP ⟨rfl, rfl, rfl⟩ rfl q
    · exists "d"
    · rfl

theorem sc__law_mark : FnScope ["pool", "marks"] ["pool"] (defScope s__law_mark) := ⟨rfl, rfl, rfl, by decide +kernel, rfl, by decide +kernel, by decide +kernel⟩
set_option maxHeartbeats 4000000 in
theorem ok__law_mark (F : FunD W.K "_law_mark" "_law_mark" (defArgs s__law_mark) (defBody s__law_mark) (defScope s__law_mark) [] [] f fd)(g : W.mg "_law_mark" = some (.ref f))
    (h__law_take : DefOk W "_law_take" 1 ["pool", "most"] (spM S_take)) : DefOk W "_law_mark" 3 ["pool"] (spM S_mark) := by
  obtain ⟨f__law_take, fd__law_take, G__law_take, g__law_take, k__law_take, b__law_take⟩ := h__law_take
  refine defOk_of F g sc__law_mark (spM_len (n := 0) fun ps ds ps' r ⟨_, _, e, _⟩ => by rw [e]; rfl) (fun _ _ _ _ _ _ us hl => match us, hl with | [_], _ => rfl) (fun cdv A outer s H vs Q E hr h => ⟨_, (pss_cons (ps_set (i := 1) sc__law_mark.nd rfl (Or.inl rfl) pe_str)
    (pss_cons (ps_set (i := 1) sc__law_mark.nd rfl (Or.inl rfl) (pe_op op_add_str (pv 1) pe_str))
    (pss_one (ps_ret (pe_ix ix_str (pv 1) (pe_call G__law_take (hr.mono (by decide)) rfl g__law_take k__law_take b__law_take .nil passL (pa_cons (pv 0) (pa_cons pe_int pa_nil))) (fun _ _ => rfl)))))), ?_⟩)
  refine body_M h fun F a ps ds ps' r _ hS q => ?_
  obtain ⟨p, rfl, rfl, o0, c0, rfl, rfl⟩ := hS
  have t1 := take_lt (p := p) (m := 96) (by decide)
  refine (show OK _ [_, _] _ from ?_)
  exists "n"
  apply s_set (t := tTxt) (x := mk1T)
  · exact lit_6
  dsimp only [List.set_cons_zero, List.set_cons_succ]
  exists "n"
  apply s_set (t := tTxt) (x := mkT)
  · apply den_op
    · exists "d"
    · exact lit_7
    · apply op2_txtcat
      decide
  exists "n"
  apply s_retM ⟨rfl, rfl, rfl⟩ rfl q
  · apply den_op
    · exists "d"
    · exists "d"
    · exact op2_txtix t1.1 (by rw [mkT_len]; decide) (getD_ix (n := 96) t1.1 t1.2 mkT_len 0)
  · rfl
  · rfl

theorem sc__law_long : FnScope ["pool", "many", "block", "digits"] ["pool"] (defScope s__law_long) := ⟨rfl, rfl, rfl, by decide +kernel, rfl, by decide +kernel, by decide +kernel⟩
set_option maxHeartbeats 4000000 in
theorem ok__law_long (F : FunD W.K "_law_long" "_law_long" (defArgs s__law_long) (defBody s__law_long) (defScope s__law_long) [] [] f fd)(g : W.mg "_law_long" = some (.ref f))
    (h__law_take : DefOk W "_law_take" 1 ["pool", "most"] (spM S_take))
    (z_str : W.mg "str" = none)
    (z_len : W.mg "len" = none) : DefOk W "_law_long" 3 ["pool"] (spMA P_draw (S_tx 6000)) := by
  obtain ⟨f__law_take, fd__law_take, G__law_take, g__law_take, k__law_take, b__law_take⟩ := h__law_take
  refine defOk_of F g sc__law_long (spMA_len (n := 0) fun g ps ds h => by rw [h.2.1]; rfl) (fun _ _ _ _ _ _ us hl => match us, hl with | [_], _ => rfl) (fun cdv A outer s H vs Q E hr h => ⟨_, (pss_cons (ps_set (i := 1) sc__law_long.nd rfl (Or.inl rfl) (pe_ix ix_list (pe_lst (pa_cons pe_int (pa_cons pe_int (pa_cons pe_int (pa_cons pe_int (pa_cons pe_int (pa_cons pe_int (pa_cons pe_int (pa_cons pe_int pa_nil))))))))) (pe_call G__law_take (hr.mono (by decide)) rfl g__law_take k__law_take b__law_take .nil passL (pa_cons (pv 0) (pa_cons pe_int pa_nil))) (fun _ _ => rfl)))
    (pss_cons (ps_set (i := 2) sc__law_long.nd rfl (Or.inl rfl) (pe_callTy call_str_int (by rfl) z_str (by decide +kernel) (pa_cons (pe_op op_add pe_int (pe_call G__law_take (hr.mono (by decide)) rfl g__law_take k__law_take b__law_take .nil passL (pa_cons (pv 0) (pa_cons (pe_op op_pow pe_int pe_int) pa_nil)))) pa_nil)))
    (pss_cons (ps_set (i := 3) sc__law_long.nd rfl (Or.inl rfl) (pe_slice sl_str (pe_op op_mulTxt (pv 2) (pe_op op_add pe_int (pe_op op_fdivX (pv 1) (pe_callB call_len_str (by rfl) z_len PySem.boot_len (pa_cons (pv 2) pa_nil))))) po_none (po_some (pv 1))))
    (pss_one (ps_ret (pe_ix ix_list (pe_lst (pa_cons (pv 3) (pa_cons (pe_op op_add_str pe_str (pv 3)) (pa_cons (pe_op op_add_str (pv 3) pe_str) (pa_cons (pe_op op_add_str pe_str (pv 3)) pa_nil))))) (pe_call G__law_take (hr.mono (by decide)) rfl g__law_take k__law_take b__law_take .nil passL (pa_cons (pv 0) (pa_cons pe_int pa_nil))) (fun _ _ => rfl))))))), ?_⟩)
  refine body_MA h fun F a ps ds p _ hS q => ?_
  obtain ⟨rfl, rfl, o0, hc⟩ := hS
  have b0 : p.ct < 1000000000 := by omega
  have t1 := take_lt (p := p) (m := 8) (by decide)
  have o1 := take_ok (m := 8) o0
  have c1 := take_ct (p := p) (m := 8)
  have m1 := many_rg (i := (take p 8).1.toNat) (by omega)
  refine (show OK _ [_, _, _, _] _ from ?_)
  exists "n"
  apply s_set (t := tInt) (x := manyT.getD (take p 8).1.toNat 0)
  · apply den_ixLM (xs := manyT)
    · apply den_n
      · apply dn_lst
        · exists "d"
        · show 8 ≤ 100000
          decide
      · rfl
    · exists "d"
    · exact t1.1
    · exact getD_ix (n := 8) t1.1 t1.2 rfl 0
  generalize hM : manyT.getD (take p 8).1.toNat 0 = M at *
  generalize (take p 8).2 = p1 at *
  have b1 : p1.ct < 1000000000 := by omega
  have t2 := take_lt (p := p1) (m := (10 : Int) ^ (9 : Int).toNat) (by rw [p9]; decide)
  have o2 := take_ok (m := (10 : Int) ^ (9 : Int).toNat) o1
  have c2 := take_ct (p := p1) (m := (10 : Int) ^ (9 : Int).toNat)
  have t2' : (take p1 ((10 : Int) ^ (9 : Int).toNat)).1 < 1000000000 := Int.lt_of_lt_of_le t2.2 (by rw [p9]; decide)
  have k1 : (1 + (take p1 ((10 : Int) ^ (9 : Int).toNat)).1).natAbs.log2 < 1920 := Bd.log (n := 31) (m := 1920) (by unfold Bd; omega) (by decide) (by decide)
  obtain ⟨n1, n2⟩ := intL_len10 (x := 1 + (take p1 ((10 : Int) ^ (9 : Int).toNat)).1) (by omega) (by omega)
  exists "set"
  have cB := chr_intL (1 + (take p1 ((10 : Int) ^ (9 : Int).toNat)).1)
  generalize intL (1 + (take p1 ((10 : Int) ^ (9 : Int).toNat)).1) = B at *
  generalize (take p1 ((10 : Int) ^ (9 : Int).toNat)).2 = p2 at *
  have b2 : p2.ct < 1000000000 := by omega
  have z1 : CDivX M (B.length : Int) := ⟨by omega, Bd.log (n := 31) (m := 9000) (by unfold Bd; omega) (by decide) (by decide)⟩
  have f1 : 0 ≤ M.fdiv (B.length : Int) ∧ M.fdiv (B.length : Int) ≤ 5000 := by
    have := Int.natAbs_fdiv_le_natAbs M (B.length : Int)
    have := Int.fdiv_nonneg (a := M) (b := (B.length : Int)) (by omega) (by omega)
    omega
  have ml := mulT_len (l := B) (i := 1 + M.fdiv (B.length : Int)) (L := 10) (N := 5001) n2 (by omega)
  exists "n"
  apply s_set (t := tTxt) (x := (mulT B (1 + M.fdiv (B.length : Int))).take M.toNat)
  · apply den_txthi
    · apply den_op
      · exists "d"
      · exists "d"
      · exact op2_mulT (by omega) (by omega) (by omega)
    · exists "d"
    · exists "d"
    · omega
    · omega
  have dl : ((mulT B (1 + M.fdiv (B.length : Int))).take M.toNat).length ≤ 5000 := by
    rw [List.length_take]
    omega
  have dc : Chr ((mulT B (1 + M.fdiv (B.length : Int))).take M.toNat) := chr_take (chr_mul cB)
  generalize (mulT B (1 + M.fdiv (B.length : Int))).take M.toNat = G at *
  have t3 := take_lt (p := p2) (m := 4) (by decide)
  have o3 := take_ok (m := 4) o2
  have c3 := take_ct (p := p2) (m := 4)
  exists "n"
  apply s_retD (t := tTxt) (x := [G, [45] ++ G, G ++ [47, 55], [55, 47] ++ G].getD (take p2 4).1.toNat [])
  · apply den_ixLM (xs := [G, [45] ++ G, G ++ [47, 55], [55, 47] ++ G])
    · apply den_n
      · apply dn_lst4
        · exists "d"
        · exists "d"
        · exists "d"
        · exists "d"
      · rfl
    · exists "d"
    · exact t3.1
    · exact getD_ix (n := 4) t3.1 t3.2 rfl []
  intro F1 σ1 H1 v1 hh rv
  refine ret_MA ⟨rfl, rfl, rfl⟩ (q _ _ ⟨_, _, rfl, rfl, o3, by omega, pick_len fun x hx => ?_, chr_pick fun x hx => ?_⟩) rfl hh rv
  · simp only [List.mem_cons, List.not_mem_nil, or_false] at hx
    rcases hx with rfl | rfl | rfl | rfl <;> (try simp only [List.length_append, List.length_cons, List.length_nil]) <;> omega
  · simp only [List.mem_cons, List.not_mem_nil, or_false] at hx
    rcases hx with rfl | rfl | rfl | rfl
    · exact dc
    · exact chr_app (chr_of rfl) dc
    · exact chr_app dc (chr_of rfl)
    · exact chr_app (chr_of rfl) dc

theorem sc__law_spoilt : FnScope ["pool", "pair", "text", "way", "at", "start", "factor"] ["pool", "pair"] (defScope s__law_spoilt) := ⟨rfl, rfl, rfl, by decide +kernel, rfl, by decide +kernel, by decide +kernel⟩
set_option maxHeartbeats 4000000 in
theorem ok__law_spoilt (F : FunD W.K "_law_spoilt" "_law_spoilt" (defArgs s__law_spoilt) (defBody s__law_spoilt) (defScope s__law_spoilt) [] [] f fd)(g : W.mg "_law_spoilt" = some (.ref f))
    (h__law_written : DefOk W "_law_written" 1 ["pair"] (spP S_written NoR))
    (h__law_take : DefOk W "_law_take" 1 ["pool", "most"] (spM S_take))
    (z_len : W.mg "len" = none)
    (h__law_mark : DefOk W "_law_mark" 3 ["pool"] (spM S_mark))
    (z_int : W.mg "int" = none)
    (z_str : W.mg "str" = none) : DefOk W "_law_spoilt" 4 ["pool", "pair"] (spMA P_pair (S_txp 1000)) := by
  obtain ⟨f__law_written, fd__law_written, G__law_written, g__law_written, k__law_written, b__law_written⟩ := h__law_written
  obtain ⟨f__law_take, fd__law_take, G__law_take, g__law_take, k__law_take, b__law_take⟩ := h__law_take
  obtain ⟨f__law_mark, fd__law_mark, G__law_mark, g__law_mark, k__law_mark, b__law_mark⟩ := h__law_mark
  refine defOk_of F g sc__law_spoilt (spMA_len (n := 1) fun g ps ds h => by rw [h.2.1]; rfl) (fun _ _ _ _ _ _ us hl => match us, hl with | [_, _], _ => rfl) (fun cdv A outer s H vs Q E hr h => ⟨_, (pss_cons (ps_set (i := 2) sc__law_spoilt.nd rfl (Or.inl rfl) (pe_call G__law_written (hr.mono (by decide)) rfl g__law_written k__law_written b__law_written .nil passL (pa_cons (pv 1) pa_nil)))
    (pss_cons (ps_set (i := 3) sc__law_spoilt.nd rfl (Or.inl rfl) (pe_call G__law_take (hr.mono (by decide)) rfl g__law_take k__law_take b__law_take .nil passL (pa_cons (pv 0) (pa_cons pe_int pa_nil))))
    (pss_cons (ps_set (i := 4) sc__law_spoilt.nd rfl (Or.inl rfl) (pe_call G__law_take (hr.mono (by decide)) rfl g__law_take k__law_take b__law_take .nil passL (pa_cons (pv 0) (pa_cons (pe_op op_add (pe_callB call_len_str (by rfl) z_len PySem.boot_len (pa_cons (pv 2) pa_nil)) pe_int) pa_nil))))
    (pss_cons (ps_if (pt_cmpR op_eq (pv 3) pe_int (nomark _)) (pss_one (ps_ret (pe_op op_add_str (pe_op op_add_str (pe_slice sl_str (pv 2) po_none (po_some (pv 4))) (pe_call G__law_mark (hr.mono (by decide)) rfl g__law_mark k__law_mark b__law_mark .nil passL (pa_cons (pv 0) pa_nil))) (pe_slice sl_str (pv 2) (po_some (pv 4)) po_none)))) pss_nil)
    (pss_cons (ps_if (pt_cmpR op_eq (pv 3) pe_int (nomark _)) (pss_one (ps_ret (pe_op op_add_str (pe_slice sl_str (pv 2) po_none (po_some (pv 4))) (pe_slice sl_str (pv 2) (po_some (pe_op op_add (pv 4) pe_int)) po_none)))) pss_nil)
    (pss_cons (ps_if (pt_cmpR op_eq (pv 3) pe_int (nomark _)) (pss_one (ps_ret (pe_op op_add_str (pe_op op_add_str (pe_slice sl_str (pv 2) po_none (po_some (pv 4))) (pe_call G__law_mark (hr.mono (by decide)) rfl g__law_mark k__law_mark b__law_mark .nil passL (pa_cons (pv 0) pa_nil))) (pe_slice sl_str (pv 2) (po_some (pe_op op_add (pv 4) pe_int)) po_none)))) pss_nil)
    (pss_cons (ps_if (PW.pt (pw_or (pt_cmpR op_eq (pv 3) pe_int (nomark _)) (pw_or1 (pt_cmpR op_eq (pv 3) pe_int (nomark _))))) (pss_cons (ps_set (i := 5) sc__law_spoilt.nd rfl (Or.inl rfl) (pe_callTy call_int1 (by rfl) z_int (by decide +kernel) (pa_cons (pe_cmpR op_lt (pe_ix ix_tup (pv 1) pe_int (fun _ _ => rfl)) pe_int (nomark _)) pa_nil)))
    (pss_cons (ps_if (PW.pt (pw_and (pt_cmpR op_eq (pv 3) pe_int (nomark _)) (pw_and1 (pt_cmpR op_ne (pe_ix ix_tup (pv 1) pe_int (fun _ _ => rfl)) pe_int (nomark _))))) (pss_one (ps_set (i := 5) sc__law_spoilt.nd rfl (Or.inl rfl) (pe_op op_add (pe_bm PySem.F.plainAttrs_str PySem.F.slot_str_find PySem.F.type_str_find mt_find (pv 2) (pa_cons pe_str pa_nil)) pe_int))) pss_nil)
    (pss_one (ps_ret (pe_op op_add_str (pe_op op_add_str (pe_slice sl_str (pv 2) po_none (po_some (pv 5))) pe_str) (pe_slice sl_str (pv 2) (po_some (pv 5)) po_none)))))) pss_nil)
    (pss_cons (ps_if (pt_cmpR op_eq (pv 3) pe_int (nomark _)) (pss_one (ps_ret (pe_op op_add_str (pv 2) (pe_ix ix_list (pe_lst (pa_cons pe_str (pa_cons pe_str (pa_cons pe_str (pa_cons pe_str (pa_cons pe_str (pa_cons (pe_op op_add_str pe_str (pv 2)) pa_nil))))))) (pe_call G__law_take (hr.mono (by decide)) rfl g__law_take k__law_take b__law_take .nil passL (pa_cons (pv 0) (pa_cons pe_int pa_nil))) (fun _ _ => rfl))))) pss_nil)
    (pss_cons (ps_if (pt_cmpR op_eq (pv 3) pe_int (nomark _)) (pss_one (ps_ret (pe_op op_add_str (pe_ix ix_list (pe_lst (pa_cons pe_str (pa_cons pe_str (pa_cons pe_str (pa_cons pe_str (pa_cons pe_str pa_nil)))))) (pe_call G__law_take (hr.mono (by decide)) rfl g__law_take k__law_take b__law_take .nil passL (pa_cons (pv 0) (pa_cons pe_int pa_nil))) (fun _ _ => rfl)) (pv 2)))) pss_nil)
    (pss_cons (ps_if (pt_cmpR op_eq (pv 3) pe_int (nomark _)) (pss_one (ps_ret (pe_op op_add_str (pv 2) (pe_ix ix_list (pe_lst (pa_cons pe_str (pa_cons pe_str (pa_cons pe_str (pa_cons pe_str (pa_cons pe_str (pa_cons pe_str pa_nil))))))) (pe_call G__law_take (hr.mono (by decide)) rfl g__law_take k__law_take b__law_take .nil passL (pa_cons (pv 0) (pa_cons pe_int pa_nil))) (fun _ _ => rfl))))) pss_nil)
    (pss_cons (ps_if (pt_cmpR op_eq (pv 3) pe_int (nomark _)) (pss_cons (ps_set (i := 6) sc__law_spoilt.nd rfl (Or.inl rfl) (pe_op op_add pe_int (pe_call G__law_take (hr.mono (by decide)) rfl g__law_take k__law_take b__law_take .nil passL (pa_cons (pv 0) (pa_cons pe_int pa_nil)))))
    (pss_one (ps_ret (pe_op op_add_str (pe_op op_add_str (pe_callTy call_str_int (by rfl) z_str (by decide +kernel) (pa_cons (pe_op op_mulW (pe_ix ix_tup (pv 1) pe_int (fun _ _ => rfl)) (pv 6)) pa_nil)) pe_str) (pe_callTy call_str_int (by rfl) z_str (by decide +kernel) (pa_cons (pe_op op_mulW (pe_ix ix_tup (pv 1) pe_int (fun _ _ => rfl)) (pv 6)) pa_nil)))))) pss_nil)
    (pss_one (ps_ret (pv 2)))))))))))))), ?_⟩)
  refine body_MA h fun F a ps ds g _ hS q => ?_
  obtain ⟨p, ab⟩ := g
  obtain ⟨rfl, rfl, o0, hc, hab⟩ := hS
  have o0 : Pok p := o0
  have hc : p.ct < 700000000 := hc
  have hab : Lw ab := hab
  obtain ⟨u, v⟩ := ab
  obtain ⟨wu, wv⟩ := hab.w
  have h0 : 0 < v := hab.low.pos
  obtain ⟨n1, n2⟩ := wr_len (p := u) (q := v) hab.a hab.b h0
  refine (show OK _ [_, _, _, _, _, _, _] _ from ?_)
  exists "n"
  apply s_set (t := tTxt) (x := wrN u v)
  · apply den_call
    · exists "d"
    · exact spP_v ⟨(u, v), rfl, wu, wv, h0, rfl⟩
  have cT := chr_wr u v
  generalize wrN u v = T at *
  have b0 : p.ct < 1000000000 := by omega
  have o1 := take_ok (m := 10) o0
  have c1 := take_ct (p := p) (m := 10)
  exists "let"
  intro way hway
  generalize (take p 10).2 = p1 at *
  have b1 : p1.ct < 1000000000 := by omega
  have o2 := take_ok (m := (T.length : Int) + 1) o1
  have c2 := take_ct (p := p1) (m := (T.length : Int) + 1)
  have t2 := take_rg (p := p1) (m := (T.length : Int) + 1)
  have lg : ((T.length : Int) + 1).natAbs.log2 < 9000 := Bd.log (n := 31) (m := 9000) (by unfold Bd; omega) (by decide) (by decide)
  exists "let"
  intro at_ hat
  have a0 : 0 ≤ at_ := by rw [hat]; exact t2.1
  have a1 : at_ ≤ T.length := by have := t2.2 (by omega); omega
  clear hat
  generalize (take p1 ((T.length : Int) + 1)).2 = p2 at *
  have b2 : p2.ct < 1000000000 := by omega
  have o3 := take_ok (m := 96) o2
  have c3 := take_ct (p := p2) (m := 96)
  exists "if"
  · intro _
    exists "n"
    apply s_retD
    · exists "d"
    intro F1 σ1 H1 v1 hh rv
    refine ret_MA ⟨rfl, rfl, rfl⟩ (q _ _ ⟨_, _, rfl, rfl, o3, by show _ ≤ p.ct + 300; omega, ?_, ?_⟩) rfl hh rv
    · simp only [List.length_append, List.length_take, List.length_drop, List.length_cons, List.length_nil]
      omega
    · exists "chr"
  intro _
  exists "if"
  · intro _
    exists "n"
    apply s_retD
    · exists "d"
    intro F1 σ1 H1 v1 hh rv
    refine ret_MA ⟨rfl, rfl, rfl⟩ (q _ _ ⟨_, _, rfl, rfl, o2, by show _ ≤ p.ct + 300; omega, ?_, ?_⟩) rfl hh rv
    · simp only [List.length_append, List.length_take, List.length_drop, List.length_cons, List.length_nil]
      omega
    · exists "chr"
  intro _
  exists "if"
  · intro _
    exists "n"
    apply s_retD
    · exists "d"
    intro F1 σ1 H1 v1 hh rv
    refine ret_MA ⟨rfl, rfl, rfl⟩ (q _ _ ⟨_, _, rfl, rfl, o3, by show _ ≤ p.ct + 300; omega, ?_, ?_⟩) rfl hh rv
    · simp only [List.length_append, List.length_take, List.length_drop, List.length_cons, List.length_nil]
      omega
    · exists "chr"
  intro _
  exists "if"
  · intro _
    exists "n"
    apply s_set (t := tInt) (x := if decide (u < 0) then 1 else 0)
    · apply den_cb
      · exists "d"
      · exact on_intb
    generalize hst : (if decide (u < 0) = true then (1 : Int) else 0) = st0 at *
    have s0 : 0 ≤ st0 ∧ st0 ≤ 1 := by
      rw [← hst]
      split <;> omega
    clear hst
    have f1 := findC_rg (c := 47) (l := T)
    exists "n"
    apply s_ifSet (t := tInt) (x' := findC 47 T + 1)
    · exists "d"
    · rfl
    · intro _
      apply den_op
      · apply den_find
        · exists "d"
        · exists "d"
      · exists "d"
      · exists "d"
    dsimp only [List.set_cons_zero, List.set_cons_succ]
    intro st hst
    have s1 : 0 ≤ st ∧ st ≤ (T.length : Int) + 1 := by
      rcases hst with ⟨_, rfl⟩ | ⟨_, rfl⟩ <;> omega
    have s2 := s1.1
    exists "n"
    apply s_retD
    · exists "d"
    intro F1 σ1 H1 v1 hh rv
    refine ret_MA ⟨rfl, rfl, rfl⟩ (q _ _ ⟨_, _, rfl, rfl, o2, by show _ ≤ p.ct + 300; omega, ?_, ?_⟩) rfl hh rv
    · simp only [List.length_append, List.length_take, List.length_drop, List.length_cons, List.length_nil]
      omega
    · exists "chr"
  intro _
  have PK : ∀ {Γ : List Slot} {te tp : TE} {xs : List (List Nat)} {n : Nat} {m : Int}, True := trivial
  exists "if"
  · intro _
    have t3 := take_lt (p := p2) (m := 6) (by decide)
    have o4 := take_ok (m := 6) o2
    have c4 := take_ct (p := p2) (m := 6)
    have cp : Chr ([[47], [47, 48], [47, 49], [47, 50], [47, 45, 50], [47] ++ T].getD (take p2 6).1.toNat []) := chr_pick fun x hx => by
      simp only [List.mem_cons, List.not_mem_nil, or_false] at hx
      rcases hx with rfl | rfl | rfl | rfl | rfl | rfl <;> exists "chr"
    have pl : ([[47], [47, 48], [47, 49], [47, 50], [47, 45, 50], [47] ++ T].getD (take p2 6).1.toNat []).length ≤ 130 := pick_len fun x hx => by
      simp only [List.mem_cons, List.not_mem_nil, or_false] at hx
      rcases hx with rfl | rfl | rfl | rfl | rfl | rfl <;> (try simp only [List.length_append, List.length_cons, List.length_nil]) <;> omega
    exists "n"
    apply s_retD (t := tTxt) (x := T ++ [[47], [47, 48], [47, 49], [47, 50], [47, 45, 50], [47] ++ T].getD (take p2 6).1.toNat [])
    · apply den_op
      · exists "d"
      · apply den_ixLM (xs := [[47], [47, 48], [47, 49], [47, 50], [47, 45, 50], [47] ++ T])
        · apply den_n
          · apply dn_lst
            · exists "d"
            · show 6 ≤ 100000
              decide
          · rfl
        · exists "d"
        · exact t3.1
        · exact getD_ix (n := 6) t3.1 t3.2 rfl []
      · apply op2_txtcat
        omega
    intro F1 σ1 H1 v1 hh rv
    refine ret_MA ⟨rfl, rfl, rfl⟩ (q _ _ ⟨_, _, rfl, rfl, o4, by show _ ≤ p.ct + 300; omega, ?_, ?_⟩) rfl hh rv
    · simp only [List.length_append, List.length_take, List.length_drop, List.length_cons, List.length_nil]
      omega
    · exists "chr"
  intro _
  exists "if"
  · intro _
    have t3 := take_lt (p := p2) (m := 5) (by decide)
    have o4 := take_ok (m := 5) o2
    have c4 := take_ct (p := p2) (m := 5)
    have cp : Chr ([[43], [45], [32], [48], [9]].getD (take p2 5).1.toNat []) := chr_pick fun x hx => by
      simp only [List.mem_cons, List.not_mem_nil, or_false] at hx
      rcases hx with rfl | rfl | rfl | rfl | rfl <;> exists "chr"
    have pl : ([[43], [45], [32], [48], [9]].getD (take p2 5).1.toNat []).length ≤ 130 := pick_len fun x hx => by
      simp only [List.mem_cons, List.not_mem_nil, or_false] at hx
      rcases hx with rfl | rfl | rfl | rfl | rfl <;> decide
    exists "n"
    apply s_retD (t := tTxt) (x := [[43], [45], [32], [48], [9]].getD (take p2 5).1.toNat [] ++ T)
    · apply den_op
      · apply den_ixLM (xs := [[43], [45], [32], [48], [9]])
        · apply den_n
          · apply dn_lst
            · exists "d"
            · show 5 ≤ 100000
              decide
          · rfl
        · exists "d"
        · exact t3.1
        · exact getD_ix (n := 5) t3.1 t3.2 rfl []
      · exists "d"
      · apply op2_txtcat
        omega
    intro F1 σ1 H1 v1 hh rv
    refine ret_MA ⟨rfl, rfl, rfl⟩ (q _ _ ⟨_, _, rfl, rfl, o4, by show _ ≤ p.ct + 300; omega, ?_, ?_⟩) rfl hh rv
    · simp only [List.length_append, List.length_take, List.length_drop, List.length_cons, List.length_nil]
      omega
    · exists "chr"
  intro _
  exists "if"
  · intro _
    have t3 := take_lt (p := p2) (m := 6) (by decide)
    have o4 := take_ok (m := 6) o2
    have c4 := take_ct (p := p2) (m := 6)
    have cp : Chr ([[32], [10], [9], [46, 48], [101, 49], [95, 48]].getD (take p2 6).1.toNat []) := chr_pick fun x hx => by
      simp only [List.mem_cons, List.not_mem_nil, or_false] at hx
      rcases hx with rfl | rfl | rfl | rfl | rfl | rfl <;> exists "chr"
    have pl : ([[32], [10], [9], [46, 48], [101, 49], [95, 48]].getD (take p2 6).1.toNat []).length ≤ 130 := pick_len fun x hx => by
      simp only [List.mem_cons, List.not_mem_nil, or_false] at hx
      rcases hx with rfl | rfl | rfl | rfl | rfl | rfl <;> decide
    exists "n"
    apply s_retD (t := tTxt) (x := T ++ [[32], [10], [9], [46, 48], [101, 49], [95, 48]].getD (take p2 6).1.toNat [])
    · apply den_op
      · exists "d"
      · apply den_ixLM (xs := [[32], [10], [9], [46, 48], [101, 49], [95, 48]])
        · apply den_n
          · apply dn_lst
            · exists "d"
            · show 6 ≤ 100000
              decide
          · rfl
        · exists "d"
        · exact t3.1
        · exact getD_ix (n := 6) t3.1 t3.2 rfl []
      · apply op2_txtcat
        omega
    intro F1 σ1 H1 v1 hh rv
    refine ret_MA ⟨rfl, rfl, rfl⟩ (q _ _ ⟨_, _, rfl, rfl, o4, by show _ ≤ p.ct + 300; omega, ?_, ?_⟩) rfl hh rv
    · simp only [List.length_append, List.length_take, List.length_drop, List.length_cons, List.length_nil]
      omega
    · exists "chr"
  intro _
  exists "if"
  · intro _
    have t3 := take_lt (p := p2) (m := 8) (by decide)
    have o4 := take_ok (m := 8) o2
    have c4 := take_ct (p := p2) (m := 8)
    exists "n"
    apply s_set (t := tInt) (x := 2 + (take p2 8).1)
    · exists "d"
    dsimp only [List.set_cons_zero, List.set_cons_succ]
    have f0 : 0 ≤ 2 + (take p2 8).1 := by omega
    have f1 : 2 + (take p2 8).1 < 10 := by omega
    generalize 2 + (take p2 8).1 = fc at *
    have z1 := fac_bd2 hab.a f0 f1
    have z2 := fac_bd2 hab.b f0 f1
    have z1 : (u * fc).natAbs < 10 ^ 61 := z1
    have z2 : (v * fc).natAbs < 10 ^ 61 := z2
    have k1 := intL_bd (n := 61) z1 (by decide)
    have k2 := intL_bd (n := 61) z2 (by decide)
    have g1 : (u * fc).natAbs.log2 < 1920 := w120_log (Nat.lt_trans z1 (by decide +kernel))
    have g2 : (v * fc).natAbs.log2 < 1920 := w120_log (Nat.lt_trans z2 (by decide +kernel))
    have m1 : CMulW u fc := Bd.mulW (n := 200) (m := 8) (Nat.lt_of_lt_of_le hab.a pow60) (by unfold Bd; omega) (by decide) (by decide) (by decide)
    have m2 : CMulW v fc := Bd.mulW (n := 200) (m := 8) (Nat.lt_of_lt_of_le hab.b pow60) (by unfold Bd; omega) (by decide) (by decide) (by decide)
    exists "n"
    apply s_retD (t := tTxt) (x := (intL (u * fc) ++ [47]) ++ intL (v * fc))
    · exists "d"
    intro F1 σ1 H1 v1 hh rv
    refine ret_MA ⟨rfl, rfl, rfl⟩ (q _ _ ⟨_, _, rfl, rfl, o4, by show _ ≤ p.ct + 300; omega, ?_, ?_⟩) rfl hh rv
    · simp only [List.length_append, List.length_take, List.length_drop, List.length_cons, List.length_nil]
      omega
    · exists "chr"
  intro _
  exists "n"
  apply s_retD
  · exists "d"
  intro F1 σ1 H1 v1 hh rv
  refine ret_MA ⟨rfl, rfl, rfl⟩ (q _ _ ⟨_, _, rfl, rfl, o2, by show _ ≤ p.ct + 300; omega, ?_, ?_⟩) rfl hh rv
  · omega
  · exists "chr"

theorem sc__law_text : FnScope ["pool", "pair", "kind", "k"] ["pool", "pair"] (defScope s__law_text) := ⟨rfl, rfl, rfl, by decide +kernel, rfl, by decide +kernel, by decide +kernel⟩
set_option maxHeartbeats 4000000 in
theorem ok__law_text (F : FunD W.K "_law_text" "_law_text" (defArgs s__law_text) (defBody s__law_text) (defScope s__law_text) [] [] f fd)(g : W.mg "_law_text" = some (.ref f))
    (h__law_take : DefOk W "_law_take" 1 ["pool", "most"] (spM S_take))
    (z_range : W.mg "range" = none)
    (h__law_mark : DefOk W "_law_mark" 3 ["pool"] (spM S_mark))
    (h__law_long : DefOk W "_law_long" 3 ["pool"] (spMA P_draw (S_tx 6000)))
    (h__law_spoilt : DefOk W "_law_spoilt" 4 ["pool", "pair"] (spMA P_pair (S_txp 1000))) : DefOk W "_law_text" 5 ["pool", "pair"] (spMA P_text (S_txq 6000)) := by
  obtain ⟨f__law_take, fd__law_take, G__law_take, g__law_take, k__law_take, b__law_take⟩ := h__law_take
  obtain ⟨f__law_mark, fd__law_mark, G__law_mark, g__law_mark, k__law_mark, b__law_mark⟩ := h__law_mark
  obtain ⟨f__law_long, fd__law_long, G__law_long, g__law_long, k__law_long, b__law_long⟩ := h__law_long
  obtain ⟨f__law_spoilt, fd__law_spoilt, G__law_spoilt, g__law_spoilt, k__law_spoilt, b__law_spoilt⟩ := h__law_spoilt
  refine defOk_of F g sc__law_text (spMA_len (n := 1) fun g ps ds h => by rw [h.2.1]; rfl) (fun _ _ _ _ _ _ us hl => match us, hl with | [_, _], _ => rfl) (fun cdv A outer s H vs Q E hr h => ⟨_, (pss_cons (ps_set (i := 2) sc__law_text.nd rfl (Or.inl rfl) (pe_call G__law_take (hr.mono (by decide)) rfl g__law_take k__law_take b__law_take .nil passL (pa_cons (pv 0) (pa_cons pe_int pa_nil))))
    (pss_cons (ps_if (pt_cmpR op_eq (pv 2) pe_int (nomark _)) (pss_one (ps_ret (pe_bm PySem.F.plainAttrs_str PySem.F.slot_str_join PySem.F.type_str_join mt_join pe_str (pa_cons (pe_lc (own := [("k", 3)]) (g := gName 3) (tt := tYes) rfl sc__law_text.nd (pi_range1 (by rfl) z_range (pa_cons (pe_call G__law_take (hr.mono (by decide)) rfl g__law_take k__law_take b__law_take .nil passL (pa_cons (pv 0) (pa_cons pe_int pa_nil))) pa_nil)) (blkOk_by (N := ["pool", "pair", "kind", "k"]) (sc := defScope s__law_text) (by decide +kernel)) (fun _ _ _ _ _ => pg_name (i := 3) sc__law_text.nd rfl (Or.inl rfl)) (fun _ _ _ _ _ => pts_nil) (fun _ _ _ _ _ => (pe_call G__law_mark (hr.mono (by decide)) rfl g__law_mark k__law_mark b__law_mark .nil passL (pa_cons (pv 0) pa_nil)))) pa_nil)))) pss_nil)
    (pss_cons (ps_if (pt_cmpR op_eq (pv 2) pe_int (nomark _)) (pss_one (ps_ret (pe_bm PySem.F.plainAttrs_str PySem.F.slot_str_join PySem.F.type_str_join mt_join pe_str (pa_cons (pe_lc (own := [("k", 3)]) (g := gName 3) (tt := tYes) rfl sc__law_text.nd (pi_range1 (by rfl) z_range (pa_cons (pe_call G__law_take (hr.mono (by decide)) rfl g__law_take k__law_take b__law_take .nil passL (pa_cons (pv 0) (pa_cons pe_int pa_nil))) pa_nil)) (blkOk_by (N := ["pool", "pair", "kind", "k"]) (sc := defScope s__law_text) (by decide +kernel)) (fun _ _ _ _ _ => pg_name (i := 3) sc__law_text.nd rfl (Or.inl rfl)) (fun _ _ _ _ _ => pts_nil) (fun _ _ _ _ _ => (pe_ix ix_str pe_str (pe_call G__law_take (hr.mono (by decide)) rfl g__law_take k__law_take b__law_take .nil passL (pa_cons (pv 0) (pa_cons pe_int pa_nil))) (fun _ _ => rfl)))) pa_nil)))) pss_nil)
    (pss_cons (ps_if (pt_cmpR op_eq (pv 2) pe_int (nomark _)) (pss_one (ps_ret (pe_call G__law_long (hr.mono (by decide)) rfl g__law_long k__law_long b__law_long .nil passL (pa_cons (pv 0) pa_nil)))) pss_nil)
    (pss_one (ps_ret (pe_call G__law_spoilt (hr.mono (by decide)) rfl g__law_spoilt k__law_spoilt b__law_spoilt .nil passL (pa_cons (pv 0) (pa_cons (pv 1) pa_nil))))))))), ?_⟩)
  refine body_MA h fun F a ps ds g _ hS q => ?_
  obtain ⟨p, ab⟩ := g
  obtain ⟨rfl, rfl, o0, hc, hab⟩ := hS
  have o0 : Pok p := o0
  have hc : p.ct < 600000000 := hc
  have hab : Lw ab := hab
  refine (show OK _ [_, _, _, _] _ from ?_)
  have b0 : p.ct < 1000000000 := by omega
  have o1 := take_ok (m := 8) o0
  have c1 := take_ct (p := p) (m := 8)
  exists "let"
  intro kind hkind
  generalize (take p 8).2 = p1 at *
  have b1 : p1.ct < 1000000000 := by omega
  exists "if"
  · intro _
    have t2 := take_lt (p := p1) (m := 131) (by decide)
    have o2 := take_ok (m := 131) o1
    have c2 := take_ct (p := p1) (m := 131)
    generalize hp2 : (take p1 131) = w at *
    obtain ⟨cnt, p2⟩ := w
    have hp2a : (take p1 131).1 = cnt := by rw [hp2]
    have hp2b : (take p1 131).2 = p2 := by rw [hp2]
    have t2 : 0 ≤ cnt ∧ cnt < 131 := t2
    have o2 : Pok p2 := o2
    have c2 : p2.ct ≤ p1.ct + 1 := c2
    have ml := fun n => mkL_ok (tb := mkT) (m := 96) o2 n
    exists "n"
    apply s_retD (t := tTxt) (x := joinT [] (mkL mkT 96 p2 cnt.toNat).1)
    · apply den_join
      · exists "d"
      · apply dn_l
        apply dn_lcR (u := tTxt) (m := cnt) (fun n => [.own (some a) (pool3 (mkL mkT 96 p2 n).2), .val ⟨tPair tInt tInt, ab⟩, .val ⟨tInt, kind⟩, .any]) (fun n => (mkL mkT 96 p2 n).1)
        · apply da_cons
          · refine den_callM (oa := some a) (ps := pool3 p1) (ps' := pool3 p2) (ds := [⟨tInt, 131⟩]) rfl ?_ ⟨_, _, rfl, rfl, o1, b1, by decide, by rw [hp2b], by rw [hp2a]⟩ rfl
            exists "d"
          · exact da_nil
        · intro n
          rfl
        · omega
        · omega
        · rfl
        · intro n hn
          obtain ⟨d1, d2, _, _⟩ := ml n
          have d3 : (mkL mkT 96 p2 n).2.ct < 1000000000 := by omega
          have t4 := take_lt (p := (mkL mkT 96 p2 n).2) (m := 96) (by decide)
          refine ⟨true, _, dt_yes, fun _ => ⟨[mkT.getD (take (mkL mkT 96 p2 n).2 96).1.toNat 0], ?_, rfl⟩, fun z => nomatch z⟩
          refine den_callM (oa := some a) (ps := pool3 (mkL mkT 96 p2 n).2) (ps' := pool3 (take (mkL mkT 96 p2 n).2 96).2) (ds := []) rfl ?_ ⟨_, rfl, rfl, d1, d3, rfl, rfl⟩ rfl
          exists "d"
      · obtain ⟨_, _, k3, k4⟩ := ml cnt.toNat
        rw [k4]
        show _ + _ * 0 ≤ _
        omega
    intro F1 σ1 H1 v1 hh rv
    obtain ⟨k1, k2, k3, k4⟩ := ml cnt.toNat
    have k5 : (mkL mkT 96 p2 cnt.toNat).2.ct ≤ p.ct + 200 := by omega
    refine ret_MA ⟨rfl, rfl, rfl⟩ (q _ _ ⟨_, _, rfl, rfl, k1, by show _ ≤ p.ct + 400; omega, ?_, chr_flat (mkL_chr chr_mk _)⟩) rfl hh rv
    rw [join_len, k4]
    omega
  intro _
  exists "if"
  · intro _
    have t2 := take_lt (p := p1) (m := 13) (by decide)
    have o2 := take_ok (m := 13) o1
    have c2 := take_ct (p := p1) (m := 13)
    generalize hp2 : (take p1 13) = w at *
    obtain ⟨cnt, p2⟩ := w
    have hp2a : (take p1 13).1 = cnt := by rw [hp2]
    have hp2b : (take p1 13).2 = p2 := by rw [hp2]
    have t2 : 0 ≤ cnt ∧ cnt < 13 := t2
    have o2 : Pok p2 := o2
    have c2 : p2.ct ≤ p1.ct + 1 := c2
    have ml := fun n => mkL_ok (tb := dsT) (m := 12) o2 n
    exists "n"
    apply s_retD (t := tTxt) (x := joinT [] (mkL dsT 12 p2 cnt.toNat).1)
    · apply den_join
      · exists "d"
      · apply dn_l
        apply dn_lcR (u := tTxt) (m := cnt) (fun n => [.own (some a) (pool3 (mkL dsT 12 p2 n).2), .val ⟨tPair tInt tInt, ab⟩, .val ⟨tInt, kind⟩, .any]) (fun n => (mkL dsT 12 p2 n).1)
        · apply da_cons
          · refine den_callM (oa := some a) (ps := pool3 p1) (ps' := pool3 p2) (ds := [⟨tInt, 13⟩]) rfl ?_ ⟨_, _, rfl, rfl, o1, b1, by decide, by rw [hp2b], by rw [hp2a]⟩ rfl
            exists "d"
          · exact da_nil
        · intro n
          rfl
        · omega
        · omega
        · rfl
        · intro n hn
          obtain ⟨d1, d2, _, _⟩ := ml n
          have d3 : (mkL dsT 12 p2 n).2.ct < 1000000000 := by omega
          have t4 := take_lt (p := (mkL dsT 12 p2 n).2) (m := 12) (by decide)
          refine ⟨true, _, dt_yes, fun _ => ⟨[dsT.getD (take (mkL dsT 12 p2 n).2 12).1.toNat 0], ?_, rfl⟩, fun z => nomatch z⟩
          apply den_op
          · exists "d"
          · dsimp only [List.set_cons_zero, List.set_cons_succ]
            refine den_callM (oa := some a) (ps := pool3 (mkL dsT 12 p2 n).2) (ps' := pool3 (take (mkL dsT 12 p2 n).2 12).2) (ds := [⟨tInt, 12⟩]) rfl ?_ ⟨_, _, rfl, rfl, d1, d3, by decide, rfl, rfl⟩ rfl
            exists "d"
          · exact op2_txtix t4.1 (by decide) (getD_ix (n := 12) t4.1 t4.2 rfl 0)
      · obtain ⟨_, _, k3, k4⟩ := ml cnt.toNat
        rw [k4]
        show _ + _ * 0 ≤ _
        omega
    intro F1 σ1 H1 v1 hh rv
    obtain ⟨k1, k2, k3, k4⟩ := ml cnt.toNat
    have k5 : (mkL dsT 12 p2 cnt.toNat).2.ct ≤ p.ct + 200 := by omega
    refine ret_MA ⟨rfl, rfl, rfl⟩ (q _ _ ⟨_, _, rfl, rfl, k1, by show _ ≤ p.ct + 400; omega, ?_, chr_flat (mkL_chr chr_ds _)⟩) rfl hh rv
    rw [join_len, k4]
    omega
  intro _
  exists "if"
  · intro _
    exists "n"
    refine s_retA (den_callMA p1 rfl (by exists "d") ⟨rfl, rfl, o1, by omega⟩) ?_
    rintro Γ' r ⟨ps', ⟨p3, l, rfl, rfl, o3, c3, hl, hch⟩, rfl⟩ F1 σ1 H1 v1 hh rv
    exact ret_MA ⟨rfl, rfl, rfl⟩ (q _ _ ⟨_, _, rfl, rfl, o3, by show _ ≤ p.ct + 400; omega, hl, hch⟩) rfl hh rv
  intro _
  exists "n"
  refine s_retA (den_callMA (p1, ab) rfl (by exists "d") ⟨rfl, rfl, o1, by show p1.ct < 700000000; omega, hab⟩) ?_
  rintro Γ' r ⟨ps', ⟨p3, l, rfl, rfl, o3, c3, hl, hch⟩, rfl⟩ F1 σ1 H1 v1 hh rv
  have c3 : p3.ct ≤ p1.ct + 300 := c3
  exact ret_MA ⟨rfl, rfl, rfl⟩ (q _ _ ⟨_, _, rfl, rfl, o3, by show _ ≤ p.ct + 400; omega, by omega, hch⟩) rfl hh rv

theorem sc__law_right : FnScope ["told", "due", "text"] ["told", "due", "text"] (defScope s__law_right) := ⟨rfl, rfl, rfl, by decide +kernel, rfl, by decide +kernel, by decide +kernel⟩
set_option maxHeartbeats 4000000 in
theorem ok__law_right (F : FunD W.K "_law_right" "_law_right" (defArgs s__law_right) (defBody s__law_right) (defScope s__law_right) [] [] f fd)(g : W.mg "_law_right" = some (.ref f))
    (gc_Ratio : W.mg "Ratio" = some (.ref C_Ratio))
    (z_isinstance : W.mg "isinstance" = none)
    (h__law_integer : DefOk W "_law_integer" 3 ["thing"] (spP S_isint NoR))
    (RW_ : RatW W.K C_Ratio)
    (O_Ratio_str : OwnM W.K C_Ratio "__str__" a_Ratio_str)
    (h_Ratio_str : FnAt W a_Ratio_str 3 ["self"] (spP (S_str C_Ratio) NoR))
    (z_str : W.mg "str" = none) : DefOk W "_law_right" 6 ["told", "due", "text"] (spP (S_right C_Ratio) NoR) := by
  obtain ⟨f__law_integer, fd__law_integer, G__law_integer, g__law_integer, k__law_integer, b__law_integer⟩ := h__law_integer
  obtain ⟨fd_Ratio_str, G_Ratio_str, b_Ratio_str⟩ := h_Ratio_str
  refine defOk_of F g sc__law_right (spP_len (n := 3) (fun ds r h => by obtain ⟨_, _, rfl, _⟩ := h; rfl) (fun _ _ h => h.elim)) (fun _ _ _ _ _ _ us hl => match us, hl with | [_, _, _], _ => rfl) (fun cdv A outer s H vs Q E hr h => ⟨_, (pss_cons (ps_if (PW.pt (pw_or (pt_not (pt_val (pe_callB call_isi (by rfl) z_isinstance (by decide +kernel) (pa_cons (pv 0) (pa_cons (pe_glob (v := .ref C_Ratio) rfl gc_Ratio rfl) pa_nil))))) (pw_or (pt_not (pt_val (pe_call G__law_integer (hr.mono (by decide)) rfl g__law_integer k__law_integer b__law_integer .nil passL (pa_cons (pe_fld (pv 0) rfl) pa_nil)))) (pw_or1 (pt_not (pt_val (pe_call G__law_integer (hr.mono (by decide)) rfl g__law_integer k__law_integer b__law_integer .nil passL (pa_cons (pe_fld (pv 0) rfl) pa_nil)))))))) (pss_one (ps_ret pe_bl)) pss_nil)
    (pss_one (ps_ret (pe_and (pe_cmpR op_eq (pe_fld (pv 0) rfl) (pe_ix ix_tup (pv 1) pe_int (fun _ _ => rfl)) (nomark _)) (pe_and (pe_cmpR op_eq (pe_fld (pv 0) rfl) (pe_ix ix_tup (pv 1) pe_int (fun _ _ => rfl)) (nomark _)) (pe_one (pe_cmpR op_eq (pe_callTy (call_ownStr O_Ratio_str G_Ratio_str b_Ratio_str passL (hr.mono (by decide))) (by rfl) z_str (by decide +kernel) (pa_cons (pv 0) pa_nil)) (pv 2) (nomark _)))))))), ?_⟩)
  refine body_P h fun F ds _ hS => ?_
  rcases hS with ⟨r, ⟨ab, l, rfl, h1, h2, h3, rfl, rfl⟩, q⟩ | ⟨c, hR, _⟩
  rotate_left
  · exact hR.elim
  
  obtain ⟨u, v⟩ := ab
  have h1 : W120 u := h1
  have h2 : W120 v := h2
  have h3 : 0 < v := h3
  refine (show OK _ [_, _, _] _ from ?_)
  exists "if"
  · intro hc
    simp at hc
  intro _
  exists "n"
  apply s_retP ⟨rfl, rfl, rfl⟩ rfl q
  · exists "d"
  · simp

theorem sc__law_reads : FnScope ["text", "due", "told", "kept", "e", "others"] ["text", "due"] (defScope s__law_reads) := ⟨rfl, rfl, rfl, by decide +kernel, rfl, by decide +kernel, by decide +kernel⟩
set_option maxHeartbeats 4000000 in
theorem ok__law_reads (F : FunD W.K "_law_reads" "_law_reads" (defArgs s__law_reads) (defBody s__law_reads) (defScope s__law_reads) [] [] f fd)(g : W.mg "_law_reads" = some (.ref f))
    (gc_BadNumber : W.mg "BadNumber" = some (.ref C_BadNumber))
    (gc_Ratio : W.mg "Ratio" = some (.ref C_Ratio))
    (RW_ : RatW W.K C_Ratio)
    (h_Ratio_read : StatOk W C_Ratio "read" 6 ["text"] (spT (S_read C_Ratio) (R_read C_BadNumber)))
    (gc_BadPolynomial : W.mg "BadPolynomial" = some (.ref C_BadPolynomial))
    (z_isinstance : W.mg "isinstance" = none)
    (gc_BadQuestion : W.mg "BadQuestion" = some (.ref C_BadQuestion))
    (gc_BadLine : W.mg "BadLine" = some (.ref C_BadLine))
    (gc_BadText : W.mg "BadText" = some (.ref C_BadText))
    (gc_SpotError : W.mg "SpotError" = some (.ref C_SpotError))
    (z_ValueError : W.mg "ValueError" = none)
    (z_len : W.mg "len" = none)
    (h__law_right : DefOk W "_law_right" 6 ["told", "due", "text"] (spP (S_right C_Ratio) NoR))
    (em_ : PySem.W.exmOne W.K (.ref C_BadNumber) (.ref C_BadNumber) = some true)
    (XE_ : ExcC W.K C_BadNumber)
    (XF_ : XfC W.K C_BadNumber)
    (XN_ : PySem.W.findIn W.K (.ref C_BadNumber) "text" = some none)
    (kz0 : PySem.W.kitOne W.K (.ref C_BadNumber) (.ref C_BadPolynomial) = some false)
    (kz1 : PySem.W.kitOne W.K (.ref C_BadNumber) (.ref C_BadQuestion) = some false)
    (kz2 : PySem.W.kitOne W.K (.ref C_BadNumber) (.ref C_BadLine) = some false)
    (kz3 : PySem.W.kitOne W.K (.ref C_BadNumber) (.ref C_BadText) = some true)
    (kz4 : PySem.W.kitOne W.K (.ref C_BadNumber) (.ref C_SpotError) = some true)
    (kz5 : PySem.W.kitOne W.K (.ref C_BadNumber) (.type "ValueError") = some true) : DefOk W "_law_reads" 8 ["text", "due"] (spP S_reads NoR) := by
  obtain ⟨f_Ratio_read, fd_Ratio_read, G_Ratio_read, SM_Ratio_read, b_Ratio_read⟩ := h_Ratio_read
  obtain ⟨f__law_right, fd__law_right, G__law_right, g__law_right, k__law_right, b__law_right⟩ := h__law_right
  refine defOk_of F g sc__law_reads (spP_len (n := 2) (fun ds r h => by obtain ⟨_, rfl, _⟩ := h; rfl) (fun _ _ h => h.elim)) (fun _ _ _ _ _ _ us hl => match us, hl with | [_, _], _ => rfl) (fun cdv A outer s H vs Q E hr h => ⟨_, (pss_cons (ps_set (i := 2) sc__law_reads.nd rfl (Or.inl rfl) pe_non)
    (pss_cons (ps_set (i := 3) sc__law_reads.nd rfl (Or.inl rfl) (pe_lst pa_nil))
    (pss_cons (ps_try_as (i := 4) rfl rfl sc__law_reads.nd rfl rfl ⟨rfl, by decide, .inl gc_BadNumber⟩ takes0 (fun W_ pn xe tk po_ => (pss_one (ps_set (i := 2) sc__law_reads.nd rfl (Or.inl rfl) (pe_smethS (pe_glob (v := .ref C_Ratio) rfl gc_Ratio rfl) SM_Ratio_read G_Ratio_read (hr.mono (by decide)) b_Ratio_read (fun σ => passAt tk σ) (pa_cons (pv 0) pa_nil))))) (fun a oe cls d pn hz hf => pss_if (P := cls = .ref C_BadNumber ∧ d = some (d.getD 0)) (fun hP => (pss_cons (ps_set (i := 5) sc__law_reads.nd rfl (Or.inl rfl) (pe_or (pe_callB (call_isED (dd := d.getD 0) XE_ (zc_ofD hP hz) hf) (by rfl) z_isinstance (by decide +kernel) (pa_cons (pv 4) (pa_cons (pe_glob (v := .ref C_BadPolynomial) rfl gc_BadPolynomial rfl) pa_nil))) (pe_or (pe_callB (call_isED (dd := d.getD 0) XE_ (zc_ofD hP hz) hf) (by rfl) z_isinstance (by decide +kernel) (pa_cons (pv 4) (pa_cons (pe_glob (v := .ref C_BadQuestion) rfl gc_BadQuestion rfl) pa_nil))) (pe_one (pe_callB (call_isED (dd := d.getD 0) XE_ (zc_ofD hP hz) hf) (by rfl) z_isinstance (by decide +kernel) (pa_cons (pv 4) (pa_cons (pe_glob (v := .ref C_BadLine) rfl gc_BadLine rfl) pa_nil)))))))
    (pss_one (ps_set (i := 3) sc__law_reads.nd rfl (Or.inl rfl) (pe_lst (pa_cons (pe_callB (call_isED (dd := d.getD 0) XE_ (zc_ofD hP hz) hf) (by rfl) z_isinstance (by decide +kernel) (pa_cons (pv 4) (pa_cons (pe_glob (v := .ref C_BadText) rfl gc_BadText rfl) pa_nil))) (pa_cons (pe_callB (call_isED (dd := d.getD 0) XE_ (zc_ofD hP hz) hf) (by rfl) z_isinstance (by decide +kernel) (pa_cons (pv 4) (pa_cons (pe_glob (v := .ref C_SpotError) rfl gc_SpotError rfl) pa_nil))) (pa_cons (pe_callB (call_isED (dd := d.getD 0) XE_ (zc_ofD hP hz) hf) (by rfl) z_isinstance (by decide +kernel) (pa_cons (pv 4) (pa_cons (pe_bltn (v := .ty "ValueError") (u := .type "ValueError") (by rfl) z_ValueError (by decide +kernel) rfl) pa_nil))) (pa_cons (pv 5) (pa_cons (pe_xf XF_ XN_ (zc_ofD hP hz) hf (pv 4)) pa_nil))))))))))))
    (pss_cons (ps_if (pt_cmp (pc_isN (pv 1)) rfl) (pss_one (ps_ret (pe_cmpR (op_eqD hr.units) (pv 3) (pe_lst (pa_cons pe_bl (pa_cons pe_bl (pa_cons pe_bl (pa_cons pe_bl (pa_cons (pv 0) pa_nil)))))) (nomark _)))) pss_nil)
    (pss_one (ps_ret (pe_and (pe_cmpR op_eq (pe_callB call_len_seq (by rfl) z_len PySem.boot_len (pa_cons (pv 3) pa_nil)) pe_int (nomark _)) (pe_one (pe_call G__law_right (hr.mono (by decide)) rfl g__law_right k__law_right b__law_right .nil passL (pa_cons (pv 2) (pa_cons (pv 1) (pa_cons (pv 0) pa_nil)))))))))))), ?_⟩)
  refine body_P h fun F ds _ hS => ?_
  rcases hS with ⟨r, ⟨l, rfl, hl, hch, rfl⟩, q⟩ | ⟨c, hR, _⟩
  rotate_left
  · exact hR.elim
  
  cases hcan : canL l with
  | none =>
    rw [show judD none = ⟨tNon, ()⟩ from rfl]
    refine (show OK _ [_, _, _, _, _, _] _ from ?_)
    exists "n"
    apply s_set (t := tNon) (x := ())
    · exists "d"
    exists "n"
    apply s_setN (t := tTxt) (xs := [])
    · exists "d"
    exists "n"
    apply s_botXA (c := C_BadNumber) (l := l)
    · apply botx_smeth (ds := [⟨tTxt, l⟩])
      · exists "d"
      · exact ⟨l, rfl, hl, hcan, rfl, rfl⟩
    intro d
    apply s_caughtX em_
    intro ex
    dsimp only [List.set_cons_zero, List.set_cons_succ]
    apply s_prop ⟨rfl, rfl⟩
    dsimp only [Option.getD_some]
    exists "n"
    apply s_set (t := tBool) (x := false || (false || false))
    · exists "d"
    dsimp only [List.set_cons_zero, List.set_cons_succ]
    refine (show OK _ [_, _, _, _, _, .val ⟨tBool, false⟩] _ from ?_)
    exists "n"
    apply s_setH (ds := [⟨tBool, true⟩, ⟨tBool, true⟩, ⟨tBool, true⟩, ⟨tBool, false⟩, ⟨tTxt, l⟩])
    · apply dn_lst
      · exists "d"
      · show 5 ≤ 100000
        decide
    exists "n"
    apply s_back
    exists "n"
    apply s_ifYes (a := true)
    · apply dt_B
      apply den_isNN
      exists "d"
    · rfl
    exists "n"
    apply s_retP ⟨rfl, rfl, rfl⟩ rfl q
    · apply den_eqH (es := [⟨tBool, true⟩, ⟨tBool, true⟩, ⟨tBool, true⟩, ⟨tBool, false⟩, ⟨tTxt, l⟩]) (p := [.bool true, .bool true, .bool true, .bool false, .str (txt l)]) (q := [.bool true, .bool true, .bool true, .bool false, .str (txt l)]) (b := true)
      · rfl
      · apply dn_lst
        · exists "d"
        · show 5 ≤ 100000
          decide
      · rfl
      · exact .cons pd_bool (.cons pd_bool (.cons pd_bool (.cons pd_bool (.cons pd_txt .nil))))
      · exact .cons pd_bool (.cons pd_bool (.cons pd_bool (.cons pd_bool (.cons pd_txt .nil))))
      · exact shaped5 hch
      · exact shaped5 hch
      · simp [PyData.eqv, PyData.eqvAll]
    · rfl
  | some ab =>
    obtain ⟨u, v⟩ := ab
    have hcn := can_get hcan
    have wu : W120 u := w_of (n := u.natAbs) (lt60 hcn.lp) (Nat.le_refl _)
    have wv : W120 v := w_of (n := v.natAbs) (lt60 (by have := hcn.lq; have := hcn.low.pos; rw [show v.natAbs = v.toNat by omega]; exact hcn.lq)) (Nat.le_refl _)
    have hv : 0 < v := hcn.low.pos
    rw [show judD (some (u, v)) = ⟨tPair tInt tInt, (u, v)⟩ from rfl]
    refine (show OK _ [_, _, _, _, _, _] _ from ?_)
    exists "n"
    apply s_set (t := tNon) (x := ())
    · exists "d"
    exists "n"
    apply s_setN (t := tTxt) (xs := [])
    · exists "d"
    exists "n"
    apply s_set (t := tRat C_Ratio) (x := ⟨u, v⟩)
    · apply den_smeth (ds := [⟨tTxt, l⟩])
      · exists "d"
      · exact spT_v ⟨l, u, v, rfl, hl, hcan, rfl⟩
    exists "n"
    apply s_ifNo (a := false)
    · apply dt_B
      apply den_isN
      · exists "d"
      · exact nn_pair
    · rfl
    exists "n"
    apply s_retP ⟨rfl, rfl, rfl⟩ rfl q
    · apply den_andV (a := true) (b := true)
      · refine (show Den _ _ tBool (decide ((([] : List (List Nat)).length : Int) = 0)) _ from ?_)
        exists "d"
      · intro _
        apply den_call (w := tBool) (z := true)
        · exists "d"
        · exact spP_v ⟨(u, v), l, rfl, wu, wv, hv, hcn.eq, rfl⟩
    · rfl

theorem sc__law_fixed : FnScope ["found"] [] (defScope s__law_fixed) := ⟨rfl, rfl, rfl, by decide +kernel, rfl, by decide +kernel, by decide +kernel⟩
set_option maxHeartbeats 4000000 in
theorem ok__law_fixed (F : FunD W.K "_law_fixed" "_law_fixed" (defArgs s__law_fixed) (defBody s__law_fixed) (defScope s__law_fixed) [] [] f fd)(g : W.mg "_law_fixed" = some (.ref f))
     : DefOk W "_law_fixed" 1 [] (spN S_fixed) := by
  refine defOk_of F g sc__law_fixed (spN_len (n := 0) fun ds r ⟨e, _⟩ => by rw [e]; rfl) (fun _ _ _ _ _ _ us hl => match us, hl with | [], _ => rfl) (fun cdv A outer s H vs Q E hr h => ⟨_, (pss_cons (ps_set (i := 0) sc__law_fixed.nd rfl (Or.inl rfl) (pe_lst (pa_cons pe_str (pa_cons pe_str (pa_cons pe_str (pa_cons pe_str (pa_cons pe_str (pa_cons pe_str (pa_cons pe_str (pa_cons pe_str (pa_cons pe_str (pa_cons pe_str (pa_cons pe_str (pa_cons pe_str (pa_cons pe_str (pa_cons pe_str (pa_cons pe_str pa_nil)))))))))))))))))
    (pss_cons (ps_set (i := 0) sc__law_fixed.nd rfl (Or.inl rfl) (pe_op op_cat (pv 0) (pe_lst (pa_cons pe_str (pa_cons pe_str (pa_cons pe_str (pa_cons pe_str (pa_cons pe_str (pa_cons pe_str (pa_cons pe_str (pa_cons pe_str (pa_cons pe_str (pa_cons pe_str (pa_cons pe_str (pa_cons pe_str (pa_cons pe_str pa_nil))))))))))))))))
    (pss_one (ps_ret (pe_op op_cat (pv 0) (pe_lst (pa_cons pe_str (pa_cons pe_str pa_nil)))))))), ?_⟩)
  refine body_N h fun F ds r _ hS q => ?_
  obtain ⟨rfl, rfl⟩ := hS
  refine (show OK _ [_] _ from ?_)
  exists "n"
  apply s_set (t := tList tTxt) (x := [[], [45], [47], [43, 49], [45, 48], [48, 48], [48, 49], [45, 48, 49], [48, 47, 49], [48, 47, 50], [45, 48, 47, 49], [49, 47, 49], [51, 47, 49], [52, 47, 50], [45, 54, 47, 52]])
  · apply den_n
    · apply dn_lst
      · exists "d"
      · show 15 ≤ 100000
        decide
    · rfl
  exists "n"
  apply s_set (t := tList tTxt) (x := [[], [45], [47], [43, 49], [45, 48], [48, 48], [48, 49], [45, 48, 49], [48, 47, 49], [48, 47, 50], [45, 48, 47, 49], [49, 47, 49], [51, 47, 49], [52, 47, 50], [45, 54, 47, 52]] ++ [[49, 47, 48], [48, 47, 48], [49, 47, 48, 50], [49, 47, 45, 50], [49, 47, 43, 50], [32, 49], [49, 32], [49, 32, 47, 50], [49, 10], [49, 46, 48], [49, 101, 49], [49, 95, 48], [49, 47, 47, 50]])
  · apply den_n
    · apply dn_cat (t := tTxt) (xs := [[], [45], [47], [43, 49], [45, 48], [48, 48], [48, 49], [45, 48, 49], [48, 47, 49], [48, 47, 50], [45, 48, 47, 49], [49, 47, 49], [51, 47, 49], [52, 47, 50], [45, 54, 47, 52]]) (ys := [[49, 47, 48], [48, 47, 48], [49, 47, 48, 50], [49, 47, 45, 50], [49, 47, 43, 50], [32, 49], [49, 32], [49, 32, 47, 50], [49, 10], [49, 46, 48], [49, 101, 49], [49, 95, 48], [49, 47, 47, 50]])
      · exists "d"
      · apply den_n
        · apply dn_lst
          · exists "d"
          · show 13 ≤ 100000
            decide
        · rfl
      · show 15 + 13 ≤ 100000
        decide
    · rfl
  exists "n"
  apply s_retNP ⟨rfl, rfl, rfl⟩ rfl q
  · apply dn_cat (t := tTxt) (xs := [[], [45], [47], [43, 49], [45, 48], [48, 48], [48, 49], [45, 48, 49], [48, 47, 49], [48, 47, 50], [45, 48, 47, 49], [49, 47, 49], [51, 47, 49], [52, 47, 50], [45, 54, 47, 52]] ++ [[49, 47, 48], [48, 47, 48], [49, 47, 48, 50], [49, 47, 45, 50], [49, 47, 43, 50], [32, 49], [49, 32], [49, 32, 47, 50], [49, 10], [49, 46, 48], [49, 101, 49], [49, 95, 48], [49, 47, 47, 50]]) (ys := [[49, 47, 50, 47, 51], [45, 45, 49]])
    · exists "d"
    · apply den_n
      · apply dn_lst
        · exists "d"
        · show 2 ≤ 100000
          decide
      · rfl
    · show 28 + 2 ≤ 100000
      decide
  · rw [fix_cat]

theorem sc_law : FnScope ["script", "pool", "one", "two", "first", "second", "both", "row", "text"] ["script"] (defScope s_law) := ⟨rfl, rfl, rfl, by decide +kernel, rfl, by decide +kernel, by decide +kernel⟩
set_option maxHeartbeats 4000000 in
theorem ok_law (F : FunD W.K "law" "law" (defArgs s_law) (defBody s_law) (defScope s_law) [] [] f fd)
    (h__law_pool : DefOk W "_law_pool" 1 ["script"] (spN (S_pool W.K)))
    (h__law_drawn : DefOk W "_law_drawn" 5 ["pool"] (spMA P_draw2 S_drawn))
    (RW_ : RatW W.K C_Ratio)
    (h_Ratio_init : InitOkD W C_Ratio 1 ["self", "top", "bottom"] (spI C_Ratio S_init (R_init C_ZeroDivisor)) [.int 1])
    (gc_Ratio : W.mg "Ratio" = some (.ref C_Ratio))
    (h__law_lowest : DefOk W "_law_lowest" 4 ["above", "below"] (spP S_low NoR))
    (O_Ratio_mul : OwnB W.K C_Ratio "mul" a_Ratio_mul a_Ratio_rmul)
    (h_Ratio_mul : FnAt W a_Ratio_mul 3 ["self", "other"] (spP (S_two C_Ratio mulR mulI) NoR))
    (O_Ratio_str : OwnM W.K C_Ratio "__str__" a_Ratio_str)
    (h_Ratio_str : FnAt W a_Ratio_str 3 ["self"] (spP (S_str C_Ratio) NoR))
    (z_str : W.mg "str" = none)
    (h__law_written : DefOk W "_law_written" 1 ["pair"] (spP S_written NoR))
    (h__law_reads : DefOk W "_law_reads" 8 ["text", "due"] (spP S_reads NoR))
    (h__law_text : DefOk W "_law_text" 5 ["pool", "pair"] (spMA P_text (S_txq 6000)))
    (h__law_fixed : DefOk W "_law_fixed" 1 [] (spN S_fixed))
    (h__law_judged : DefOk W "_law_judged" 4 ["text"] (spP S_judged NoR)) : FnOk W.P W.w W.K W.mg W.base (L2.CX W.P W.w) 12 f fd ["script"] (spP (S_law W.K) NoR) := by
  obtain ⟨f__law_pool, fd__law_pool, G__law_pool, g__law_pool, k__law_pool, b__law_pool⟩ := h__law_pool
  obtain ⟨f__law_drawn, fd__law_drawn, G__law_drawn, g__law_drawn, k__law_drawn, b__law_drawn⟩ := h__law_drawn
  obtain ⟨f_Ratio_init, fd_Ratio_init, ds_Ratio_init, G_Ratio_init, M_Ratio, b_Ratio_init, bD_Ratio, vD_Ratio⟩ := h_Ratio_init
  obtain ⟨f__law_lowest, fd__law_lowest, G__law_lowest, g__law_lowest, k__law_lowest, b__law_lowest⟩ := h__law_lowest
  obtain ⟨fd_Ratio_mul, G_Ratio_mul, b_Ratio_mul⟩ := h_Ratio_mul
  obtain ⟨fd_Ratio_str, G_Ratio_str, b_Ratio_str⟩ := h_Ratio_str
  obtain ⟨f__law_written, fd__law_written, G__law_written, g__law_written, k__law_written, b__law_written⟩ := h__law_written
  obtain ⟨f__law_reads, fd__law_reads, G__law_reads, g__law_reads, k__law_reads, b__law_reads⟩ := h__law_reads
  obtain ⟨f__law_text, fd__law_text, G__law_text, g__law_text, k__law_text, b__law_text⟩ := h__law_text
  obtain ⟨f__law_fixed, fd__law_fixed, G__law_fixed, g__law_fixed, k__law_fixed, b__law_fixed⟩ := h__law_fixed
  obtain ⟨f__law_judged, fd__law_judged, G__law_judged, g__law_judged, k__law_judged, b__law_judged⟩ := h__law_judged
  refine lawFn_of (W := W) (k := 11) (sp := (spP (S_law W.K) NoR)) F sc_law (spP_len (n := 1) (fun ds r h => by obtain ⟨_, rfl, _⟩ := h; rfl) (fun _ _ h => h.elim)) (fun cdv A outer s H vs Q E hr h => ⟨_, (pss_cons (ps_set (i := 1) sc_law.nd rfl (Or.inl rfl) (pe_call G__law_pool (hr.mono (by decide)) rfl g__law_pool k__law_pool b__law_pool .nil passL (pa_cons (pv 0) pa_nil)))
    (pss_cons (ps_set (i := 2) sc_law.nd rfl (Or.inl rfl) (pe_call G__law_drawn (hr.mono (by decide)) rfl g__law_drawn k__law_drawn b__law_drawn .nil passL (pa_cons (pv 1) pa_nil)))
    (pss_cons (ps_set (i := 3) sc_law.nd rfl (Or.inl rfl) (pe_call G__law_drawn (hr.mono (by decide)) rfl g__law_drawn k__law_drawn b__law_drawn .nil passL (pa_cons (pv 1) pa_nil)))
    (pss_cons (ps_set (i := 4) sc_law.nd rfl (Or.inl rfl) (pe_make M_Ratio G_Ratio_init (hr.mono (by decide)) (by rfl) gc_Ratio b_Ratio_init .nil (passes_call (takes_of rfl rfl rfl rfl) (fun _ _ _ _ h => h)) (pa_cons (pe_ix ix_tup (pv 2) pe_int (fun _ _ => rfl)) (pa_cons (pe_ix ix_tup (pv 2) pe_int (fun _ _ => rfl)) pa_nil))))
    (pss_cons (ps_set (i := 5) sc_law.nd rfl (Or.inl rfl) (pe_make M_Ratio G_Ratio_init (hr.mono (by decide)) (by rfl) gc_Ratio b_Ratio_init .nil (passes_call (takes_of rfl rfl rfl rfl) (fun _ _ _ _ h => h)) (pa_cons (pe_ix ix_tup (pv 3) pe_int (fun _ _ => rfl)) (pa_cons (pe_ix ix_tup (pv 3) pe_int (fun _ _ => rfl)) pa_nil))))
    (pss_cons (ps_set (i := 6) sc_law.nd rfl (Or.inl rfl) (pe_call G__law_lowest (hr.mono (by decide)) rfl g__law_lowest k__law_lowest b__law_lowest .nil passL (pa_cons (pe_op op_mulW (pe_ix ix_tup (pv 2) pe_int (fun _ _ => rfl)) (pe_ix ix_tup (pv 3) pe_int (fun _ _ => rfl))) (pa_cons (pe_op op_mulW (pe_ix ix_tup (pv 2) pe_int (fun _ _ => rfl)) (pe_ix ix_tup (pv 3) pe_int (fun _ _ => rfl))) pa_nil))))
    (pss_cons (ps_for (passes_of rfl) rfl (pi_list (pe_lst (pa_cons (pe_tup (pa_cons (pv 4) (pa_cons (pv 2) pa_nil))) (pa_cons (pe_tup (pa_cons (pv 5) (pa_cons (pv 3) pa_nil))) (pa_cons (pe_tup (pa_cons (pe_op (op_own2 O_Ratio_mul G_Ratio_mul b_Ratio_mul passL (hr.mono (by decide))) (pv 4) (pv 5)) (pa_cons (pv 6) pa_nil))) pa_nil))))) (pg_name (i := 7) sc_law.nd rfl (Or.inl rfl)) (pss_one (ps_if (pt_cmpR op_ne (pe_callTy (call_ownStr O_Ratio_str G_Ratio_str b_Ratio_str passL (hr.mono (by decide))) (by rfl) z_str (by decide +kernel) (pa_cons (pe_ix ix_tup (pv 7) pe_int (fun _ _ => rfl)) pa_nil)) (pe_call G__law_written (hr.mono (by decide)) rfl g__law_written k__law_written b__law_written .nil passL (pa_cons (pe_ix ix_tup (pv 7) pe_int (fun _ _ => rfl)) pa_nil)) (nomark _)) (pss_one (ps_ret pe_bl)) pss_nil)))
    (pss_cons (ps_if (PW.pt (pw_or (pt_not (pt_val (pe_call G__law_reads (hr.mono (by decide)) rfl g__law_reads k__law_reads b__law_reads .nil passL (pa_cons (pe_call G__law_written (hr.mono (by decide)) rfl g__law_written k__law_written b__law_written .nil passL (pa_cons (pv 2) pa_nil)) (pa_cons (pv 2) pa_nil))))) (pw_or1 (pt_not (pt_val (pe_call G__law_reads (hr.mono (by decide)) rfl g__law_reads k__law_reads b__law_reads .nil passL (pa_cons (pe_call G__law_written (hr.mono (by decide)) rfl g__law_written k__law_written b__law_written .nil passL (pa_cons (pv 3) pa_nil)) (pa_cons (pv 3) pa_nil)))))))) (pss_one (ps_ret pe_bl)) pss_nil)
    (pss_cons (ps_for (passes_of rfl) rfl (pi_list (pe_op op_cat (pe_lst (pa_cons (pe_call G__law_written (hr.mono (by decide)) rfl g__law_written k__law_written b__law_written .nil passL (pa_cons (pv 6) pa_nil)) (pa_cons (pe_call G__law_text (hr.mono (by decide)) rfl g__law_text k__law_text b__law_text .nil passL (pa_cons (pv 1) (pa_cons (pv 2) pa_nil))) pa_nil))) (pe_call0 G__law_fixed (hr.mono (by decide)) rfl g__law_fixed k__law_fixed b__law_fixed .nil passL))) (pg_name (i := 8) sc_law.nd rfl (Or.inl rfl)) (pss_one (ps_if (pt_not (pt_val (pe_call G__law_reads (hr.mono (by decide)) rfl g__law_reads k__law_reads b__law_reads .nil passL (pa_cons (pv 8) (pa_cons (pe_call G__law_judged (hr.mono (by decide)) rfl g__law_judged k__law_judged b__law_judged .nil passL (pa_cons (pv 8) pa_nil)) pa_nil))))) (pss_one (ps_ret pe_bl)) pss_nil)))
    (pss_one (ps_ret pe_bl))))))))))), ?_⟩)
  refine body_P h fun F ds _ hS => ?_
  rcases hS with ⟨r, ⟨ns, rfl, hl, rfl⟩, q⟩ | ⟨c, hR, _⟩
  rotate_left
  · exact hR.elim
  
  obtain ⟨o0, c0⟩ := pool_ok hl
  refine (show OK _ [_, _, _, _, _, _, _, _, _] _ from ?_)
  exists "n"
  apply s_setH
  · apply dn_call
    · exists "d"
    · exact ⟨ns, rfl, hl, rfl⟩
  exists "n"
  refine s_setA (den_callMA (pool ns) rfl (by exists "d") ⟨rfl, rfl, o0, by omega⟩) ?_
  rintro Γ' r ⟨ps', ⟨p1, o, rfl, rfl, o1, c1, ho⟩, rfl⟩
  dsimp only [List.set_cons_zero, List.set_cons_succ]
  exists "n"
  refine s_setA (den_callMA p1 rfl (by exists "d") ⟨rfl, rfl, o1, by omega⟩) ?_
  rintro Γ' r ⟨ps', ⟨p2, w, rfl, rfl, o2, c2, hw⟩, rfl⟩
  dsimp only [List.set_cons_zero, List.set_cons_succ]
  obtain ⟨bo1, bo2⟩ := ho.bd
  obtain ⟨bw1, bw2⟩ := hw.bd
  have po := ho.pos
  have pw := hw.pos
  exists "n"
  apply s_set (t := tRat C_Ratio) (x := ⟨o.1, o.2⟩)
  · rw [← ho.nrm]
    apply den_make0 (ds := [⟨tInt, o.1⟩, ⟨tInt, o.2⟩])
    · exists "d"
    · exact ⟨_, _, rfl, by omega, bo1.mono (by decide), bo2.mono (by decide), rfl⟩
    · exact mk_rat
  exists "n"
  apply s_set (t := tRat C_Ratio) (x := ⟨w.1, w.2⟩)
  · rw [← hw.nrm]
    apply den_make0 (ds := [⟨tInt, w.1⟩, ⟨tInt, w.2⟩])
    · exists "d"
    · exact ⟨_, _, rfl, by omega, bw1.mono (by decide), bw2.mono (by decide), rfl⟩
    · exact mk_rat
  have m1 : CMulW o.1 w.1 := bo1.mulW bw1 (by decide) (by decide) (by decide)
  have m2 : CMulW o.2 w.2 := bo2.mulW bw2 (by decide) (by decide) (by decide)
  have bb1 : Bd 4000 (o.1 * w.1) := (bo1.mul bw1).mono (by decide)
  have bb2 : Bd 4000 (o.2 * w.2) := (bo2.mul bw2).mono (by decide)
  have pb : 0 < o.2 * w.2 := Int.mul_pos po pw
  exists "n"
  apply s_set (t := tPair tInt tInt) (x := ((nrm (o.1 * w.1) (o.2 * w.2)).top, (nrm (o.1 * w.1) (o.2 * w.2)).bot))
  · apply den_call
    · exists "d"
    · exact spP_v ⟨_, _, rfl, bb1, bb2, pb, rfl⟩
  have wb1 : W120 (nrm (o.1 * w.1) (o.2 * w.2)).top := w_mul ho.a hw.a nrm_top_le
  have wb2 : W120 (nrm (o.1 * w.1) (o.2 * w.2)).bot := w_mul ho.b hw.b nrm_bot_le
  have wb3 : 0 < (nrm (o.1 * w.1) (o.2 * w.2)).bot := nrm_pos (by omega)
  have hmul : mulR ⟨o.1, o.2⟩ ⟨w.1, w.2⟩ = nrm (o.1 * w.1) (o.2 * w.2) := rfl
  generalize nrm (o.1 * w.1) (o.2 * w.2) = N at *
  have rb1 : Rb ⟨o.1, o.2⟩ := ⟨bo1.mono (by decide), bo2.mono (by decide), by show o.2 ≠ 0; omega⟩
  have rb2 : Rb ⟨w.1, w.2⟩ := ⟨bw1.mono (by decide), bw2.mono (by decide), by show w.2 ≠ 0; omega⟩
  dsimp only [List.set_cons_zero, List.set_cons_succ]
  exists "n"
  apply s_forC (t := tPair (tRat C_Ratio) (tPair tInt tInt)) (xs := [(⟨o.1, o.2⟩, o), (⟨w.1, w.2⟩, w), (N, (N.top, N.bot))])
  · apply den_n
    · apply dn_lst3 (t := tPair (tRat C_Ratio) (tPair tInt tInt))
      · exists "d"
      · exists "d"
      · apply den_tup2
        · exact den_is (by exists "d") hmul
        · exists "d"
    · rfl
  · rfl
  · intro Z' hZ n z hz
    have hz := List.mem_of_getElem? hz
    have hp : z.1 = ⟨z.2.1, z.2.2⟩ ∧ W120 z.2.1 ∧ W120 z.2.2 ∧ 0 < z.2.2 := by
      simp only [List.mem_cons, List.not_mem_nil, or_false] at hz
      rcases hz with rfl | rfl | rfl
      · exact ⟨rfl, ho.w.1, ho.w.2, po⟩
      · exact ⟨rfl, hw.w.1, hw.w.2, pw⟩
      · exact ⟨rfl, wb1, wb2, wb3⟩
    obtain ⟨z1, z2⟩ := z
    obtain ⟨e1, e2, e3, e4⟩ := hp
    have e1 : z1 = ⟨z2.1, z2.2⟩ := e1
    subst e1
    have e2 : W120 z2.1 := e2
    have e3 : W120 z2.2 := e3
    have e4 : 0 < z2.2 := e4
    exists "n"
    apply s_ifNo (a := !decide (wrN z2.1 z2.2 = wrN z2.1 z2.2))
    · exists "d"
    · simp
    exists "n"
    exact s_next () trivial (.cons (.inr rfl) (.cons (.inr rfl) (.cons (.inr rfl) (.cons (.inr rfl) (.cons (.inr rfl) (.cons (.inr rfl) (.cons (.inr rfl) (.cons (.inl rfl) (.cons (.inr rfl) .nil)))))))))
  exists "n"
  apply s_ifNo (a := !true || !true)
  · apply dt_or
    · apply dt_not
      apply dt_test
      apply den_call (w := tBool) (z := true)
      · apply da_cons
        · apply den_call
          · exists "d"
          · exact spP_v ⟨_, rfl, ho.w.1, ho.w.2, ho.pos, rfl⟩
        · apply da_cons
          · exists "d"
          · exact da_nil
      · exact spP_v ⟨_, by rw [ho.can]; rfl, by have := wrN_len ho.w.1 ho.w.2 ho.pos; omega, chr_wr _ _, rfl⟩
    · intro _
      apply dt_not
      apply dt_test
      apply den_call (w := tBool) (z := true)
      · apply da_cons
        · apply den_call
          · exists "d"
          · exact spP_v ⟨_, rfl, hw.w.1, hw.w.2, hw.pos, rfl⟩
        · apply da_cons
          · exists "d"
          · exact da_nil
      · exact spP_v ⟨_, by rw [hw.can]; rfl, by have := wrN_len hw.w.1 hw.w.2 hw.pos; omega, chr_wr _ _, rfl⟩
  · rfl
  exists "n"
  refine s_forMA (t := tTxt) (ma_cat (t := tTxt) (n := 2) (ys := fixT) (ma_lst2 (x := wrN N.top N.bot) (by
      apply den_call
      · exists "d"
      · exact spP_v ⟨(N.top, N.bot), rfl, wb1, wb2, wb3, rfl⟩) (den_callMA (p2, o) rfl (by exists "d") ⟨rfl, rfl, o2, by show p2.ct < 600000000; omega, ho⟩) ?_) ?_ ?_) ?_
  · rintro Γ' r ⟨ps', ⟨p3, l, _, e, _⟩, _⟩
    exact ⟨l, e⟩
  · rintro Γ' r ⟨y, ⟨ps', ⟨p3, l, rfl, e, _⟩, rfl⟩, rfl⟩
    refine ⟨_, rfl, by show 2 ≤ 2; decide, ?_⟩
    apply den_n
    · apply dn_call
      · exists "d"
      · exact ⟨rfl, rfl⟩
    · rfl
  · decide +kernel
  rintro Γ' r ⟨xs, ⟨y, ⟨ps', ⟨p3, l, rfl, e, o3, c3, l3, h3⟩, rfl⟩, e2⟩, rfl⟩
  cases e
  cases e2
  refine ⟨_, rfl, rfl, ?_, ?_⟩
  · intro Z' hZ n t ht
    have ht := List.mem_of_getElem? ht
    have tt : t.length ≤ 40000 ∧ Chr t := by
      rcases List.mem_append.mp ht with ht | ht
      · simp only [List.mem_cons, List.not_mem_nil, or_false] at ht
        rcases ht with rfl | rfl
        · have := wrN_len wb1 wb2 wb3
          exact ⟨by omega, chr_wr _ _⟩
        · exact ⟨by omega, h3⟩
      · have := fix_len ht
        exact ⟨by omega, fix_chr ht⟩
    obtain ⟨t1, t2⟩ := tt
    exists "n"
    apply s_ifNo (a := !true)
    · apply dt_not
      apply dt_test
      cases hcan : canL t with
      | none =>
        apply den_call (w := tBool) (z := true) (ds := [⟨tTxt, t⟩, ⟨tNon, ()⟩])
        · apply da_cons
          · exists "d"
          · apply da_cons
            · apply den_call (w := tNon) (z := ())
              · exists "d"
              · exact spP_v ⟨t, rfl, t1, by rw [hcan]; rfl⟩
            · exact da_nil
        · exact spP_v ⟨t, by rw [hcan]; rfl, t1, t2, rfl⟩
      | some ab =>
        apply den_call (w := tBool) (z := true) (ds := [⟨tTxt, t⟩, ⟨tPair tInt tInt, ab⟩])
        · apply da_cons
          · exists "d"
          · apply da_cons
            · apply den_call (w := tPair tInt tInt) (z := ab)
              · exists "d"
              · exact spP_v ⟨t, rfl, t1, by rw [hcan]; rfl⟩
            · exact da_nil
        · exact spP_v ⟨t, by rw [hcan]; rfl, t1, t2, rfl⟩
    · rfl
    exists "n"
    exact s_next () trivial (.cons (.inr rfl) (.cons (.inr rfl) (.cons (.inr rfl) (.cons (.inr rfl) (.cons (.inr rfl) (.cons (.inr rfl) (.cons (.inr rfl) (.cons (.inr rfl) (.cons (.inl rfl) .nil)))))))))
  exists "n"
  apply s_retP ⟨rfl, rfl, rfl⟩ rfl q
  · exists "d"
  · rfl

end

/-! ### the head -/

def q_rat (K : PySem.W.Frag) (x : Str) : Bool := He.eqO (PySem.W.findIn K (.ref (He.ga K x)) "__class__") (some (some (.builtin "object.__class__"))) && (He.eqO (PySem.W.specialIn K (.builtin "object.__class__") "__get__") (some (some (.builtin "getset_descriptor.__get__"))) && (decide (PySem.W.takesIn K (.builtin "object.__class__") = some true) && (decide (PySem.W.mroIn K (He.ga K x) (.type "object") = some true) && decide (PySem.W.kitOne K (.type "int") (.ref (He.ga K x)) = some false))))
def q_own (K : PySem.W.Frag) (x m : Str) : Bool := He.eqO (PySem.W.findIn K (.ref (He.ga K x)) m) (some (some (.ref (He.ma K (He.ga K x) m)))) && PySem.W.isFn K (.ref (He.ma K (He.ga K x) m))
def q_int (K : PySem.W.Frag) (x : Str) (nm : String) : Bool := (PySem.W.findIn K (.type "int") (dunder nm)).isSome && ((PySem.W.findIn K (.type "int") (dunderR nm)).isSome && (decide (PySem.W.subIn K (.type "int") (.ref (He.ga K x)) = some false) && decide (PySem.W.subIn K (.ref (He.ga K x)) (.type "int") = some false)))
def q_exc (K : PySem.W.Frag) (x : Str) : Bool := He.eqO (PySem.W.findIn K (.ref (He.ga K x)) "__getattribute__") (some (some (.builtin "BaseException.__getattribute__"))) && (He.eqO (PySem.W.findIn K (.ref (He.ga K x)) "__getattr__") (some none) && (decide (PySem.W.subIn K (.ref (He.ga K x)) (.type "BaseException") = some true) && (PySem.W.hasDictIn K (He.ga K x) && (He.eqO (PySem.W.findIn K (.ref (He.ga K x)) "__class__") (some (some (.builtin "object.__class__"))) && (He.eqO (PySem.W.specialIn K (.builtin "object.__class__") "__get__") (some (some (.builtin "getset_descriptor.__get__"))) && (decide (PySem.W.takesIn K (.builtin "object.__class__") = some true) && decide (PySem.W.mroIn K (He.ga K x) (.type "object") = some true)))))))
def q_kit (K : PySem.W.Frag) (x y : Str) (b : Bool) : Bool := decide (PySem.W.kitOne K (.ref (He.ga K x)) (.ref (He.ga K y)) = some b)
def q_kitT (K : PySem.W.Frag) (x : Str) (T : String) (b : Bool) : Bool := decide (PySem.W.kitOne K (.ref (He.ga K x)) (.type T) = some b)
def q_bi (K : PySem.W.Frag) (x : Str) (id : String) : Bool := He.eqO (PySem.W.nsIn K mainGlobals x) (some (some (.builtin id)))
section
variable {K : PySem.W.Frag} {x m m' : Str} {nm : String}
theorem and2 {a b : Bool} (h : (a && b) = true) : a = true ∧ b = true := Bool.and_eq_true_iff.mp h
theorem rat_ok (c : Cls K (He.ga K x)) (n1 : NoAttr K (He.ga K x) "top") (n2 : NoAttr K (He.ga K x) "bottom") (h : q_rat K x = true) : RatW K (He.ga K x) := by
  obtain ⟨h1, h⟩ := and2 h
  obtain ⟨h2, h⟩ := and2 h
  obtain ⟨h3, h⟩ := and2 h
  obtain ⟨h4, h5⟩ := and2 h
  exact ⟨c, n1, n2, He.eqO_ok h1, He.eqO_ok h2, of_decide_eq_true h3, of_decide_eq_true h4, of_decide_eq_true h5⟩
theorem own_ok (h : q_own K x m = true) : OwnM K (He.ga K x) m (He.ma K (He.ga K x) m) := by
  obtain ⟨h1, h2⟩ := and2 h
  exact ⟨He.eqO_ok h1, h2⟩
theorem ownB_ok (e1 : dunder nm = m) (e2 : dunderR nm = m') (h1 : q_own K x m = true) (h2 : q_own K x m' = true) (h3 : PySem.W.selfFirst K (He.ga K x) = true) : OwnB K (He.ga K x) nm (He.ma K (He.ga K x) m) (He.ma K (He.ga K x) m') := by
  subst e1 e2
  exact ⟨own_ok h1, own_ok h2, h3⟩
theorem ownI_ok (h : q_int K x nm = true) : OwnInt K (He.ga K x) nm := by
  obtain ⟨h1, h⟩ := and2 h
  obtain ⟨h2, h⟩ := and2 h
  obtain ⟨h3, h4⟩ := and2 h
  exact ⟨Option.isSome_iff_exists.mp h1, Option.isSome_iff_exists.mp h2, of_decide_eq_true h3, of_decide_eq_true h4⟩
theorem excC_ok (h : q_exc K x = true) : ExcC K (He.ga K x) := by
  obtain ⟨h1, h⟩ := and2 h
  obtain ⟨h2, h⟩ := and2 h
  obtain ⟨h3, h⟩ := and2 h
  obtain ⟨h4, h⟩ := and2 h
  obtain ⟨h5, h⟩ := and2 h
  obtain ⟨h6, h⟩ := and2 h
  obtain ⟨h7, h8⟩ := and2 h
  exact ⟨He.eqO_ok h1, He.eqO_ok h2, of_decide_eq_true h3, h4, He.eqO_ok h5, He.eqO_ok h6, of_decide_eq_true h7, of_decide_eq_true h8⟩
theorem bi_ok {h : Heap} {mg : Str → Option Value} {id : String} (X : K.In h) (G : h.Ns mainGlobals mg) (q : q_bi K x id = true) : mg x = some (.builtin id) := PySem.W.mg_of X G (He.eqO_ok q)
end

def d__law_pool : He5.DefA := ⟨(fun K => He.fAd K ("_law_pool", none)), "_law_pool", "_law_pool", defArgs s__law_pool, defBody s__law_pool, defScope s__law_pool, [], []⟩
def d__law_take : He5.DefA := ⟨(fun K => He.fAd K ("_law_take", none)), "_law_take", "_law_take", defArgs s__law_take, defBody s__law_take, defScope s__law_take, [], []⟩
def d_is_short_digits : He5.DefA := ⟨(fun K => He.fAd K ("is_short_digits", none)), "is_short_digits", "is_short_digits", defArgs s_is_short_digits, defBody s_is_short_digits, defScope s_is_short_digits, [], []⟩
def d_written_integer : He5.DefA := ⟨(fun K => He.fAd K ("written_integer", none)), "written_integer", "written_integer", defArgs s_written_integer, defBody s_written_integer, defScope s_written_integer, [], []⟩
def d_written_number : He5.DefA := ⟨(fun K => He.fAd K ("written_number", none)), "written_number", "written_number", defArgs s_written_number, defBody s_written_number, defScope s_written_number, [], []⟩
def d_Ratio___init__ : He5.DefA := ⟨(fun K => He.fAd K ("Ratio", some "__init__")), "__init__", "Ratio.__init__", defArgs s_Ratio___init__, defBody s_Ratio___init__, defScope s_Ratio___init__, [.int 1], []⟩
def d_Ratio___mul__ : He5.DefA := ⟨(fun K => He.fAd K ("Ratio", some "__mul__")), "__mul__", "Ratio.__mul__", defArgs s_Ratio___mul__, defBody s_Ratio___mul__, defScope s_Ratio___mul__, [], []⟩
def d_Ratio___str__ : He5.DefA := ⟨(fun K => He.fAd K ("Ratio", some "__str__")), "__str__", "Ratio.__str__", defArgs s_Ratio___str__, defBody s_Ratio___str__, defScope s_Ratio___str__, [], []⟩
def d_Ratio_read : He5.DefA := ⟨(fun K => He5.wf K (He.ga K "Ratio") "staticmethod" "read"), "read", "Ratio.read", defArgs s_Ratio_read, defBody s_Ratio_read, defScope s_Ratio_read, [], []⟩
def d__law_integer : He5.DefA := ⟨(fun K => He.fAd K ("_law_integer", none)), "_law_integer", "_law_integer", defArgs s__law_integer, defBody s__law_integer, defScope s__law_integer, [], []⟩
def d__law_common : He5.DefA := ⟨(fun K => He.fAd K ("_law_common", none)), "_law_common", "_law_common", defArgs s__law_common, defBody s__law_common, defScope s__law_common, [], []⟩
def d__law_power : He5.DefA := ⟨(fun K => He.fAd K ("_law_power", none)), "_law_power", "_law_power", defArgs s__law_power, defBody s__law_power, defScope s__law_power, [], []⟩
def d__law_size : He5.DefA := ⟨(fun K => He.fAd K ("_law_size", none)), "_law_size", "_law_size", defArgs s__law_size, defBody s__law_size, defScope s__law_size, [], []⟩
def d__law_lowest : He5.DefA := ⟨(fun K => He.fAd K ("_law_lowest", none)), "_law_lowest", "_law_lowest", defArgs s__law_lowest, defBody s__law_lowest, defScope s__law_lowest, [], []⟩
def d__law_drawn : He5.DefA := ⟨(fun K => He.fAd K ("_law_drawn", none)), "_law_drawn", "_law_drawn", defArgs s__law_drawn, defBody s__law_drawn, defScope s__law_drawn, [], []⟩
def d__law_written : He5.DefA := ⟨(fun K => He.fAd K ("_law_written", none)), "_law_written", "_law_written", defArgs s__law_written, defBody s__law_written, defScope s__law_written, [], []⟩
def d__law_group : He5.DefA := ⟨(fun K => He.fAd K ("_law_group", none)), "_law_group", "_law_group", defArgs s__law_group, defBody s__law_group, defScope s__law_group, [], []⟩
def d__law_judged : He5.DefA := ⟨(fun K => He.fAd K ("_law_judged", none)), "_law_judged", "_law_judged", defArgs s__law_judged, defBody s__law_judged, defScope s__law_judged, [], []⟩
def d__law_mark : He5.DefA := ⟨(fun K => He.fAd K ("_law_mark", none)), "_law_mark", "_law_mark", defArgs s__law_mark, defBody s__law_mark, defScope s__law_mark, [], []⟩
def d__law_long : He5.DefA := ⟨(fun K => He.fAd K ("_law_long", none)), "_law_long", "_law_long", defArgs s__law_long, defBody s__law_long, defScope s__law_long, [], []⟩
def d__law_spoilt : He5.DefA := ⟨(fun K => He.fAd K ("_law_spoilt", none)), "_law_spoilt", "_law_spoilt", defArgs s__law_spoilt, defBody s__law_spoilt, defScope s__law_spoilt, [], []⟩
def d__law_text : He5.DefA := ⟨(fun K => He.fAd K ("_law_text", none)), "_law_text", "_law_text", defArgs s__law_text, defBody s__law_text, defScope s__law_text, [], []⟩
def d__law_right : He5.DefA := ⟨(fun K => He.fAd K ("_law_right", none)), "_law_right", "_law_right", defArgs s__law_right, defBody s__law_right, defScope s__law_right, [], []⟩
def d__law_reads : He5.DefA := ⟨(fun K => He.fAd K ("_law_reads", none)), "_law_reads", "_law_reads", defArgs s__law_reads, defBody s__law_reads, defScope s__law_reads, [], []⟩
def d__law_fixed : He5.DefA := ⟨(fun K => He.fAd K ("_law_fixed", none)), "_law_fixed", "_law_fixed", defArgs s__law_fixed, defBody s__law_fixed, defScope s__law_fixed, [], []⟩
def d_law : He5.DefA := ⟨(fun K => He.fAd K ("law", none)), "law", "law", defArgs s_law, defBody s_law, defScope s_law, [], []⟩
def fn : List He5.DefA := [d__law_pool, d__law_take, d_is_short_digits, d_written_integer, d_written_number, d_Ratio___init__, d_Ratio___mul__, d_Ratio___str__, d_Ratio_read, d__law_integer, d__law_common, d__law_power, d__law_size, d__law_lowest, d__law_drawn, d__law_written, d__law_group, d__law_judged, d__law_mark, d__law_long, d__law_spoilt, d__law_text, d__law_right, d__law_reads, d__law_fixed, d_law]
def xd_BadText___init__ : HX.XD := ⟨"__init__", "BadText.__init__", defArgs s_BadText___init__, defBody s_BadText___init__, defScope s_BadText___init__⟩
theorem sc_bt : NdefX.NScope NBT ["self", "text"] ["__class__"] (defScope s_BadText___init__) := NdefX.nscope_by (by decide +kernel)
theorem hk_bt : (defScope s_BadText___init__).names.lookup ("super" : Str) = some .globalImplicit := by decide +kernel
def xs : List ((PySem.W.Frag → Addr) × HX.XD) := [(fun K => He.ma K (He.ga K "BadText") "__init__", xd_BadText___init__)]
def fa : List He.Fa := [.glo "SpotError", .glo "ZeroDivisor", .glo "BadText", .glo "BadNumber", .glo "BadPolynomial", .glo "BadQuestion", .glo "BadLine", .glo "Ratio", .glo "_law_pool", .glo "_law_take", .glo "is_short_digits", .glo "written_integer", .glo "written_number", .glo "_law_integer", .glo "_law_common", .glo "_law_power", .glo "_law_size", .glo "_law_lowest", .glo "_law_drawn", .glo "_law_written", .glo "_law_group", .glo "_law_judged", .glo "_law_mark", .glo "_law_long", .glo "_law_spoilt", .glo "_law_text", .glo "_law_right", .glo "_law_reads", .glo "_law_fixed", .glo "law", .free "super", .free "int", .free "abs", .free "len", .free "list", .int "MOST_DIGITS" 60, .str "DIGITS" "0123456789", .free "all", .int "PIECE" 1000000000000000000000000000000000000000000000000000000000000, .free "divmod", .free "str", .mkr "Ratio", .exc "ZeroDivisor", .cls "Ratio", .noat "Ratio" "top", .noat "Ratio" "bottom", .free "isinstance", .free "bool", .free "range", .free "max", .free "ValueError", .exm "BadNumber" "BadNumber" true]
def qs (K : PySem.W.Frag) : List Bool := [q_rat K "Ratio",
  PySem.W.selfFirst K (He.ga K "Ratio"),
  q_own K "Ratio" "__mul__",
  q_own K "Ratio" "__rmul__",
  q_own K "Ratio" "__str__",
  q_bi K "gcd" "math.gcd",
  HX.q_smet K "Ratio" "read",
  HX.q_rt K "BadNumber" "BadText",
  HX.q_clo K (He.ma K (He.ga K "BadText") "__init__") (He.ga K "BadText") "BadText.__init__" (PySem.Challenge.rw_spotheights_k01_number_texts).prog.main.file,
  q_exc K "BadNumber",
  xfB K (He.ga K "BadNumber"),
  decide (PySem.W.findIn K (.ref (He.ga K "BadNumber")) "text" = some none),
  q_kit K "BadNumber" "BadPolynomial" false,
  q_kit K "BadNumber" "BadQuestion" false,
  q_kit K "BadNumber" "BadLine" false,
  q_kit K "BadNumber" "BadText" true,
  q_kit K "BadNumber" "SpotError" true,
  q_kitT K "BadNumber" "ValueError" true]

abbrev R0 : PySem.W.OpenRow := PySem.W.OpenLaw.row PySem.Challenge.rw_spotheights_k01_number_texts
abbrev AlQ : Type := He.AlD × List HX.FnV2
def obsQ (K : PySem.W.Frag) : AlQ := (((qs K).all id && (He5.obsA fa fn K).1, (He5.obsA fa fn K).2), xs.map fun p => HX.fnV2 K (p.1 K))
def valQ : AlQ := (He5.valA fn, xs.map fun p => p.2.val)
theorem obsQ_ok {K : PySem.W.Frag} (h : obsQ K = valQ) : He5.SaysA fa fn K ∧ (qs K).all id = true := by
  have h1 : ((qs K).all id && (He5.obsA fa fn K).1) = true := congrArg (fun z : AlQ => z.1.1) h
  have h2 : (He5.obsA fa fn K).2 = fn.map He5.DefA.val := congrArg (fun z : AlQ => z.1.2) h
  obtain ⟨h3, h4⟩ := Bool.and_eq_true_iff.mp h1
  exact ⟨Prod.ext h4 h2, h3⟩
theorem x_at {K : PySem.W.Frag} {p : (PySem.W.Frag → Addr) × HX.XD} (h : obsQ K = valQ) (i : Nat) (hp : xs[i]? = some p := by rfl) : HX.fnV2 K (p.1 K) = p.2.val := by
  have e : (xs.map fun p => HX.fnV2 K (p.1 K)) = xs.map fun p => p.2.val := congrArg (fun z : AlQ => z.2) h
  have e2 : (xs.map fun p => HX.fnV2 K (p.1 K))[i]? = (xs.map fun p => p.2.val)[i]? := by rw [e]
  rw [List.getElem?_map, List.getElem?_map, hp] at e2
  exact Option.some.inj e2
theorem q_at {K : PySem.W.Frag} {b : Bool} (c : (qs K).all id = true) (i : Nat) (h : (qs K)[i]? = some b := by rfl) : b = true := List.all_eq_true.mp c b (List.mem_of_getElem? h)
def partOf (g : Addr → Option Obj) : PySem.W.Frag := He.frG g (He5.asA g 5)
def hq : PySem.W.Hook where
  α := AlQ
  obs := fun t => obsQ (partOf t.heap.get?)
  val := fun _ => valQ
  says := fun _ h => ∃ K : PySem.W.Frag, K.In h ∧ obsQ K = valQ
  of := fun _ _ e => ⟨_, He.frG_in, e⟩
  keeps := fun _ _ _ w k => by
    obtain ⟨K, a, b⟩ := w
    exact ⟨K, PySem.W.Frag.In.keeps a k, b⟩
def obT (t : PySem.W.SharedT) : AlQ := obsQ (partOf (HandSHeadRun.getT t))
theorem obT_eq (t : PySem.W.SharedT) : obT t = hq.obs t.abs := by
  have e : HandSHeadRun.getT t = t.abs.heap.get? := funext (HandSHeadRun.getT_eq t)
  show obsQ (partOf (HandSHeadRun.getT t)) = obsQ (partOf t.abs.heap.get?)
  rw [e]
theorem run0 (w : World) : HandSHeadRun.RunEqI R0 (PySem.W.view R0.prog [0, 37]) hq obT 20000 ((["_wall", "SpotError", "ZeroDivisor", "BadText", "BadNumber", "BadPolynomial", "BadQuestion", "BadLine", "DIGITS", "MOST_DIGITS", "PIECE", "is_short_digits", "written_integer", "written_number", "Ratio", "_law_pool", "_law_take", "_law_integer", "_law_common", "_law_power", "_law_size", "_law_lowest", "_law_drawn", "_law_written", "_law_group", "_law_judged", "_law_mark", "_law_long", "_law_spoilt", "_law_text"] : List PySem.Str) ++ (["_law_right", "_law_reads", "_law_fixed"] : List PySem.Str)) w := by
  unfold HandSHeadRun.RunEqI
  kernel_rfl
theorem calm {P : Program} {w : World} {K : PySem.W.Frag} {mg : Str → Option Value} {base : Heap} {k : Nat} {f : Addr} {fd : FuncData} {ps : List Str} {sp : Sp} (F : FnOk P w K mg base (L2.CX P w) k f fd ps sp) : FnOk P w K mg base CX0 k f fd ps (fun vs H Q _ => sp vs H Q E0) :=
  ⟨fun _ _ _ _ z => F.len _ _ _ _ z, fun A outer s H args us vs Q E hr e b v z => codeAny_mono (F.run A outer s H args us vs Q E0 hr e b v z) fun r s' y => by
    cases r with
    | error u =>
      obtain ⟨_, _, _, _, _, _, _, _, _, _, _, _, n⟩ := (show L2.CX P w outer H s E0 u s' from y)
      exact n.elim
    | ok fl => cases fl <;> exact y⟩
def spLaw (K : PySem.W.Frag) : Sp := fun vs H Q _ => spP (S_law K) NoR vs H Q E0
theorem spLaw_ok {K : PySem.W.Frag} {H : Hp} {a : Addr} {ns : List Int} (hl : ns.length ≤ 63) (hS : SqL K H a (ns.map V.int)) : spLaw K [.ref a] H (fun v _ => v = .bl true) fun _ _ _ => False :=
  ⟨H, [⟨tScr K, ns⟩], fun _ _ z => z, .cons ⟨a, rfl, hS⟩ .nil, .inl ⟨⟨tBool, true⟩, ⟨ns, rfl, hl, rfl⟩, fun _ _ _ _ r => r⟩⟩
set_option maxHeartbeats 4000000 in
theorem facts {P : Program} {w : World} {K : PySem.W.Frag} {h : Heap} {mg : Str → Option Value} {f : Addr} (hP1 : P.main.file = R0.prog.main.file) (hP2 : (P.main.scope.names.lookup ("super" : Str)).isSome = false) (X : K.In h) (G : h.Ns mainGlobals mg) (hfa : mg ("law" : Str) = some (.ref f)) (c0 : obsQ K = valQ) :
    ∃ fd : FuncData, (∀ (s : Shared) (v : Value), BindsTo s fd ⟨[v], []⟩ [("script", v)]) ∧ ∀ base : Heap, K.In base → base.Ns mainGlobals mg → FnOk P w K mg base CX0 12 f fd ["script"] (spLaw K) := by
  obtain ⟨c, cq⟩ := obsQ_ok c0
  have cd := c
  obtain ⟨fd_0, F_0⟩ := cd.def_ 0 (d := d__law_pool) rfl
  obtain ⟨fd_1, F_1⟩ := cd.def_ 1 (d := d__law_take) rfl
  obtain ⟨fd_2, F_2⟩ := cd.def_ 2 (d := d_is_short_digits) rfl
  obtain ⟨fd_3, F_3⟩ := cd.def_ 3 (d := d_written_integer) rfl
  obtain ⟨fd_4, F_4⟩ := cd.def_ 4 (d := d_written_number) rfl
  obtain ⟨fd_5, F_5⟩ := cd.def_ 5 (d := d_Ratio___init__) rfl
  obtain ⟨fd_6, F_6⟩ := cd.def_ 6 (d := d_Ratio___mul__) rfl
  obtain ⟨fd_7, F_7⟩ := cd.def_ 7 (d := d_Ratio___str__) rfl
  obtain ⟨fd_8, F_8⟩ := cd.def_ 8 (d := d_Ratio_read) rfl
  obtain ⟨fd_9, F_9⟩ := cd.def_ 9 (d := d__law_integer) rfl
  obtain ⟨fd_10, F_10⟩ := cd.def_ 10 (d := d__law_common) rfl
  obtain ⟨fd_11, F_11⟩ := cd.def_ 11 (d := d__law_power) rfl
  obtain ⟨fd_12, F_12⟩ := cd.def_ 12 (d := d__law_size) rfl
  obtain ⟨fd_13, F_13⟩ := cd.def_ 13 (d := d__law_lowest) rfl
  obtain ⟨fd_14, F_14⟩ := cd.def_ 14 (d := d__law_drawn) rfl
  obtain ⟨fd_15, F_15⟩ := cd.def_ 15 (d := d__law_written) rfl
  obtain ⟨fd_16, F_16⟩ := cd.def_ 16 (d := d__law_group) rfl
  obtain ⟨fd_17, F_17⟩ := cd.def_ 17 (d := d__law_judged) rfl
  obtain ⟨fd_18, F_18⟩ := cd.def_ 18 (d := d__law_mark) rfl
  obtain ⟨fd_19, F_19⟩ := cd.def_ 19 (d := d__law_long) rfl
  obtain ⟨fd_20, F_20⟩ := cd.def_ 20 (d := d__law_spoilt) rfl
  obtain ⟨fd_21, F_21⟩ := cd.def_ 21 (d := d__law_text) rfl
  obtain ⟨fd_22, F_22⟩ := cd.def_ 22 (d := d__law_right) rfl
  obtain ⟨fd_23, F_23⟩ := cd.def_ 23 (d := d__law_reads) rfl
  obtain ⟨fd_24, F_24⟩ := cd.def_ 24 (d := d__law_fixed) rfl
  obtain ⟨fd_25, F_25⟩ := cd.def_ 25 (d := d_law) rfl
  have e := hfa.symm.trans (He.glo_ok X G (c.fact 29 (f := .glo "law") rfl))
  cases e
  have bL := FunD.bindsA (ps := ["script"]) F_25 fun _ _ _ _ _ _ us hl => match us, hl with | [_], _ => rfl
  refine ⟨fd_25, fun s v => bL s [v] rfl, fun base _ _ => ?_⟩
  obtain ⟨cl_b, cd_b, fd_b, CB_⟩ := HX.clo_ok (P := P) (d := xd_BadText___init__) (x_at c0 0) (by rw [hP1]; exact (q_at cq (b := HX.q_clo K (He.ma K (He.ga K "BadText") "__init__") (He.ga K "BadText") "BadText.__init__" (PySem.Challenge.rw_spotheights_k01_number_texts).prog.main.file) 8)) hP2
  have h_BadText_init : FnAt ⟨P, w, K, mg, base⟩ (He.ma K (He.ga K "BadText") "__init__") 2 ["self", "text"] (spBT K (He.ga K "BadText")) := ⟨fd_b, bt_ok (W := ⟨P, w, K, mg, base⟩) (k := 1) CB_ sc_bt hk_bt (He.free_ok X G (c.fact 30 (f := .free "super") rfl)) ⟨_, rfl, rfl⟩ rfl (fun env => ⟨_, rfl⟩) (fun env => rfl), HX.clo_binds CB_ fun doc pm ctv us hl => match us, hl with | [_, _], _ => rfl⟩
  have h__law_pool := ok__law_pool (W := ⟨P, w, K, mg, base⟩)  (F := F_0) (g := He.glo_ok X G (c.fact 8 (f := .glo "_law_pool") rfl)) (z_int := (He.free_ok X G (c.fact 31 (f := .free "int") rfl))) (z_abs := (He.free_ok X G (c.fact 32 (f := .free "abs") rfl))) (z_len := (He.free_ok X G (c.fact 33 (f := .free "len") rfl)))
  have h__law_take := ok__law_take (W := ⟨P, w, K, mg, base⟩)  (F := F_1) (g := He.glo_ok X G (c.fact 9 (f := .glo "_law_take") rfl)) (z_len := (He.free_ok X G (c.fact 33 (f := .free "len") rfl))) (z_list := (He.free_ok X G (c.fact 34 (f := .free "list") rfl))) (z_int := (He.free_ok X G (c.fact 31 (f := .free "int") rfl)))
  have h_is_short_digits := ok_is_short_digits (W := ⟨P, w, K, mg, base⟩)  (F := F_2) (g := He.glo_ok X G (c.fact 10 (f := .glo "is_short_digits") rfl)) (z_len := (He.free_ok X G (c.fact 33 (f := .free "len") rfl))) (c_MOST_DIGITS := (He.int_ok X G (c.fact 35 (f := .int "MOST_DIGITS" 60) rfl))) (c_DIGITS := (He.str_ok X G (c.fact 36 (f := .str "DIGITS" "0123456789") rfl))) (z_all := (He.free_ok X G (c.fact 37 (f := .free "all") rfl)))
  have h_written_integer := ok_written_integer (W := ⟨P, w, K, mg, base⟩)  (F := F_3) (g := He.glo_ok X G (c.fact 11 (f := .glo "written_integer") rfl)) (c_PIECE := (He.int_ok X G (c.fact 38 (f := .int "PIECE" 1000000000000000000000000000000000000000000000000000000000000) rfl))) (z_divmod := (He.free_ok X G (c.fact 39 (f := .free "divmod") rfl))) (z_str := (He.free_ok X G (c.fact 40 (f := .free "str") rfl))) (c_MOST_DIGITS := (He.int_ok X G (c.fact 35 (f := .int "MOST_DIGITS" 60) rfl)))
  have h_written_number := ok_written_number (W := ⟨P, w, K, mg, base⟩)  (F := F_4) (g := He.glo_ok X G (c.fact 12 (f := .glo "written_number") rfl)) (z_abs := (He.free_ok X G (c.fact 32 (f := .free "abs") rfl))) (h_written_integer := h_written_integer)
  have h_Ratio_init := ok_Ratio___init__ (W := ⟨P, w, K, mg, base⟩) (C_Ratio := (He.ga K "Ratio")) (C_ZeroDivisor := (He.ga K "ZeroDivisor")) (F := F_5) (g := He.mkr_ok (c.fact 41 (f := .mkr "Ratio") rfl)) (xc_ZeroDivisor := ⟨He.glo_ok X G (c.fact 1 (f := .glo "ZeroDivisor") rfl), (He.exc_ok (c.fact 42 (f := .exc "ZeroDivisor") rfl)).1, (He.exc_ok (c.fact 42 (f := .exc "ZeroDivisor") rfl)).2.1, (He.exc_ok (c.fact 42 (f := .exc "ZeroDivisor") rfl)).2.2.1, (He.exc_ok (c.fact 42 (f := .exc "ZeroDivisor") rfl)).2.2.2⟩) (q_gcd := (bi_ok X G (q_at cq (b := q_bi K "gcd" "math.gcd") 5))) (RW_ := (rat_ok (He.cls_ok (c.fact 43 (f := .cls "Ratio") rfl)) (He.noat_ok (c.fact 44 (f := .noat "Ratio" "top") rfl)) (He.noat_ok (c.fact 45 (f := .noat "Ratio" "bottom") rfl)) (q_at cq (b := q_rat K "Ratio") 0)))
  have h_Ratio_mul := ok_Ratio___mul__ (W := ⟨P, w, K, mg, base⟩) (C_Ratio := (He.ga K "Ratio")) (C_ZeroDivisor := (He.ga K "ZeroDivisor")) (F := F_6)  (gc_Ratio := (He.glo_ok X G (c.fact 7 (f := .glo "Ratio") rfl))) (z_isinstance := (He.free_ok X G (c.fact 46 (f := .free "isinstance") rfl))) (RW_ := (rat_ok (He.cls_ok (c.fact 43 (f := .cls "Ratio") rfl)) (He.noat_ok (c.fact 44 (f := .noat "Ratio" "top") rfl)) (He.noat_ok (c.fact 45 (f := .noat "Ratio" "bottom") rfl)) (q_at cq (b := q_rat K "Ratio") 0))) (h_Ratio_init := h_Ratio_init) (z_int := (He.free_ok X G (c.fact 31 (f := .free "int") rfl)))
  have h_Ratio_str := ok_Ratio___str__ (W := ⟨P, w, K, mg, base⟩) (C_Ratio := (He.ga K "Ratio")) (F := F_7)  (h_written_number := h_written_number) (z_str := (He.free_ok X G (c.fact 40 (f := .free "str") rfl))) (RW_ := (rat_ok (He.cls_ok (c.fact 43 (f := .cls "Ratio") rfl)) (He.noat_ok (c.fact 44 (f := .noat "Ratio" "top") rfl)) (He.noat_ok (c.fact 45 (f := .noat "Ratio" "bottom") rfl)) (q_at cq (b := q_rat K "Ratio") 0)))
  have h_Ratio_read := ok_Ratio_read (W := ⟨P, w, K, mg, base⟩) (C_Ratio := (He.ga K "Ratio")) (C_ZeroDivisor := (He.ga K "ZeroDivisor")) (C_BadText := (He.ga K "BadText")) (C_BadNumber := (He.ga K "BadNumber")) (a_BadText_init := (He.ma K (He.ga K "BadText") "__init__")) (a_Ratio_str := (He.ma K (He.ga K "Ratio") "__str__")) (F := F_8) (g := HX.smet_ok (x := "Ratio") (m := "read") (q_at cq (b := HX.q_smet K "Ratio" "read") 6)) (h_is_short_digits := h_is_short_digits) (z_int := (He.free_ok X G (c.fact 31 (f := .free "int") rfl))) (h_BadText_init := h_BadText_init) (rt_BadNumber := (HX.rt_ok (W := ⟨P, w, K, mg, base⟩) (x := "BadNumber") (y := "BadText") (He.glo_ok X G (c.fact 3 (f := .glo "BadNumber") rfl)) (q_at cq (b := HX.q_rt K "BadNumber" "BadText") 7))) (RW_ := (rat_ok (He.cls_ok (c.fact 43 (f := .cls "Ratio") rfl)) (He.noat_ok (c.fact 44 (f := .noat "Ratio" "top") rfl)) (He.noat_ok (c.fact 45 (f := .noat "Ratio" "bottom") rfl)) (q_at cq (b := q_rat K "Ratio") 0))) (h_Ratio_init := h_Ratio_init) (gc_Ratio := (He.glo_ok X G (c.fact 7 (f := .glo "Ratio") rfl))) (O_Ratio_str := (own_ok (q_at cq (b := q_own K "Ratio" "__str__") 4))) (h_Ratio_str := h_Ratio_str) (z_str := (He.free_ok X G (c.fact 40 (f := .free "str") rfl)))
  have h__law_integer := ok__law_integer (W := ⟨P, w, K, mg, base⟩) (C_Ratio := (He.ga K "Ratio")) (F := F_9) (g := He.glo_ok X G (c.fact 13 (f := .glo "_law_integer") rfl)) (z_int := (He.free_ok X G (c.fact 31 (f := .free "int") rfl))) (z_isinstance := (He.free_ok X G (c.fact 46 (f := .free "isinstance") rfl))) (z_bool := (He.free_ok X G (c.fact 47 (f := .free "bool") rfl))) (RW_ := (rat_ok (He.cls_ok (c.fact 43 (f := .cls "Ratio") rfl)) (He.noat_ok (c.fact 44 (f := .noat "Ratio" "top") rfl)) (He.noat_ok (c.fact 45 (f := .noat "Ratio" "bottom") rfl)) (q_at cq (b := q_rat K "Ratio") 0)))
  have h__law_common := ok__law_common (W := ⟨P, w, K, mg, base⟩) (C_Ratio := (He.ga K "Ratio")) (F := F_10) (g := He.glo_ok X G (c.fact 14 (f := .glo "_law_common") rfl)) (z_abs := (He.free_ok X G (c.fact 32 (f := .free "abs") rfl))) (z_range := (He.free_ok X G (c.fact 48 (f := .free "range") rfl))) (z_int := (He.free_ok X G (c.fact 31 (f := .free "int") rfl))) (RW_ := (rat_ok (He.cls_ok (c.fact 43 (f := .cls "Ratio") rfl)) (He.noat_ok (c.fact 44 (f := .noat "Ratio" "top") rfl)) (He.noat_ok (c.fact 45 (f := .noat "Ratio" "bottom") rfl)) (q_at cq (b := q_rat K "Ratio") 0)))
  have h__law_power := ok__law_power (W := ⟨P, w, K, mg, base⟩)  (F := F_11) (g := He.glo_ok X G (c.fact 15 (f := .glo "_law_power") rfl)) (z_range := (He.free_ok X G (c.fact 48 (f := .free "range") rfl)))
  have h__law_size := ok__law_size (W := ⟨P, w, K, mg, base⟩)  (F := F_12) (g := He.glo_ok X G (c.fact 16 (f := .glo "_law_size") rfl)) (h__law_take := h__law_take) (h__law_power := h__law_power) (z_range := (He.free_ok X G (c.fact 48 (f := .free "range") rfl))) (z_int := (He.free_ok X G (c.fact 31 (f := .free "int") rfl)))
  have h__law_lowest := ok__law_lowest (W := ⟨P, w, K, mg, base⟩)  (F := F_13) (g := He.glo_ok X G (c.fact 17 (f := .glo "_law_lowest") rfl)) (h__law_common := h__law_common)
  have h__law_drawn := ok__law_drawn (W := ⟨P, w, K, mg, base⟩)  (F := F_14) (g := He.glo_ok X G (c.fact 18 (f := .glo "_law_drawn") rfl)) (h__law_size := h__law_size) (h__law_take := h__law_take) (z_max := (He.free_ok X G (c.fact 49 (f := .free "max") rfl))) (h__law_lowest := h__law_lowest)
  have h__law_written := ok__law_written (W := ⟨P, w, K, mg, base⟩)  (F := F_15) (g := He.glo_ok X G (c.fact 19 (f := .glo "_law_written") rfl)) (z_str := (He.free_ok X G (c.fact 40 (f := .free "str") rfl)))
  have h__law_group := ok__law_group (W := ⟨P, w, K, mg, base⟩)  (F := F_16) (g := He.glo_ok X G (c.fact 20 (f := .glo "_law_group") rfl)) (z_len := (He.free_ok X G (c.fact 33 (f := .free "len") rfl)))
  have h__law_judged := ok__law_judged (W := ⟨P, w, K, mg, base⟩)  (F := F_17) (g := He.glo_ok X G (c.fact 21 (f := .glo "_law_judged") rfl)) (h__law_group := h__law_group) (z_len := (He.free_ok X G (c.fact 33 (f := .free "len") rfl))) (h__law_common := h__law_common)
  have h__law_mark := ok__law_mark (W := ⟨P, w, K, mg, base⟩)  (F := F_18) (g := He.glo_ok X G (c.fact 22 (f := .glo "_law_mark") rfl)) (h__law_take := h__law_take)
  have h__law_long := ok__law_long (W := ⟨P, w, K, mg, base⟩)  (F := F_19) (g := He.glo_ok X G (c.fact 23 (f := .glo "_law_long") rfl)) (h__law_take := h__law_take) (z_str := (He.free_ok X G (c.fact 40 (f := .free "str") rfl))) (z_len := (He.free_ok X G (c.fact 33 (f := .free "len") rfl)))
  have h__law_spoilt := ok__law_spoilt (W := ⟨P, w, K, mg, base⟩)  (F := F_20) (g := He.glo_ok X G (c.fact 24 (f := .glo "_law_spoilt") rfl)) (h__law_written := h__law_written) (h__law_take := h__law_take) (z_len := (He.free_ok X G (c.fact 33 (f := .free "len") rfl))) (h__law_mark := h__law_mark) (z_int := (He.free_ok X G (c.fact 31 (f := .free "int") rfl))) (z_str := (He.free_ok X G (c.fact 40 (f := .free "str") rfl)))
  have h__law_text := ok__law_text (W := ⟨P, w, K, mg, base⟩)  (F := F_21) (g := He.glo_ok X G (c.fact 25 (f := .glo "_law_text") rfl)) (h__law_take := h__law_take) (z_range := (He.free_ok X G (c.fact 48 (f := .free "range") rfl))) (h__law_mark := h__law_mark) (h__law_long := h__law_long) (h__law_spoilt := h__law_spoilt)
  have h__law_right := ok__law_right (W := ⟨P, w, K, mg, base⟩) (C_Ratio := (He.ga K "Ratio")) (a_Ratio_str := (He.ma K (He.ga K "Ratio") "__str__")) (F := F_22) (g := He.glo_ok X G (c.fact 26 (f := .glo "_law_right") rfl)) (gc_Ratio := (He.glo_ok X G (c.fact 7 (f := .glo "Ratio") rfl))) (z_isinstance := (He.free_ok X G (c.fact 46 (f := .free "isinstance") rfl))) (h__law_integer := h__law_integer) (RW_ := (rat_ok (He.cls_ok (c.fact 43 (f := .cls "Ratio") rfl)) (He.noat_ok (c.fact 44 (f := .noat "Ratio" "top") rfl)) (He.noat_ok (c.fact 45 (f := .noat "Ratio" "bottom") rfl)) (q_at cq (b := q_rat K "Ratio") 0))) (O_Ratio_str := (own_ok (q_at cq (b := q_own K "Ratio" "__str__") 4))) (h_Ratio_str := h_Ratio_str) (z_str := (He.free_ok X G (c.fact 40 (f := .free "str") rfl)))
  have h__law_reads := ok__law_reads (W := ⟨P, w, K, mg, base⟩) (C_Ratio := (He.ga K "Ratio")) (C_SpotError := (He.ga K "SpotError")) (C_BadText := (He.ga K "BadText")) (C_BadNumber := (He.ga K "BadNumber")) (C_BadPolynomial := (He.ga K "BadPolynomial")) (C_BadQuestion := (He.ga K "BadQuestion")) (C_BadLine := (He.ga K "BadLine")) (F := F_23) (g := He.glo_ok X G (c.fact 27 (f := .glo "_law_reads") rfl)) (gc_BadNumber := (He.glo_ok X G (c.fact 3 (f := .glo "BadNumber") rfl))) (gc_Ratio := (He.glo_ok X G (c.fact 7 (f := .glo "Ratio") rfl))) (RW_ := (rat_ok (He.cls_ok (c.fact 43 (f := .cls "Ratio") rfl)) (He.noat_ok (c.fact 44 (f := .noat "Ratio" "top") rfl)) (He.noat_ok (c.fact 45 (f := .noat "Ratio" "bottom") rfl)) (q_at cq (b := q_rat K "Ratio") 0))) (h_Ratio_read := h_Ratio_read) (gc_BadPolynomial := (He.glo_ok X G (c.fact 4 (f := .glo "BadPolynomial") rfl))) (z_isinstance := (He.free_ok X G (c.fact 46 (f := .free "isinstance") rfl))) (gc_BadQuestion := (He.glo_ok X G (c.fact 5 (f := .glo "BadQuestion") rfl))) (gc_BadLine := (He.glo_ok X G (c.fact 6 (f := .glo "BadLine") rfl))) (gc_BadText := (He.glo_ok X G (c.fact 2 (f := .glo "BadText") rfl))) (gc_SpotError := (He.glo_ok X G (c.fact 0 (f := .glo "SpotError") rfl))) (z_ValueError := (He.free_ok X G (c.fact 50 (f := .free "ValueError") rfl))) (z_len := (He.free_ok X G (c.fact 33 (f := .free "len") rfl))) (h__law_right := h__law_right) (em_ := (He.exm_ok (c.fact 51 (f := .exm "BadNumber" "BadNumber" true) rfl))) (XE_ := (excC_ok (q_at cq (b := q_exc K "BadNumber") 9))) (XF_ := (xfB_ok (q_at cq (b := xfB K (He.ga K "BadNumber")) 10))) (XN_ := (of_decide_eq_true (q_at cq (b := decide (PySem.W.findIn K (.ref (He.ga K "BadNumber")) "text" = some none)) 11))) (kz0 := (of_decide_eq_true (q_at cq (b := q_kit K "BadNumber" "BadPolynomial" false) 12))) (kz1 := (of_decide_eq_true (q_at cq (b := q_kit K "BadNumber" "BadQuestion" false) 13))) (kz2 := (of_decide_eq_true (q_at cq (b := q_kit K "BadNumber" "BadLine" false) 14))) (kz3 := (of_decide_eq_true (q_at cq (b := q_kit K "BadNumber" "BadText" true) 15))) (kz4 := (of_decide_eq_true (q_at cq (b := q_kit K "BadNumber" "SpotError" true) 16))) (kz5 := (of_decide_eq_true (q_at cq (b := q_kitT K "BadNumber" "ValueError" true) 17)))
  have h__law_fixed := ok__law_fixed (W := ⟨P, w, K, mg, base⟩)  (F := F_24) (g := He.glo_ok X G (c.fact 28 (f := .glo "_law_fixed") rfl)) 
  have h_law := ok_law (W := ⟨P, w, K, mg, base⟩) (C_Ratio := (He.ga K "Ratio")) (C_ZeroDivisor := (He.ga K "ZeroDivisor")) (a_Ratio_mul := (He.ma K (He.ga K "Ratio") "__mul__")) (a_Ratio_rmul := (He.ma K (He.ga K "Ratio") "__rmul__")) (a_Ratio_str := (He.ma K (He.ga K "Ratio") "__str__")) (F := F_25)  (h__law_pool := h__law_pool) (h__law_drawn := h__law_drawn) (RW_ := (rat_ok (He.cls_ok (c.fact 43 (f := .cls "Ratio") rfl)) (He.noat_ok (c.fact 44 (f := .noat "Ratio" "top") rfl)) (He.noat_ok (c.fact 45 (f := .noat "Ratio" "bottom") rfl)) (q_at cq (b := q_rat K "Ratio") 0))) (h_Ratio_init := h_Ratio_init) (gc_Ratio := (He.glo_ok X G (c.fact 7 (f := .glo "Ratio") rfl))) (h__law_lowest := h__law_lowest) (O_Ratio_mul := (ownB_ok (by decide +kernel) (by decide +kernel) (q_at cq (b := q_own K "Ratio" "__mul__") 2) (q_at cq (b := q_own K "Ratio" "__rmul__") 3) (q_at cq (b := PySem.W.selfFirst K (He.ga K "Ratio")) 1))) (h_Ratio_mul := h_Ratio_mul) (O_Ratio_str := (own_ok (q_at cq (b := q_own K "Ratio" "__str__") 4))) (h_Ratio_str := h_Ratio_str) (z_str := (He.free_ok X G (c.fact 40 (f := .free "str") rfl))) (h__law_written := h__law_written) (h__law_reads := h__law_reads) (h__law_text := h__law_text) (h__law_fixed := h__law_fixed) (h__law_judged := h__law_judged)
  exact calm h_law

end LW

open PySem PySem.W PySem.Calls PyProof.Rows
theorem PySem.Challenge.cw_spotheights_k01_number_texts_holds : PySem.Challenge.rw_spotheights_k01_number_texts.Holds := by
  w_on; o_law
  refine HandSHeadRun.head_imp (r := OpenLaw.row PySem.Challenge.rw_spotheights_k01_number_texts) (q := view (OpenLaw.row PySem.Challenge.rw_spotheights_k01_number_texts).prog [0, 37]) (H := LW.hq) (ob := LW.obT) (M := 20000) (loose := (["_wall", "SpotError", "ZeroDivisor", "BadText", "BadNumber", "BadPolynomial", "BadQuestion", "BadLine", "DIGITS", "MOST_DIGITS", "PIECE", "is_short_digits", "written_integer", "written_number", "Ratio", "_law_pool", "_law_take", "_law_integer", "_law_common", "_law_power", "_law_size", "_law_lowest", "_law_drawn", "_law_written", "_law_group", "_law_judged", "_law_mark", "_law_long", "_law_spoilt", "_law_text"] : List PySem.Str) ++ (["_law_right", "_law_reads", "_law_fixed"] : List PySem.Str)) (d := HandSHeadRun.topDef (OpenLaw.row PySem.Challenge.rw_spotheights_k01_number_texts).prog 37) (kwd := []) LW.obT_eq LW.run0 (by kernel_rfl) (by kernel_rfl) (by kernel_rfl) (by rfl) (by first | assumption | decide +kernel) (by decide +kernel) ⟨rfl, rfl, rfl, rfl, rfl, by decide +kernel⟩ ?hw ?hc
  case hw => w_witness2
  case hc =>
    refine L2.walk_ofE (l := PySem.Challenge.rw_spotheights_k01_number_texts) (n := 63) (k := 12) (x := "script") (CX := L2.CX0) rfl (by decide) (by kernel_rfl) ⟨rfl, by decide, by decide⟩ ?F (fun _ _ _ _ z => z)
    intro w mg fa h Y G hmg0
    obtain ⟨K, KX, c⟩ := Y
    have hmg : mg ("law" : PySem.Str) = some (.ref fa) := by
      have e : (HandSHeadRun.topDef (OpenLaw.row PySem.Challenge.rw_spotheights_k01_number_texts).prog 37).name = ("law" : PySem.Str) := by kernel_rfl
      rw [← e]
      exact hmg0
    obtain ⟨fd, hb, hF⟩ := LW.facts (P := (PySem.Challenge.rw_spotheights_k01_number_texts).prog) (w := w) rfl (by kernel_rfl) KX G hmg c
    exact ⟨K, fd, LW.spLaw K, KX, hb, fun H a ns hl _ hS => LW.spLaw_ok hl hS, hF⟩

